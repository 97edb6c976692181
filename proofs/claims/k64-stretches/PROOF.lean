import PyProof.Rows.All
import Wide.All
import OpenK.AllK
import Wide.FinOn
import Lean
import HandS.ForMost
import HandS.ForExc
import HandS.More
import HandS.Flow
import HandS.Defaults
import HandS.IsInst
import HandS.SortInts
import HandS.Evl
import HandS.Head0
import HandS.Head1
import HandS.Head2
import HandS.HeadEnd
import HandS.HeadHook1
import HandS.HeadHook2
import HandS.HeadHook3
import HandS.DictComp
import HandS.Zip
import HandS.TupAny
import KE.KIndexOf
import HandS.TupMul
import HandS.MakeKwOnly
import KE.GoesZip
import KE.GoesMore
import HandS.RaiseMore
import HandS.Rev
import KE.DataMinMax
import HandS.FStr
import HandS.SortKw
import OpenK.KLaw
import KE.KxWritten
import PyProof.Rows.StrPadFill
import HandS.ClsMeth
import HandS.HeadNt
import PySem.Challenge.RW_rungstead_k64_stretches
set_option Elab.async false
set_option linter.all false
set_option maxRecDepth 100000
set_option maxHeartbeats 4000000
namespace EV
open PySem PySem.Spec PyProof.Rows L2
/-! ### values without addresses, the store of shared objects, results -/
inductive W where
  | non | bl (b : Bool) | int (i : Int) | str (s : Str) | tup (xs : List W) | lst (xs : List W) | dct (kvs : List (Key × W)) | loc (n : Nat) | ty (n : String) | gl (x : Str) | scr (xs : List W)
inductive Ob where
  | lst (xs : List W) | dct (kvs : List (Key × W)) | ins (c : Str) (fs : List (Str × W)) | frz (xs : List W) | lck (kvs : List (Key × W))
/-- a slot: empty, a value that stays, a list or dict of its own that may change -/
inductive Sl where
  | emp | fr (w : W) | ow (w : W)
abbrev Sls := List Sl
abbrev Sto := List Ob
inductive Res (α : Type) where
  | ok (a : α) (S : Sto) | ex (c : Str) (as : List W) (S : Sto) | bad
abbrev M (α : Type) := Sls → Sto → Res α
def Res.bind {α β : Type} (r : Res α) (f : α → Sto → Res β) : Res β := match r with
  | .ok a S => f a S
  | .ex c as S => .ex c as S
  | .bad => .bad
inductive Fl where
  | nx (σ : Sls) | rt (w : W) | bk (σ : Sls) | ct (σ : Sls)
/-- lists made by the program are at most so long -/
abbrev LIM : Nat := 10000000
def olift {α : Type} (o : Option α) (S : Sto) : Res α := match o with
  | some a => .ok a S
  | none => .bad
/-- a shared list or dict as a value -/
def vw (S : Sto) (w : W) : W := match w with
  | .loc n => match S[n]? with
    | some (.lst xs) => .lst xs
    | some (.dct kvs) => .dct kvs
    | _ => .loc n
  | w => w
/-- .. the script, too -/
def vwz (S : Sto) (w : W) : W := match w with
  | .loc n => match S[n]? with
    | some (.lst xs) => .lst xs
    | some (.dct kvs) => .dct kvs
    | some (.frz xs) => .lst xs
    | _ => .loc n
  | .scr xs => .lst xs
  | w => w
/-! ### operators -/
/-- text * int -/
def repS (s : Str) (n : Nat) : Str := ⟨((List.replicate n s.cps.toList).flatten).toArray⟩
def wbin : Operator → W → W → Option W
  | .Add, .int i, .int j => some (.int (i + j))
  | .Add, .str a, .str b => if a.length + b.length ≤ sizeLine then some (.str (a ++ b)) else none
  | .Add, .lst a, .lst b => if a.length + b.length ≤ LIM then some (.lst (a ++ b)) else none
  | .Add, .tup a, .tup b => if a.length + b.length ≤ LIM then some (.tup (a ++ b)) else none
  | .Sub, .int i, .int j => some (.int (i - j))
  | .Mult, .int i, .int j => if ((-(2 ^ 64) < i ∧ i < 2 ^ 64) ∨ (-(2 ^ 64) < j ∧ j < 2 ^ 64)) ∨ (i.natAbs < 2 ^ 200 ∧ j.natAbs < 2 ^ 200) then some (.int (i * j)) else none
  | .Mult, .lst a, .int j => if -(2 ^ 63) ≤ j ∧ j < 2 ^ 63 ∧ a.length * j.toNat ≤ LIM then some (.lst (List.replicate j.toNat a).flatten) else none
  | .Mult, .tup a, .int j => if a ≠ [] ∧ 2 ≤ j ∧ j ≤ 1000 ∧ a.length ≤ 1000 then some (.tup (List.replicate j.toNat a).flatten) else if j = 1 then some (.tup a) else if j = 0 ∧ a ≠ [] then some (.tup []) else none
  | .Mult, .str a, .int j => if 0 ≤ j ∧ j ≤ 1000000 ∧ a.length * j.toNat ≤ 1000000 then some (.str (repS a j.toNat)) else none
  | .Mod, .int i, .int j => if j ≠ 0 then some (.int (i.fmod j)) else none
  | .FloorDiv, .int i, .int j => if j ≠ 0 ∧ (j.natAbs < 1073741824 ∨ j.natAbs < 2 ^ 200) then some (.int (i.fdiv j)) else none
  | .Pow, .int i, .int j => if 0 ≤ j ∧ j ≤ 1000000 ∧ i.natAbs < 2 ^ 64 then some (.int (i ^ j.toNat)) else none
  | _, _, _ => none
mutual
/-- plain data -/
def toD : W → Option PyData
  | .non => some .none
  | .bl b => some (.bool b)
  | .int i => some (.int i)
  | .str s => some (.str s)
  | .tup xs => (toDs xs).map .tuple
  | .lst xs => (toDs xs).map .list
  | _ => none
def toDs : List W → Option (List PyData)
  | [] => some []
  | x :: xs => match toD x, toDs xs with
    | some d, some ds => some (d :: ds)
    | _, _ => none
end
def weq (a b : W) : Option Bool := match a, b with
  | .int i, .int j => some (decide (i = j))
  | .str i, .str j => some (decide (i = j))
  | .bl i, .bl j => some (decide (i = j))
  | .int _, .str _ => some false
  | .str _, .int _ => some false
  | a, b => match toD a, toD b with
    | some d, some e => if SeqAt.shaped d = true ∧ SeqAt.shaped e = true then some (PyData.eqv d e) else none
    | _, _ => none
def wflat : W → Bool
  | .non | .bl _ | .int _ | .str _ => true
  | _ => false
/-- == of flat values -/
def wfeq : W → W → Bool
  | .non, .non => true
  | .bl a, .bl b => a == b
  | .bl a, .int b => (if a then 1 else 0) == b
  | .int a, .bl b => a == (if b then 1 else 0)
  | .int a, .int b => a == b
  | .str a, .str b => a == b
  | _, _ => false
def wkey : W → Option Key
  | .int i => some (.inl i)
  | .str s => some (.inr s)
  | _ => none
/-- the value of a key -/
def dval {α : Type} (kvs : List (Key × α)) (k : Key) : Option α := (kvs.find? fun kv => decide (kv.1 = k)).map (·.2)
def dput {α : Type} (kvs : List (Key × α)) (k : Key) (v : α) : List (Key × α) := if kvs.any fun kv => decide (kv.1 = k) then kvs.map fun kv => if kv.1 = k then (kv.1, v) else kv else kvs ++ [(k, v)]
def ddrop {α : Type} (kvs : List (Key × α)) (k : Key) : List (Key × α) := kvs.filter fun kv => decide (kv.1 ≠ k)
/-- x in y of any data -/
def wdeep (x y : W) : Option Bool := match toD x, toD y with
  | some d, some (.list ds) => if SeqAt.shaped d = true ∧ SeqAt.shaped (.list ds) = true ∧ d.depth ≤ 10 then some (ds.any fun z => PyData.eqv z d) else none
  | some d, some (.tuple ds) => if SeqAt.shaped d = true ∧ SeqAt.shaped (.tuple ds) = true ∧ d.depth ≤ 10 then some (ds.any fun z => PyData.eqv z d) else none
  | _, _ => none
def wmem (x y : W) : Option Bool := match y with
  | .lst xs => if wflat x = true ∧ xs.all wflat = true then some (xs.any fun z => wfeq z x) else wdeep x (.lst xs)
  | .tup xs => if wflat x = true ∧ xs.all wflat = true then some (xs.any fun z => wfeq z x) else wdeep x (.tup xs)
  | .dct kvs => (wkey x).map fun k => (dval kvs k).isSome
  | .str s => match x with
    | .str t => if t.cps.size = 1 then some (decide (t.cps.getD 0 0 ∈ s.cps.toList)) else none
    | _ => none
  | _ => none
def wcmp : CmpOp → W → W → Option Bool
  | .Eq, a, b => weq a b
  | .NotEq, a, b => (weq a b).map (!·)
  | .Lt, .int i, .int j => some (decide (i < j))
  | .LtE, .int i, .int j => some (decide (i ≤ j))
  | .Gt, .int i, .int j => some (decide (j < i))
  | .GtE, .int i, .int j => some (decide (j ≤ i))
  | .Lt, .str i, .str j => some (decide (i.cps.toList < j.cps.toList))
  | .Is, a, .non => some (match a with | .non => true | _ => false)
  | .IsNot, a, .non => some (match a with | .non => false | _ => true)
  | .In, a, b => wmem a b
  | .NotIn, a, b => (wmem a b).map (!·)
  | _, _, _ => none
def wtru : W → Option Bool
  | .non => some false
  | .bl b => some b
  | .int i => some (i != 0)
  | .str s => if s.length ≤ sizeLine then some ((s.length : Int) != 0) else none
  | .lst xs => some (!xs.isEmpty)
  | .tup xs => some (!xs.isEmpty)
  | .dct kvs => some (!kvs.isEmpty)
  | _ => none
def wix : W → W → Option W
  | .lst xs, .int i => atI xs i
  | .tup xs, .int i => atI xs i
  | .str s, .int i => if s.length ≤ sizeLine then (atI s.cps.toList i).map fun c => .str ⟨#[c]⟩ else none
  | .dct kvs, k => (wkey k).bind (dval kvs)
  | _, _ => none
/-- the part of a list -/
def wcut {α : Type} (xs : List α) (lo hi : Option Int) : List α := (xs.drop (HT.sIx xs.length 0 lo)).take (HT.sIx xs.length xs.length hi - HT.sIx xs.length 0 lo)
def wsl : W → Option Int → Option Int → Option W
  | .lst xs, lo, hi => some (.lst (wcut xs lo hi))
  | .tup xs, lo, hi => some (.tup (wcut xs lo hi))
  | .str s, lo, hi => if s.length ≤ sizeLine then some (.str (cutS s lo hi)) else none
  | _, _, _ => none
def wun : UnaryOp → W → Option W
  | .USub, .int i => some (.int (-i))
  | _, _ => none
/-! ### built-in functions -/
def kW : Key → W
  | .inl i => .int i
  | .inr x => .str x
inductive Bf where
  | len | int | bool | str | abs | min | max | sum | tuple | list | isinstance | all | any | sorted | none
def bfOf (x : Str) : Bf :=
  if x = "len" then .len else if x = "int" then .int else if x = "isinstance" then .isinstance else if x = "tuple" then .tuple else if x = "list" then .list else if x = "min" then .min else if x = "max" then .max
  else if x = "sum" then .sum else if x = "str" then .str else if x = "abs" then .abs else if x = "bool" then .bool else if x = "all" then .all else if x = "any" then .any else if x = "sorted" then .sorted else .none
def wints : List W → Option (List Int)
  | [] => some []
  | .int i :: r => (wints r).map (i :: ·)
  | _ => none
def wbls : List W → Option (List Bool)
  | [] => some []
  | .bl i :: r => (wbls r).map (i :: ·)
  | _ => none
def imax : List Int → Int
  | [] => 0
  | i :: r => r.foldl max i
def imin : List Int → Int
  | [] => 0
  | i :: r => r.foldl min i
/-- isinstance of a built-in class -/
def wisi : W → String → Option Bool
  | .non, n => if n = "int" ∨ n = "bool" ∨ n = "str" ∨ n = "tuple" ∨ n = "list" then some false else none
  | .bl _, n => if n = "int" ∨ n = "bool" then some true else if n = "str" ∨ n = "tuple" ∨ n = "list" then some false else none
  | .int _, n => if n = "int" then some true else if n = "bool" ∨ n = "str" ∨ n = "tuple" ∨ n = "list" then some false else none
  | .str _, n => if n = "str" then some true else if n = "bool" ∨ n = "int" ∨ n = "tuple" ∨ n = "list" then some false else none
  | .tup _, n => if n = "tuple" then some true else if n = "bool" ∨ n = "int" ∨ n = "str" ∨ n = "list" then some false else none
  | .lst _, n => if n = "list" then some true else if n = "bool" ∨ n = "int" ∨ n = "str" ∨ n = "tuple" then some false else none
  | _, _ => none
def wblt : Bf → List W → Option W
  | .len, [.lst xs] => some (.int xs.length)
  | .len, [.tup xs] => some (.int xs.length)
  | .len, [.str s] => if s.length ≤ sizeLine then some (.int s.length) else none
  | .len, [.dct kvs] => some (.int kvs.length)
  | .int, [.int i] => some (.int i)
  | .int, [.bl b] => some (.int (if b then 1 else 0))
  | .int, [.str s] => if s.length ≤ 640 then (intText? s).map .int else none
  | .bool, [.int i] => some (.bl (i != 0))
  | .bool, [.bl b] => some (.bl b)
  | .str, [.int i] => if i.natAbs.log2 < 1920 then some (.str (toString i)) else none
  | .str, [.str s] => some (.str s)
  | .abs, [.int i] => some (.int (if i < 0 then -i else i))
  | .min, [.int i, .int j] => some (.int (min i j))
  | .max, [.int i, .int j] => some (.int (max i j))
  | .min, [.lst xs] => match wints xs with
    | some (i :: r) => some (.int (imin (i :: r)))
    | _ => none
  | .max, [.lst xs] => match wints xs with
    | some (i :: r) => some (.int (imax (i :: r)))
    | _ => none
  | .sum, [.lst xs] => (wints xs).map fun ns => .int ns.sum
  | .sum, [.tup xs] => (wints xs).map fun ns => .int ns.sum
  | .all, [.lst xs] => (wbls xs).map fun bs => .bl (bs.all id)
  | .any, [.lst xs] => (wbls xs).map fun bs => .bl (bs.any id)
  | .tuple, [.lst xs] => some (.tup xs)
  | .tuple, [.tup xs] => some (.tup xs)
  | .list, [.lst xs] => some (.lst xs)
  | .list, [.tup xs] => some (.lst xs)
  | .list, [.dct kvs] => some (.lst (kvs.map fun kv => kW kv.1))
  | .isinstance, [w, .ty n] => (wisi w n).map .bl
  | _, _ => none
/-! ### methods of built-in classes -/
inductive Mt where
  | append | extend | pop | insert | reverse | index | get | items | values | keys | other
  deriving DecidableEq
def mtOf (x : Str) : Mt :=
  if x = "append" then .append else if x = "extend" then .extend else if x = "pop" then .pop else if x = "get" then .get else if x = "index" then .index else if x = "reverse" then .reverse else if x = "insert" then .insert
  else if x = "items" then .items else if x = "values" then .values else if x = "keys" then .keys else .other
/-- methods that change a list: the answer, the list behind it -/
def lstUp (S : Sto) : Mt → List W → List W → Option (W × List W)
  | .append, xs, [y] => if xs.length < LIM then some (.non, xs ++ [y]) else none
  | .extend, xs, [y] => match vw S y with
    | .lst ys => if xs.length + ys.length ≤ LIM then some (.non, xs ++ ys) else none
    | .tup ys => if xs.length + ys.length ≤ LIM then some (.non, xs ++ ys) else none
    | _ => none
  | .pop, xs, [] => match xs[xs.length - 1]? with
    | some y => some (y, xs.dropLast)
    | none => none
  | .pop, xs, [.int i] => if -(2 ^ 63) ≤ i ∧ i < 2 ^ 63 then match ixN xs.length i with
    | some k => match xs[k]? with
      | some y => some (y, xs.eraseIdx k)
      | none => none
    | none => none else none
  | .reverse, xs, [] => some (.non, xs.reverse)
  | .insert, xs, [.int i, y] => if 0 ≤ i ∧ i < 2 ^ 63 ∧ xs.length < LIM then some (.non, xs.take i.toNat ++ [y] ++ xs.drop i.toNat) else none
  | _, _, _ => none
/-- methods that read -/
def wrd : Mt → W → List W → Option W
  | .index, .lst xs, [.str k] => match wstrs xs with
    | some ys => if k ∈ ys then some (.int (ys.idxOf k : Nat)) else none
    | none => none
  | .get, .dct kvs, [k] => (wkey k).map fun k => (dval kvs k).getD .non
  | .get, .dct kvs, [k, d] => (wkey k).map fun k => (dval kvs k).getD d
  | _, _, _ => none
where wstrs : List W → Option (List Str)
  | [] => some []
  | .str i :: r => (wstrs r).map (i :: ·)
  | _ => none
/-! ### what the program's text is to the walk -/
/-- a def: how many positional parameters, keyword-only ones with their defaults -/
structure FnI where
  np : Nat
  kw : List (Str × W) := []
structure Glob where
  cst : List (Str × W)
  /-- built-in names that the module leaves as they are -/
  fre : List Str
  fns : List (Str × FnI)
  /-- classes that are made by C(..): the parameters of __init__ without self -/
  cls : List (Str × Nat)
  /-- methods: (class, name), the def's own name -/
  mts : List ((Str × Str) × Str)
  /-- classes' fields -/
  fld : List (Str × Str)
  /-- calls with keywords: (def, the keywords), how many values go ahead, where each further parameter's value comes from -/
  kwc : List ((Str × List (Option Str)) × Nat × List (Nat ⊕ W)) := []
  /-- dicts of the top with text keys: what stands in them, some texts that are no key -/
  tbl : List (Str × List (Str × W) × List Str) := []
  /-- dicts of the top whose text keys are all known -/
  dts : List (Str × List (Str × W)) := []
  /-- own classes of which isinstance, == and operators are asked -/
  icl : List Str := []
  /-- static methods: (class, name), the def's own name -/
  sms : List ((Str × Str) × Str) := []
/-- a def's names by slot; list displays that are shared objects (row, column, end column) -/
structure Dx where
  N : List Str
  locs : List (Nat × Nat × Nat) := []
  /-- expressions in which the shared list of a slot is walked, locked meanwhile -/
  lck : List ((Nat × Nat × Nat) × Nat) := []
  /-- expressions whose shared list stays as it is from then on -/
  fzs : List (Nat × Nat × Nat) := []
  /-- expressions that ask an own class: operators, ==, in, isinstance, a static method -/
  ops : List (Nat × Nat × Nat) := []
abbrev Fenv := Str → List W → Sto → Res W
/-! ### the steps -/
def mBad {α : Type} : M α := fun _ _ => .bad
def mC (w : W) : M W := fun _ S => .ok w S
def mVar (i : Nat) : M W := fun σ S => match σ[i]? with
  | some (.fr w) => .ok w S
  | _ => .bad
/-- .. a list of its own may be looked at -/
def mVarB (i : Nat) : M W := fun σ S => match σ[i]? with
  | some (.fr w) => .ok w S
  | some (.ow w) => .ok w S
  | _ => .bad
def mBin (op : Operator) (a b : M W) : M W := fun σ S => (a σ S).bind fun x S1 => (b σ S1).bind fun y S2 => olift (wbin op (vw S2 x) (vw S2 y)) S2
def mUn (op : UnaryOp) (a : M W) : M W := fun σ S => (a σ S).bind fun x S1 => olift (wun op x) S1
def mCmp (op : CmpOp) (a b : M W) : M W := fun σ S => (a σ S).bind fun x S1 => (b σ S1).bind fun y S2 => olift ((wcmp op (vw S2 x) (vw S2 y)).map .bl) S2
def mCmpT (op : CmpOp) (a b : M W) : M Bool := fun σ S => (a σ S).bind fun x S1 => (b σ S1).bind fun y S2 => olift (wcmp op (vw S2 x) (vw S2 y)) S2
def mTru (a : M W) : M Bool := fun σ S => (a σ S).bind fun x S1 => olift (wtru (vw S1 x)) S1
def mChain (o p : CmpOp) (a b c : M W) : M Bool := fun σ S => (a σ S).bind fun x S1 => (b σ S1).bind fun y S2 => match wcmp o (vw S2 x) (vw S2 y) with
  | some false => .ok false S2
  | some true => (c σ S2).bind fun z S3 => olift (wcmp p (vw S3 y) (vw S3 z)) S3
  | none => .bad
def mNotT (a : M Bool) : M Bool := fun σ S => (a σ S).bind fun b S1 => .ok (!b) S1
def mAnd (a b : M Bool) : M Bool := fun σ S => (a σ S).bind fun x S1 => if x then b σ S1 else .ok false S1
def mOr (a b : M Bool) : M Bool := fun σ S => (a σ S).bind fun x S1 => if x then .ok true S1 else b σ S1
def mVal (a : M Bool) : M W := fun σ S => (a σ S).bind fun b S1 => .ok (.bl b) S1
/-- and, or by truth -/
def mAndV (a b : M W) : M W := fun σ S => (a σ S).bind fun x S1 => match wtru (vw S1 x) with
  | some true => b σ S1
  | some false => .ok x S1
  | none => .bad
def mOrV (a b : M W) : M W := fun σ S => (a σ S).bind fun x S1 => match wtru (vw S1 x) with
  | some true => .ok x S1
  | some false => b σ S1
  | none => .bad
def mIfE (t : M Bool) (a b : M W) : M W := fun σ S => (t σ S).bind fun x S1 => if x then a σ S1 else b σ S1
def mNil : M (List W) := fun _ S => .ok [] S
def mCons (a : M W) (b : M (List W)) : M (List W) := fun σ S => (a σ S).bind fun x S1 => (b σ S1).bind fun xs S2 => .ok (x :: xs) S2
def mTup (a : M (List W)) : M W := fun σ S => (a σ S).bind fun xs S1 => if xs.length ≤ LIM then .ok (.tup xs) S1 else .bad
def mLst (a : M (List W)) : M W := fun σ S => (a σ S).bind fun xs S1 => if xs.length ≤ LIM then .ok (.lst xs) S1 else .bad
/-- a new list or dict becomes a shared object -/
def mToLoc (a : M W) : M W := fun σ S => (a σ S).bind fun w S1 => match w with
  | .lst xs => .ok (.loc S1.length) (S1 ++ [.lst xs])
  | .dct kvs => .ok (.loc S1.length) (S1 ++ [.dct kvs])
  | _ => .bad
def mNewD : M W := fun _ S => .ok (.dct []) S
def mPairs : List (M W × M W) → M (List (Key × W))
  | [] => fun _ S => .ok [] S
  | (k, v) :: r => fun σ S => (k σ S).bind fun x S1 => (v σ S1).bind fun y S2 => (mPairs r σ S2).bind fun kvs S3 => match wkey x with
    | some k => .ok ((k, y) :: kvs) S3
    | none => .bad
def dmerge {α : Type} (kvs more : List (Key × α)) : List (Key × α) := more.foldl (fun acc kv => dput acc kv.1 kv.2) kvs
def mDict (ps : List (M W × M W)) : M W := fun σ S => (mPairs ps σ S).bind fun kvs S1 => if kvs.length ≤ 15 then .ok (.dct (dmerge [] kvs)) S1 else .bad
def mIx (a b : M W) : M W := fun σ S => (a σ S).bind fun x S1 => (b σ S1).bind fun i S2 => olift (wix (vwz S2 x) i) S2
def mPart : Option (M W) → M (Option Int)
  | none => fun _ S => .ok none S
  | some a => fun σ S => (a σ S).bind fun x S1 => match x with
    | .int i => .ok (some i) S1
    | _ => .bad
def mSl (a : M W) (lo hi : Option (M W)) : M W := fun σ S => (a σ S).bind fun x S1 => (mPart lo σ S1).bind fun l S2 => (mPart hi σ S2).bind fun h S3 => olift (wsl (vw S3 x) l h) S3
def mFld (a : M W) (f : Str) (ok : Str → Bool) : M W := fun σ S => (a σ S).bind fun x S1 => match x with
  | .loc n => match S1[n]? with
    | some (.ins c fs) => if ok c then olift (fs.lookup f) S1 else .bad
    | _ => .bad
  | _ => .bad
def mBlt (f : Bf) (a : M (List W)) : M W := fun σ S => (a σ S).bind fun xs S1 => olift (wblt f (xs.map (vwz S1))) S1
def mCall (F : Fenv) (f : Str) (a : M (List W)) (more : List W) : M W := fun σ S => (a σ S).bind fun xs S1 => F f (xs ++ more) S1
def kwSel (us : List W) : Nat ⊕ W → W
  | .inl i => us.getD i .non
  | .inr w => w
/-- keyword arguments: each parameter's value by its place among the keywords, or its default -/
def mCallK (F : Fenv) (f : Str) (a k : M (List W)) (ord : List (Nat ⊕ W)) : M W := fun σ S => (a σ S).bind fun xs S1 => (k σ S1).bind fun us S2 => F f (xs ++ ord.map (kwSel us)) S2
def mMake (F : Fenv) (c : Str) (ini : Str) (a : M (List W)) : M W := fun σ S => (a σ S).bind fun xs S1 => (F ini (.loc S1.length :: xs) (S1 ++ [.ins c []])).bind fun w S2 => match w with
  | .non => .ok (.loc S1.length) S2
  | _ => .bad
/-- of which kind the receiver of a method is -/
inductive Kd where
  | lst | dct | str | tup | ins (c : Str) (fs : List (Str × W)) | bad
def kdOf (S : Sto) (w : W) : Kd := match w with
  | .loc n => match S[n]? with
    | some (.ins c fs) => .ins c fs
    | some (.lst _) => .lst
    | some (.dct _) => .dct
    | _ => .bad
  | .lst _ => .lst
  | .dct _ => .dct
  | .str _ => .str
  | .tup _ => .tup
  | _ => .bad
/-- a method of a built-in class -/
def doB (k : Kd) (m : Mt) (w : W) (ws : List W) (S : Sto) : Res W := match k, vw S w with
  | .lst, .lst xs => match w, lstUp S m xs ws with
    | .loc n, some (r, ys) => .ok r (S.set n (.lst ys))
    | _, _ => olift (wrd m (.lst xs) ws) S
  | .dct, .dct kvs => olift (wrd m (.dct kvs) ws) S
  | _, _ => .bad
def goMeth (F : Fenv) (own : Str → Option Str) (m : Mt) (nm : Str) (w : W) (a : Sto → Res (List W)) (S : Sto) : Res W := match kdOf S w with
  | .ins c fs => match own c, fs.lookup nm, decide (m = .extend) with
    | some q, none, false => (a S).bind fun ws S2 => F q (w :: ws) S2
    | _, _, _ => .bad
  | .bad => .bad
  | k => (a S).bind fun ws S2 => doB k m w ws S2
/-- x.index(e), where x is a tuple of the top -/
def mTIx (ws : List W) (a : M W) : M W := fun σ S => (a σ S).bind fun x S1 => olift (wrd .index (.lst ws) [x]) S1
/-- x.get(k, d), where x is a dict of the top -/
def wTGet (t : List (Str × W) × List Str) (k d : W) : Option W := match k with
  | .str s => match t.1.lookup s with
    | some w => some w
    | none => if t.2.contains s = true then some d else none
  | _ => none
def mTGet (t : List (Str × W) × List Str) (a b : M W) : M W := fun σ S => (a σ S).bind fun x S1 => (b σ S1).bind fun y S2 => olift (wTGet t x y) S2
/-- k in x, x[k], where x is a dict of the top -/
def wTIn (t : List (Str × W)) (neg : Bool) (k : W) : Option Bool := match k with
  | .str s => some ((t.lookup s).isSome != neg)
  | _ => none
def mTIn (t : List (Str × W)) (neg : Bool) (a : M W) : M Bool := fun σ S => (a σ S).bind fun x S1 => olift (wTIn t neg x) S1
def wTSub (t : List (Str × W)) (k : W) : Option W := match k with
  | .str s => t.lookup s
  | _ => none
def mTSub (t : List (Str × W)) (a : M W) : M W := fun σ S => (a σ S).bind fun x S1 => olift (wTSub t x) S1
/-- methods of texts with one argument -/
inductive Sm where
  | split | join | rstrip | ljust | strip | lstrip | find | rfind | starts
  deriving DecidableEq
def smOf (x : Str) : Option Sm := if x = "split" then some .split else if x = "join" then some .join else if x = "rstrip" then some .rstrip else if x = "ljust" then some .ljust else if x = "strip" then some .strip else if x = "lstrip" then some .lstrip else if x = "find" then some .find else if x = "rfind" then some .rfind else if x = "startswith" then some .starts else none
def wSm : Sm → W → W → Option W
  | .split, .str a, .str b => if (b.length == 0) = false ∧ a.length + 2 ≤ sizeLine then some (.lst ((Txt.split a b).map .str)) else none
  | .join, .str a, .lst xs => match wrd.wstrs xs with
    | some ys => if (ys.map (·.length)).sum + ys.length * a.length ≤ 16777216 then some (.str (Txt.join a ys)) else none
    | none => none
  | .rstrip, .str a, .str b => if a.length ≤ sizeLine then some (.str (Txt.rstripChars a b)) else none
  | .strip, .str a, .str b => if a.length ≤ sizeLine then some (.str (Txt.stripChars a b)) else none
  | .lstrip, .str a, .str b => if a.length ≤ sizeLine then some (.str (Txt.lstripChars a b)) else none
  | .find, .str a, .str b => if a.length ≤ sizeLine then some (.int (Txt.find a b)) else none
  | .rfind, .str a, .str b => if a.length ≤ sizeLine then some (.int (Txt.rfind a b)) else none
  | .starts, .str a, .str b => if a.length ≤ sizeLine then some (.bl (Txt.startswith a b)) else none
  | .join, .str a, .tup xs => match wrd.wstrs xs with
    | some ys => if (ys.map (·.length)).sum + ys.length * a.length ≤ 16777216 then some (.str (Txt.join a ys)) else none
    | none => none
  | _, _, _ => none
/-- text.rstrip() -/
def wStrip : W → Option W
  | .str a => if a.length ≤ sizeLine then some (.str (Txt.rstrip a)) else none
  | _ => none
def mStrip (a : M W) : M W := fun σ S => (a σ S).bind fun x S1 => olift (wStrip x) S1
/-- text.ljust(n, sign) -/
def wJust : W → W → W → Option W
  | .str a, .int i, .str f => if 0 ≤ i ∧ i ≤ 1000000 ∧ f.length = 1 then some (.str (Txt.ljustF a i (f.cps.getD 0 0))) else none
  | _, _, _ => none
def mJust (a b c : M W) : M W := fun σ S => (a σ S).bind fun x S1 => (b σ S1).bind fun y S2 => (c σ S2).bind fun z S3 => olift (wJust x y z) S3
/-- {x} -/
def wFmt : W → Option W
  | .str y => if y.length ≤ sizeLine then some (.str y) else none
  | .int i => if i.natAbs.log2 < 1920 then some (.str (toString i)) else none
  | _ => none
def mFmt (a : M W) : M W := fun σ S => (a σ S).bind fun x S1 => olift (wFmt x) S1
/-- the parts of a text, one behind another -/
def wJs (acc : Str) : List W → Option Str
  | [] => some acc
  | .str y :: r => if (acc ++ y).length ≤ sizeLine then wJs (acc ++ y) r else none
  | _ => none
def mJs (a : M (List W)) : M W := fun σ S => (a σ S).bind fun xs S1 => olift ((wJs Str.empty xs).map .str) S1
/-- max(x, default=d) -/
def wMaxD : W → W → Option W
  | .lst xs, d => match wints xs with
    | some [] => some d
    | some (i :: r) => some (.int (imax (i :: r)))
    | none => none
  | _, _ => none
def mMaxD (a b : M W) : M W := fun σ S => (a σ S).bind fun x S1 => (b σ S1).bind fun y S2 => olift (wMaxD (vwz S2 x) y) S2
def mSm (k : Sm) (a b : M W) : M W := fun σ S => (a σ S).bind fun x S1 => (b σ S1).bind fun y S2 => olift (wSm k x y) S2
def mMeth (F : Fenv) (own : Str → Option Str) (m : Mt) (nm : Str) (o : M W) (a : M (List W)) : M W := fun σ S => (o σ S).bind fun w S1 => goMeth F own m nm w (a σ) S1
/-! ### own classes -/
/-- the class of a shared instance -/
def insOf (S : Sto) (w : W) : Option Str := match w with
  | .loc n => match S[n]? with
    | some (.ins c _) => some c
    | _ => none
  | _ => none
/-- the built-in type of a value that is no instance -/
def wtyN : W → Option String
  | .non => some "NoneType"
  | .bl _ => some "bool"
  | .int _ => some "int"
  | .str _ => some "str"
  | .tup _ => some "tuple"
  | .lst _ => some "list"
  | _ => none
def toLocR (w : W) (S : Sto) : Res W := match w with
  | .loc k => .ok (.loc k) S
  | _ => .bad
def toBlR (w : W) (S : Sto) : Res Bool := match w with
  | .bl b => .ok b S
  | _ => .bad
/-- x op y, both of one own class -/
def goOpI (F : Fenv) (own : Str → Option Str) (x y : W) (S : Sto) : Res W := match insOf S x, insOf S y with
  | some c, some c' => if c = c' then match own c with
    | some q => (F q [x, y] S).bind toLocR
    | none => .bad else .bad
  | _, _ => .bad
def mOpI (F : Fenv) (own : Str → Option Str) (a b : M W) : M W := fun σ S => (a σ S).bind fun x S1 => (b σ S1).bind fun y S2 => goOpI F own x y S2
/-- x == y, x of an own class -/
def goEqI (F : Fenv) (own : Str → Option Str) (x y : W) (S : Sto) : Res Bool := match insOf S x with
  | some c => if insOf S y = some c ∨ (wtyN (vwz S y)).isSome = true then match own c with
    | some q => (F q [x, y] S).bind toBlR
    | none => .bad else .bad
  | none => .bad
def mEqI (F : Fenv) (own : Str → Option Str) (a b : M W) : M Bool := fun σ S => (a σ S).bind fun x S1 => (b σ S1).bind fun y S2 => goEqI F own x y S2
/-- x in y, y of an own class -/
def goInI (F : Fenv) (own : Str → Option Str) (neg : Bool) (x y : W) (S : Sto) : Res Bool := match insOf S y with
  | some c => match own c with
    | some q => (F q [y, x] S).bind fun w S1 => (toBlR w S1).bind fun b S2 => .ok (b != neg) S2
    | none => .bad
  | none => .bad
def mInI (F : Fenv) (own : Str → Option Str) (neg : Bool) (a b : M W) : M Bool := fun σ S => (a σ S).bind fun x S1 => (b σ S1).bind fun y S2 => goInI F own neg x y S2
/-- isinstance(x, c), c an own class -/
def wIsI (S : Sto) (c : Str) (x : W) : Option W := match insOf S x with
  | some c' => if c' = c then some (.bl true) else none
  | none => if (wtyN (vwz S x)).isSome = true then some (.bl false) else none
def mIsI (c : Str) (a : M W) : M W := fun σ S => (a σ S).bind fun x S1 => olift (wIsI S1 c x) S1
/-- slots forgotten -/
def wwipe (σ : Sls) : List Nat → Sls
  | [] => σ
  | v :: vs => (wwipe σ vs).set v .emp
def lcL (bd : W → M Sls) (t : M Bool) (e : M W) (σ : Sls) : List W → Sto → Res (List W)
  | [], S => .ok [] S
  | w :: ws, S => (bd w σ S).bind fun σ1 S1 => (t σ1 S1).bind fun b S2 => if b then (e σ1 S2).bind fun v S3 => (lcL bd t e σ ws S3).bind fun vs S4 => .ok (v :: vs) S4 else lcL bd t e σ ws S2
def mLc (it : M (List W)) (bd : W → M Sls) (t : M Bool) (e : M W) (own : List Nat) : M W := fun σ S => (it σ S).bind fun ws S1 => if ws.length ≤ LIM ∧ (own.all fun i => match σ[i]? with
  | some (.ow _) => false
  | _ => true) = true then (lcL bd t e (wwipe σ own) ws S1).bind fun vs S2 => .ok (.lst vs) S2 else .bad
/-- dict comprehensions -/
def mPr (mk mv : M W) : M W := fun σ S => (mk σ S).bind fun x S1 => (mv σ S1).bind fun y S2 => match wkey x with
  | some _ => .ok (.tup [x, y]) S2
  | none => .bad
def pairsD (vs : List W) : List (Key × W) := vs.foldl (fun acc w => match w with
  | .tup [x, y] => match wkey x with
    | some k => dput acc k y
    | none => acc
  | _ => acc) []
def mDc (mit : M (List W)) (bd : W → M Sls) (t : M Bool) (mk mv : M W) (own : List Nat) : M W := fun σ S => (mit σ S).bind fun ws S1 => if ws.length ≤ LIM ∧ (own.all fun i => match σ[i]? with
  | some (.ow _) => false
  | _ => true) = true then (lcL bd t (mPr mk mv) (wwipe σ own) ws S1).bind fun vs S2 => .ok (.dct (pairsD vs)) S2 else .bad
/-- a comprehension with two fors -/
def noOw (σ : Sls) (own : List Nat) : Bool := own.all fun i => match σ[i]? with
  | some (.ow _) => false
  | _ => true
def lc2L (bd : W → M Sls) (t : M Bool) (it1 : M (List W)) (bd1 : W → M Sls) (t1 : M Bool) (e : M W) (own1 : List Nat) (σ : Sls) : List W → Sto → Res (List W)
  | [], S => .ok [] S
  | w :: ws, S => (bd w σ S).bind fun σ1 S1 => (t σ1 S1).bind fun b S2 => if b then (if noOw σ1 own1 = true then (it1 σ1 S2).bind fun us S3 => (lcL bd1 t1 e (wwipe σ1 own1) us S3).bind fun vs S4 => (lc2L bd t it1 bd1 t1 e own1 σ ws S4).bind fun vs2 S5 => .ok (vs ++ vs2) S5 else .bad) else lc2L bd t it1 bd1 t1 e own1 σ ws S2
def mLc2 (it : M (List W)) (bd : W → M Sls) (t : M Bool) (it1 : M (List W)) (bd1 : W → M Sls) (t1 : M Bool) (e : M W) (own own1 : List Nat) : M W := fun σ S => (it σ S).bind fun ws S1 => if noOw σ own = true then (lc2L bd t it1 bd1 t1 e own1 (wwipe σ own) ws S1).bind fun vs S2 => if vs.length ≤ LIM then .ok (.lst vs) S2 else .bad else .bad
/-- a shared list stays as it is from now on -/
def mFz (m : M W) : M W := fun σ S => (m σ S).bind fun x S1 => match x with
  | .loc n => match S1[n]? with
    | some (.lst xs) => .ok (.loc n) (S1.set n (.frz xs))
    | _ => .ok x S1
  | x => .ok x S1
/-- a shared list is locked while e runs -/
def mLockE (i : Nat) (m : M W) : M W := fun σ S => match σ[i]? with
  | some (.fr (.loc n)) => match S[n]? with
    | some (.lst xs) => (m σ (S.set n (.frz xs))).bind fun w S3 => match S3[n]? with
      | some (.frz _) => .ok w (S3.set n (.lst xs))
      | _ => .bad
    | _ => .bad
  | _ => .bad
def mYes : M Bool := fun _ S => .ok true S
/-- what is walked -/
def mIt (a : M W) : M (List W) := fun σ S => (a σ S).bind fun x S1 => match x with
  | .lst xs => .ok xs S1
  | .tup xs => .ok xs S1
  | .scr xs => .ok xs S1
  | .str s => .ok (s.cps.toList.map fun c => .str ⟨#[c]⟩) S1
  | .loc n => match S1[n]? with
    | some (.frz xs) => .ok xs S1
    | _ => .bad
  | _ => .bad
def rngW (lo : Int) (n : Nat) : List W := (List.range n).map fun i => .int (lo + (i : Nat))
def in62 (i : Int) : Prop := -(2 ^ 62) ≤ i ∧ i < 2 ^ 62
instance (i : Int) : Decidable (in62 i) := inferInstanceAs (Decidable (_ ∧ _))
def mRng1 (a : M W) : M (List W) := fun σ S => (a σ S).bind fun x S1 => match x with
  | .int j => if in62 j then .ok (rngW 0 j.toNat) S1 else .bad
  | _ => .bad
def mRng2 (a b : M W) : M (List W) := fun σ S => (a σ S).bind fun x S1 => (b σ S1).bind fun y S2 => match x, y with
  | .int i, .int j => if in62 i ∧ in62 j then .ok (rngW i (j - i).toNat) S2 else .bad
  | _, _ => .bad
/-- range(i, j, -1) -/
def rngC (lo c : Int) (n : Nat) : List W := (List.range n).map fun i => .int (lo + (i : Nat) * c)
def mRng3 (a b c : M W) : M (List W) := fun σ S => (a σ S).bind fun x S1 => (b σ S1).bind fun y S2 => (c σ S2).bind fun z S3 => match x, y, z with
  | .int i, .int j, .int k => if in62 i ∧ in62 j ∧ k = -1 then .ok (rngC i (-1) (i - j).toNat) S3 else .bad
  | _, _, _ => .bad
def mEnum (a : M W) : M (List W) := fun σ S => (a σ S).bind fun x S1 => match x with
  | .lst xs => .ok (xs.mapIdx fun i w => .tup [.int (i : Nat), w]) S1
  | .tup xs => .ok (xs.mapIdx fun i w => .tup [.int (i : Nat), w]) S1
  | _ => .bad
def mRev (a : M W) : M (List W) := fun σ S => (a σ S).bind fun x S1 => match x with
  | .lst xs => .ok xs.reverse S1
  | .tup xs => .ok xs.reverse S1
  | _ => .bad
theorem lt_split (x : W) (p : List W → Nat) : (match x with
  | .lst ys => p ys
  | .tup ys => p ys
  | _ => 0) = 0 ∨ True := by split <;> exact .inr trivial
/-- the items of a list or tuple -/
def wseq : W → Option (Bool × List W)
  | .lst xs => some (false, xs)
  | .tup xs => some (true, xs)
  | _ => none
def mZip (a b : M W) : M (List W) := fun σ S => (a σ S).bind fun x S1 => (b σ S1).bind fun y S2 => match wseq x, wseq y with
  | some (_, xs), some (_, ys) => .ok ((xs.zip ys).map fun p => .tup [p.1, p.2]) S2
  | _, _ => .bad
/-! ### targets -/
def bName (i : Nat) : W → M Sls := fun w σ S => .ok (σ.set i (.fr w)) S
def bAll : List (W → M Sls) → List W → M Sls
  | [], [] => fun σ S => .ok σ S
  | g :: gs, w :: ws => fun σ S => (g w σ S).bind fun σ1 S1 => bAll gs ws σ1 S1
  | _, _ => mBad
def bTup (gs : List (W → M Sls)) : W → M Sls := fun w => match w with
  | .tup ws => if ws.length = gs.length then bAll gs ws else mBad
  | _ => mBad
/-! ### statements -/
def sNext : M Fl := fun σ S => .ok (.nx σ) S
def sBrk : M Fl := fun σ S => .ok (.bk σ) S
def sCnt : M Fl := fun σ S => .ok (.ct σ) S
def sSeq (a b : M Fl) : M Fl := fun σ S => (a σ S).bind fun f S1 => match f with
  | .nx σ1 => b σ1 S1
  | f => .ok f S1
def sDrop (a : M W) : M Fl := fun σ S => (a σ S).bind fun _ S1 => .ok (.nx σ) S1
def sRet (a : M W) : M Fl := fun σ S => (a σ S).bind fun w S1 => .ok (.rt w) S1
def sRetN : M Fl := fun _ S => .ok (.rt .non) S
/-- a new list or dict is the slot's own -/
def mkOwn (w : W) : Sl := match w with
  | .lst _ => .ow w
  | .dct _ => .ow w
  | w => .fr w
def sSetF (i : Nat) (a : M W) : M Fl := fun σ S => (a σ S).bind fun w S1 => .ok (.nx (σ.set i (mkOwn w))) S1
def sSet (i : Nat) (a : M W) : M Fl := fun σ S => (a σ S).bind fun w S1 => .ok (.nx (σ.set i (.fr w))) S1
def sAsg (a : M W) (g : W → M Sls) : M Fl := fun σ S => (a σ S).bind fun w S1 => (g w σ S1).bind fun σ1 S2 => .ok (.nx σ1) S2
def sPar (i j : Nat) (a b : M W) : M Fl := fun σ S => (a σ S).bind fun x S1 => (b σ S1).bind fun y S2 => .ok (.nx ((σ.set i (.fr x)).set j (.fr y))) S2
def sAug (i : Nat) (op : Operator) (a : M W) : M Fl := fun σ S => match σ[i]? with
  | some (.fr (.int x)) => (a σ S).bind fun y S1 => match op, y with
    | .Add, .int y => .ok (.nx (σ.set i (.fr (.int (x + y))))) S1
    | .Sub, .int y => .ok (.nx (σ.set i (.fr (.int (x - y))))) S1
    | _, _ => .bad
  | _ => .bad
/-- x[j] = e: a list or dict of the slot's own .. -/
def putOwn (n : Nat) (w : W) (ix e : M W) : M Fl := fun σ S => (e σ S).bind fun v S1 => (ix σ S1).bind fun i S2 => match w with
  | .lst xs => match i with
    | .int k => match ixN xs.length k with
      | some j => .ok (.nx (σ.set n (.ow (.lst (xs.set j v))))) S2
      | none => .bad
    | _ => .bad
  | .dct kvs => match wkey i with
    | some k => if kvs.length < LIM then .ok (.nx (σ.set n (.ow (.dct (dput kvs k v))))) S2 else .bad
    | none => .bad
  | _ => .bad
/-- .. or a shared one -/
def sPutS (ob ix e : M W) : M Fl := fun σ S => (e σ S).bind fun v S1 => (ob σ S1).bind fun x S2 => (ix σ S2).bind fun i S3 => match x with
  | .loc n => match S3[n]? with
    | some (.lst xs) => match i with
      | .int k => match ixN xs.length k with
        | some j => .ok (.nx σ) (S3.set n (.lst (xs.set j v)))
        | none => .bad
      | _ => .bad
    | some (.dct kvs) => match wkey i with
      | some k => if kvs.length < LIM then .ok (.nx σ) (S3.set n (.dct (dput kvs k v))) else .bad
      | none => .bad
    | _ => .bad
  | _ => .bad
def sPut (n : Nat) (ob ix e : M W) : M Fl := fun σ S => match σ[n]? with
  | some (.ow w) => putOwn n w ix e σ S
  | _ => sPutS ob ix e σ S
def fput (f : Str) (v : W) : List (Str × W) → List (Str × W)
  | [] => [(f, v)]
  | (g, x) :: r => if g = f then (g, v) :: r else (g, x) :: fput f v r
def sFldM (o e : M W) (f : Str) (ok : Str → Bool) : M Fl := fun σ S => (e σ S).bind fun v S1 => (o σ S1).bind fun x S2 => match x with
  | .loc n => match S2[n]? with
    | some (.ins c fs) => if ok c ∧ fs.length < 1000 then .ok (.nx σ) (S2.set n (.ins c (fput f v fs))) else .bad
    | _ => .bad
  | _ => .bad
/-- x.m(..), where x is a name: its answer, the slots behind it -/
def mutE (F : Fenv) (own : Str → Option Str) (m : Mt) (nm : Str) (n : Nat) (a : M (List W)) : M (W × Sls) := fun σ S => match σ[n]? with
  | some (.ow (.lst xs)) => (a σ S).bind fun ws S1 => match lstUp S1 m xs ws with
    | some (r, ys) => .ok (r, σ.set n (.ow (.lst ys))) S1
    | none => (olift (wrd m (.lst xs) ws) S1).bind fun r S2 => .ok (r, σ) S2
  | some (.ow (.dct kvs)) => (a σ S).bind fun ws S1 => (olift (wrd m (.dct kvs) ws) S1).bind fun r S2 => .ok (r, σ) S2
  | some (.fr w) => (goMeth F own m nm w (a σ) S).bind fun r S2 => .ok (r, σ) S2
  | _ => .bad
/-- .. as a statement, or y = x.m(..) -/
def sMut (e : M (W × Sls)) : M Fl := fun σ S => (e σ S).bind fun r S1 => .ok (.nx r.2) S1
def sMutY (k : Nat) (e : M (W × Sls)) : M Fl := fun σ S => (e σ S).bind fun r S1 => .ok (.nx (r.2.set k (.fr r.1))) S1
def sIf (t : M Bool) (a b : M Fl) : M Fl := fun σ S => (t σ S).bind fun x S1 => if x then a σ S1 else b σ S1
def forL (bd : W → M Sls) (body : M Fl) : List W → M Fl
  | [], σ, S => .ok (.nx σ) S
  | w :: ws, σ, S => (bd w σ S).bind fun σ1 S1 => (body σ1 S1).bind fun f S2 => match f with
    | .nx σ2 => forL bd body ws σ2 S2
    | .ct σ2 => forL bd body ws σ2 S2
    | .bk σ2 => .ok (.nx σ2) S2
    | .rt w => .ok (.rt w) S2
def sFor (it : M (List W)) (bd : W → M Sls) (body : M Fl) : M Fl := fun σ S => (it σ S).bind fun ws S1 => forL bd body ws σ S1
/-- a walk over the items of a shared dict, which is locked meanwhile -/
def mItems (o : M W) : M (List W) := fun σ S => (o σ S).bind fun x S1 => match x with
  | .loc n => match S1[n]? with
    | some (.lck kvs) => .ok (kvs.map fun kv => .tup [kW kv.1, kv.2]) S1
    | _ => .bad
  | _ => .bad
def sForI (o : M W) (bd : W → M Sls) (body : M Fl) : M Fl := fun σ S => (o σ S).bind fun x _ => match x with
  | .loc n => match S[n]? with
    | some (.dct kvs) => (sFor (mItems o) bd body σ (S.set n (.lck kvs))).bind fun f S3 => match S3[n]? with
      | some (.lck _) => .ok f (S3.set n (.dct kvs))
      | _ => .bad
    | _ => .bad
  | _ => .bad
def whL (c : M Bool) (body : M Fl) : Nat → M Fl
  | 0 => mBad
  | n + 1 => fun σ S => (c σ S).bind fun b S1 => if b then (body σ S1).bind fun f S2 => match f with
    | .nx σ2 => whL c body n σ2 S2
    | .ct σ2 => whL c body n σ2 S2
    | .bk σ2 => .ok (.nx σ2) S2
    | .rt w => .ok (.rt w) S2 else .ok (.nx σ) S1
/-- how often a while may turn -/
@[irreducible] def whMax : Nat := 100000000
theorem whMax_eq : whMax = 100000000 := by unfold whMax; rfl
def sWh (c : M Bool) (body : M Fl) : M Fl := whL c body whMax
/-- lists of their own become values that stay -/
def frz (σ : Sls) : List Nat → Sls
  | [] => σ
  | i :: is => match (frz σ is)[i]? with
    | some (.ow w) => (frz σ is).set i (.fr w)
    | _ => frz σ is
def sFrz (is : List Nat) (a : M Fl) : M Fl := fun σ S => a (frz σ is) S
/-! ### the text's walk -/
def slotOf (N : List Str) (x : Str) : Option Nat := if N.idxOf x < N.length then some (N.idxOf x) else none
def okNm (x : Str) : Bool := !(x == ("__debug__" : Str)) && !(x == ("__classdict__" : Str))
def isLoc (sc : Scope) (x : Str) : Bool := okNm x && match sc.names.lookup x with
  | some .local => true
  | some .cell => true
  | some .free => true
  | _ => false
/-- names that a value's expression may hand on -/
def kept : Nat → Bool → Expr → List Str
  | 0, _, _ => []
  | n + 1, br, e => match e with
    | .Name x _ => if br then [] else [x]
    | .BinOp a _ b _ => kept n true a ++ kept n true b
    | .UnaryOp _ a _ => kept n true a
    | .BoolOp _ es _ => es.flatMap (kept n br)
    | .Compare a _ bs _ => kept n true a ++ bs.flatMap (kept n true)
    | .IfExp t a b _ => kept n true t ++ kept n br a ++ kept n br b
    | .Tuple es _ _ => es.flatMap (kept n false)
    | .List es _ => es.flatMap (kept n false)
    | .Dict ks vs _ => ks.flatMap (fun o => match o with
      | some k => kept n true k
      | none => []) ++ vs.flatMap (kept n false)
    | .Subscript a (.Slice lo hi _ _) _ => kept n true a ++ (match lo with
      | some i => kept n true i
      | none => []) ++ match hi with
      | some i => kept n true i
      | none => []
    | .Subscript a i _ => kept n true a ++ kept n true i
    | .Attribute a _ _ => kept n true a
    | .Call (.Name f _) es _ _ => es.flatMap (kept n (match bfOf f with
      | .none => false
      | _ => true))
    | .Call (.Attribute o m _) es _ _ => kept n true o ++ es.flatMap (kept n (decide (mtOf m = .extend)))
    | .JoinedStr es _ => es.flatMap (kept n true)
    | .FormattedValue a _ _ _ => kept n true a
    | .ListComp e gs _ _ => kept n false e ++ gs.flatMap (fun g => match g with
      | ⟨_, it, ifs, _⟩ => kept n false it ++ ifs.flatMap (kept n true))
    | .DictComp e f gs _ _ => kept n true e ++ kept n false f ++ gs.flatMap (fun g => match g with
      | ⟨_, it, ifs, _⟩ => kept n false it ++ ifs.flatMap (kept n true))
    | _ => []
/-- its value, if a list or dict, is new -/
def isNew : Expr → Bool
  | .List _ _ => true
  | .Dict _ _ _ => true
  | .ListComp _ _ _ _ => true
  | .DictComp _ _ _ _ _ => true
  | .BinOp _ _ _ _ => true
  | .Subscript _ (.Slice _ _ _ _) _ => true
  | .Call (.Name f _) _ _ _ => decide (f = "list" ∨ f = "sorted")
  | _ => false
def tgNames : Nat → Expr → List Str
  | 0, _ => []
  | n + 1, e => match e with
    | .Name x _ => [x]
    | .Tuple es _ _ => es.flatMap (tgNames n)
    | _ => []
/-- its receiver is read as it stands -/
def baseOk : Expr → Bool
  | .Call (.Name _ _) [] [] _ => false
  | _ => true
def isStar : Expr → Bool
  | .Starred _ _ => true
  | _ => false
def noStar (es : List Expr) : Bool := es.all fun e => !isStar e
def callOk (es : List Expr) : Bool := noStar es && decide (es.length < 28)
def methOk (o : Expr) (p q : Pos) (es : List Expr) : Bool := baseOk o && p.endLine == q.line && callOk es
/-- a, b = x, y stores without a tuple -/
def parOk (p q : Pos) (es : List Expr) : Bool := decide (q.line = p.line) && noStar es && !es.all (foldedForSure 8) && !es.all (constantsAlone 8)
def isTup : Expr → Bool
  | .Tuple _ _ _ => true
  | _ => false
def isSDC : Expr → Bool
  | .SetComp _ _ _ _ => true
  | .DictComp _ _ _ _ _ => true
  | _ => false
def isLCm : Expr → Bool
  | .ListComp _ _ _ _ => true
  | _ => false
def isSl : Expr → Bool
  | .Slice _ _ _ _ => true
  | _ => false
def isSet : Expr → Bool
  | .Set _ _ _ => true
  | _ => false
/-- enumerate wants a tuple of targets -/
def itFits (tg it : Expr) : Bool := !isSet it && match it with
  | .Call (.Name f _) _ _ _ => if f = "enumerate" ∨ f = "zip" then isTup tg else true
  | _ => true
def dictOk (ks : List (Option Expr)) (vs : List Expr) : Bool := ks.all (·.isSome) && decide (ks.length = vs.length) && !ks.isEmpty && decide (ks.length ≤ 15)
section
variable (G : Glob) (F : Fenv) (D : Dx)
def cName (sc : Scope) (br : Bool) (x : Str) : M W := match sc.names.lookup x with
  | some .globalImplicit => match G.cst.lookup x with
    | some w => mC w
    | none => mBad
  | _ => if isLoc sc x then match slotOf D.N x with
    | some i => if br then mVarB i else mVar i
    | none => mBad else mBad
def cTg (sc : Scope) : Nat → Expr → W → M Sls
  | 0, _ => fun _ => mBad
  | n + 1, e => match e with
    | .Name x _ => match sc.names.lookup x, slotOf D.N x with
      | some .local, some i => bName i
      | some .cell, some i => bName i
      | _, _ => fun _ => mBad
    | .Tuple es _ _ => if noStar es then bTup (es.map (cTg sc n)) else fun _ => mBad
    | _ => fun _ => mBad
def isG (sc : Scope) (x : Str) : Bool := match sc.names.lookup x with
  | some .globalImplicit => true
  | _ => false
/-- a tuple of the top whose index is asked -/
def gtup (sc : Scope) (x m : Str) : Option (List W) := if isG sc x = true ∧ m = ("index" : Str) then match G.cst.lookup x with
  | some (.tup ws) => some ws
  | _ => none else none
/-- a dict of the top that is asked -/
def gtbl (sc : Scope) (x m : Str) : Option (List (Str × W) × List Str) := if isG sc x = true ∧ m = ("get" : Str) then G.tbl.lookup x else none
/-- a dict of the top whose keys are all known -/
def gdts (sc : Scope) (b : Expr) : Option (List (Str × W)) := match b with
  | .Name x _ => if isG sc x = true then G.dts.lookup x else none
  | _ => none
def inOp : CmpOp → Option Bool
  | .In => some false
  | .NotIn => some true
  | _ => none
def isShr (e : Expr) : Bool := isNew e && D.locs.contains (e.pos.line, e.pos.col, e.pos.endCol)
def shr (e : Expr) (m : M W) : M W := if isShr D e then mToLoc m else m
def lkOf (e : Expr) : Option Nat := if isLCm e then D.lck.lookup (e.pos.line, e.pos.col, e.pos.endCol) else none
def lkE (e : Expr) (m : M W) : M W := match lkOf D e with
  | some i => mLockE i m
  | none => m
def fzE (e : Expr) (m : M W) : M W := if (isStar e || isNew e) = true then m else if D.fzs.contains (e.pos.line, e.pos.col, e.pos.endCol) then mFz m else m
def opKd : Expr → Bool
  | .BinOp _ _ _ _ => true
  | .Compare _ _ _ _ => true
  | .Call _ _ _ _ => true
  | _ => false
def isOp (e : Expr) : Bool := opKd e && D.ops.contains (e.pos.line, e.pos.col, e.pos.endCol)
def dun : Operator → Option Str
  | .Add => some "__add__"
  | .Sub => some "__sub__"
  | .Mult => some "__mul__"
  | .BitOr => some "__or__"
  | _ => none
/-- an own class's method for an operator -/
def ownI (m : Str) (c : Str) : Option Str := if G.icl.contains c = true then G.mts.lookup (c, m) else none
def cmpI (op : CmpOp) (a b : M W) : M Bool := match op with
  | .Eq => mEqI F (ownI G "__eq__") a b
  | .In => mInI F (ownI G "__contains__") false a b
  | .NotIn => mInI F (ownI G "__contains__") true a b
  | _ => mBad
/-- a comparison that asks an own class -/
def opC (e : Expr) : Option (Expr × CmpOp × Expr) := if isOp D e = true then match e with
  | .Compare a [op] [b] _ => some (a, op, b)
  | _ => none else none
mutual
def cE : Nat → Bool → Scope → Expr → M W
  | 0, _, _, _ => mBad
  | n + 1, br, sc, e => if isOp D e = true then cO n sc e else fzE D e (shr D e (lkE D e (cE1 n br sc e)))
def cO : Nat → Scope → Expr → M W
  | 0, _, _ => mBad
  | n + 1, sc, e => match e with
    | .BinOp a op b _ => match dun op with
      | some m => mOpI F (ownI G m) (cE n false sc a) (cE n false sc b)
      | none => mBad
    | .Compare a [op] [b] _ => if behindInMarks op b then mBad else mVal (cmpI G F op (cE n false sc a) (cE n false sc b))
    | .Call (.Name f _) [a, .Name c _] [] _ => if f = "isinstance" ∧ isG sc f = true ∧ isG sc c = true ∧ G.fre.contains f = true ∧ G.icl.contains c = true ∧ isStar a = false then mIsI c (cE n true sc a) else mBad
    | .Call (.Attribute (.Name c p0) m p) es [] q => match G.sms.lookup (c, m) with
      | some fq => if isG sc c = true ∧ methOk (.Name c p0) p q es = true ∧ es ≠ [] then mCall F fq (cA n false sc es) [] else mBad
      | none => mBad
    | _ => mBad
def cE1 : Nat → Bool → Scope → Expr → M W
  | 0, _, _, _ => mBad
  | n + 1, br, sc, e => match e with
    | .Name x _ => cName G D sc br x
    | .Constant c _ _ => match c with
      | .none => mC .non
      | .bool b => mC (.bl b)
      | .int i => mC (.int i)
      | .str s => mC (.str s)
      | _ => mBad
    | .BinOp a op b _ => mBin op (cE n true sc a) (cE n true sc b)
    | .UnaryOp .Not a _ => mVal (mNotT (mTru (cE n true sc a)))
    | .UnaryOp op a _ => mUn op (cE n true sc a)
    | .BoolOp .And es _ => cAnd n br sc es
    | .BoolOp .Or es _ => cOr n br sc es
    | .Compare a [op] [b] _ => match gdts G sc b, inOp op with
      | some t, some ng => mVal (mTIn t ng (cE n true sc a))
      | _, _ => if behindInMarks op b then mBad else mCmp op (cE n true sc a) (cE n true sc b)
    | .Compare a [o, p] [b, c] _ => if behindInMarks p c then mBad else mVal (mChain o p (cE n true sc a) (cE n true sc b) (cE n true sc c))
    | .IfExp t a b _ => mIfE (cT n sc t) (cE n br sc a) (cE n br sc b)
    | .Tuple es _ _ => mTup (cA n false sc es)
    | .List es _ => mLst (cA n false sc es)
    | .Dict [] [] _ => mNewD
    | .Dict ks vs _ => if dictOk ks vs then mDict (cPs n sc ks vs) else mBad
    | .Subscript a (.Slice lo hi none _) _ => mSl (cE n true sc a) (lo.map (cE n true sc)) (hi.map (cE n true sc))
    | .Subscript a i _ => if isSl i then mBad else match gdts G sc a with
      | some t => mTSub t (cE n true sc i)
      | none => mIx (cE n true sc a) (cE n true sc i)
    | .Attribute a f _ => if baseOk a = false then mBad else mFld (cE n true sc a) f fun c => G.fld.contains (c, f)
    | .Call (.Name f _) es [] _ => if isG sc f = true ∧ callOk es = true then match bfOf f with
      | .none => match G.fns.lookup f, G.cls.lookup f with
        | some i, _ => if es.length = i.np then mCall F f (cA n false sc es) (i.kw.map (·.2)) else mBad
        | none, some k => if es.length = k then mMake F f (f ++ ".__init__") (cA n false sc es) else mBad
        | none, none => mBad
      | b => if G.fre.contains f = true ∧ es ≠ [] then mBlt b (cA n true sc es) else mBad else mBad
    | .Call (.Name f _) es (kw :: kws) _ => match bfOf f, G.kwc.lookup (f, (kw :: kws).map (·.arg)) with
      | .none, some (np, ord) => if isG sc f = true ∧ callOk es = true ∧ es.length = np ∧ es ≠ [] then mCallK F f (cA n false sc es) (cA n false sc ((kw :: kws).map (·.value))) ord else mBad
      | .max, _ => match es, kws with
        | [a], [] => if isG sc f = true ∧ G.fre.contains f = true ∧ isStar a = false ∧ kw.arg = some ("default" : Str) then mMaxD (cE n true sc a) (cE n false sc kw.value) else mBad
        | _, _ => mBad
      | _, _ => mBad
    | .Call (.Attribute (.Name x p0) m p) [a] [] q => match smOf m with
      | some k => if methOk (.Name x p0) p q [a] = false then mBad else mSm k (cE n true sc (.Name x p0)) (cE n false sc a)
      | none => match gtup G sc x m with
        | some ws => if methOk (.Name x p0) p q [a] = false then mBad else mTIx ws (cE n false sc a)
        | none => if methOk (.Name x p0) p q [a] = false then mBad else mMeth F (fun c => G.mts.lookup (c, m)) (mtOf m) m (cE n true sc (.Name x p0)) (cA n (decide (mtOf m = .extend)) sc [a])
    | .Call (.Attribute (.Name x p0) m p) [a, b] [] q => match gtbl G sc x m with
      | some t => if methOk (.Name x p0) p q [a, b] = false then mBad else mTGet t (cE n false sc a) (cE n false sc b)
      | none => match smOf m with
        | some .ljust => if methOk (.Name x p0) p q [a, b] = false then mBad else mJust (cE n true sc (.Name x p0)) (cE n true sc a) (cE n true sc b)
        | _ => if methOk (.Name x p0) p q [a, b] = false then mBad else mMeth F (fun c => G.mts.lookup (c, m)) (mtOf m) m (cE n true sc (.Name x p0)) (cA n (decide (mtOf m = .extend)) sc [a, b])
    | .Call (.Attribute o m p) es [] q => match smOf m, es with
      | some k, [a] => if methOk o p q [a] = false then mBad else mSm k (cE n true sc o) (cE n false sc a)
      | some .rstrip, [] => if methOk o p q [] = false then mBad else mStrip (cE n true sc o)
      | some .ljust, [a, b] => if methOk o p q [a, b] = false then mBad else mJust (cE n true sc o) (cE n true sc a) (cE n true sc b)
      | _, es => if methOk o p q es = false then mBad else mMeth F (fun c => G.mts.lookup (c, m)) (mtOf m) m (cE n true sc o) (cA n (decide (mtOf m = .extend)) sc es)
    | .JoinedStr [a] _ => cE n br sc a
    | .JoinedStr es _ => if es = [] then mBad else mJs (cA n true sc es)
    | .FormattedValue a c none _ => if c = -1 then mFmt (cE n true sc a) else mBad
    | .ListComp e [⟨tg, it, ifs, 0⟩, ⟨tg1, it1, ifs1, 0⟩] cs _ => if itFits tg it = true ∧ itFits tg1 it1 = true ∧ blkC D.N sc cs ((tgNames 9 tg ++ tgNames 9 tg1).map fun x => (x, D.N.idxOf x)) = true then mLc2 (cIt n sc it) (cTg D cs 9 tg) (cIfs n cs ifs) (cIt n cs it1) (cTg D cs 9 tg1) (cIfs n cs ifs1) (cE n false cs e) ((tgNames 9 tg ++ tgNames 9 tg1).map fun x => D.N.idxOf x) ((tgNames 9 tg1).map fun x => D.N.idxOf x) else mBad
    | .ListComp e [⟨tg, it, ifs, 0⟩] cs _ => if itFits tg it = true ∧ blkC D.N sc cs ((tgNames 9 tg).map fun x => (x, D.N.idxOf x)) = true then mLc (cIt n sc it) (cTg D cs 9 tg) (cIfs n cs ifs) (cE n false cs e) ((tgNames 9 tg).map fun x => D.N.idxOf x) else mBad
    | .DictComp kx e [⟨tg, it, ifs, 0⟩] cs _ => if itFits tg it = true ∧ blkC D.N sc cs ((tgNames 9 tg).map fun x => (x, D.N.idxOf x)) = true then mDc (cIt n sc it) (cTg D cs 9 tg) (cIfs n cs ifs) (cE n true cs kx) (cE n false cs e) ((tgNames 9 tg).map fun x => D.N.idxOf x) else mBad
    | _ => mBad
def cAnd : Nat → Bool → Scope → List Expr → M W
  | 0, _, _, _ => mBad
  | n + 1, br, sc, es => match es with
    | [] => mBad
    | [a] => cE n br sc a
    | a :: b :: r => mAndV (cE n br sc a) (cAnd n br sc (b :: r))
def cOr : Nat → Bool → Scope → List Expr → M W
  | 0, _, _, _ => mBad
  | n + 1, br, sc, es => match es with
    | [] => mBad
    | [a] => cE n br sc a
    | a :: b :: r => mOrV (cE n br sc a) (cOr n br sc (b :: r))
def cPs : Nat → Scope → List (Option Expr) → List Expr → List (M W × M W)
  | 0, _, _, _ => [(mBad, mBad)]
  | n + 1, sc, ks, vs => match ks, vs with
    | [], [] => []
    | some k :: ks, v :: vs => (cE n true sc k, cE n false sc v) :: cPs n sc ks vs
    | _, _ => [(mBad, mBad)]
def cA : Nat → Bool → Scope → List Expr → M (List W)
  | 0, _, _, es => match es with
    | [] => mNil
    | _ => mBad
  | n + 1, br, sc, es => match es with
    | [] => mNil
    | e :: r => if isStar e then mBad else mCons (cE n br sc e) (cA n br sc r)
def cIfs : Nat → Scope → List Expr → M Bool
  | 0, _, _ => mBad
  | n + 1, sc, es => match es with
    | [] => mYes
    | [t] => cT n sc t
    | _ => mBad
def cT : Nat → Scope → Expr → M Bool
  | 0, _, _ => mBad
  | n + 1, sc, e => match opC D e with
   | some (a, op, b) => if behindInMarks op b then mBad else cmpI G F op (cE n false sc a) (cE n false sc b)
   | none => match e with
    | .BoolOp .And es _ => cAndT n sc es
    | .BoolOp .Or es _ => cOrT n sc es
    | .UnaryOp .Not a _ => mNotT (cT n sc a)
    | .Compare a [op] [b] _ => match gdts G sc b, inOp op with
      | some t, some ng => mTIn t ng (cE n true sc a)
      | _, _ => if behindInMarks op b then mBad else mCmpT op (cE n true sc a) (cE n true sc b)
    | .Compare a [o, p] [b, c] _ => if behindInMarks p c then mBad else mChain o p (cE n true sc a) (cE n true sc b) (cE n true sc c)
    | .Compare _ _ _ _ => mBad
    | .IfExp _ _ _ _ => mBad
    | e => mTru (cE n true sc e)
def cAndT : Nat → Scope → List Expr → M Bool
  | 0, _, _ => mBad
  | n + 1, sc, es => match es with
    | [] => mBad
    | [a] => cT n sc a
    | a :: b :: r => mAnd (cT n sc a) (cAndT n sc (b :: r))
def cOrT : Nat → Scope → List Expr → M Bool
  | 0, _, _ => mBad
  | n + 1, sc, es => match es with
    | [] => mBad
    | [a] => cT n sc a
    | a :: b :: r => mOr (cT n sc a) (cOrT n sc (b :: r))
def cIt : Nat → Scope → Expr → M (List W)
  | 0, _, _ => mBad
  | n + 1, sc, e => match e with
    | .Call (.Name f p) [a] [] q => if isG sc f ∧ G.fre.contains f then if f = "range" then mRng1 (cE n true sc a) else if f = "enumerate" then mEnum (cE n false sc a) else if f = "reversed" then (if isStar a then mBad else mRev (cE n false sc a)) else mIt (cE n false sc (.Call (.Name f p) [a] [] q)) else mIt (cE n false sc (.Call (.Name f p) [a] [] q))
    | .Call (.Name f p) [a, b] [] q => if isG sc f ∧ G.fre.contains f ∧ f = "range" then mRng2 (cE n true sc a) (cE n true sc b) else if isG sc f ∧ G.fre.contains f ∧ f = "zip" ∧ noStar [a, b] = true then mZip (cE n false sc a) (cE n false sc b) else mIt (cE n false sc (.Call (.Name f p) [a, b] [] q))
    | .Call (.Name f p) [a, b, c] [] q => if isG sc f ∧ G.fre.contains f ∧ f = "range" ∧ noStar [a, b, c] = true then mRng3 (cE n true sc a) (cE n true sc b) (cE n true sc c) else mIt (cE n false sc (.Call (.Name f p) [a, b, c] [] q))
    | e => mIt (cE n false sc e)
end
def slots (xs : List Str) : List Nat := xs.filterMap (slotOf D.N)
def cKeep (e : Expr) (a : M Fl) : M Fl := match slots D (kept 9 false e) with
  | [] => a
  | l => sFrz l a
def cKeeps (es : List Expr) (a : M Fl) : M Fl := match slots D (es.flatMap (kept 9 false)) with
  | [] => a
  | l => sFrz l a
/-- a comprehension stored by its own words -/
def lcSw (sc : Scope) (y : Str) (p : Pos) (cs : Scope) (q : Pos) : Bool := (sc.names.lookup y == some .local) && p.line == q.line && !(cs.names.any fun (n, k) => n == y && (k == .local || k == .cell))
/-- a method that gives an answer and changes its list -/
def popsB (m : Mt) : Bool := decide (m = .pop)
mutual
def cS (sc : Scope) : Nat → Stmt → M Fl
  | 0, _ => mBad
  | n + 1, s => match s with
    | .Pass _ => sNext
    | .Break _ => sBrk
    | .Continue _ => sCnt
    | .Expr (.Constant (.str _) _ _) _ => sNext
    | .Expr (.Call (.Attribute (.Name x p) m q) es [] r) _ => match isLoc sc x, slotOf D.N x with
      | true, some i => if methOk (.Name x p) q r es = false then mBad else cKeeps D es (sMut (mutE F (fun c => G.mts.lookup (c, m)) (mtOf m) m i (cA G F D n (decide (mtOf m = .extend)) sc es)))
      | _, _ => cKeep D (.Call (.Attribute (.Name x p) m q) es [] r) (sDrop (cE G F D n false sc (.Call (.Attribute (.Name x p) m q) es [] r)))
    | .Expr e _ => if isLCm e || isSDC e then mBad else cKeep D e (sDrop (cE G F D n false sc e))
    | .Return none _ => sRetN
    | .Return (some e) _ => cKeep D e (sRet (cE G F D n false sc e))
    | .Assign [.Name y p] e q => match sc.names.lookup y, slotOf D.N y with
      | some k, some j => if k = .local ∨ k = .cell then match e with
        | .Call (.Attribute (.Name x p') m q') es [] r => match isLoc sc x, slotOf D.N x, popsB (mtOf m) with
          | true, some i, true => if methOk (.Name x p') q' r es = false then mBad else cKeeps D es (sMutY j (mutE F (fun c => G.mts.lookup (c, m)) (mtOf m) m i (cA G F D n (decide (mtOf m = .extend)) sc es)))
          | _, _, _ => cKeep D (.Call (.Attribute (.Name x p') m q') es [] r) (sSet j (cE G F D n false sc (.Call (.Attribute (.Name x p') m q') es [] r)))
        | .ListComp e gs cs q' => cKeep D (.ListComp e gs cs q') (if isShr D (.ListComp e gs cs q') then (if lcSw sc y p cs q' && (gs.length != 1) then mBad else sSet j (cE G F D n false sc (.ListComp e gs cs q'))) else if lcSw sc y p cs q' && (gs.length != 1) then mBad else sSetF j (cE G F D n false sc (.ListComp e gs cs q')))
        | .DictComp e f gs cs q' => if isShr D (.DictComp e f gs cs q') || gs.length != 1 then mBad else cKeep D (.DictComp e f gs cs q') (sSetF j (cE G F D n false sc (.DictComp e f gs cs q')))
        | e => if isSDC e then mBad else cKeep D e (if isNew e && !isShr D e then sSetF j (cE G F D n false sc e) else sSet j (cE G F D n false sc e)) else mBad
      | _, _ => mBad
    | .Assign [.Tuple [.Name x p, .Name y p'] k q] (.Tuple [a, b] k' q') r => match sc.names.lookup x, slotOf D.N x, sc.names.lookup y, slotOf D.N y with
      | some .local, some i, some .local, some j => if i = j ∨ parOk p p' [a, b] = false then mBad else cKeeps D [a, b] (sPar i j (cE G F D n false sc a) (cE G F D n false sc b))
      | _, _, _, _ => mBad
    | .Assign [.Tuple es k p] e _ => if isTup e || isLCm e || isSDC e then mBad else cKeep D e (sAsg (cE G F D n false sc e) (cTg D sc 9 (.Tuple es k p)))
    | .Assign [.Subscript (.Name x p) i q] e _ => if isLCm e || isSDC e || isSl i then mBad else match isLoc sc x, slotOf D.N x with
      | true, some j => cKeep D e (sPut j (cE G F D n true sc (.Name x p)) (cE G F D n true sc i) (cE G F D n false sc e))
      | _, _ => mBad
    | .Assign [.Subscript o i _] e _ => if isLCm e || isSDC e || isSl i then mBad else cKeeps D [e] (sPutS (cE G F D n true sc o) (cE G F D n true sc i) (cE G F D n false sc e))
    | .Assign [.Attribute o f _] e _ => if isLCm e || isSDC e then mBad else cKeep D e (sFldM (cE G F D n true sc o) (cE G F D n false sc e) f fun c => G.fld.contains (c, f))
    | .AugAssign (.Name x _) op e _ => match sc.names.lookup x, slotOf D.N x with
      | some .local, some i => cKeep D e (sAug i op (cE G F D n false sc e))
      | some .cell, some i => cKeep D e (sAug i op (cE G F D n false sc e))
      | _, _ => mBad
    | .If t a b _ => cKeep D t (sIf (cT G F D n sc t) (cSs sc n a) (cSs sc n b))
    | .For tg (.Call (.Attribute o m p) [] [] q) body [] _ => if mtOf m = .items then if (isTup tg && methOk o p q []) = false then mBad else sForI (cE G F D n false sc o) (cTg D sc 9 tg) (cSs sc n body) else cKeep D (.Call (.Attribute o m p) [] [] q) (sFor (cIt G F D n sc (.Call (.Attribute o m p) [] [] q)) (cTg D sc 9 tg) (cSs sc n body))
    | .For tg it body [] _ => if itFits tg it = false then mBad else cKeep D it (sFor (cIt G F D n sc it) (cTg D sc 9 tg) (cSs sc n body))
    | .While t body [] _ => cKeep D t (sWh (cT G F D n sc t) (cSs sc n body))
    | .Try body (_ :: _) [] [] _ => cSs sc n body
    | _ => mBad
def cSs (sc : Scope) : Nat → List Stmt → M Fl
  | 0, _ => mBad
  | n + 1, ss => match ss with
    | [] => sNext
    | [s] => cS sc n s
    | s :: t :: r => sSeq (cS sc n s) (cSs sc n (t :: r))
end
end
/-- a def of the text: names, scope, body -/
structure DefI where
  dx : Dx
  sc : Scope
  body : List Stmt
  /-- how many parameters -/
  np : Nat

def runB (b : M Fl) (N : List Str) (ws : List W) (S : Sto) : Res W := (b (ws.map Sl.fr ++ List.replicate (N.length - ws.length) .emp) S).bind fun f S1 => match f with
  | .nx _ => .ok .non S1
  | .rt w => .ok w S1
  | _ => .bad
def Fn (G : Glob) (P : List (Str × DefI)) : Nat → Fenv
  | 0 => fun _ _ _ => .bad
  | d + 1 => fun f ws S => match P.lookup f with
    | some i => if ws.length = i.np then runB (cSs G (Fn G P d) i.dx i.sc 300 i.body) i.dx.N ws S else .bad
    | none => .bad
end EV

namespace EV
open PySem PySem.Spec PyProof.Rows L2
/-! ### values with addresses -/
/-- a tuple that stands: tracked, or of the written part -/
def TupAt (K : PySem.W.Frag) (Z : Addr → Prop) (H : Hp) (a : Addr) (vs : List V) : Prop := (H a = some (.tup vs) ∧ ¬ Z a) ∨
  ∃ (o : Obj) (its : Array Value) (n : Nat), K.lookup a = some o ∧ o.cls = .type "tuple" ∧ o.dict = none ∧ o.data = .seq its n ∧ its.size ≤ sizeLine ∧ Vals vs its.toList
/-- a list that never changes: the script -/
def SqZ (K : PySem.W.Frag) (Z : Addr → Prop) (H : Hp) (a : Addr) (xs : List V) : Prop := (∃ o, H a = some (.frz o (.lst xs)) ∧ ¬ Z a) ∨
  ∃ (o : Obj) (its : Array Value) (n : Nat), K.lookup a = some o ∧ o.cls = .type "list" ∧ o.dict = none ∧ o.data = .seq its n ∧ its.size ≤ sizeLine ∧ Vals xs its.toList
theorem SqZ.sql {K : PySem.W.Frag} {Z : Addr → Prop} {H : Hp} {a : Addr} {xs : List V} (h : SqZ K Z H a xs) : SqL K H a xs := h.elim (fun ⟨o, h, _⟩ => .inl (.inr ⟨o, h⟩)) .inr
theorem sqz_of {K : PySem.W.Frag} {H : Hp} {a : Addr} {xs : List V} {Z : Addr → Prop} (hO : Only H) (h : SqL K H a xs) (hz : ¬ Z a) : SqZ K Z H a xs := by
  rcases h with (h | h) | h
  · rcases hO a with e | ⟨o, ys, e⟩ <;> rw [e] at h <;> cases h
  · obtain ⟨o, h⟩ := h; exact .inl ⟨o, h, hz⟩
  · exact .inr h
mutual
/-- v is w, where what stands at addresses of Z may change -/
inductive RF (K : PySem.W.Frag) (φ : List Addr) (Z : Addr → Prop) (H : Hp) : W → V → Prop
  | non : RF K φ Z H .non .non
  | bl (b : Bool) : RF K φ Z H (.bl b) (.bl b)
  | int (i : Int) : RF K φ Z H (.int i) (.int i)
  | str (s : Str) : RF K φ Z H (.str s) (.str s)
  | ty (n : String) : RF K φ Z H (.ty n) (.ty n)
  | gl (x : Str) : RF K φ Z H (.gl x) (.ref (He.ga K x))
  | loc {n : Nat} {a : Addr} : φ[n]? = some a → RF K φ Z H (.loc n) (.ref a)
  | scr {a : Addr} {vs : List V} {ws : List W} : SqZ K Z H a vs → RFs K φ Z H ws vs → RF K φ Z H (.scr ws) (.ref a)
  | tup {a : Addr} {vs : List V} {ws : List W} : TupAt K Z H a vs → RFs K φ Z H ws vs → RF K φ Z H (.tup ws) (.ref a)
  | lst {a : Addr} {vs : List V} {ws : List W} : H a = some (.lst vs) → ¬ Z a → RFs K φ Z H ws vs → RF K φ Z H (.lst ws) (.ref a)
  | dct {a : Addr} {kvs : List (Key × V)} {kws : List (Key × W)} : H a = some (.dK kvs) → ¬ Z a → RKs K φ Z H kws kvs → RF K φ Z H (.dct kws) (.ref a)
inductive RFs (K : PySem.W.Frag) (φ : List Addr) (Z : Addr → Prop) (H : Hp) : List W → List V → Prop
  | nil : RFs K φ Z H [] []
  | cons {w : W} {v : V} {ws : List W} {vs : List V} : RF K φ Z H w v → RFs K φ Z H ws vs → RFs K φ Z H (w :: ws) (v :: vs)
inductive RKs (K : PySem.W.Frag) (φ : List Addr) (Z : Addr → Prop) (H : Hp) : List (Key × W) → List (Key × V) → Prop
  | nil : RKs K φ Z H [] []
  | cons {k : Key} {w : W} {v : V} {ws : List (Key × W)} {vs : List (Key × V)} : RF K φ Z H w v → RKs K φ Z H ws vs → RKs K φ Z H ((k, w) :: ws) ((k, v) :: vs)
end
/-- a later heap, of which less may change -/
structure Later (φ : List Addr) (Z : Addr → Prop) (H : Hp) (φ' : List Addr) (Z' : Addr → Prop) (H' : Hp) : Prop where
  ix : ∀ (n : Nat) (a : Addr), φ[n]? = some a → φ'[n]? = some a
  keep : ∀ a o, ¬ Z a → H a = some o → H' a = some o
  new : ∀ a, Z' a → Z a ∨ H a = none
  fz : ∀ a o u, H a = some (.frz o u) → H' a = some (.frz o u)
theorem fz_upd {H : Hp} {p : Addr} {ho : HO} (h : ∀ o u, H p ≠ some (.frz o u)) : ∀ a o u, H a = some (.frz o u) → upd H p ho a = some (.frz o u) := fun a o u e => by
  rw [upd_ne (fun z => h o u (by rw [← z]; exact e))]; exact e
theorem nfz {H : Hp} {p : Addr} {ho : HO} (e : H p = some ho) (h : ∀ o u, ho ≠ .frz o u) : ∀ o u, H p ≠ some (.frz o u) := fun o u z => by
  rw [e] at z; cases z; exact h _ _ rfl
section
variable {K : PySem.W.Frag} {φ φ' φ'' : List Addr} {Z Z' Z'' : Addr → Prop} {H H' H'' : Hp} {a : Addr} {o : HO} {w : W} {v : V} {ws us : List W} {vs xs : List V} {kws : List (Key × W)} {kvs : List (Key × V)}
theorem Later.refl : Later φ Z H φ Z H := ⟨fun _ _ h => h, fun _ _ _ h => h, fun _ h => .inl h, fun _ _ _ h => h⟩
theorem Later.at (L : Later φ Z H φ' Z' H') (h : H a = some o) (n : ¬ Z a) : H' a = some o ∧ ¬ Z' a := ⟨L.keep _ _ n h, fun z => (L.new _ z).elim n fun e => by rw [h] at e; cases e⟩
theorem Later.trans (L : Later φ Z H φ' Z' H') (M : Later φ' Z' H' φ'' Z'' H'') : Later φ Z H φ'' Z'' H'' where
  ix := fun n a h => M.ix n a (L.ix n a h)
  fz := fun a o u h => M.fz a o u (L.fz a o u h)
  keep := fun a o n h => M.keep a o (L.at h n).2 (L.at h n).1
  new := fun a z => by
    by_cases hz : Z a
    · exact .inl hz
    · right
      cases e : H a with
      | none => rfl
      | some o =>
        obtain ⟨e1, n1⟩ := L.at e hz
        rcases M.new a z with z | z
        · exact absurd z n1
        · rw [e1] at z; cases z
theorem Later.same (e : Same H H') (z : ∀ a, Z' a → Z a) : Later φ Z H φ Z' H' := ⟨fun _ _ h => h, fun a o _ h => e a o h, fun a h => .inl (z a h), fun a o u h => e a _ h⟩
theorem Later.less (z : ∀ a, Z' a → Z a) : Later φ Z H φ Z' H := .same (Same.refl H) z
theorem TupAt.mono (L : Later φ Z H φ' Z' H') (h : TupAt K Z H a vs) : TupAt K Z' H' a vs := h.elim (fun ⟨e, n⟩ => .inl (L.at e n)) .inr
mutual
theorem RF.mono (L : Later φ Z H φ' Z' H') : ∀ {w : W} {v : V}, RF K φ Z H w v → RF K φ' Z' H' w v
  | _, _, .non => .non
  | _, _, .bl b => .bl b
  | _, _, .int i => .int i
  | _, _, .str s => .str s
  | _, _, .ty n => .ty n
  | _, _, .gl x => .gl x
  | _, _, .loc h => .loc (L.ix _ _ h)
  | _, _, .scr h r => .scr (h.elim (fun ⟨o, h, n⟩ => .inl ⟨o, L.at h n⟩) .inr) (RFs.mono L r)
  | _, _, .tup h r => .tup (TupAt.mono L h) (RFs.mono L r)
  | _, _, .lst h n r => .lst (L.at h n).1 (L.at h n).2 (RFs.mono L r)
  | _, _, .dct h n r => .dct (L.at h n).1 (L.at h n).2 (RKs.mono L r)
theorem RFs.mono (L : Later φ Z H φ' Z' H') : ∀ {ws : List W} {vs : List V}, RFs K φ Z H ws vs → RFs K φ' Z' H' ws vs
  | _, _, .nil => .nil
  | _, _, .cons a b => .cons (RF.mono L a) (RFs.mono L b)
theorem RKs.mono (L : Later φ Z H φ' Z' H') : ∀ {ws : List (Key × W)} {vs : List (Key × V)}, RKs K φ Z H ws vs → RKs K φ' Z' H' ws vs
  | _, _, .nil => .nil
  | _, _, .cons a b => .cons (RF.mono L a) (RKs.mono L b)
end
/-- the same, where frozen things may thaw -/
structure Later0 (φ : List Addr) (Z : Addr → Prop) (H : Hp) (φ' : List Addr) (Z' : Addr → Prop) (H' : Hp) : Prop where
  ix : ∀ (n : Nat) (a : Addr), φ[n]? = some a → φ'[n]? = some a
  keep : ∀ a o, ¬ Z a → H a = some o → H' a = some o
  new : ∀ a, Z' a → Z a ∨ H a = none
theorem Later0.at (L : Later0 φ Z H φ' Z' H') (h : H a = some o) (n : ¬ Z a) : H' a = some o ∧ ¬ Z' a := ⟨L.keep _ _ n h, fun z => (L.new _ z).elim n fun e => by rw [h] at e; cases e⟩
theorem TupAt.mono0 (L : Later0 φ Z H φ' Z' H') (h : TupAt K Z H a vs) : TupAt K Z' H' a vs := h.elim (fun ⟨e, n⟩ => .inl (L.at e n)) .inr
mutual
theorem RF.mono0 (L : Later0 φ Z H φ' Z' H') : ∀ {w : W} {v : V}, RF K φ Z H w v → RF K φ' Z' H' w v
  | _, _, .non => .non
  | _, _, .bl b => .bl b
  | _, _, .int i => .int i
  | _, _, .str s => .str s
  | _, _, .ty n => .ty n
  | _, _, .gl x => .gl x
  | _, _, .loc h => .loc (L.ix _ _ h)
  | _, _, .scr h r => .scr (h.elim (fun ⟨o, h, n⟩ => .inl ⟨o, L.at h n⟩) .inr) (RFs.mono0 L r)
  | _, _, .tup h r => .tup (TupAt.mono0 L h) (RFs.mono0 L r)
  | _, _, .lst h n r => .lst (L.at h n).1 (L.at h n).2 (RFs.mono0 L r)
  | _, _, .dct h n r => .dct (L.at h n).1 (L.at h n).2 (RKs.mono0 L r)
theorem RFs.mono0 (L : Later0 φ Z H φ' Z' H') : ∀ {ws : List W} {vs : List V}, RFs K φ Z H ws vs → RFs K φ' Z' H' ws vs
  | _, _, .nil => .nil
  | _, _, .cons a b => .cons (RF.mono0 L a) (RFs.mono0 L b)
theorem RKs.mono0 (L : Later0 φ Z H φ' Z' H') : ∀ {ws : List (Key × W)} {vs : List (Key × V)}, RKs K φ Z H ws vs → RKs K φ' Z' H' ws vs
  | _, _, .nil => .nil
  | _, _, .cons a b => .cons (RF.mono0 L a) (RKs.mono0 L b)
end
theorem rf_kW (k : Key) : RF K φ Z H (kW k) (kV k) := by cases k <;> first | exact .int _ | exact .str _
theorem RKs.keysF : ∀ {kws : List (Key × W)} {kvs : List (Key × V)}, RKs K φ Z H kws kvs → RFs K φ Z H (kws.map fun kv => kW kv.1) (kvs.map fun kv => kV kv.1)
  | _, _, .nil => .nil
  | _, _, .cons _ b => .cons (rf_kW _) b.keysF
theorem RFs.len : ∀ {ws : List W} {vs : List V}, RFs K φ Z H ws vs → ws.length = vs.length
  | _, _, .nil => rfl
  | _, _, .cons _ b => congrArg Nat.succ b.len
theorem RFs.append : ∀ {ws us : List W} {vs xs : List V}, RFs K φ Z H ws vs → RFs K φ Z H us xs → RFs K φ Z H (ws ++ us) (vs ++ xs)
  | _, _, _, _, .nil, s => s
  | _, _, _, _, .cons a b, s => .cons a (b.append s)
theorem RFs.get : ∀ {ws : List W} {vs : List V} {i : Nat} {w : W}, RFs K φ Z H ws vs → ws[i]? = some w → ∃ v, vs[i]? = some v ∧ RF K φ Z H w v
  | _, _, _, _, .nil, e => by simp at e
  | _, _, 0, _, .cons a _, e => by simp at e; subst e; exact ⟨_, rfl, a⟩
  | _, _, i + 1, _, .cons _ b, e => by simpa using b.get (i := i) (by simpa using e)
theorem RFs.set : ∀ {ws : List W} {vs : List V} {w : W} {v : V} (i : Nat), RFs K φ Z H ws vs → RF K φ Z H w v → RFs K φ Z H (ws.set i w) (vs.set i v)
  | _, _, _, _, _, .nil, _ => .nil
  | _, _, _, _, 0, .cons _ b, r => .cons r b
  | _, _, _, _, i + 1, .cons a b, r => .cons a (b.set i r)
theorem RFs.take : ∀ {ws : List W} {vs : List V} (n : Nat), RFs K φ Z H ws vs → RFs K φ Z H (ws.take n) (vs.take n)
  | _, _, 0, _ => .nil
  | _, _, _ + 1, .nil => .nil
  | _, _, n + 1, .cons a b => .cons a (b.take n)
theorem RFs.drop : ∀ {ws : List W} {vs : List V} (n : Nat), RFs K φ Z H ws vs → RFs K φ Z H (ws.drop n) (vs.drop n)
  | _, _, 0, r => r
  | _, _, _ + 1, .nil => .nil
  | _, _, n + 1, .cons _ b => b.drop n
theorem RFs.eraseIdx : ∀ {ws : List W} {vs : List V} (i : Nat), RFs K φ Z H ws vs → RFs K φ Z H (ws.eraseIdx i) (vs.eraseIdx i)
  | _, _, _, .nil => .nil
  | _, _, 0, .cons _ b => b
  | _, _, i + 1, .cons a b => .cons a (b.eraseIdx i)
theorem RFs.dropLast (r : RFs K φ Z H ws vs) : RFs K φ Z H ws.dropLast vs.dropLast := by
  rw [List.dropLast_eq_take, List.dropLast_eq_take, ← r.len]
  exact r.take _
theorem RFs.reverse : ∀ {ws : List W} {vs : List V}, RFs K φ Z H ws vs → RFs K φ Z H ws.reverse vs.reverse
  | _, _, .nil => .nil
  | _, _, .cons a b => by rw [List.reverse_cons, List.reverse_cons]; exact b.reverse.append (.cons a .nil)
theorem RFs.rep (r : RFs K φ Z H ws vs) : ∀ k : Nat, RFs K φ Z H (List.replicate k ws).flatten (List.replicate k vs).flatten
  | 0 => .nil
  | k + 1 => by simp only [List.replicate_succ, List.flatten_cons]; exact r.append (r.rep k)
theorem RFs.cut (r : RFs K φ Z H ws vs) (lo hi : Option Int) : RFs K φ Z H (wcut ws lo hi) (cutV vs lo hi) := by
  unfold wcut cutV
  rw [r.len]
  exact (r.drop _).take _
theorem RFs.atI (r : RFs K φ Z H ws vs) {i : Int} (e : L2.atI ws i = some w) : ∃ v, L2.atI vs i = some v ∧ RF K φ Z H w v := by
  unfold L2.atI at e ⊢
  rw [← r.len]
  cases h : ixN ws.length i with
  | none => rw [h] at e; cases e
  | some j =>
    rw [h] at e
    exact r.get e
theorem RFs.one (r : RFs K φ Z H [w] vs) : ∃ v, vs = [v] ∧ RF K φ Z H w v := by
  cases r with
  | cons a b => cases b; exact ⟨_, rfl, a⟩
theorem RFs.cons_inv (r : RFs K φ Z H (w :: ws) vs) : ∃ v us, vs = v :: us ∧ RF K φ Z H w v ∧ RFs K φ Z H ws us := by
  cases r with
  | cons a b => exact ⟨_, _, rfl, a, b⟩
theorem RFs.nil_inv (r : RFs K φ Z H [] vs) : vs = [] := by cases r; rfl
/-! ### dicts -/
theorem RKs.val (k : Key) : ∀ {kws : List (Key × W)} {kvs : List (Key × V)}, RKs K φ Z H kws kvs → (dval kws k = none ∧ valV kvs k = none) ∨ ∃ w v, dval kws k = some w ∧ valV kvs k = some v ∧ RF K φ Z H w v
  | _, _, .nil => .inl ⟨rfl, rfl⟩
  | _, _, @RKs.cons _ _ _ _ j w v _ _ a b => by
    by_cases e : j = k
    · refine .inr ⟨w, v, ?_, ?_, a⟩ <;> simp [dval, valV, List.find?_cons, e]
    · have := b.val k
      simpa [dval, valV, List.find?_cons, e] using this
theorem RKs.len : ∀ {kws : List (Key × W)} {kvs : List (Key × V)}, RKs K φ Z H kws kvs → kws.length = kvs.length
  | _, _, .nil => rfl
  | _, _, .cons _ b => congrArg Nat.succ b.len
theorem RKs.any (p : Key → Bool) : ∀ {kws : List (Key × W)} {kvs : List (Key × V)}, RKs K φ Z H kws kvs → (kws.any fun kv => p kv.1) = kvs.any fun kv => p kv.1
  | _, _, .nil => rfl
  | _, _, .cons _ b => by simp only [List.any_cons, b.any p]
theorem RKs.append : ∀ {kws kus : List (Key × W)} {kvs kxs : List (Key × V)}, RKs K φ Z H kws kvs → RKs K φ Z H kus kxs → RKs K φ Z H (kws ++ kus) (kvs ++ kxs)
  | _, _, _, _, .nil, s => s
  | _, _, _, _, .cons a b, s => .cons a (b.append s)
theorem RKs.repl (k : Key) (r : RF K φ Z H w v) : ∀ {kws : List (Key × W)} {kvs : List (Key × V)}, RKs K φ Z H kws kvs → RKs K φ Z H (kws.map fun kv => if kv.1 = k then (kv.1, w) else kv) (kvs.map fun kv => if kv.1 = k then (kv.1, v) else kv)
  | _, _, .nil => .nil
  | _, _, @RKs.cons _ _ _ _ j _ _ _ _ a b => by
    simp only [List.map_cons]
    by_cases e : j = k
    · rw [if_pos e, if_pos e]; exact .cons r (b.repl k r)
    · rw [if_neg e, if_neg e]; exact .cons a (b.repl k r)
theorem RKs.put (k : Key) (r : RF K φ Z H w v) (b : RKs K φ Z H kws kvs) : RKs K φ Z H (dput kws k w) (putK kvs k v) := by
  unfold dput putK
  rw [b.any (fun j => decide (j = k))]
  split
  · exact b.repl k r
  · exact b.append (.cons r .nil)
theorem RKs.get : ∀ {kws : List (Key × W)} {kvs : List (Key × V)} {i : Nat} {k : Key} {w : W}, RKs K φ Z H kws kvs → kws[i]? = some (k, w) → ∃ v, kvs[i]? = some (k, v) ∧ RF K φ Z H w v
  | _, _, _, _, _, .nil, e => by simp at e
  | _, _, 0, _, _, .cons a _, e => by simp at e; obtain ⟨rfl, rfl⟩ := e; exact ⟨_, rfl, a⟩
  | _, _, i + 1, _, _, .cons _ b, e => by simpa using b.get (i := i) (by simpa using e)
theorem RKs.merge : ∀ {more : List (Key × W)} {mv : List (Key × V)} {kws : List (Key × W)} {kvs : List (Key × V)}, RKs K φ Z H more mv → RKs K φ Z H kws kvs → RKs K φ Z H (dmerge kws more) (mergeK kvs mv)
  | _, _, _, _, .nil, s => s
  | _, _, _, _, @RKs.cons _ _ _ _ k w v more mv a b, s => (RKs.merge b (s.put k a) : RKs K φ Z H (dmerge (dput _ k w) more) (mergeK (putK _ k v) mv))
end
/-! ### states -/
/-- the entry of a def: the shared objects, the heap, what others own -/
structure Ent where
  φ : List Addr
  H : Hp
  Z : Addr → Prop
/-- .. and p -/
def Ent.plus (E : Ent) (p : Addr) : Ent := { E with Z := fun a => E.Z a ∨ a = p }
/-- what may change -/
def ZZ (E : Ent) (σw : Sls) (φ : List Addr) (σ : L2.St) (a : Addr) : Prop := E.Z a ∨ a ∈ φ ∨ ∃ (i : Nat) (w : W), σw[i]? = some (.ow w) ∧ σ[i]? = some (some (.ref a))
/-- a list or dict of one's own -/
def Holds (K : PySem.W.Frag) (φ : List Addr) (Z : Addr → Prop) (H : Hp) (w : W) (a : Addr) : Prop :=
  (∃ ws vs, w = .lst ws ∧ H a = some (.lst vs) ∧ RFs K φ Z H ws vs) ∨ ∃ kws kvs, w = .dct kws ∧ H a = some (.dK kvs) ∧ RKs K φ Z H kws kvs
def RL (K : PySem.W.Frag) (φ : List Addr) (Z : Addr → Prop) (H : Hp) (fs : List (Str × W)) (gs : List (Str × V)) : Prop := Paired (fun (p : Str × W) (q : Str × V) => p.1 = q.1 ∧ RF K φ Z H p.2 q.2) fs gs
/-- a shared object -/
def HoldsO (K : PySem.W.Frag) (φ : List Addr) (Z : Addr → Prop) (H : Hp) (ob : Ob) (a : Addr) : Prop := match ob with
  | .lst ws => ∃ vs, H a = some (.lst vs) ∧ RFs K φ Z H ws vs
  | .dct kws => ∃ kvs, H a = some (.dK kvs) ∧ RKs K φ Z H kws kvs
  | .ins c fs => ∃ dx gs, H a = some (.ins (He.ga K c) dx gs) ∧ RL K φ Z H fs gs
  | .frz ws => ∃ o vs, H a = some (.frz o (.lst vs)) ∧ RFs K φ Z H ws vs
  | .lck kws => ∃ o kvs, H a = some (.frz o (.dK kvs)) ∧ RKs K φ Z H kws kvs
structure StOk (K : PySem.W.Frag) (S : Sto) (φ : List Addr) (Z : Addr → Prop) (H : Hp) : Prop where
  len : φ.length = S.length
  nd : φ.Nodup
  ob : ∀ (n : Nat) (ob : Ob) (a : Addr), S[n]? = some ob → φ[n]? = some a → HoldsO K φ Z H ob a
structure Rl (K : PySem.W.Frag) (E : Ent) (σw : Sls) (S : Sto) (φ : List Addr) (σ : L2.St) (H : Hp) : Prop where
  st : StOk K S φ (ZZ E σw φ σ) H
  len : σ.length = σw.length
  fr : ∀ (i : Nat) (w : W), σw[i]? = some (.fr w) → ∃ v, σ[i]? = some (some v) ∧ RF K φ (ZZ E σw φ σ) H w v
  ow : ∀ (i : Nat) (w : W), σw[i]? = some (.ow w) → ∃ a, σ[i]? = some (some (.ref a)) ∧ Holds K φ (ZZ E σw φ σ) H w a ∧ a ∉ φ ∧ ¬ E.Z a ∧ E.H a = none
  inj : ∀ (i j : Nat) (w w' : W) (a : Addr), σw[i]? = some (.ow w) → σw[j]? = some (.ow w') → σ[i]? = some (some (.ref a)) → σ[j]? = some (some (.ref a)) → i = j
  zφ : ∀ a, a ∈ φ → ¬ E.Z a
  zal : ∀ a, E.Z a → H a ≠ none
  eφ : ∀ (n : Nat) (a : Addr), E.φ[n]? = some a → φ[n]? = some a
  ekeep : ∀ a o, a ∉ E.φ → E.H a = some o → H a = some o
  enew : ∀ a, a ∈ φ → a ∈ E.φ ∨ E.H a = none
  efz : ∀ a o u, E.H a = some (.frz o u) → H a = some (.frz o u)
/-- behind an expression: shared objects may have changed, nothing else -/
structure Ext (φ : List Addr) (H : Hp) (φ' : List Addr) (H' : Hp) : Prop where
  ix : ∀ (n : Nat) (a : Addr), φ[n]? = some a → φ'[n]? = some a
  keep : ∀ a o, a ∉ φ → H a = some o → H' a = some o
  new : ∀ a, a ∈ φ' → a ∈ φ ∨ H a = none
  fz : ∀ a o u, H a = some (.frz o u) → H' a = some (.frz o u)
section
variable {K : PySem.W.Frag} {E : Ent} {σw : Sls} {S S' : Sto} {φ φ' φ'' : List Addr} {Z Z' : Addr → Prop} {σ : L2.St} {H H' H'' : Hp} {a p : Addr} {o : HO} {w : W} {v : V} {ws : List W} {vs : List V} {ob : Ob}
theorem Ext.refl : Ext φ H φ H := ⟨fun _ _ h => h, fun _ _ _ h => h, fun _ h => .inl h, fun _ _ _ h => h⟩
theorem Ext.same (e : Same H H') : Ext φ H φ H' := ⟨fun _ _ h => h, fun a o _ h => e a o h, fun _ h => .inl h, fun a o u h => e a _ h⟩
theorem mem_of_ix {l : List Addr} {n : Nat} {a : Addr} (h : l[n]? = some a) : a ∈ l := List.mem_of_getElem? h
theorem Ext.trans (x : Ext φ H φ' H') (y : Ext φ' H' φ'' H'') : Ext φ H φ'' H'' where
  ix := fun n a h => y.ix n a (x.ix n a h)
  fz := fun a o u h => y.fz a o u (x.fz a o u h)
  keep := fun a o n h => y.keep a o (fun m => (x.new a m).elim n fun e => by rw [h] at e; cases e) (x.keep a o n h)
  new := fun a m => by
    by_cases ha : a ∈ φ
    · exact .inl ha
    · rcases y.new a m with m | e
      · exact x.new a m
      · right
        cases q : H a with
        | none => rfl
        | some o => rw [x.keep a o ha q] at e; cases e
theorem Ext.later (x : Ext φ H φ' H') : Later φ (ZZ E σw φ σ) H φ' (ZZ E σw φ' σ) H' where
  ix := x.ix
  fz := x.fz
  keep := fun a o n h => x.keep a o (fun m => n (.inr (.inl m))) h
  new := fun a z => by
    rcases z with z | z | z
    · exact .inl (.inl z)
    · exact (x.new a z).elim (fun m => .inl (.inr (.inl m))) .inr
    · exact .inl (.inr (.inr z))
theorem Holds.mono (L : Later φ Z H φ' Z' H') (k : ∀ o, H a = some o → H' a = some o) (h : Holds K φ Z H w a) : Holds K φ' Z' H' w a := by
  rcases h with ⟨ws, vs, e, h, r⟩ | ⟨ws, vs, e, h, r⟩
  · exact .inl ⟨ws, vs, e, k _ h, r.mono L⟩
  · exact .inr ⟨ws, vs, e, k _ h, r.mono L⟩
theorem RL.mono (L : Later φ Z H φ' Z' H') {fs : List (Str × W)} {gs : List (Str × V)} (h : RL K φ Z H fs gs) : RL K φ' Z' H' fs gs := Paired.mapP h fun _ _ r => ⟨r.1, r.2.mono L⟩
theorem HoldsO.mono (L : Later φ Z H φ' Z' H') (k : ∀ o, H a = some o → H' a = some o) (h : HoldsO K φ Z H ob a) : HoldsO K φ' Z' H' ob a := by
  cases ob with
  | lst ws => obtain ⟨vs, h, r⟩ := h; exact ⟨vs, k _ h, r.mono L⟩
  | dct ws => obtain ⟨vs, h, r⟩ := h; exact ⟨vs, k _ h, r.mono L⟩
  | ins c fs => obtain ⟨dx, gs, h, r⟩ := h; exact ⟨dx, gs, k _ h, RL.mono L r⟩
  | frz ws => obtain ⟨o, vs, h, r⟩ := h; exact ⟨o, vs, k _ h, r.mono L⟩
  | lck ws => obtain ⟨o, vs, h, r⟩ := h; exact ⟨o, vs, k _ h, r.mono L⟩
theorem Holds.mono0 (L : Later0 φ Z H φ' Z' H') (k : ∀ o, H a = some o → H' a = some o) (h : Holds K φ Z H w a) : Holds K φ' Z' H' w a := by
  rcases h with ⟨ws, vs, e, h, r⟩ | ⟨ws, vs, e, h, r⟩
  · exact .inl ⟨ws, vs, e, k _ h, r.mono0 L⟩
  · exact .inr ⟨ws, vs, e, k _ h, r.mono0 L⟩
theorem RL.mono0 (L : Later0 φ Z H φ' Z' H') {fs : List (Str × W)} {gs : List (Str × V)} (h : RL K φ Z H fs gs) : RL K φ' Z' H' fs gs := Paired.mapP h fun _ _ r => ⟨r.1, r.2.mono0 L⟩
theorem HoldsO.mono0 (L : Later0 φ Z H φ' Z' H') (k : ∀ o, H a = some o → H' a = some o) (h : HoldsO K φ Z H ob a) : HoldsO K φ' Z' H' ob a := by
  cases ob with
  | lst ws => obtain ⟨vs, h, r⟩ := h; exact ⟨vs, k _ h, r.mono0 L⟩
  | dct ws => obtain ⟨vs, h, r⟩ := h; exact ⟨vs, k _ h, r.mono0 L⟩
  | ins c fs => obtain ⟨dx, gs, h, r⟩ := h; exact ⟨dx, gs, k _ h, RL.mono0 L r⟩
  | frz ws => obtain ⟨o, vs, h, r⟩ := h; exact ⟨o, vs, k _ h, r.mono0 L⟩
  | lck ws => obtain ⟨o, vs, h, r⟩ := h; exact ⟨o, vs, k _ h, r.mono0 L⟩
theorem Holds.got (h : Holds K φ Z H w a) : ∃ o, H a = some o := by
  rcases h with ⟨ws, vs, e, h, r⟩ | ⟨ws, vs, e, h, r⟩ <;> exact ⟨_, h⟩
theorem HoldsO.got (h : HoldsO K φ Z H ob a) : ∃ o, H a = some o := by
  cases ob with
  | lst ws => obtain ⟨vs, h, r⟩ := h; exact ⟨_, h⟩
  | dct ws => obtain ⟨vs, h, r⟩ := h; exact ⟨_, h⟩
  | ins c fs => obtain ⟨dx, gs, h, r⟩ := h; exact ⟨_, h⟩
  | frz ws => obtain ⟨o, vs, h, r⟩ := h; exact ⟨_, h⟩
  | lck ws => obtain ⟨o, vs, h, r⟩ := h; exact ⟨_, h⟩
theorem StOk.at (st : StOk K S φ Z H) {n : Nat} (e : S[n]? = some ob) : ∃ a, φ[n]? = some a ∧ HoldsO K φ Z H ob a := by
  obtain ⟨hn, _⟩ := List.getElem?_eq_some_iff.mp e
  have h : n < φ.length := by rw [st.len]; exact hn
  exact ⟨φ[n], List.getElem?_eq_getElem h, st.ob n ob _ e (List.getElem?_eq_getElem h)⟩
theorem StOk.mem (st : StOk K S φ Z H) (m : a ∈ φ) : ∃ (n : Nat) (ob : Ob), S[n]? = some ob ∧ φ[n]? = some a ∧ HoldsO K φ Z H ob a := by
  obtain ⟨n, e⟩ := List.mem_iff_getElem?.mp m
  obtain ⟨hn, _⟩ := List.getElem?_eq_some_iff.mp e
  have h : n < S.length := by rw [← st.len]; exact hn
  exact ⟨n, S[n], List.getElem?_eq_getElem h, e, st.ob n _ a (List.getElem?_eq_getElem h) e⟩
theorem StOk.got (st : StOk K S φ Z H) (m : a ∈ φ) : ∃ o, H a = some o := by
  obtain ⟨n, ob, _, _, h⟩ := st.mem m
  exact h.got
theorem ix_inj {l : List Addr} (nd : l.Nodup) {i j : Nat} {a : Addr} (h : l[i]? = some a) (h' : l[j]? = some a) : i = j := by
  obtain ⟨hi, e⟩ := List.getElem?_eq_some_iff.mp h
  obtain ⟨hj, e'⟩ := List.getElem?_eq_some_iff.mp h'
  rcases Nat.lt_trichotomy i j with g | g | g
  · exact absurd (e.trans e'.symm) (List.pairwise_iff_getElem.mp nd i j hi hj g)
  · exact g
  · exact absurd (e'.trans e.symm) (List.pairwise_iff_getElem.mp nd j i hj hi g)
theorem StOk.mono (st : StOk K S φ Z H) (L : Later φ Z H φ Z' H') (k : ∀ a o, a ∈ φ → H a = some o → H' a = some o) : StOk K S φ Z' H' :=
  ⟨st.len, st.nd, fun n ob a e f => (st.ob n ob a e f).mono L fun o h => k a o (mem_of_ix f) h⟩
/-- one shared object is written -/
theorem StOk.set (st : StOk K S φ Z H) {n : Nat} (hp : φ[n]? = some p) (L : Later φ Z H φ Z' (upd H p o)) (h : HoldsO K φ Z' (upd H p o) ob p) : StOk K (S.set n ob) φ Z' (upd H p o) := by
  refine ⟨by rw [List.length_set]; exact st.len, st.nd, fun m ob' a e f => ?_⟩
  by_cases hm : n = m
  · subst hm
    rw [hp] at f; cases f
    obtain ⟨hn, _⟩ := List.getElem?_eq_some_iff.mp hp
    rw [List.getElem?_set_self (by rw [← st.len]; exact hn)] at e
    cases e
    exact h
  · rw [List.getElem?_set_ne hm] at e
    refine (st.ob m ob' a e f).mono L fun u hu => ?_
    rw [upd_ne (fun z : a = p => hm (ix_inj st.nd hp (by rw [← z]; exact f)))]
    exact hu
theorem Rl.alloc (R : Rl K E σw S φ σ H) (z : ZZ E σw φ σ a) : ∃ o, H a = some o := by
  rcases z with z | z | ⟨i, w, e, f⟩
  · cases q : H a with
    | none => exact absurd q (R.zal a z)
    | some o => exact ⟨o, rfl⟩
  · exact R.st.got z
  · obtain ⟨b, g, h, _⟩ := R.ow i w e
    rw [f] at g; cases g
    exact h.got
theorem Rl.free (R : Rl K E σw S φ σ H) (h : H a = none) : ¬ ZZ E σw φ σ a := fun z => by
  obtain ⟨o, e⟩ := R.alloc z
  rw [h] at e; cases e
/-- behind an expression -/
theorem Rl.ext (R : Rl K E σw S φ σ H) (x : Ext φ H φ' H') (st : StOk K S' φ' (ZZ E σw φ' σ) H') : Rl K E σw S' φ' σ H' := by
  have L := x.later (E := E) (σw := σw) (σ := σ)
  have nφ : ∀ a o, H a = some o → a ∉ φ → a ∉ φ' := fun a o h n m => (x.new a m).elim n fun e => by rw [h] at e; cases e
  have enφ : ∀ a o, a ∉ E.φ → E.H a = some o → a ∉ φ := fun a o n h m => (R.enew a m).elim n fun e => by rw [h] at e; cases e
  refine ⟨st, R.len, fun i w e => ?_, fun i w e => ?_, R.inj, fun a m z => ?_, fun a z => ?_, fun n a h => x.ix n a (R.eφ n a h), fun a o n h => x.keep a o (enφ a o n h) (R.ekeep a o n h), fun a m => ?_, fun a o u h => x.fz a o u (R.efz a o u h)⟩
  · obtain ⟨v, f, r⟩ := R.fr i w e
    exact ⟨v, f, r.mono L⟩
  · obtain ⟨a, f, h, n1, n2, n3⟩ := R.ow i w e
    obtain ⟨o, ho⟩ := h.got
    exact ⟨a, f, h.mono L fun o h => x.keep a o n1 h, nφ a o ho n1, n2, n3⟩
  · rcases x.new a m with m | e
    · exact R.zφ a m z
    · exact R.zal a z e
  · cases q : H a with
    | none => exact absurd q (R.zal a z)
    | some o => rw [x.keep a o (fun m => R.zφ a m z) q]; simp
  · rcases x.new a m with m | e
    · exact R.enew a m
    · by_cases hm : a ∈ E.φ
      · exact .inl hm
      · right
        cases q : E.H a with
        | none => rfl
        | some o => rw [R.ekeep a o hm q] at e; cases e
theorem Rl.same (R : Rl K E σw S φ σ H) (e : Same H H') : Rl K E σw S φ σ H' := R.ext (.same e) (R.st.mono (.same e fun _ z => z) fun a o _ h => e a o h)
/-- the plus of an address that nothing speaks of -/
theorem zz_plus {z : ZZ (E.plus p) σw φ σ a} : ZZ E σw φ σ a ∨ a = p := by
  rcases z with (z | z) | z
  · exact .inl (.inl z)
  · exact .inr z
  · exact .inl (.inr z)
theorem Rl.plus (R : Rl K E σw S φ σ H) (hp : H p = none) : Rl K (E.plus p) σw S φ σ (upd H p o) := by
  have nz := R.free hp
  have e : Same H (upd H p o) := fun a u h => by rw [upd_ne (ne_of_none h hp)]; exact h
  have L : Later φ (ZZ E σw φ σ) H φ (ZZ (E.plus p) σw φ σ) (upd H p o) := ⟨fun _ _ h => h, fun a o _ h => e a o h, fun a z => (zz_plus (z := z)).imp id fun q => by rw [q]; exact hp, fun a o u h => e a _ h⟩
  have R' := R.same e
  refine ⟨R.st.mono L fun a o _ h => e a o h, R.len, fun i w f => ?_, fun i w f => ?_, R.inj, fun a m z => ?_, fun a z => ?_, R.eφ, R'.ekeep, R.enew, R'.efz⟩
  · obtain ⟨v, g, r⟩ := R.fr i w f
    exact ⟨v, g, r.mono L⟩
  · obtain ⟨a, g, h, n1, n2, n3⟩ := R.ow i w f
    refine ⟨a, g, h.mono L fun o h => e a o h, n1, fun z => z.elim n2 fun q => ?_, n3⟩
    obtain ⟨o, ho⟩ := h.got
    rw [q, hp] at ho; cases ho
  · rcases z with z | z
    · exact R.zφ a m z
    · subst z
      obtain ⟨o, ho⟩ := R.st.got m
      rw [hp] at ho; cases ho
  · rcases z with z | z
    · exact R'.zal a z
    · subst z; rw [upd_same]; simp
/-- .. and back -/
theorem Rl.minus (R : Rl K (E.plus p) σw S φ σ H) : Rl K E σw S φ σ H := by
  have z : ∀ a, ZZ E σw φ σ a → ZZ (E.plus p) σw φ σ a := fun a z => z.imp .inl id
  have L : Later φ (ZZ (E.plus p) σw φ σ) H φ (ZZ E σw φ σ) H := .less z
  refine ⟨R.st.mono L fun a o _ h => h, R.len, fun i w f => ?_, fun i w f => ?_, R.inj, fun a m z => R.zφ a m (.inl z), fun a z => R.zal a (.inl z), R.eφ, R.ekeep, R.enew, R.efz⟩
  · obtain ⟨v, g, r⟩ := R.fr i w f
    exact ⟨v, g, r.mono L⟩
  · obtain ⟨a, g, h, n1, n2, n3⟩ := R.ow i w f
    exact ⟨a, g, h.mono L fun o h => h, n1, fun z => n2 (.inl z), n3⟩
/-! ### what an expression gives -/
/-- its value, handed on; or (br) looked at: a slot's own list, too -/
def RX (K : PySem.W.Frag) (E : Ent) (σw : Sls) (φ : List Addr) (σ : L2.St) (H : Hp) (br : Bool) (w : W) (v : V) : Prop :=
  RF K φ (ZZ E σw φ σ) H w v ∨ (br = true ∧ ∃ (i : Nat) (a : Addr), σw[i]? = some (.ow w) ∧ σ[i]? = some (some (.ref a)) ∧ v = .ref a)
inductive RXs (K : PySem.W.Frag) (E : Ent) (σw : Sls) (φ : List Addr) (σ : L2.St) (H : Hp) (br : Bool) : List W → List V → Prop
  | nil : RXs K E σw φ σ H br [] []
  | cons {w : W} {v : V} {ws : List W} {vs : List V} : RX K E σw φ σ H br w v → RXs K E σw φ σ H br ws vs → RXs K E σw φ σ H br (w :: ws) (v :: vs)
theorem RX.ext {br : Bool} (x : Ext φ H φ' H') (r : RX K E σw φ σ H br w v) : RX K E σw φ' σ H' br w v := r.imp (fun r => r.mono x.later) id
theorem RXs.ext {br : Bool} (x : Ext φ H φ' H') : ∀ {ws : List W} {vs : List V}, RXs K E σw φ σ H br ws vs → RXs K E σw φ' σ H' br ws vs
  | _, _, .nil => .nil
  | _, _, .cons a b => .cons (a.ext x) (b.ext x)
theorem RX.fr (r : RX K E σw φ σ H false w v) : RF K φ (ZZ E σw φ σ) H w v := r.elim id fun h => by cases h.1
theorem RXs.fr : ∀ {ws : List W} {vs : List V}, RXs K E σw φ σ H false ws vs → RFs K φ (ZZ E σw φ σ) H ws vs
  | _, _, .nil => .nil
  | _, _, .cons a b => .cons a.fr b.fr
theorem RFs.rx {br : Bool} : ∀ {ws : List W} {vs : List V}, RFs K φ (ZZ E σw φ σ) H ws vs → RXs K E σw φ σ H br ws vs
  | _, _, .nil => .nil
  | _, _, .cons a b => .cons (.inl a) b.rx
theorem RXs.len {br : Bool} : ∀ {ws : List W} {vs : List V}, RXs K E σw φ σ H br ws vs → ws.length = vs.length
  | _, _, .nil => rfl
  | _, _, .cons _ b => congrArg Nat.succ b.len
/-- a value that is new (it was not at H0), if it is a list or a dict: nothing else speaks of it -/
def New (K : PySem.W.Frag) (E : Ent) (σw : Sls) (S : Sto) (φ : List Addr) (σ : L2.St) (H0 H : Hp) (w : W) (v : V) : Prop := match w with
  | .lst ws => ∃ p vs, v = .ref p ∧ H p = some (.lst vs) ∧ H0 p = none ∧ ¬ ZZ E σw φ σ p ∧ E.H p = none ∧ Rl K (E.plus p) σw S φ σ H ∧ RFs K φ (ZZ (E.plus p) σw φ σ) H ws vs
  | .dct ws => ∃ p vs, v = .ref p ∧ H p = some (.dK vs) ∧ H0 p = none ∧ ¬ ZZ E σw φ σ p ∧ E.H p = none ∧ Rl K (E.plus p) σw S φ σ H ∧ RKs K φ (ZZ (E.plus p) σw φ σ) H ws vs
  | w => Rl K E σw S φ σ H ∧ RF K φ (ZZ E σw φ σ) H w v
theorem New.rl {H0 : Hp} (h : New K E σw S φ σ H0 H w v) : Rl K E σw S φ σ H := by
  cases w <;> first | exact h.1 | (obtain ⟨p, vs, _, _, _, _, _, R, _⟩ := h; exact R.minus)
theorem zz_of_plus (z : ZZ E σw φ σ a) : ZZ (E.plus p) σw φ σ a := z.imp .inl id
theorem New.rf {H0 : Hp} (h : New K E σw S φ σ H0 H w v) : RF K φ (ZZ E σw φ σ) H w v := by
  cases w with
  | lst ws => obtain ⟨p, vs, rfl, hp, _, nz, _, R, r⟩ := h; exact .lst hp nz (r.mono (.less fun _ => zz_of_plus))
  | dct ws => obtain ⟨p, vs, rfl, hp, _, nz, _, R, r⟩ := h; exact .dct hp nz (r.mono (.less fun _ => zz_of_plus))
  | _ => exact h.2
/-- what is new at the end was not at the start -/
theorem ext_none (x : Ext φ' H' φ H) (R : Rl K E σw S φ σ H) (h : H p = none) : H' p = none := by
  cases q : H' p with
  | none => rfl
  | some o =>
    by_cases m : p ∈ φ'
    · obtain ⟨n, e⟩ := List.mem_iff_getElem?.mp m
      obtain ⟨o, ho⟩ := R.st.got (mem_of_ix (x.ix n p e))
      rw [h] at ho; cases ho
    · rw [x.keep p o m q] at h; cases h
theorem New.back {S1 : Sto} {φ1 : List Addr} {H0 H1 : Hp} (x : Ext φ1 H1 φ' H0) (R : Rl K E σw S1 φ' σ H0) (h : New K E σw S φ σ H0 H w v) : New K E σw S φ σ H1 H w v := by
  cases w with
  | lst ws => obtain ⟨p, vs, h1, h2, h3, h4⟩ := h; exact ⟨p, vs, h1, h2, ext_none x R h3, h4⟩
  | dct ws => obtain ⟨p, vs, h1, h2, h3, h4⟩ := h; exact ⟨p, vs, h1, h2, ext_none x R h3, h4⟩
  | _ => exact h
theorem enone (R : Rl K E σw S φ σ H) (hp : H p = none) : E.H p = none := by
  cases q : E.H p with
  | none => rfl
  | some o =>
    by_cases m : p ∈ E.φ
    · obtain ⟨n, e⟩ := List.mem_iff_getElem?.mp m
      obtain ⟨o, ho⟩ := R.st.got (mem_of_ix (R.eφ n p e))
      rw [hp] at ho; cases ho
    · rw [R.ekeep p o m q] at hp; cases hp
theorem plus_later (R : Rl K E σw S φ σ H) (hp : H p = none) : Later φ (ZZ E σw φ σ) H φ (ZZ (E.plus p) σw φ σ) (upd H p o) :=
  ⟨fun _ _ h => h, fun a u _ h => by rw [upd_ne (ne_of_none h hp)]; exact h, fun a z => (zz_plus (z := z)).imp id fun q => by rw [q]; exact hp, fun a o u h => by rw [upd_ne (ne_of_none h hp)]; exact h⟩
theorem new_lst (R : Rl K E σw S φ σ H) (hp : H p = none) (r : RFs K φ (ZZ E σw φ σ) H ws vs) : New K E σw S φ σ H (upd H p (.lst vs)) (.lst ws) (.ref p) :=
  ⟨p, vs, rfl, upd_same, hp, R.free hp, enone R hp, R.plus hp, r.mono (plus_later R hp)⟩
theorem new_dct {kws : List (Key × W)} {kvs : List (Key × V)} (R : Rl K E σw S φ σ H) (hp : H p = none) (r : RKs K φ (ZZ E σw φ σ) H kws kvs) : New K E σw S φ σ H (upd H p (.dK kvs)) (.dct kws) (.ref p) :=
  ⟨p, kvs, rfl, upd_same, hp, R.free hp, enone R hp, R.plus hp, r.mono (plus_later R hp)⟩
theorem same_new (hp : H p = none) : Same H (upd H p o) := fun a u h => by rw [upd_ne (ne_of_none h hp)]; exact h
theorem new_tup (R : Rl K E σw S φ σ H) (hp : H p = none) (r : RFs K φ (ZZ E σw φ σ) H ws vs) : New K E σw S φ σ H (upd H p (.tup vs)) (.tup ws) (.ref p) :=
  ⟨R.same (same_new hp), .tup (.inl ⟨upd_same, R.free hp⟩) (r.mono (.same (same_new hp) fun _ z => z))⟩
end
end EV

namespace EV
open PySem PySem.Spec PyProof.Rows L2
/-! ### tuple * 1, tuple * 0 -/
theorem tuple_mul1 (l : Addr) (items : Array Value) (n : Nat) (dd : Option Addr) (sl : Array (Option Value)) (u : Tok) :
    Meets (Builtin.«tuple.__mul__» ⟨[.ref l, .int 1 u], []⟩) (fun _ R s => s.heap.get? l = some { cls := .type "tuple", dict := dd, data := .seq items n, slots := sl } ∧ R (.ok (.ret (Value.ref l))) s) :=
  .of_wp fun prog w A R s h => by
    obtain ⟨hp, g, d, tk, os⟩ := s
    obtain ⟨hl, h⟩ := h
    have f1 := AutoSeq1.idx_int
    have c0 : (decide ((1 : Int) < -(2 ^ 63)) || decide ((1 : Int) ≥ 2 ^ 63)) = false := by decide
    have c1 : (items.isEmpty || (1 : Int) == 1) = true := by rw [show ((1 : Int) == 1) = true from rfl, Bool.or_true]
    wp_walk using wpAny_loadPart' hl
    exact ⟨_, rfl, h⟩
theorem tuple_mul0 (l : Addr) (items : Array Value) (n : Nat) (dd : Option Addr) (sl : Array (Option Value)) (u : Tok) (hne : items.isEmpty = false) :
    Meets (Builtin.«tuple.__mul__» ⟨[.ref l, .int 0 u], []⟩) (fun _ R s => s.heap.get? l = some { cls := .type "tuple", dict := dd, data := .seq items n, slots := sl } ∧
      R (.ok (.ret (Value.ref s.heap.objs.size))) { s with heap := s.heap.push { cls := Value.type "tuple", data := Data.seq #[] }, toks := s.toks }) :=
  .of_wp fun prog w A R s h => by
    obtain ⟨hp, g, d, tk, os⟩ := s
    obtain ⟨hl, h⟩ := h
    have f1 := AutoSeq1.idx_int
    have c0 : (decide ((0 : Int) < -(2 ^ 63)) || decide ((0 : Int) ≥ 2 ^ 63)) = false := by decide
    have c1 : (items.isEmpty || (0 : Int) == 1) = false := by rw [hne]; rfl
    have c2 : (decide ((0 : Int) ≤ 0) || items.isEmpty) = true := by rw [decide_eq_true (by decide)]; rfl
    wp_walk using wpAny_loadPart' hl
    repeat (first
      | (refine wpAny_ite_false (decide_eq_false (by rw [c1]; exact Bool.false_ne_true)) ?_; wp_walk using wpAny_loadPart' hl)
      | (refine wpAny_ite_true (decide_eq_true c2) ?_; wp_walk using wpAny_loadPart' hl)
      | (refine wpAny_ite_false (decide_eq_false (by rw [hne]; exact Bool.false_ne_true)) ?_; wp_walk using wpAny_loadPart' hl))
    exact ⟨_, rfl, h⟩
def rRepT1 (K : PySem.W.Frag) : R2 := fun x y H Q => ∃ l xs, x = .ref l ∧ y = .int 1 ∧ SqT K H l xs ∧ Q (.ref l) H
def rRepT0 (K : PySem.W.Frag) : R2 := fun x y H Q => ∃ l xs, x = .ref l ∧ y = .int 0 ∧ SqT K H l xs ∧ xs ≠ [] ∧ ∀ p, H p = none → Q (.ref p) (upd H p (.tup []))
theorem op_repT1 {X : Cx} : OpR X (binaryOp .Mult) (rRepT1 X.K) := by
  intro pins s σ H x y v u Q I rx ry h
  obtain ⟨l, xs, rfl, rfl, hT, q⟩ := h
  cases rx
  obtain ⟨t, rfl⟩ := ry
  obtain ⟨its, r, ⟨⟨cls, dd, data, sl⟩, ho, hc, n, hd⟩, hs⟩ := I.tuple hT
  simp only at hc hd
  subst hc hd
  refine wpAny_binaryOp_repeat_ref (T := "tuple") (U := "int") (by decide) ⟨_, ho, rfl⟩ (fun s' => typeIs_int s' 1 t) noFill_tuple_mul F.fills_int_mul F.slot_int_rmul repeat_tuple F.slot_int_index.lookup
    (call_meets F.slot_int_rmul (typeIs_int s 1 t) F.entry_int_rmul (F.args_int_rmul_2 _ _) (int_rmul_tuple 1 t l its.toArray n dd sl)
      ⟨ho, rfl, ⟨_, ho, rfl⟩, call_meets F.slot_tuple_mul ⟨_, ho, rfl⟩ F.entry_tuple_mul (F.args_tuple_mul_2 _ _) (tuple_mul1 l its.toArray n dd sl t) ⟨ho, ?_⟩⟩)
  exact ⟨.ref l, H, I, rfl, q⟩
theorem op_repT0 {X : Cx} : OpR X (binaryOp .Mult) (rRepT0 X.K) := by
  intro pins s σ H x y v u Q I rx ry h
  obtain ⟨l, xs, rfl, rfl, hT, hne, q⟩ := h
  cases rx
  obtain ⟨t, rfl⟩ := ry
  obtain ⟨its, r, ⟨⟨cls, dd, data, sl⟩, ho, hc, n, hd⟩, hs⟩ := I.tuple hT
  simp only at hc hd
  subst hc hd
  have hi : its.toArray.isEmpty = false := by
    cases its with
    | nil => exact absurd (List.eq_nil_of_length_eq_zero (r.length.trans rfl)) hne
    | cons a b => rfl
  refine wpAny_binaryOp_repeat_ref (T := "tuple") (U := "int") (by decide) ⟨_, ho, rfl⟩ (fun s' => typeIs_int s' 0 t) noFill_tuple_mul F.fills_int_mul F.slot_int_rmul repeat_tuple F.slot_int_index.lookup
    (call_meets F.slot_int_rmul (typeIs_int s 0 t) F.entry_int_rmul (F.args_int_rmul_2 _ _) (int_rmul_tuple 0 t l its.toArray n dd sl)
      ⟨ho, rfl, ⟨_, ho, rfl⟩, call_meets F.slot_tuple_mul ⟨_, ho, rfl⟩ F.entry_tuple_mul (F.args_tuple_mul_2 _ _) (tuple_mul0 l its.toArray n dd sl t hi) ⟨ho, ?_⟩⟩)
  refine ⟨.ref s.heap.objs.size, _, I.laid (t' := s.toks) (o := .tup []) (fun b ob q => Heap.get?_push_of_some _ q) (Nat.le_refl _) ?_, rfl, q _ (I.hok.fresh (Nat.le_refl _))⟩
  exact ⟨by simp, _, .nil, IsTup.new _ _⟩
/-! ### text * int -/
theorem foldl_app (c : Array Nat) : ∀ (n : Nat) (acc : Array Nat), (List.replicate n c).foldl (· ++ ·) acc = acc ++ ((List.replicate n c.toList).flatten).toArray
  | 0, acc => by simp
  | n + 1, acc => by
    rw [List.replicate_succ, List.foldl_cons, foldl_app c n, List.replicate_succ, List.flatten_cons]
    apply Array.ext'
    simp
theorem op_repS {X : Cx} : OpR X (binaryOp .Mult) (fun x y H Q => ∃ s j, x = .str s ∧ y = .int j ∧ 0 ≤ j ∧ j ≤ 1000000 ∧ s.length * j.toNat ≤ 1000000 ∧ Q (.str (repS s j.toNat)) H) := by
  intro pins s σ H x y v u Q I rx ry h
  obtain ⟨a, j, rfl, rfl, h0, h1, h2, q⟩ := h
  obtain ⟨t, rfl⟩ := rx
  obtain ⟨t', rfl⟩ := ry
  have e63 : (2 : Int) ^ 63 = 9223372036854775808 := by rfl
  have hsz : sizeLine ≥ 1000000 := by rw [sizeLine_eq]; decide
  have hmul : a.length * j.toNat ≤ 1000000 := h2
  refine PySem.P.mul_str (by rw [decide_eq_false (by omega), decide_eq_false (by omega)]; rfl) (fun h3 _ => ?_) (fun h3 _ => ?_) ?_
  · have hj : 0 < j := by omega
    have : (1000000 : Int) ≤ (2 ^ 63 - 1) / j := by
      rw [Int.le_ediv_iff_mul_le hj, e63]
      omega
    have : a.length * 1 ≤ a.length * j.toNat := Nat.mul_le_mul_left _ (by omega)
    omega
  · show decide (a.length * j.toNat > sizeLine) = false
    exact decide_eq_false (by omega)
  · split
    · rename_i h3
      have hj : j = 0 := by omega
      subst hj
      refine ⟨by decide, ⟨.str (repS a 0), H, I.tok _, ⟨_, rfl⟩, q⟩⟩
    · split
      · rename_i h3 h4
        have hr : repS a j.toNat = a := by
          rw [Bool.or_eq_true] at h4
          rcases h4 with h4 | h4
          · have : j = 1 := by simpa using h4
            subst this
            unfold repS
            simp
          · have hz : a.cps = #[] := Array.eq_empty_of_size_eq_zero (by simpa [Str.length] using h4)
            unfold repS
            obtain ⟨c⟩ := a
            simp only at hz
            subst hz
            simp
        rw [hr] at q
        exact ⟨.str a, H, I, ⟨_, rfl⟩, q⟩
      · have hr : (⟨(List.replicate j.toNat a.cps).foldl (· ++ ·) #[]⟩ : Str) = repS a j.toNat := by
          unfold repS
          rw [foldl_app]
          simp
        rw [hr]
        refine ⟨?_, ⟨.str (repS a j.toNat), H, I.tok _, ⟨_, rfl⟩, q⟩⟩
        have : (repS a j.toNat).length = a.length * j.toNat := by
          unfold repS Str.length
          simp [Nat.mul_comm]
        omega
/-! ### the operators keep it -/
theorem lim_size {n : Nat} (h : n ≤ LIM) : n ≤ sizeLine := Nat.le_trans h (by rw [sizeLine_eq]; decide)
theorem lim_lt {n : Nat} (h : n < LIM) : n < sizeLine := Nat.lt_of_lt_of_le h (by rw [sizeLine_eq]; decide)
section
variable {X : Cx} {E : Ent} {σw : Sls} {S : Sto} {φ : List Addr} {σ : L2.St} {H : Hp} {br : Bool} {x y w : W} {v u : V} {Q : VK}
theorem TupAt.sq {Z : Addr → Prop} {a : Addr} {vs : List V} {K : PySem.W.Frag} (h : TupAt K Z H a vs) : SqT K H a vs := h.elim (fun h => .inl (.inl h.1)) fun ⟨o, its, n, h1, h2, _, h3⟩ => .inr ⟨o, its, n, h1, h2, h3⟩
theorem vw_id (h : ∀ n, x ≠ .loc n) : vw S x = x := by
  cases x <;> first | rfl | (exact absurd rfl (h _))
/-- what a looked-at value is -/
theorem rx_cases (R : Rl X.K E σw S φ σ H) (r : RX X.K E σw φ σ H br x v) : RF X.K φ (ZZ E σw φ σ) H x v ∨ ∃ a, v = .ref a ∧ Holds X.K φ (ZZ E σw φ σ) H x a := by
  rcases r with r | ⟨_, i, a, e, f, rfl⟩
  · exact .inl r
  · obtain ⟨b, g, h, _⟩ := R.ow i x e
    rw [f] at g; cases g
    exact .inr ⟨_, rfl, h⟩
theorem rx_lst {ws : List W} (R : Rl X.K E σw S φ σ H) (r : RX X.K E σw φ σ H br x v) (e : vw S x = .lst ws) : ∃ a vs, v = .ref a ∧ H a = some (.lst vs) ∧ RFs X.K φ (ZZ E σw φ σ) H ws vs := by
  rcases rx_cases R r with r | ⟨a, rfl, h⟩
  · cases r with
    | lst h n r1 => cases e; exact ⟨_, _, rfl, h, r1⟩
    | @loc n a h =>
      simp only [vw] at e
      split at e
      · rename_i xs hs
        cases e
        obtain ⟨vs, h1, r⟩ := R.st.ob n _ a hs h
        exact ⟨a, vs, rfl, h1, r⟩
      · cases e
      · cases e
    | _ => cases e
  · rcases h with ⟨ws', vs, rfl, h, r⟩ | ⟨ws', vs, rfl, h, r⟩
    · cases e; exact ⟨a, vs, rfl, h, r⟩
    · cases e
theorem rx_dct {ws : List (Key × W)} (R : Rl X.K E σw S φ σ H) (r : RX X.K E σw φ σ H br x v) (e : vw S x = .dct ws) : ∃ a vs, v = .ref a ∧ H a = some (.dK vs) ∧ RKs X.K φ (ZZ E σw φ σ) H ws vs := by
  rcases rx_cases R r with r | ⟨a, rfl, h⟩
  · cases r with
    | dct h n r1 => cases e; exact ⟨_, _, rfl, h, r1⟩
    | @loc n a h =>
      simp only [vw] at e
      split at e
      · cases e
      · rename_i xs hs
        cases e
        obtain ⟨vs, h1, r⟩ := R.st.ob n _ a hs h
        exact ⟨a, vs, rfl, h1, r⟩
      · cases e
    | _ => cases e
  · rcases h with ⟨ws', vs, rfl, h, r⟩ | ⟨ws', vs, rfl, h, r⟩
    · cases e
    · cases e; exact ⟨a, vs, rfl, h, r⟩
theorem vw_not_ob (h : ∀ ws, y ≠ .lst ws) (h' : ∀ ws, y ≠ .dct ws) (e : vw S x = y) : x = y := by
  cases x with
  | loc n =>
    simp only [vw] at e
    split at e
    · exact absurd e.symm (h _)
    · exact absurd e.symm (h' _)
    · exact e
  | _ => exact e
/-- .. one that is neither a list nor a dict -/
theorem rx_rf (R : Rl X.K E σw S φ σ H) (r : RX X.K E σw φ σ H br x v) (e : vw S x = y) (h : ∀ ws, y ≠ .lst ws) (h' : ∀ ws, y ≠ .dct ws) : RF X.K φ (ZZ E σw φ σ) H y v := by
  have e1 := vw_not_ob h h' e
  subst e1
  rcases rx_cases R r with r | ⟨a, rfl, hd⟩
  · exact r
  · rcases hd with ⟨ws', vs, rfl, _⟩ | ⟨ws', vs, rfl, _⟩
    · exact absurd rfl (h _)
    · exact absurd rfl (h' _)
theorem rx_int {i : Int} (R : Rl X.K E σw S φ σ H) (r : RX X.K E σw φ σ H br x v) (e : vw S x = .int i) : v = .int i := by
  have h := rx_rf R r e (fun _ z => by cases z) (fun _ z => by cases z)
  cases h; rfl
theorem rx_str {i : Str} (R : Rl X.K E σw S φ σ H) (r : RX X.K E σw φ σ H br x v) (e : vw S x = .str i) : v = .str i := by
  have h := rx_rf R r e (fun _ z => by cases z) (fun _ z => by cases z)
  cases h; rfl
theorem rx_bl {i : Bool} (R : Rl X.K E σw S φ σ H) (r : RX X.K E σw φ σ H br x v) (e : vw S x = .bl i) : v = .bl i := by
  have h := rx_rf R r e (fun _ z => by cases z) (fun _ z => by cases z)
  cases h; rfl
theorem rx_non (R : Rl X.K E σw S φ σ H) (r : RX X.K E σw φ σ H br x v) (e : vw S x = .non) : v = .non := by
  have h := rx_rf R r e (fun _ z => by cases z) (fun _ z => by cases z)
  cases h; rfl
theorem rx_ty {n : String} (R : Rl X.K E σw S φ σ H) (r : RX X.K E σw φ σ H br x v) (e : vw S x = .ty n) : v = .ty n := by
  have h := rx_rf R r e (fun _ z => by cases z) (fun _ z => by cases z)
  cases h; rfl
theorem rx_tup {ws : List W} (R : Rl X.K E σw S φ σ H) (r : RX X.K E σw φ σ H br x v) (e : vw S x = .tup ws) : ∃ a vs, v = .ref a ∧ TupAt X.K (ZZ E σw φ σ) H a vs ∧ RFs X.K φ (ZZ E σw φ σ) H ws vs := by
  have h := rx_rf R r e (fun _ z => by cases z) (fun _ z => by cases z)
  cases h with
  | tup t r1 => exact ⟨_, _, rfl, t, r1⟩
theorem rf_none_iff {φ : List Addr} {Z : Addr → Prop} {K : PySem.W.Frag} (r : RF K φ Z H x v) : v = .non ↔ x = .non := by
  cases r <;> simp
theorem RFs.nil_iff {φ : List Addr} {Z : Addr → Prop} {K : PySem.W.Frag} {ws : List W} {vs : List V} (r : RFs K φ Z H ws vs) : vs = [] ↔ ws = [] := by
  cases r <;> simp
theorem RFs.isEmpty {φ : List Addr} {Z : Addr → Prop} {K : PySem.W.Frag} {ws : List W} {vs : List V} (r : RFs K φ Z H ws vs) : vs.isEmpty = ws.isEmpty := by
  cases r <;> rfl
theorem RKs.isEmpty {φ : List Addr} {Z : Addr → Prop} {K : PySem.W.Frag} {ws : List (Key × W)} {vs : List (Key × V)} (r : RKs K φ Z H ws vs) : vs.isEmpty = ws.isEmpty := by
  cases r <;> rfl
/-- a value as it is -/
theorem fin_same (R : Rl X.K E σw S φ σ H) (hw : (∀ ws, w ≠ .lst ws) ∧ ∀ ws, w ≠ .dct ws) (k : ∀ H' z, Same H H' → New X.K E σw S φ σ H H' w z → Q z H') (r : RF X.K φ (ZZ E σw φ σ) H w v) : Q v H := by
  refine k H v (Same.refl H) ?_
  cases w with
  | lst ws => exact absurd rfl (hw.1 ws)
  | dct ws => exact absurd rfl (hw.2 ws)
  | _ => exact ⟨R, r⟩
theorem log2_lt200 {n : Nat} (h : n < 2 ^ 200) : n.log2 < 200 := by
  rcases Nat.eq_zero_or_pos n with h0 | hp
  · rw [h0]; decide
  · exact (Nat.log2_lt (Nat.ne_of_gt hp)).mpr h
theorem op_mulW {X : Cx} : OpR X (binaryOp .Mult) (rI (fun i j => ((-(2 ^ 64) < i ∧ i < 2 ^ 64) ∨ (-(2 ^ 64) < j ∧ j < 2 ^ 64)) ∨ (i.natAbs < 2 ^ 200 ∧ j.natAbs < 2 ^ 200)) fun i j => .int (i * j)) := opI fun i j _ _ _ _ _ hc q => by
  refine mul_int q ?_
  rcases hc with hc | ⟨h1, h2⟩
  · exact CMul.ok hc
  · have b : ∀ k : Int, k.natAbs < 2 ^ 200 → Builtin.Int.intBits k ≤ 200 := fun k h => by
      unfold Builtin.Int.intBits
      split
      · exact Nat.zero_le _
      · have := log2_lt200 h; omega
    have e : Builtin.Int.intTooBig (((Builtin.Int.intBits i : Nat) : Int) + ((Builtin.Int.intBits j : Nat) : Int)) = false := by
      have b1 := b i h1
      have b2 := b j h2
      unfold Builtin.Int.intTooBig
      have : (bitsLine : Int) = 134217728 := by decide
      rw [decide_eq_false_iff_not, this]
      omega
    unfold IntMulOk
    rw [e]
    simp
theorem op_fdivW {X : Cx} : OpR X (binaryOp .FloorDiv) (rI (fun _ j => j ≠ 0 ∧ (j.natAbs < 1073741824 ∨ j.natAbs < 2 ^ 200)) fun i j => .int (i.fdiv j)) := opI fun _ _ _ _ _ _ _ hc q => by
  refine floordiv_int hc.1 q (.inl ?_)
  rcases hc.2 with h | h
  · exact PyProof.noPylong_small h
  · exact PyProof.noPylong_of_log2 (by have := log2_lt200 h; omega)
theorem wbin_ok {op : Operator} (R : Rl X.K E σw S φ σ H) (rx : RX X.K E σw φ σ H true x v) (ry : RX X.K E σw φ σ H true y u) (e : wbin op (vw S x) (vw S y) = some w)
    (k : ∀ H' z, Same H H' → New X.K E σw S φ σ H H' w z → Q z H') : ∃ r : R2, OpR X (binaryOp op) r ∧ r v u H Q := by
  have ki : ∀ i, w = .int i → Q (.int i) H := fun i q => by subst q; exact k _ _ (Same.refl H) ⟨R, .int i⟩
  have ks : ∀ i, w = .str i → Q (.str i) H := fun i q => by subst q; exact k _ _ (Same.refl H) ⟨R, .str i⟩
  generalize hx : vw S x = a at e
  generalize hy : vw S y = b at e
  unfold wbin at e
  split at e
  · cases e; cases rx_int R rx hx; cases rx_int R ry hy
    exact ⟨_, op_add, _, _, rfl, rfl, ki _ rfl⟩
  · split at e
    · rename_i h; cases e; cases rx_str R rx hx; cases rx_str R ry hy
      exact ⟨_, op_add_str, _, _, rfl, rfl, h, ks _ rfl⟩
    · cases e
  · split at e
    · rename_i h; cases e
      obtain ⟨p, vs, rfl, hp, r1⟩ := rx_lst R rx hx
      obtain ⟨q, us, rfl, hq, r2⟩ := rx_lst R ry hy
      rw [r1.len, r2.len] at h
      exact ⟨_, op_cat, _, _, _, _, rfl, rfl, hp, hq, lim_size h, fun l hl => k _ _ (same_new hl) (new_lst R hl (r1.append r2))⟩
    · cases e
  · split at e
    · rename_i h; cases e
      obtain ⟨p, vs, rfl, hp, r1⟩ := rx_tup R rx hx
      obtain ⟨q, us, rfl, hq, r2⟩ := rx_tup R ry hy
      rw [r1.len, r2.len] at h
      refine ⟨_, op_catA, _, _, _, _, rfl, rfl, hp.sq, hq.sq, lim_size h, fun z => ?_, fun _ z => ?_, fun _ _ l hl => k _ _ (same_new hl) (new_tup R hl (r1.append r2))⟩
      · cases r1.nil_iff.mp z
        exact k _ _ (Same.refl H) ⟨R, .tup hq r2⟩
      · cases r2.nil_iff.mp z
        refine k _ _ (Same.refl H) ⟨R, .tup hp ?_⟩
        rw [List.append_nil]; exact r1
    · cases e
  · cases e; cases rx_int R rx hx; cases rx_int R ry hy
    exact ⟨_, op_sub, _, _, rfl, rfl, ki _ rfl⟩
  · split at e
    · rename_i h; cases e; cases rx_int R rx hx; cases rx_int R ry hy
      exact ⟨_, op_mulW, _, _, rfl, rfl, h, ki _ rfl⟩
    · cases e
  · split at e
    · rename_i h; cases e; cases rx_int R ry hy
      obtain ⟨p, vs, rfl, hp, r1⟩ := rx_lst R rx hx
      rw [r1.len] at h
      exact ⟨_, op_rep, _, _, _, rfl, rfl, hp, h.1, h.2.1, lim_size h.2.2, fun l hl => k _ _ (same_new hl) (new_lst R hl (r1.rep _))⟩
    · cases e
  · split at e
    · rename_i h; cases e; cases rx_int R ry hy
      obtain ⟨p, vs, rfl, hp, r1⟩ := rx_tup R rx hx
      rw [r1.len] at h
      exact ⟨_, op_repT, _, _, _, rfl, rfl, hp.sq, fun z => h.1 (r1.nil_iff.mp z), h.2.1, h.2.2.1, h.2.2.2, fun l hl => k _ _ (same_new hl) (new_tup R hl (r1.rep _))⟩
    · split at e
      · rename_i h; cases e; cases rx_int R ry hy
        obtain ⟨p, vs, rfl, hp, r1⟩ := rx_tup R rx hx
        subst h
        exact ⟨_, op_repT1, _, _, rfl, rfl, hp.sq, k _ _ (Same.refl H) ⟨R, .tup hp r1⟩⟩
      · split at e
        · rename_i h; cases e; cases rx_int R ry hy
          obtain ⟨p, vs, rfl, hp, r1⟩ := rx_tup R rx hx
          obtain ⟨rfl, h2⟩ := h
          exact ⟨_, op_repT0, _, _, rfl, rfl, hp.sq, fun z => h2 (r1.nil_iff.mp z), fun l hl => k _ _ (same_new hl) (new_tup R hl .nil)⟩
        · cases e
  · split at e
    · rename_i h; cases e; cases rx_str R rx hx; cases rx_int R ry hy
      exact ⟨_, op_repS, _, _, rfl, rfl, h.1, h.2.1, h.2.2, ks _ rfl⟩
    · cases e
  · split at e
    · rename_i h; cases e; cases rx_int R rx hx; cases rx_int R ry hy
      exact ⟨_, op_modN, _, _, rfl, rfl, h, ki _ rfl⟩
    · cases e
  · split at e
    · rename_i h; cases e; cases rx_int R rx hx; cases rx_int R ry hy
      exact ⟨_, op_fdivW, _, _, rfl, rfl, h, ki _ rfl⟩
    · cases e
  · split at e
    · rename_i h; cases e; cases rx_int R rx hx; cases rx_int R ry hy
      exact ⟨_, op_pow, _, _, rfl, rfl, h, ki _ rfl⟩
    · cases e
  · cases e
mutual
theorem rf_dp {φ : List Addr} {Z : Addr → Prop} {K : PySem.W.Frag} : ∀ {x : W} {v : V} {d : PyData}, RF K φ Z H x v → toD x = some d → Dp K H v d
  | _, _, _, .non, e => by cases e; exact .non
  | _, _, _, .bl b, e => by cases e; exact .bl b
  | _, _, _, .int b, e => by cases e; exact .int b
  | _, _, _, .str b, e => by cases e; exact .str b
  | _, _, _, .ty b, e => by cases e
  | _, _, _, .gl b, e => by cases e
  | _, _, _, .loc b, e => by cases e
  | _, _, _, .scr h r, e => by cases e
  | _, _, _, .tup h r, e => by
    unfold toD at e
    obtain ⟨ds, e1, e2⟩ := Option.map_eq_some_iff.mp e
    subst e2
    exact .tup h.sq (rfs_dp r e1)
  | _, _, _, .lst h n r, e => by
    unfold toD at e
    obtain ⟨ds, e1, e2⟩ := Option.map_eq_some_iff.mp e
    subst e2
    exact .lst (SqL.of h) (rfs_dp r e1)
  | _, _, _, .dct h n r, e => by cases e
theorem rfs_dp {φ : List Addr} {Z : Addr → Prop} {K : PySem.W.Frag} : ∀ {x : List W} {v : List V} {d : List PyData}, RFs K φ Z H x v → toDs x = some d → DpAll K H v d
  | _, _, _, .nil, e => by cases e; exact .nil
  | _, _, _, .cons (w := w) (ws := ws) a b, e => by
    unfold toDs at e
    cases e1 : toD w with
    | none => rw [e1] at e; cases e
    | some d =>
      cases e2 : toDs ws with
      | none => rw [e1, e2] at e; cases e
      | some ds =>
        rw [e1, e2] at e
        cases e
        exact .cons (rf_dp a e1) (rfs_dp b e2)
end
theorem rx_dp {d : PyData} (R : Rl X.K E σw S φ σ H) (r : RX X.K E σw φ σ H br x v) (e : toD (vw S x) = some d) : Dp X.K H v d := by
  by_cases hl : ∃ ws, vw S x = .lst ws
  · obtain ⟨ws, h⟩ := hl
    obtain ⟨a, vs, rfl, ha, r1⟩ := rx_lst R r h
    rw [h] at e
    unfold toD at e
    obtain ⟨ds, e1, e2⟩ := Option.map_eq_some_iff.mp e
    subst e2
    exact .lst (SqL.of ha) (rfs_dp r1 e1)
  · by_cases hd : ∃ ws, vw S x = .dct ws
    · obtain ⟨ws, h⟩ := hd
      rw [h] at e; cases e
    · exact rf_dp (rx_rf R r rfl (fun ws z => hl ⟨ws, z⟩) fun ws z => hd ⟨ws, z⟩) e
/-- == -/
theorem weq_ok {b : Bool} (hu : X.A.units + 64 < cLine) (R : Rl X.K E σw S φ σ H) (rx : RX X.K E σw φ σ H true x v) (ry : RX X.K E σw φ σ H true y u) (e : weq (vw S x) (vw S y) = some b) :
    (∃ r : R2, OpR X (compareOp .Eq) r ∧ ∀ Q : VK, Q (.bl b) H → r v u H Q) ∧ ∃ r : R2, OpR X (compareOp .NotEq) r ∧ ∀ Q : VK, Q (.bl (!b)) H → r v u H Q := by
  have deep : (match toD (vw S x), toD (vw S y) with
    | some d, some e => if SeqAt.shaped d = true ∧ SeqAt.shaped e = true then some (PyData.eqv d e) else none
    | _, _ => none) = some b → (∃ r : R2, OpR X (compareOp .Eq) r ∧ ∀ Q : VK, Q (.bl b) H → r v u H Q) ∧ ∃ r : R2, OpR X (compareOp .NotEq) r ∧ ∀ Q : VK, Q (.bl (!b)) H → r v u H Q := fun e => by
    split at e
    · rename_i d e' h1 h2
      split at e
      · rename_i h
        cases e
        exact ⟨⟨_, op_eqD hu, fun Q q => ⟨d, e', rx_dp R rx h1, rx_dp R ry h2, h.1, h.2, q⟩⟩, ⟨_, op_neD hu, fun Q q => ⟨d, e', rx_dp R rx h1, rx_dp R ry h2, h.1, h.2, q⟩⟩⟩
      · cases e
    · cases e
  have fin : scal v u = true → b = decide (v = u) → (∃ r : R2, OpR X (compareOp .Eq) r ∧ ∀ Q : VK, Q (.bl b) H → r v u H Q) ∧ ∃ r : R2, OpR X (compareOp .NotEq) r ∧ ∀ Q : VK, Q (.bl (!b)) H → r v u H Q := fun h1 h2 =>
    ⟨⟨_, op_eq, fun Q q => ⟨h1, by rw [← h2]; exact q⟩⟩, ⟨_, op_ne, fun Q q => ⟨h1, by rw [← h2]; exact q⟩⟩⟩
  unfold weq at e
  split at e
  · rename_i i j hx hy; cases e; cases rx_int R rx hx; cases rx_int R ry hy
    exact fin rfl (by simp)
  · rename_i i j hx hy; cases e; cases rx_str R rx hx; cases rx_str R ry hy
    exact fin rfl (by simp)
  · rename_i i j hx hy; cases e; cases rx_bl R rx hx; cases rx_bl R ry hy
    exact fin rfl (by simp)
  · rename_i i j hx hy; cases e; cases rx_int R rx hx; cases rx_str R ry hy
    exact fin rfl (by simp)
  · rename_i i j hx hy; cases e; cases rx_str R rx hx; cases rx_int R ry hy
    exact fin rfl (by simp)
  · exact deep e
def vflat : W → V
  | .bl b => .bl b
  | .int i => .int i
  | .str s => .str s
  | _ => .non
theorem flat_v {φ : List Addr} {Z : Addr → Prop} {K : PySem.W.Frag} (r : RF K φ Z H x v) (h : wflat x = true) : v = vflat x ∧ flatV v = true := by
  cases r <;> first | (cases h; done) | exact ⟨rfl, rfl⟩
theorem wfeq_v (hx : wflat x = true) (hy : wflat y = true) : wfeq x y = eqV (vflat x) (vflat y) := by
  cases x <;> cases y <;> first | rfl | (simp [wflat] at hx; done) | (simp [wflat] at hy; done)
theorem RFs.flat {φ : List Addr} {Z : Addr → Prop} {K : PySem.W.Frag} : ∀ {ws : List W} {vs : List V}, RFs K φ Z H ws vs → ws.all wflat = true → vs = ws.map vflat ∧ vs.all flatV = true
  | _, _, .nil, _ => ⟨rfl, rfl⟩
  | _, _, .cons a b, h => by
    rw [List.all_cons, Bool.and_eq_true] at h
    obtain ⟨e1, e2⟩ := flat_v a h.1
    obtain ⟨e3, e4⟩ := b.flat h.2
    exact ⟨by rw [List.map_cons, ← e1, ← e3], by rw [List.all_cons, e2, e4]; rfl⟩
theorem inV_w {ws : List W} (hx : wflat x = true) (h : ws.all wflat = true) : inV (vflat x) (ws.map vflat) = ws.any fun z => wfeq z x := by
  unfold inV
  rw [List.any_map]
  induction ws with
  | nil => rfl
  | cons z ws ih =>
    rw [List.all_cons, Bool.and_eq_true] at h
    rw [List.any_cons, List.any_cons, ih h.2, wfeq_v h.1 hx]
    rfl
theorem str1 {t : Str} (h : t.cps.size = 1) : t = ⟨#[t.cps.getD 0 0]⟩ := by
  obtain ⟨a⟩ := t
  simp only at h
  have : a = #[a.getD 0 0] := by
    apply Array.ext
    · simp [h]
    · intro i h1 h2
      have : i = 0 := by simp at h2; omega
      subst this
      simp [h]
  exact congrArg Str.mk this
theorem key_v {φ : List Addr} {Z : Addr → Prop} {K : PySem.W.Frag} {k : Key} (r : RF K φ Z H x v) (h : wkey x = some k) : v = kV k := by
  cases r <;> (unfold wkey at h; cases h) <;> rfl
theorem rx_key {k : Key} (R : Rl X.K E σw S φ σ H) (r : RX X.K E σw φ σ H br x v) (h : wkey (vw S x) = some k) : v = kV k := by
  generalize hx : vw S x = a at h
  cases a with
  | int i => cases h; exact rx_int R r hx
  | str i => cases h; exact rx_str R r hx
  | _ => cases h
theorem opr_din (hu : X.A.units + 1 < cLine) : OpR X (compareOp .In) (fun y x H Q => ∃ a o, x = .ref a ∧ DGet H a y o ∧ Q (.bl o.isSome) H) := by
  intro pins s σ H x y v u Q I rx ry h
  obtain ⟨a, o, rfl, g, q⟩ := h
  obtain rfl : u = Value.ref a := ry
  exact d_in hu I g rx fun s3 I3 => ⟨.bl o.isSome, H, I3, rfl, q⟩
theorem opr_dnotin (hu : X.A.units + 1 < cLine) : OpR X (compareOp .NotIn) (fun y x H Q => ∃ a o, x = .ref a ∧ DGet H a y o ∧ Q (.bl (!o.isSome)) H) := by
  intro pins s σ H x y v u Q I rx ry h
  obtain ⟨a, o, rfl, g, q⟩ := h
  obtain rfl : u = Value.ref a := ry
  exact d_notIn hu I g rx fun s3 I3 => ⟨.bl (!o.isSome), H, I3, rfl, q⟩
def rInDD (K : PySem.W.Frag) (nt : Bool) : R2 := fun x y H Q => ∃ d ds, Dp K H x d ∧ (Dp K H y (.list ds) ∨ Dp K H y (.tuple ds)) ∧ d.canLay0 = true ∧ PyData.canLayAll0 ds = true ∧ d.depth ≤ 10 ∧ Q (.bl (nt != ds.any fun z => PyData.eqv z d)) H
theorem op_inDD (hu : X.A.units + 64 < cLine) : OpR X (compareOp .In) (rInDD X.K false) := by
  intro pins s σ H x y v u Q I rx ry h
  obtain ⟨d, ds, hd, he, sd, se, hl, q⟩ := h
  obtain ⟨as, r1⟩ := Dp.reads I d x v hd rx
  have q : Q (.bl (ds.any fun z => PyData.eqv z d)) H := by simpa using q
  rcases he with he | he
  · obtain ⟨bs, r2⟩ := Dp.reads I (.list ds) y u he ry
    exact SeqAt.in_list_reads r2 r1 se sd (by omega) ⟨.bl _, H, I, rfl, q⟩
  · obtain ⟨bs, r2⟩ := Dp.reads I (.tuple ds) y u he ry
    exact SeqAt.in_tuple_reads r2 r1 se sd (by omega) ⟨.bl _, H, I, rfl, q⟩
theorem op_notInDD (hu : X.A.units + 64 < cLine) : OpR X (compareOp .NotIn) (rInDD X.K true) := by
  intro pins s σ H x y v u Q I rx ry h
  obtain ⟨d, ds, hd, he, sd, se, hl, q⟩ := h
  obtain ⟨as, r1⟩ := Dp.reads I d x v hd rx
  have q : Q (.bl (!ds.any fun z => PyData.eqv z d)) H := by simpa using q
  rcases he with he | he
  · obtain ⟨bs, r2⟩ := Dp.reads I (.list ds) y u he ry
    exact SeqAt.notIn_list_reads r2 r1 se sd (by omega) ⟨.bl _, H, I, rfl, q⟩
  · obtain ⟨bs, r2⟩ := Dp.reads I (.tuple ds) y u he ry
    exact SeqAt.notIn_tuple_reads r2 r1 se sd (by omega) ⟨.bl _, H, I, rfl, q⟩
theorem wdeep_ok {b : Bool} (hu : X.A.units + 64 < cLine) (R : Rl X.K E σw S φ σ H) (rx : RX X.K E σw φ σ H true x v) (ry : RX X.K E σw φ σ H true y u) (e : wdeep (vw S x) (vw S y) = some b) :
    (∃ r : R2, OpR X (compareOp .In) r ∧ ∀ Q : VK, Q (.bl b) H → r v u H Q) ∧ ∃ r : R2, OpR X (compareOp .NotIn) r ∧ ∀ Q : VK, Q (.bl (!b)) H → r v u H Q := by
  unfold wdeep at e
  split at e
  · rename_i d ds h1 h2
    split at e
    · rename_i h
      cases e
      exact ⟨⟨_, op_inDD hu, fun Q q => ⟨d, ds, rx_dp R rx h1, .inl (rx_dp R ry h2), SeqAt.canLay_of_shaped h.1, SeqAt.canLay_of_shaped h.2.1, h.2.2, by simpa using q⟩⟩, ⟨_, op_notInDD hu, fun Q q => ⟨d, ds, rx_dp R rx h1, .inl (rx_dp R ry h2), SeqAt.canLay_of_shaped h.1, SeqAt.canLay_of_shaped h.2.1, h.2.2, by simpa using q⟩⟩⟩
    · cases e
  · rename_i d ds h1 h2
    split at e
    · rename_i h
      cases e
      exact ⟨⟨_, op_inDD hu, fun Q q => ⟨d, ds, rx_dp R rx h1, .inr (rx_dp R ry h2), SeqAt.canLay_of_shaped h.1, SeqAt.canLay_of_shaped h.2.1, h.2.2, by simpa using q⟩⟩, ⟨_, op_notInDD hu, fun Q q => ⟨d, ds, rx_dp R rx h1, .inr (rx_dp R ry h2), SeqAt.canLay_of_shaped h.1, SeqAt.canLay_of_shaped h.2.1, h.2.2, by simpa using q⟩⟩⟩
    · cases e
  · cases e
theorem wmem_ok {b : Bool} (hu : X.A.units + 64 < cLine) (R : Rl X.K E σw S φ σ H) (rx : RX X.K E σw φ σ H true x v) (ry : RX X.K E σw φ σ H true y u) (e : wmem (vw S x) (vw S y) = some b) :
    (∃ r : R2, OpR X (compareOp .In) r ∧ ∀ Q : VK, Q (.bl b) H → r v u H Q) ∧ ∃ r : R2, OpR X (compareOp .NotIn) r ∧ ∀ Q : VK, Q (.bl (!b)) H → r v u H Q := by
  have flat1 : wflat (vw S x) = true → v = vflat (vw S x) ∧ flatV v = true := fun h => flat_v (rx_rf R rx rfl (fun ws z => by rw [z] at h; cases h) fun ws z => by rw [z] at h; cases h) h
  unfold wmem at e
  split at e
  · rename_i ws hy
    split at e
    · rename_i h
      cases e
      obtain ⟨a, vs, rfl, ha, r⟩ := rx_lst R ry hy
      obtain ⟨f1, f2⟩ := flat1 h.1
      obtain ⟨f3, f4⟩ := r.flat h.2
      have ei := inV_w h.1 h.2
      rw [← f1, ← f3] at ei
      exact ⟨⟨_, op_in_seq, fun Q q => ⟨a, vs, rfl, .inl (SqL.of ha), f2, f4, by rw [ei]; exact q⟩⟩, ⟨_, op_notIn_seq, fun Q q => ⟨a, vs, rfl, .inl (SqL.of ha), f2, f4, by rw [ei]; exact q⟩⟩⟩
    · rw [← hy] at e
      exact wdeep_ok hu R rx ry e
  · rename_i ws hy
    split at e
    · rename_i h
      cases e
      obtain ⟨a, vs, rfl, ha, r⟩ := rx_tup R ry hy
      obtain ⟨f1, f2⟩ := flat1 h.1
      obtain ⟨f3, f4⟩ := r.flat h.2
      have ei := inV_w h.1 h.2
      rw [← f1, ← f3] at ei
      exact ⟨⟨_, op_in_seq, fun Q q => ⟨a, vs, rfl, .inr ha.sq, f2, f4, by rw [ei]; exact q⟩⟩, ⟨_, op_notIn_seq, fun Q q => ⟨a, vs, rfl, .inr ha.sq, f2, f4, by rw [ei]; exact q⟩⟩⟩
    · rw [← hy] at e
      exact wdeep_ok hu R rx ry e
  · rename_i kws hy
    obtain ⟨k, e1, e2⟩ := Option.map_eq_some_iff.mp e
    subst e2
    obtain ⟨a, vs, rfl, ha, r⟩ := rx_dct R ry hy
    cases rx_key R rx e1
    have es : (valV vs k).isSome = (dval kws k).isSome := by
      rcases r.val k with ⟨z1, z2⟩ | ⟨w, v, z1, z2, _⟩ <;> rw [z1, z2] <;> rfl
    exact ⟨⟨_, opr_din (by omega), fun Q q => ⟨a, valV vs k, rfl, DGet.k ha, by rw [es]; exact q⟩⟩, ⟨_, opr_dnotin (by omega), fun Q q => ⟨a, valV vs k, rfl, DGet.k ha, by rw [es]; exact q⟩⟩⟩
  · rename_i s hy
    split at e
    · rename_i t hx
      split at e
      · rename_i h
        cases e
        cases rx_str R rx hx; cases rx_str R ry hy
        have e1 := str1 h
        exact ⟨⟨_, op_in_sign, fun Q q => ⟨_, s, congrArg V.str e1, rfl, q⟩⟩, ⟨_, op_notIn_sign, fun Q q => ⟨_, s, congrArg V.str e1, rfl, q⟩⟩⟩
      · cases e
    · cases e
  · cases e
theorem is_non (R : Rl X.K E σw S φ σ H) (r : RX X.K E σw φ σ H br x v) : decide (v = .non) = (match vw S x with | .non => true | _ => false) := by
  by_cases hl : ∃ ws, vw S x = .lst ws
  · obtain ⟨ws, h⟩ := hl
    obtain ⟨a, vs, rfl, _⟩ := rx_lst R r h
    rw [h]; rfl
  · by_cases hd : ∃ ws, vw S x = .dct ws
    · obtain ⟨ws, h⟩ := hd
      obtain ⟨a, vs, rfl, _⟩ := rx_dct R r h
      rw [h]; rfl
    · have r := rx_rf R r rfl (fun ws z => hl ⟨ws, z⟩) fun ws z => hd ⟨ws, z⟩
      generalize vw S x = y at r
      cases r <;> rfl
theorem is_non' (R : Rl X.K E σw S φ σ H) (r : RX X.K E σw φ σ H br x v) : (!decide (v = .non)) = (match vw S x with | .non => false | _ => true) := by
  rw [is_non R r]
  generalize vw S x = y
  cases y <;> rfl
theorem wcmp_ok {op : CmpOp} {b : Bool} (hu : X.A.units + 64 < cLine) (R : Rl X.K E σw S φ σ H) (rx : RX X.K E σw φ σ H true x v) (ry : RX X.K E σw φ σ H true y u) (e : wcmp op (vw S x) (vw S y) = some b) (q : Q (.bl b) H) :
    ∃ r : R2, OpR X (compareOp op) r ∧ r v u H Q := by
  generalize hx : vw S x = a at e
  generalize hy : vw S y = c at e
  unfold wcmp at e
  split at e
  · subst hx hy
    obtain ⟨⟨r, h1, h2⟩, _⟩ := weq_ok hu R rx ry e
    exact ⟨r, h1, h2 Q q⟩
  · subst hx hy
    obtain ⟨d, e1, e2⟩ := Option.map_eq_some_iff.mp e
    subst e2
    obtain ⟨_, ⟨r, h1, h2⟩⟩ := weq_ok hu R rx ry e1
    exact ⟨r, h1, h2 Q q⟩
  · cases e; cases rx_int R rx hx; cases rx_int R ry hy; exact ⟨_, op_lt, _, _, rfl, rfl, q⟩
  · cases e; cases rx_int R rx hx; cases rx_int R ry hy; exact ⟨_, op_le, _, _, rfl, rfl, q⟩
  · cases e; cases rx_int R rx hx; cases rx_int R ry hy; exact ⟨_, op_gt, _, _, rfl, rfl, q⟩
  · cases e; cases rx_int R rx hx; cases rx_int R ry hy; exact ⟨_, op_ge, _, _, rfl, rfl, q⟩
  · cases e; cases rx_str R rx hx; cases rx_str R ry hy; exact ⟨_, op_lt_str, _, _, rfl, rfl, q⟩
  · cases rx_non R ry hy
    subst hx
    have e' := Option.some.inj e
    subst e'
    exact ⟨_, op_isN, rfl, by rw [is_non R rx]; exact q⟩
  · cases rx_non R ry hy
    subst hx
    have e' := Option.some.inj e
    subst e'
    exact ⟨_, op_notN, rfl, by rw [is_non' R rx]; exact q⟩
  · subst hx hy
    obtain ⟨⟨r, h1, h2⟩, _⟩ := wmem_ok hu R rx ry e
    exact ⟨r, h1, h2 Q q⟩
  · subst hx hy
    obtain ⟨d, e1, e2⟩ := Option.map_eq_some_iff.mp e
    subst e2
    obtain ⟨_, ⟨r, h1, h2⟩⟩ := wmem_ok hu R rx ry e1
    exact ⟨r, h1, h2 Q q⟩
  · cases e
theorem wtru_ok {b : Bool} (R : Rl X.K E σw S φ σ H) (rx : RX X.K E σw φ σ H true x v) (e : wtru (vw S x) = some b) : TruV X.K v H b := by
  generalize hx : vw S x = a at e
  unfold wtru at e
  split at e
  · cases e; cases rx_non R rx hx; rfl
  · cases e; cases rx_bl R rx hx; rfl
  · cases e; cases rx_int R rx hx; rfl
  · split at e
    · rename_i h; cases e; cases rx_str R rx hx; exact ⟨h, rfl⟩
    · cases e
  · cases e
    obtain ⟨a, vs, rfl, ha, r⟩ := rx_lst R rx hx
    exact .inl ⟨vs, SqL.of ha, by rw [r.isEmpty]⟩
  · cases e
    obtain ⟨a, vs, rfl, ha, r⟩ := rx_tup R rx hx
    exact .inr (.inl ⟨vs, ha.sq, by rw [r.isEmpty]⟩)
  · cases e
    obtain ⟨a, vs, rfl, ha, r⟩ := rx_dct R rx hx
    exact .inr (.inr ⟨vs, ha, by rw [r.isEmpty]⟩)
  · cases e
/-! ### the script, too -/
theorem rz_lst {ws : List W} (R : Rl X.K E σw S φ σ H) (r : RX X.K E σw φ σ H br x v) (e : vwz S x = .lst ws) : ∃ a vs, v = .ref a ∧ SqL X.K H a vs ∧ RFs X.K φ (ZZ E σw φ σ) H ws vs := by
  cases x with
  | loc n =>
    simp only [vwz] at e
    split at e
    · rename_i xs hs
      obtain ⟨a, vs, h1, h2, h3⟩ := rx_lst (ws := ws) R r (by simp only [vw, hs]; exact e)
      exact ⟨a, vs, h1, SqL.of h2, h3⟩
    · cases e
    · rename_i xs hs
      cases e
      rcases rx_cases R r with r | ⟨a, rfl, h⟩
      · cases r with
        | loc h =>
          obtain ⟨o, vs, h1, r⟩ := R.st.ob n _ _ hs h
          exact ⟨_, vs, rfl, .inl (.inr ⟨o, h1⟩), r⟩
      · rcases h with ⟨ws', vs, z, _⟩ | ⟨ws', vs, z, _⟩ <;> cases z
    · cases e
  | scr xs =>
    cases e
    rcases rx_cases R r with r | ⟨a, rfl, h⟩
    · cases r with
      | scr h r' => exact ⟨_, _, rfl, h.sql, r'⟩
    · rcases h with ⟨ws', vs, z, _⟩ | ⟨ws', vs, z, _⟩ <;> cases z
  | _ =>
    obtain ⟨a, vs, h1, h2, h3⟩ := rx_lst R r e
    exact ⟨a, vs, h1, SqL.of h2, h3⟩
theorem vwz_vw (h : ∀ ws, vwz S x ≠ .lst ws) : vw S x = vwz S x := by
  cases x with
  | loc n =>
    simp only [vwz] at h
    simp only [vw, vwz]
    split at h
    · exact absurd rfl (h _)
    · rename_i hs; simp [hs]
    · exact absurd rfl (h _)
    · rename_i h1 h2 h3
      split <;> first | (exfalso; exact h1 _ (by assumption)) | (exfalso; exact h2 _ (by assumption)) | (exfalso; exact h3 _ (by assumption)) | rfl
  | scr xs => exact absurd rfl (h _)
  | _ => rfl
/-- x[i] -/
theorem wix_ok (R : Rl X.K E σw S φ σ H) (rx : RX X.K E σw φ σ H true x v) (ry : RX X.K E σw φ σ H true y u) (hd : ∀ kws, vwz S x ≠ .dct kws) (e : wix (vwz S x) y = some w) (k : ∀ z, RF X.K φ (ZZ E σw φ σ) H w z → Q z H) :
    ∃ r : R2, IxR X r ∧ r v u H Q := by
  generalize hx : vwz S x = a at e
  unfold wix at e
  split at e
  · obtain ⟨a, vs, rfl, ha, r⟩ := rz_lst R rx hx
    cases rx_int R ry rfl
    obtain ⟨z, e1, r1⟩ := r.atI e
    exact ⟨_, ix_list, a, vs, _, z, rfl, rfl, ha, e1, k z r1⟩
  · rw [← vwz_vw (by rw [hx]; intro ws z; cases z)] at hx
    obtain ⟨a, vs, rfl, ha, r⟩ := rx_tup R rx hx
    cases rx_int R ry rfl
    obtain ⟨z, e1, r1⟩ := r.atI e
    exact ⟨_, ix_tup, a, vs, _, z, rfl, rfl, ha.sq, e1, k z r1⟩
  · rw [← vwz_vw (by rw [hx]; intro ws z; cases z)] at hx
    split at e
    · rename_i h
      obtain ⟨c, e1, e2⟩ := Option.map_eq_some_iff.mp e
      subst e2
      cases rx_str R rx hx
      cases rx_int R ry rfl
      exact ⟨_, ix_str, _, _, c, rfl, rfl, h, e1, k _ (.str _)⟩
    · cases e
  · exact absurd hx (hd _)
  · cases e
/-- x[lo:hi] -/
theorem wsl_ok {lo hi : Option Int} (R : Rl X.K E σw S φ σ H) (rx : RX X.K E σw φ σ H true x v) (e : wsl (vw S x) lo hi = some w) (k : ∀ H' z, Same H H' → New X.K E σw S φ σ H H' w z → Q z H') :
    ∃ r, SlR X r ∧ r v lo hi H Q := by
  generalize hx : vw S x = a at e
  unfold wsl at e
  split at e
  · cases e
    obtain ⟨a, vs, rfl, ha, r⟩ := rx_lst R rx hx
    exact ⟨_, sl_list, a, vs, rfl, SqL.of ha, fun p hp => k _ _ (same_new hp) (new_lst R hp (r.cut _ _))⟩
  · cases e
    obtain ⟨a, vs, rfl, ha, r⟩ := rx_tup R rx hx
    refine ⟨_, sl_tupA, a, vs, rfl, ha.sq, fun z => ?_, fun _ p hp => k _ _ (same_new hp) (new_tup R hp (r.cut _ _))⟩
    refine k _ _ (Same.refl H) ⟨R, .tup ha ?_⟩
    have e1 : ∀ ws : List W, ws.length = vs.length → wcut ws lo hi = ws := fun ws h => by
      unfold wcut
      rw [h, z.1, z.2]
      simp [← h]
    rw [e1 _ r.len]
    exact r
  · split at e
    · rename_i h; cases e; cases rx_str R rx hx
      exact ⟨_, sl_str, _, rfl, h, k _ _ (Same.refl H) ⟨R, .str _⟩⟩
    · cases e
  · cases e
theorem wun_ok {op : UnaryOp} (R : Rl X.K E σw S φ σ H) (rx : RX X.K E σw φ σ H true x v) (e : wun op x = some w) (k : RF X.K φ (ZZ E σw φ σ) H w w' → True) (q : ∀ z, RF X.K φ (ZZ E σw φ σ) H w z → Q z H) : ∃ r, UnR X (unaryOp op) r ∧ r v H Q := by
  unfold wun at e
  split at e
  · cases e; cases rx_int R rx rfl
    exact ⟨_, un_neg, _, rfl, q _ (.int _)⟩
  · cases e
end
end EV

namespace EV
open PySem PySem.Spec PyProof.Rows L2
/-! ### sum of a tuple -/
def rSumT (K : PySem.W.Frag) : List V → Hp → VK → Prop := fun vs H Q => ∃ (a : Addr) (ns : List Int), vs = [V.ref a] ∧ SqT K H a (ns.map V.int) ∧ Q (.int ns.sum) H
theorem cr_sumT {X : Cx} (hc : X.calm = true) : CallR X (.builtin "sum") (rSumT X.K) := by
  intro pins s σ H vs us Q I r h
  obtain ⟨a, ns, rfl, hs, q⟩ := h
  obtain ⟨its, rv, hl, _⟩ := I.tuple hs
  rw [Vals.ref1 r]
  obtain ⟨xs, hx⟩ := rv.ints.allInts.items
  have hn : numsOf its.toArray.toList = ns := by rw [show its.toArray.toList = its from rfl, rv.ints.numsOf]
  rw [hx] at hl hn
  rw [nums_intItems] at hn
  refine PySem.W.ktm_sumG (I.ok.hd hc) hl fun h' tk t' hk => ?_
  rw [preSum_eq, List.take_of_length_le (by simp), hn]
  exact ⟨.int _, H, I.kept hk, ⟨_, rfl⟩, q⟩
/-! ### built-in functions and methods -/
def bfV : Bf → Value
  | .len => .builtin "len"
  | .int => .type "int"
  | .bool => .type "bool"
  | .str => .type "str"
  | .abs => .builtin "abs"
  | .min => .builtin "min"
  | .max => .builtin "max"
  | .sum => .builtin "sum"
  | .tuple => .type "tuple"
  | .list => .type "list"
  | .isinstance => .builtin "isinstance"
  | .all => .builtin "all"
  | .any => .builtin "any"
  | .sorted => .builtin "sorted"
  | .none => .none
section
variable {X : Cx} {E : Ent} {σw : Sls} {S : Sto} {φ : List Addr} {σ : L2.St} {H : Hp} {br : Bool} {x y w : W} {v u : V} {Q : VK}
theorem rxs_one {f : W → W} {ws : List W} {vs : List V} {a : W} (r : RXs X.K E σw φ σ H br ws vs) (e : ws.map f = [a]) : ∃ x v, vs = [v] ∧ f x = a ∧ RX X.K E σw φ σ H br x v := by
  cases r with
  | nil => cases e
  | cons r1 r2 =>
    cases r2 with
    | nil => simp at e; exact ⟨_, _, rfl, e, r1⟩
    | cons _ _ => simp at e
theorem rxs_two {f : W → W} {ws : List W} {vs : List V} {a b : W} (r : RXs X.K E σw φ σ H br ws vs) (e : ws.map f = [a, b]) : ∃ x y v u, vs = [v, u] ∧ f x = a ∧ f y = b ∧ RX X.K E σw φ σ H br x v ∧ RX X.K E σw φ σ H br y u := by
  cases r with
  | nil => cases e
  | cons r1 r2 =>
    simp only [List.map_cons, List.cons.injEq] at e
    obtain ⟨x, v, h1, h2, h3⟩ := rxs_one r2 e.2
    subst h1
    exact ⟨_, _, _, _, rfl, e.1, h2, r1, h3⟩
theorem vz_int {i : Int} (R : Rl X.K E σw S φ σ H) (r : RX X.K E σw φ σ H br x v) (e : vwz S x = .int i) : v = .int i :=
  rx_int R r ((vwz_vw (by rw [e]; intro ws z; cases z)).trans e)
theorem vz_bl {i : Bool} (R : Rl X.K E σw S φ σ H) (r : RX X.K E σw φ σ H br x v) (e : vwz S x = .bl i) : v = .bl i :=
  rx_bl R r ((vwz_vw (by rw [e]; intro ws z; cases z)).trans e)
theorem vz_str {i : Str} (R : Rl X.K E σw S φ σ H) (r : RX X.K E σw φ σ H br x v) (e : vwz S x = .str i) : v = .str i :=
  rx_str R r ((vwz_vw (by rw [e]; intro ws z; cases z)).trans e)
theorem vz_ty {i : String} (R : Rl X.K E σw S φ σ H) (r : RX X.K E σw φ σ H br x v) (e : vwz S x = .ty i) : v = .ty i :=
  rx_ty R r ((vwz_vw (by rw [e]; intro ws z; cases z)).trans e)
theorem vz_non (R : Rl X.K E σw S φ σ H) (r : RX X.K E σw φ σ H br x v) (e : vwz S x = .non) : v = .non :=
  rx_non R r ((vwz_vw (by rw [e]; intro ws z; cases z)).trans e)
theorem vz_tup {ws : List W} (R : Rl X.K E σw S φ σ H) (r : RX X.K E σw φ σ H br x v) (e : vwz S x = .tup ws) : ∃ a vs, v = .ref a ∧ TupAt X.K (ZZ E σw φ σ) H a vs ∧ RFs X.K φ (ZZ E σw φ σ) H ws vs :=
  rx_tup R r ((vwz_vw (by rw [e]; intro ws z; cases z)).trans e)
theorem vz_dct {ws : List (Key × W)} (R : Rl X.K E σw S φ σ H) (r : RX X.K E σw φ σ H br x v) (e : vwz S x = .dct ws) : ∃ a vs, v = .ref a ∧ H a = some (.dK vs) ∧ RKs X.K φ (ZZ E σw φ σ) H ws vs :=
  rx_dct R r ((vwz_vw (by rw [e]; intro ws z; cases z)).trans e)
theorem RFs.ints {φ : List Addr} {Z : Addr → Prop} {K : PySem.W.Frag} : ∀ {ws : List W} {vs : List V} {ns : List Int}, RFs K φ Z H ws vs → wints ws = some ns → vs = ns.map V.int
  | _, _, _, .nil, e => by cases e; rfl
  | _, _, _, .cons (w := w) (ws := ws) a b, e => by
    cases a with
    | int i =>
      unfold wints at e
      obtain ⟨ms, e1, e2⟩ := Option.map_eq_some_iff.mp e
      subst e2
      rw [b.ints e1]; rfl
    | _ => cases e
theorem RFs.bls {φ : List Addr} {Z : Addr → Prop} {K : PySem.W.Frag} : ∀ {ws : List W} {vs : List V} {ns : List Bool}, RFs K φ Z H ws vs → wbls ws = some ns → vs = ns.map V.bl
  | _, _, _, .nil, e => by cases e; rfl
  | _, _, _, .cons (w := w) (ws := ws) a b, e => by
    cases a with
    | bl i =>
      unfold wbls at e
      obtain ⟨ms, e1, e2⟩ := Option.map_eq_some_iff.mp e
      subst e2
      rw [b.bls e1]; rfl
    | _ => cases e
theorem RFs.strs {φ : List Addr} {Z : Addr → Prop} {K : PySem.W.Frag} : ∀ {ws : List W} {vs : List V} {ns : List Str}, RFs K φ Z H ws vs → wrd.wstrs ws = some ns → vs = ns.map V.str
  | _, _, _, .nil, e => by cases e; rfl
  | _, _, _, .cons (w := w) (ws := ws) a b, e => by
    cases a with
    | str i =>
      unfold wrd.wstrs at e
      obtain ⟨ms, e1, e2⟩ := Option.map_eq_some_iff.mp e
      subst e2
      rw [b.strs e1]; rfl
    | _ => cases e
theorem imin_ok : ∀ (r : List Int) (i m : Int), m ∈ i :: r → (∀ y ∈ i :: r, m ≤ y) → m = r.foldl min i
  | [], i, m, h, _ => by simpa using h
  | j :: r, i, m, h, l => by
    rw [List.foldl_cons]
    refine imin_ok r (min i j) m ?_ fun y hy => ?_
    · have h1 := l i (by simp)
      have h2 := l j (by simp)
      rcases List.mem_cons.mp h with rfl | h
      · have : min m j = m := by omega
        rw [this]; exact List.mem_cons_self ..
      · rcases List.mem_cons.mp h with rfl | h
        · have : min i m = m := by omega
          rw [this]; exact List.mem_cons_self ..
        · exact List.mem_cons_of_mem _ h
    · rcases List.mem_cons.mp hy with rfl | hy
      · have h1 := l i (by simp)
        have h2 := l j (by simp)
        omega
      · exact l y (by simp [hy])
theorem imax_ok : ∀ (r : List Int) (i m : Int), m ∈ i :: r → (∀ y ∈ i :: r, y ≤ m) → m = r.foldl max i
  | [], i, m, h, _ => by simpa using h
  | j :: r, i, m, h, l => by
    rw [List.foldl_cons]
    refine imax_ok r (max i j) m ?_ fun y hy => ?_
    · have h1 := l i (by simp)
      have h2 := l j (by simp)
      rcases List.mem_cons.mp h with rfl | h
      · have : max m j = m := by omega
        rw [this]; exact List.mem_cons_self ..
      · rcases List.mem_cons.mp h with rfl | h
        · have : max i m = m := by omega
          rw [this]; exact List.mem_cons_self ..
        · exact List.mem_cons_of_mem _ h
    · rcases List.mem_cons.mp hy with rfl | hy
      · have h1 := l i (by simp)
        have h2 := l j (by simp)
        omega
      · exact l y (by simp [hy])
theorem tyx_t {K : PySem.W.Frag} {a : Addr} {xs : List V} (h : SqT K H a xs) : TyX K H (.ref a) (.type "tuple") := by
  rcases h with (h | ⟨o, h⟩) | ⟨o, its, n, h, c, _⟩
  · exact .base (.tup h)
  · exact .fTuple h
  · exact .kTuple h c
theorem tyx_l {K : PySem.W.Frag} {a : Addr} {xs : List V} (h : SqL K H a xs) : TyX K H (.ref a) (.type "list") := by
  rcases h with (h | ⟨o, h⟩) | ⟨o, its, n, h, c, _⟩
  · exact .base (.lst h)
  · exact .base (.frz h)
  · exact .kList h c
theorem isi_k {t : String} {n : String} {b : Bool} (ty : TyX X.K H v (.type t)) (e : PySem.W.kitOne X.K (.type t) (.type n) = some b) (q : Q (.bl b) H) : ∃ r, CallR X (.builtin "isinstance") r ∧ r [v, .ty n] H Q :=
  ⟨_, call_isi, v, .ty n, _, .type n, b, rfl, .ty n, ty, e, q⟩
theorem wisi_ok {n : String} {b : Bool} (R : Rl X.K E σw S φ σ H) (r : RX X.K E σw φ σ H true x v) (e : wisi (vwz S x) n = some b) (q : Q (.bl b) H) : ∃ r, CallR X (.builtin "isinstance") r ∧ r [v, .ty n] H Q := by
  generalize hx : vwz S x = a at e
  unfold wisi at e
  split at e
  · cases vz_non R r hx
    split at e
    · rename_i h
      cases e
      rcases h with rfl | rfl | rfl | rfl | rfl <;> exact isi_k (.base .non) (kit_ty (by decide +kernel)) q
    · cases e
  · cases vz_bl R r hx
    split at e
    · rename_i h
      cases e
      rcases h with rfl | rfl <;> exact isi_k (.base (.bl _)) (kit_ty (by decide +kernel)) q
    · split at e
      · rename_i h
        cases e
        rcases h with rfl | rfl | rfl <;> exact isi_k (.base (.bl _)) (kit_ty (by decide +kernel)) q
      · cases e
  · cases vz_int R r hx
    split at e
    · rename_i h
      cases e
      subst h
      exact isi_k (.base (.int _)) (kit_ty (by decide +kernel)) q
    · split at e
      · rename_i h
        cases e
        rcases h with rfl | rfl | rfl | rfl <;> exact isi_k (.base (.int _)) (kit_ty (by decide +kernel)) q
      · cases e
  · cases vz_str R r hx
    split at e
    · rename_i h
      cases e
      subst h
      exact isi_k (.base (.str _)) (kit_ty (by decide +kernel)) q
    · split at e
      · rename_i h
        cases e
        rcases h with rfl | rfl | rfl | rfl <;> exact isi_k (.base (.str _)) (kit_ty (by decide +kernel)) q
      · cases e
  · obtain ⟨a, vs, rfl, ha, _⟩ := vz_tup R r hx
    split at e
    · rename_i h
      cases e
      subst h
      exact isi_k (tyx_t ha.sq) (kit_ty (by decide +kernel)) q
    · split at e
      · rename_i h
        cases e
        rcases h with rfl | rfl | rfl | rfl <;> exact isi_k (tyx_t ha.sq) (kit_ty (by decide +kernel)) q
      · cases e
  · obtain ⟨a, vs, rfl, ha, _⟩ := rz_lst R r hx
    split at e
    · rename_i h
      cases e
      subst h
      exact isi_k (tyx_l ha) (kit_ty (by decide +kernel)) q
    · split at e
      · rename_i h
        cases e
        rcases h with rfl | rfl | rfl | rfl <;> exact isi_k (tyx_l ha) (kit_ty (by decide +kernel)) q
      · cases e
  · cases e
theorem wblt_ok {f : Bf} {ws : List W} {vs : List V} (hc : X.calm = true) (R : Rl X.K E σw S φ σ H) (r : RXs X.K E σw φ σ H true ws vs) (e : wblt f (ws.map (vwz S)) = some w)
    (k : ∀ H' z, Same H H' → New X.K E σw S φ σ H H' w z → Q z H') : ∃ r, CallR X (bfV f) r ∧ r vs H Q := by
  have ki : ∀ i, w = .int i → Q (.int i) H := fun i q => by subst q; exact k _ _ (Same.refl H) ⟨R, .int i⟩
  have ks : ∀ i, w = .str i → Q (.str i) H := fun i q => by subst q; exact k _ _ (Same.refl H) ⟨R, .str i⟩
  have kb : ∀ i, w = .bl i → Q (.bl i) H := fun i q => by subst q; exact k _ _ (Same.refl H) ⟨R, .bl i⟩
  generalize hm : ws.map (vwz S) = l at e
  unfold wblt at e
  split at e
  · obtain ⟨x, v, rfl, h1, h2⟩ := rxs_one r hm
    obtain ⟨a, us, rfl, ha, r1⟩ := rz_lst R h2 h1
    cases e
    exact ⟨_, call_len_seq, a, us, rfl, .inl ha, by rw [← r1.len]; exact ki _ rfl⟩
  · obtain ⟨x, v, rfl, h1, h2⟩ := rxs_one r hm
    obtain ⟨a, us, rfl, ha, r1⟩ := vz_tup R h2 h1
    cases e
    exact ⟨_, call_len_seq, a, us, rfl, .inr ha.sq, by rw [← r1.len]; exact ki _ rfl⟩
  · split at e
    · rename_i h
      obtain ⟨x, v, rfl, h1, h2⟩ := rxs_one r hm
      cases vz_str R h2 h1
      cases e
      exact ⟨_, call_len_str, _, rfl, h, ki _ rfl⟩
    · cases e
  · obtain ⟨x, v, rfl, h1, h2⟩ := rxs_one r hm
    obtain ⟨a, us, rfl, ha, r1⟩ := vz_dct R h2 h1
    cases e
    exact ⟨_, call_lenD, a, us, rfl, ha, by rw [← r1.len]; exact ki _ rfl⟩
  · obtain ⟨x, v, rfl, h1, h2⟩ := rxs_one r hm
    cases vz_int R h2 h1
    cases e
    exact ⟨_, call_int1, .inl ⟨_, rfl, ki _ rfl⟩⟩
  · obtain ⟨x, v, rfl, h1, h2⟩ := rxs_one r hm
    cases vz_bl R h2 h1
    cases e
    exact ⟨_, call_int1, .inr ⟨_, rfl, ki _ rfl⟩⟩
  · split at e
    · rename_i h
      obtain ⟨x, v, rfl, h1, h2⟩ := rxs_one r hm
      cases vz_str R h2 h1
      obtain ⟨n, hn, e⟩ := Option.map_eq_some_iff.mp e
      cases e
      exact ⟨_, call_int_str, _, _, rfl, hn, h, ki _ rfl⟩
    · cases e
  · obtain ⟨x, v, rfl, h1, h2⟩ := rxs_one r hm
    cases vz_int R h2 h1
    cases e
    exact ⟨_, call_bool1, .inl ⟨_, rfl, kb _ rfl⟩⟩
  · obtain ⟨x, v, rfl, h1, h2⟩ := rxs_one r hm
    cases vz_bl R h2 h1
    cases e
    exact ⟨_, call_bool1, .inr ⟨_, rfl, kb _ rfl⟩⟩
  · split at e
    · rename_i h
      obtain ⟨x, v, rfl, h1, h2⟩ := rxs_one r hm
      cases vz_int R h2 h1
      cases e
      exact ⟨_, call_str_int, _, rfl, h, ks _ rfl⟩
    · cases e
  · obtain ⟨x, v, rfl, h1, h2⟩ := rxs_one r hm
    cases vz_str R h2 h1
    cases e
    exact ⟨_, SkE.call_str_str, _, rfl, ks _ rfl⟩
  · obtain ⟨x, v, rfl, h1, h2⟩ := rxs_one r hm
    cases vz_int R h2 h1
    cases e
    exact ⟨_, call_abs, _, rfl, ki _ rfl⟩
  · obtain ⟨x, y, v, u, rfl, h1, h3, h2, h4⟩ := rxs_two r hm
    cases vz_int R h2 h1; cases vz_int R h4 h3
    cases e
    refine ⟨_, call_min2 hc, _, _, rfl, ?_⟩
    have := ki _ rfl
    rename_i i j
    have e : (if j < i then j else i) = min i j := by split <;> omega
    rw [e]; exact this
  · obtain ⟨x, y, v, u, rfl, h1, h3, h2, h4⟩ := rxs_two r hm
    cases vz_int R h2 h1; cases vz_int R h4 h3
    cases e
    refine ⟨_, call_max2 hc, _, _, rfl, ?_⟩
    have := ki _ rfl
    rename_i i j
    have e : (if j > i then j else i) = max i j := by split <;> omega
    rw [e]; exact this
  · split at e
    · rename_i i r0 hi
      obtain ⟨x, v, rfl, h1, h2⟩ := rxs_one r hm
      obtain ⟨a, us, rfl, ha, r1⟩ := rz_lst R h2 h1
      have e1 := r1.ints hi
      subst e1
      cases e
      exact ⟨_, cr_min hc, a, _, rfl, ha, by simp, fun m hm hl => by rw [imin_ok _ _ m hm hl]; exact ki _ rfl⟩
    · cases e
  · split at e
    · rename_i i r0 hi
      obtain ⟨x, v, rfl, h1, h2⟩ := rxs_one r hm
      obtain ⟨a, us, rfl, ha, r1⟩ := rz_lst R h2 h1
      have e1 := r1.ints hi
      subst e1
      cases e
      exact ⟨_, cr_max hc, a, _, rfl, ha, by simp, fun m hm hl => by rw [imax_ok _ _ m hm hl]; exact ki _ rfl⟩
    · cases e
  · obtain ⟨ns, e1, e2⟩ := Option.map_eq_some_iff.mp e
    subst e2
    obtain ⟨x, v, rfl, h1, h2⟩ := rxs_one r hm
    obtain ⟨a, us, rfl, ha, r1⟩ := rz_lst R h2 h1
    have e1 := r1.ints e1
    subst e1
    exact ⟨_, cr_sum hc, a, _, rfl, ha, ki _ rfl⟩
  · obtain ⟨ns, e1, e2⟩ := Option.map_eq_some_iff.mp e
    subst e2
    obtain ⟨x, v, rfl, h1, h2⟩ := rxs_one r hm
    obtain ⟨a, us, rfl, ha, r1⟩ := vz_tup R h2 h1
    have e1 := r1.ints e1
    subst e1
    exact ⟨_, cr_sumT hc, a, _, rfl, ha.sq, ki _ rfl⟩
  · obtain ⟨ns, e1, e2⟩ := Option.map_eq_some_iff.mp e
    subst e2
    obtain ⟨x, v, rfl, h1, h2⟩ := rxs_one r hm
    obtain ⟨a, us, rfl, ha, r1⟩ := rz_lst R h2 h1
    have e1 := r1.bls e1
    subst e1
    exact ⟨_, cr_all hc, a, _, rfl, ha, kb _ rfl⟩
  · obtain ⟨ns, e1, e2⟩ := Option.map_eq_some_iff.mp e
    subst e2
    obtain ⟨x, v, rfl, h1, h2⟩ := rxs_one r hm
    obtain ⟨a, us, rfl, ha, r1⟩ := rz_lst R h2 h1
    have e1 := r1.bls e1
    subst e1
    exact ⟨_, cr_any hc, a, _, rfl, ha, kb _ rfl⟩
  · obtain ⟨x, v, rfl, h1, h2⟩ := rxs_one r hm
    obtain ⟨a, us, rfl, ha, r1⟩ := rz_lst R h2 h1
    cases e
    exact ⟨_, call_tuple_of, a, us, rfl, .inl ⟨ha, fun l hl => k _ _ (same_new hl) (new_tup R hl r1)⟩⟩
  · obtain ⟨x, v, rfl, h1, h2⟩ := rxs_one r hm
    obtain ⟨a, us, rfl, ha, r1⟩ := vz_tup R h2 h1
    cases e
    exact ⟨_, call_tuple_of, a, us, rfl, .inr ⟨ha.sq, k _ _ (Same.refl H) ⟨R, .tup ha r1⟩⟩⟩
  · obtain ⟨x, v, rfl, h1, h2⟩ := rxs_one r hm
    obtain ⟨a, us, rfl, ha, r1⟩ := rz_lst R h2 h1
    cases e
    exact ⟨_, call_list_of, a, us, rfl, .inl ha, fun l hl => k _ _ (same_new hl) (new_lst R hl r1)⟩
  · obtain ⟨x, v, rfl, h1, h2⟩ := rxs_one r hm
    obtain ⟨a, us, rfl, ha, r1⟩ := vz_tup R h2 h1
    cases e
    exact ⟨_, call_list_of, a, us, rfl, .inr ha.sq, fun l hl => k _ _ (same_new hl) (new_lst R hl r1)⟩
  · obtain ⟨x, v, rfl, h1, h2⟩ := rxs_one r hm
    obtain ⟨a, us, rfl, ha, r1⟩ := vz_dct R h2 h1
    cases e
    exact ⟨_, call_listD hc, a, us, rfl, .inl ha, fun l hl => k _ _ (same_new hl) (new_lst R hl r1.keysF)⟩
  · obtain ⟨x, y, v, u, rfl, h1, h3, h2, h4⟩ := rxs_two r hm
    cases vz_ty R h4 h3
    obtain ⟨b, e1, e2⟩ := Option.map_eq_some_iff.mp e
    subst e2
    subst h1
    exact wisi_ok R h2 e1 (kb _ rfl)
  · cases e
/-- the built-in's name -/
theorem bf_boot {x : Str} (n : bfOf x ≠ .none) : bootBuiltins x = some (bfV (bfOf x)) ∧ x ≠ "__name__" ∧ (x == ("__debug__" : Str)) = false := by
  by_cases h : x = "len" ∨ x = "int" ∨ x = "isinstance" ∨ x = "tuple" ∨ x = "list" ∨ x = "min" ∨ x = "max" ∨ x = "sum" ∨ x = "str" ∨ x = "abs" ∨ x = "bool" ∨ x = "all" ∨ x = "any" ∨ x = "sorted"
  · rcases h with rfl | rfl | rfl | rfl | rfl | rfl | rfl | rfl | rfl | rfl | rfl | rfl | rfl | rfl <;> exact ⟨by decide +kernel, by decide +kernel, by decide +kernel⟩
  · simp only [not_or] at h
    exfalso
    apply n
    unfold bfOf
    simp only [h, if_false]
end
end EV

namespace EV
open PySem PySem.Spec PyProof.Rows L2
/-! ### readings -/
section
variable (K : PySem.W.Frag)
def okE (E : Ent) (σw : Sls) (φ : List Addr) (σ : L2.St) (H : Hp) (br : Bool) (r : Res W) (Q : VK) : Prop :=
  ∃ w S', r = .ok w S' ∧ ∀ φ' H' v, Ext φ H φ' H' → Rl K E σw S' φ' σ H' → RX K E σw φ' σ H' br w v → Q v H'
def rdE (br : Bool) (m : M W) : TE := fun σ H Q => ∃ E σw S φ, Rl K E σw S φ σ H ∧ okE K E σw φ σ H br (m σw S) Q
/-- .. of a new list or dict -/
def okN (E : Ent) (σw : Sls) (φ : List Addr) (σ : L2.St) (H : Hp) (r : Res W) (Q : VK) : Prop :=
  ∃ w S', r = .ok w S' ∧ ∀ φ' H' v, Ext φ H φ' H' → New K E σw S' φ' σ H H' w v → Q v H'
def rdN (m : M W) : TE := fun σ H Q => ∃ E σw S φ, Rl K E σw S φ σ H ∧ okN K E σw φ σ H (m σw S) Q
def okA (E : Ent) (σw : Sls) (φ : List Addr) (σ : L2.St) (H : Hp) (br : Bool) (r : Res (List W)) (Q : List V → Hp → Prop) : Prop :=
  ∃ w S', r = .ok w S' ∧ ∀ φ' H' v, Ext φ H φ' H' → Rl K E σw S' φ' σ H' → RXs K E σw φ' σ H' br w v → Q v H'
def rdA (br : Bool) (m : M (List W)) : TA := fun σ H Q => ∃ E σw S φ, Rl K E σw S φ σ H ∧ okA K E σw φ σ H br (m σw S) Q
def okT (E : Ent) (σw : Sls) (φ : List Addr) (σ : L2.St) (H : Hp) (r : Res Bool) (Q : Bool → Hp → Prop) : Prop :=
  ∃ b S', r = .ok b S' ∧ ∀ φ' H', Ext φ H φ' H' → Rl K E σw S' φ' σ H' → Q b H'
def rdT (m : M Bool) : TT := fun σ H Q => ∃ E σw S φ, Rl K E σw S φ σ H ∧ okT K E σw φ σ H (m σw S) Q
/-- the turns that J gives are ws, as long as what stands stays -/
def ItOk (J : It) (ws : List W) (φ : List Addr) (Z : Addr → Prop) (H : Hp) : Prop := ∀ φ' Z' H', Later φ Z H φ' Z' H' → (∀ a, Z' a → H' a ≠ none) →
  J.stop ws.length H' ∧ ∀ (i : Nat) (w : W), ws[i]? = some w → J.go i H' ∧ ∀ x H'', J.yld i H' x H'' → Same H' H'' ∧ RF K φ' Z' H'' w x
def okI (E : Ent) (σw : Sls) (φ : List Addr) (σ : L2.St) (H : Hp) (r : Res (List W)) (R : It → Hp → Prop) : Prop :=
  ∃ ws S', r = .ok ws S' ∧ ∀ φ' H' J, Ext φ H φ' H' → Rl K E σw S' φ' σ H' → ItOk K J ws φ' (ZZ E σw φ' σ) H' → R J H'
def rdI (m : M (List W)) : TI := fun σ H R => ∃ E σw S φ, Rl K E σw S φ σ H ∧ okI K E σw φ σ H (m σw S) R
/-- a target takes the value w: it stores to slots of own alone -/
def okG (own : List Nat) (E : Ent) (σw : Sls) (S : Sto) (φ : List Addr) (σ : L2.St) (H : Hp) (r : Res Sls) (Q : L2.St → Hp → Prop) : Prop :=
  ∃ σw1, r = .ok σw1 S ∧ ∀ σ1, (∀ i, i ∉ own → σ1[i]? = σ[i]?) → Rl K E σw1 S φ σ1 H → (∀ a, ZZ E σw1 φ σ1 a → ZZ E σw φ σ a) → Q σ1 H
def rdG (own : List Nat) (bd : W → M Sls) : TG := fun v σ H Q => ∃ E σw S φ w, Rl K E σw S φ σ H ∧ RF K φ (ZZ E σw φ σ) H w v ∧ okG K own E σw S φ σ H (bd w σw S) Q
/-- what a def's caller sees at its end -/
def RetOk (E : Ent) (S : Sto) (φ : List Addr) (H : Hp) (w : W) (v : V) : Prop :=
  StOk K S φ (fun a => E.Z a ∨ a ∈ φ) H ∧ RF K φ (fun a => E.Z a ∨ a ∈ φ) H w v ∧ Ext E.φ E.H φ H
def okS (E : Ent) (σw : Sls) (φ : List Addr) (σ : L2.St) (H : Hp) (r : Res Fl) (D : Ends) : Prop := match r with
  | .ok (.nx σw') S' => ∀ φ' σ' H', Later φ (ZZ E σw φ σ) H φ' (ZZ E σw' φ' σ') H' → Rl K E σw' S' φ' σ' H' → D.nx σ' H'
  | .ok (.bk σw') S' => ∀ φ' σ' H', Later φ (ZZ E σw φ σ) H φ' (ZZ E σw' φ' σ') H' → Rl K E σw' S' φ' σ' H' → D.bk σ' H'
  | .ok (.ct σw') S' => ∀ φ' σ' H', Later φ (ZZ E σw φ σ) H φ' (ZZ E σw' φ' σ') H' → Rl K E σw' S' φ' σ' H' → D.ct σ' H'
  | .ok (.rt w) S' => ∀ φ' H' v, Later φ (ZZ E σw φ σ) H φ' (fun a => E.Z a ∨ a ∈ φ') H' → RetOk K E S' φ' H' w v → D.rt v H'
  | _ => False
def rdS (m : M Fl) : TS := fun D σ H => ∃ E σw S φ, Rl K E σw S φ σ H ∧ okS K E σw φ σ H (m σw S) D
end
theorem bind_ok {α β : Type} {r : Res α} {f : α → Sto → Res β} {b : β} {S : Sto} (h : r.bind f = .ok b S) : ∃ a S1, r = .ok a S1 ∧ f a S1 = .ok b S := by
  cases r with
  | ok a S1 => exact ⟨a, S1, rfl, h⟩
  | ex c as S1 => cases h
  | bad => cases h
theorem olift_ok {α : Type} {o : Option α} {S S' : Sto} {a : α} (h : olift o S = .ok a S') : o = some a ∧ S' = S := by
  cases o with
  | none => cases h
  | some b => cases h; exact ⟨rfl, rfl⟩
section
variable {X : Cx} {e : Expr} {t t' : TE} {pos : Pos}
theorem _root_.L2.PE.imp (h : PE X e t) (k : ∀ σ H Q, t' σ H Q → t σ H Q) : PE X e t' := ⟨fun pins s σ H Q I q => h.run pins s σ H Q I (k σ H Q q)⟩
theorem _root_.L2.PE.no {br : Bool} : PE X e (rdE X.K br mBad) := ⟨fun _ _ _ _ _ _ ⟨_, _, _, _, _, _, _, q, _⟩ => by cases q⟩
theorem _root_.L2.PE.noN : PE X e (rdN X.K mBad) := ⟨fun _ _ _ _ _ _ ⟨_, _, _, _, _, _, _, q, _⟩ => by cases q⟩
theorem _root_.L2.PT.imp {t t' : TT} (h : PT X e t) (k : ∀ σ H Q, t' σ H Q → t σ H Q) : PT X e t' := ⟨fun pins s σ H Q I q => h.run pins s σ H Q I (k σ H Q q)⟩
theorem _root_.L2.PW.imp {t t' : TT} (h : PW X e t) (k : ∀ σ H Q, t' σ H Q → t σ H Q) : PW X e t' := ⟨fun wh pins s σ H Q I q => h.run wh pins s σ H Q I (k σ H Q q)⟩
theorem _root_.L2.PT.no : PT X e (rdT X.K mBad) := ⟨fun _ _ _ _ _ _ ⟨_, _, _, _, _, _, _, q, _⟩ => by cases q⟩
theorem _root_.L2.PA.imp {es : List Expr} {t t' : TA} (h : PA X es t) (k : ∀ σ H Q, t' σ H Q → t σ H Q) : PA X es t' := ⟨fun pos pins s σ H Q I q => h.run pos pins s σ H Q I (k σ H Q q)⟩
theorem _root_.L2.PA.no {br : Bool} {es : List Expr} : PA X es (rdA X.K br mBad) := ⟨fun _ _ _ _ _ _ _ ⟨_, _, _, _, _, _, _, q, _⟩ => by cases q⟩
theorem _root_.L2.PI.imp {tg : Expr} {t t' : TI} (h : PI X tg e t) (k : ∀ σ H Q, t' σ H Q → t σ H Q) : PI X tg e t' := ⟨fun pins s σ H Q I q => h.run pins s σ H Q I (k σ H Q q)⟩
theorem _root_.L2.PI.no {tg : Expr} : PI X tg e (rdI X.K mBad) := ⟨fun _ _ _ _ _ _ ⟨_, _, _, _, _, _, _, q, _⟩ => by cases q⟩
theorem _root_.L2.PG.imp {t t' : TG} (h : PG X e t) (k : ∀ v σ H Q, t' v σ H Q → t v σ H Q) : PG X e t' := ⟨fun pins s σ H v u Q I r q => h.run pins s σ H v u Q I r (k v σ H Q q)⟩
theorem _root_.L2.PGs.imp {es : List Expr} {t t' : TGs} (h : PGs X es t) (k : ∀ v σ H Q, t' v σ H Q → t v σ H Q) : PGs X es t' := ⟨fun pins s σ H v u Q I r q => h.run pins s σ H v u Q I r (k v σ H Q q)⟩
theorem _root_.L2.PG.no {own : List Nat} : PG X e (rdG X.K own fun _ => mBad) := ⟨fun _ _ _ _ _ _ _ _ _ ⟨_, _, _, _, _, _, _, _, q, _⟩ => by cases q⟩
theorem _root_.L2.PS.imp {st : Stmt} {t t' : TS} (h : PS X st t) (k : ∀ D σ H, t' D σ H → t D σ H) : PS X st t' := ⟨fun pins s σ H D I q => h.run pins s σ H D I (k D σ H q)⟩
theorem _root_.L2.PSs.imp {st : List Stmt} {t t' : TS} (h : PSs X st t) (k : ∀ D σ H, t' D σ H → t D σ H) : PSs X st t' := ⟨fun pins s σ H D I q => h.run pins s σ H D I (k D σ H q)⟩
theorem _root_.L2.PS.no {st : Stmt} : PS X st (rdS X.K mBad) := ⟨fun _ _ _ _ _ _ ⟨_, _, _, _, _, q⟩ => q.elim⟩
theorem _root_.L2.PSs.no {st : List Stmt} : PSs X st (rdS X.K mBad) := ⟨fun _ _ _ _ _ _ ⟨_, _, _, _, _, q⟩ => q.elim⟩
/-- any of its readings -/
theorem _root_.L2.PE.any {T : TE} (k : ∀ σ H Q, T σ H Q → ∃ t, PE X e t ∧ t σ H Q) : PE X e T := ⟨fun pins s σ H Q I q => by
  obtain ⟨t, h, q⟩ := k σ H Q q
  exact h.run pins s σ H Q I q⟩
theorem _root_.L2.PS.any {st : Stmt} {T : TS} (k : ∀ D σ H, T D σ H → ∃ t, PS X st t ∧ t D σ H) : PS X st T := ⟨fun pins s σ H D I q => by
  obtain ⟨t, h, q⟩ := k D σ H q
  exact h.run pins s σ H D I q⟩
def opAny (X : Cx) (f : Value → Value → Sem Value) : R2 := fun x y H Q => ∃ r : R2, OpR X f r ∧ r x y H Q
theorem opAny_ok {f : Value → Value → Sem Value} : OpR X f (opAny X f) := by
  intro pins s σ H x y v u Q I rx ry h
  obtain ⟨r, h1, q⟩ := h
  exact h1 pins s σ H x y v u Q I rx ry q
def unAny (X : Cx) (f : Value → Sem Value) : V → Hp → VK → Prop := fun x H Q => ∃ r, UnR X f r ∧ r x H Q
theorem unAny_ok {f : Value → Sem Value} : UnR X f (unAny X f) := by
  intro pins s σ H x v Q I rx h
  obtain ⟨r, h1, q⟩ := h
  exact h1 pins s σ H x v Q I rx q
def callAny (X : Cx) (f : Value) : List V → Hp → VK → Prop := fun xs H Q => ∃ r, CallR X f r ∧ r xs H Q
theorem callAny_ok {f : Value} : CallR X f (callAny X f) := by
  intro pins s σ H xs us Q I rx h
  obtain ⟨r, h1, q⟩ := h
  exact h1 pins s σ H xs us Q I rx q
def ixAny (X : Cx) : R2 := fun x y H Q => ∃ r : R2, IxR X r ∧ r x y H Q
theorem ixAny_ok : IxR X (ixAny X) := by
  intro value slice pins s σ H x y v u Q I rx ry h hs
  obtain ⟨r, h1, q⟩ := h
  exact h1 value slice pins s σ H x y v u Q I rx ry q hs
def slAny (X : Cx) : V → Option Int → Option Int → Hp → VK → Prop := fun x lo hi H Q => ∃ r, SlR X r ∧ r x lo hi H Q
theorem slAny_ok : SlR X (slAny X) := by
  intro pins s σ H x v vl vu lo hi sl Q I rx hs pl pu h
  obtain ⟨r, h1, q⟩ := h
  exact h1 pins s σ H x v vl vu lo hi sl Q I rx hs pl pu q
end
section
variable {X : Cx} {a b c e : Expr} {ma mb mc m : M W} {br : Bool} {pos : Pos} {E : Ent} {σw : Sls} {S S' : Sto} {φ φ' : List Addr} {σ : L2.St} {H H' : Hp} {w : W} {v : V}
theorem rdE_of_rdN (h : PE X e (rdN X.K m)) : PE X e (rdE X.K br m) := h.imp fun _ _ _ ⟨E, σw, S, φ, R, w, S', q, k⟩ =>
  ⟨E, σw, S, φ, R, w, S', q, fun φ' H' v x n => k φ' H' v x n.rl (.inl n.rf)⟩
theorem rdE_mono (h : PE X e (rdE X.K false m)) : PE X e (rdE X.K true m) := h.imp fun _ _ _ ⟨E, σw, S, φ, R, w, S', q, k⟩ =>
  ⟨E, σw, S, φ, R, w, S', q, fun φ' H' v x n r => k φ' H' v x n (.inl r.fr)⟩
theorem pe_c {w : W} {v : V} (h : PE X e (tC v)) (r : ∀ φ Z H, RF X.K φ Z H w v) : PE X e (rdE X.K br (mC w)) := h.imp fun σ H Q ⟨E, σw, S, φ, R, w', S', q, k⟩ => by
  cases q
  exact k φ H v .refl R (.inl (r _ _ _))
theorem pe_bin {op : Operator} (ha : PE X a (rdE X.K true ma)) (hb : PE X b (rdE X.K true mb)) : PE X (.BinOp a op b pos) (rdN X.K (mBin op ma mb)) :=
  (pe_op opAny_ok ha hb).imp fun σ H Q ⟨E, σw, S, φ, R, w, S', q, k⟩ => by
    obtain ⟨x, S1, e1, q⟩ := bind_ok q
    obtain ⟨y, S2, e2, q⟩ := bind_ok q
    obtain ⟨q2, rfl⟩ := olift_ok q
    exact ⟨E, σw, S, φ, R, x, S1, e1, fun φ1 H1 v x1 R1 r1 => ⟨E, σw, S1, φ1, R1, y, _, e2, fun φ2 H2 u x2 R2 r2 =>
      wbin_ok R2 (r1.ext x2) r2 q2 fun H' z s n => k φ2 H' z ((x1.trans x2).trans (.same s)) (n.back (x1.trans x2) R2)⟩⟩
theorem pe_unop {op : UnaryOp} (ha : PE X a (rdE X.K true ma)) : PE X (.UnaryOp op a pos) (rdE X.K br (mUn op ma)) :=
  (pe_un unAny_ok ha).imp fun σ H Q ⟨E, σw, S, φ, R, w, S', q, k⟩ => by
    obtain ⟨x, S1, e1, q⟩ := bind_ok q
    obtain ⟨q2, rfl⟩ := olift_ok q
    exact ⟨E, σw, S, φ, R, x, _, e1, fun φ1 H1 v x1 R1 r1 => wun_ok (w' := v) R1 r1 q2 (fun _ => trivial) fun z r => k φ1 H1 z x1 R1 (.inl r)⟩
theorem pe_cmpop {op : CmpOp} (hu : X.A.units + 64 < cLine) (hm : behindInMarks op b = false) (ha : PE X a (rdE X.K true ma)) (hb : PE X b (rdE X.K true mb)) : PE X (.Compare a [op] [b] pos) (rdE X.K br (mCmp op ma mb)) :=
  (pe_cmpR opAny_ok ha hb hm).imp fun σ H Q ⟨E, σw, S, φ, R, w, S', q, k⟩ => by
    obtain ⟨x, S1, e1, q⟩ := bind_ok q
    obtain ⟨y, S2, e2, q⟩ := bind_ok q
    obtain ⟨q2, rfl⟩ := olift_ok q
    obtain ⟨d, q3, rfl⟩ := Option.map_eq_some_iff.mp q2
    exact ⟨E, σw, S, φ, R, x, S1, e1, fun φ1 H1 v x1 R1 r1 => ⟨E, σw, S1, φ1, R1, y, _, e2, fun φ2 H2 u x2 R2 r2 =>
      wcmp_ok hu R2 (r1.ext x2) r2 q3 (k φ2 H2 _ (x1.trans x2) R2 (.inl (.bl _)))⟩⟩
theorem pt_cmpop {op : CmpOp} (hu : X.A.units + 64 < cLine) (hm : behindInMarks op b = false) (ha : PE X a (rdE X.K true ma)) (hb : PE X b (rdE X.K true mb)) : PT X (.Compare a [op] [b] pos) (rdT X.K (mCmpT op ma mb)) :=
  (pt_cmpR opAny_ok ha hb hm).imp fun σ H Q ⟨E, σw, S, φ, R, w, S', q, k⟩ => by
    obtain ⟨x, S1, e1, q⟩ := bind_ok q
    obtain ⟨y, S2, e2, q⟩ := bind_ok q
    obtain ⟨q2, rfl⟩ := olift_ok q
    exact ⟨E, σw, S, φ, R, x, S1, e1, fun φ1 H1 v x1 R1 r1 => ⟨E, σw, S1, φ1, R1, y, _, e2, fun φ2 H2 u x2 R2 r2 =>
      wcmp_ok hu R2 (r1.ext x2) r2 q2 ⟨w, rfl, k φ2 H2 (x1.trans x2) R2⟩⟩⟩
theorem chain_go {o p : CmpOp} (hu : X.A.units + 64 < cLine) {Qf : VK} {d : Bool} (R : Rl X.K E σw S φ σ H) (q : mChain o p ma mb mc σw S = .ok d S') (k : ∀ φ' H', Ext φ H φ' H' → Rl X.K E σw S' φ' σ H' → Qf (.bl d) H') :
    tChain (opAny X (compareOp o)) (opAny X (compareOp p)) (rdE X.K true ma) (rdE X.K true mb) (rdE X.K true mc) σ H Qf := by
  obtain ⟨x, S1, e1, q⟩ := bind_ok q
  obtain ⟨y, S2, e2, q⟩ := bind_ok q
  refine ⟨E, σw, S, φ, R, x, S1, e1, fun φ1 H1 v x1 R1 r1 => ⟨E, σw, S1, φ1, R1, y, S2, e2, fun φ2 H2 u x2 R2 r2 => ?_⟩⟩
  split at q
  · rename_i h
    cases q
    exact wcmp_ok hu R2 (r1.ext x2) r2 h ⟨false, rfl, k φ2 H2 (x1.trans x2) R2⟩
  · rename_i h
    refine wcmp_ok hu R2 (r1.ext x2) r2 h ⟨true, rfl, ?_⟩
    obtain ⟨z, S3, e3, q⟩ := bind_ok q
    obtain ⟨q2, rfl⟩ := olift_ok q
    exact ⟨E, σw, S2, φ2, R2, z, _, e3, fun φ3 H3 t x3 R3 r3 => wcmp_ok hu R3 (r2.ext x3) r3 q2 (k φ3 H3 ((x1.trans x2).trans x3) R3)⟩
  · cases q
theorem pe_chainop {o p : CmpOp} (hu : X.A.units + 64 < cLine) (hm : behindInMarks p c = false) (ha : PE X a (rdE X.K true ma)) (hb : PE X b (rdE X.K true mb)) (hc : PE X c (rdE X.K true mc)) :
    PE X (.Compare a [o, p] [b, c] pos) (rdE X.K br (mVal (mChain o p ma mb mc))) :=
  (pe_chain opAny_ok opAny_ok ha hb hc hm).imp fun σ H Q ⟨E, σw, S, φ, R, w, S', q, k⟩ => by
    obtain ⟨d, S1, e1, q⟩ := bind_ok q
    cases q
    exact chain_go hu R e1 fun φ' H' x R' => k φ' H' _ x R' (.inl (.bl _))
theorem pt_chainop {o p : CmpOp} (hu : X.A.units + 64 < cLine) (hm : behindInMarks p c = false) (ha : PE X a (rdE X.K true ma)) (hb : PE X b (rdE X.K true mb)) (hc : PE X c (rdE X.K true mc)) :
    PT X (.Compare a [o, p] [b, c] pos) (rdT X.K (mChain o p ma mb mc)) :=
  (pt_chain opAny_ok opAny_ok ha hb hc hm).imp fun σ H Q ⟨E, σw, S, φ, R, w, S', q, k⟩ => chain_go hu R q fun φ' H' x R' => ⟨w, rfl, k φ' H' x R'⟩
theorem pt_tru (ha : PE X a (rdE X.K true ma)) (he : ∀ whole, isTrue a X.env whole = (do let v ← whole; standAt a.pos; holding [v] (truthy v))) : PT X a (rdT X.K (mTru ma)) :=
  (pt_truth ha he).imp fun σ H Q ⟨E, σw, S, φ, R, w, S', q, k⟩ => by
    obtain ⟨x, S1, e1, q⟩ := bind_ok q
    obtain ⟨q2, rfl⟩ := olift_ok q
    exact ⟨E, σw, S, φ, R, x, _, e1, fun φ1 H1 v x1 R1 r1 => ⟨w, wtru_ok R1 r1 q2, k φ1 H1 x1 R1⟩⟩
theorem pe_notop (ha : PE X a (rdE X.K true ma)) : PE X (.UnaryOp .Not a pos) (rdE X.K br (mVal (mNotT (mTru ma)))) :=
  (pe_notT ha).imp fun σ H Q ⟨E, σw, S, φ, R, w, S', q, k⟩ => by
    obtain ⟨d, S1, q, e⟩ := bind_ok q
    cases e
    obtain ⟨d', S1, q, e⟩ := bind_ok q
    cases e
    obtain ⟨x, S1, e1, q⟩ := bind_ok q
    obtain ⟨q2, rfl⟩ := olift_ok q
    exact ⟨E, σw, S, φ, R, x, _, e1, fun φ1 H1 v x1 R1 r1 => ⟨d', wtru_ok R1 r1 q2, k φ1 H1 _ x1 R1 (.inl (.bl _))⟩⟩
variable {ta tb : M Bool}
theorem pt_notop (ha : PT X a (rdT X.K ta)) : PT X (.UnaryOp .Not a pos) (rdT X.K (mNotT ta)) :=
  (pt_not ha).imp fun σ H Q ⟨E, σw, S, φ, R, w, S', q, k⟩ => by
    obtain ⟨d, S1, e1, q⟩ := bind_ok q
    cases q
    exact ⟨E, σw, S, φ, R, d, _, e1, fun φ1 H1 x1 R1 => k φ1 H1 x1 R1⟩
theorem pw_andop {rest : List Expr} (ha : PT X a (rdT X.K ta)) (hb : PW X (.BoolOp .And (b :: rest) pos) (rdT X.K tb)) : PW X (.BoolOp .And (a :: b :: rest) pos) (rdT X.K (mAnd ta tb)) :=
  (pw_and ha hb).imp fun σ H Q ⟨E, σw, S, φ, R, w, S', q, k⟩ => by
    obtain ⟨d, S1, e1, q⟩ := bind_ok q
    refine ⟨E, σw, S, φ, R, d, S1, e1, fun φ1 H1 x1 R1 => ?_⟩
    cases d with
    | true => exact ⟨E, σw, S1, φ1, R1, w, S', q, fun φ2 H2 x2 R2 => k φ2 H2 (x1.trans x2) R2⟩
    | false => cases q; exact k φ1 H1 x1 R1
theorem pw_orop {rest : List Expr} (ha : PT X a (rdT X.K ta)) (hb : PW X (.BoolOp .Or (b :: rest) pos) (rdT X.K tb)) : PW X (.BoolOp .Or (a :: b :: rest) pos) (rdT X.K (mOr ta tb)) :=
  (pw_or ha hb).imp fun σ H Q ⟨E, σw, S, φ, R, w, S', q, k⟩ => by
    obtain ⟨d, S1, e1, q⟩ := bind_ok q
    refine ⟨E, σw, S, φ, R, d, S1, e1, fun φ1 H1 x1 R1 => ?_⟩
    cases d with
    | false => exact ⟨E, σw, S1, φ1, R1, w, S', q, fun φ2 H2 x2 R2 => k φ2 H2 (x1.trans x2) R2⟩
    | true => cases q; exact k φ1 H1 x1 R1
theorem pe_andop {rest : List Expr} (ha : PE X a (rdE X.K br ma)) (hb : PE X (.BoolOp .And (b :: rest) pos) (rdE X.K br mb)) : PE X (.BoolOp .And (a :: b :: rest) pos) (rdE X.K br (mAndV ma mb)) :=
  (pe_andT ha hb).imp fun σ H Q ⟨E, σw, S, φ, R, w, S', q, k⟩ => by
    obtain ⟨x, S1, e1, q⟩ := bind_ok q
    refine ⟨E, σw, S, φ, R, x, S1, e1, fun φ1 H1 v x1 R1 r1 => ?_⟩
    have r1' : RX X.K E σw φ1 σ H1 true x v := r1.imp id fun z => ⟨rfl, z.2⟩
    split at q
    · rename_i h
      exact ⟨true, wtru_ok R1 r1' h, E, σw, S1, φ1, R1, w, S', q, fun φ2 H2 v x2 R2 r2 => k φ2 H2 v (x1.trans x2) R2 r2⟩
    · rename_i h
      cases q
      exact ⟨false, wtru_ok R1 r1' h, k φ1 H1 v x1 R1 r1⟩
    · cases q
theorem pe_orop {rest : List Expr} (ha : PE X a (rdE X.K br ma)) (hb : PE X (.BoolOp .Or (b :: rest) pos) (rdE X.K br mb)) : PE X (.BoolOp .Or (a :: b :: rest) pos) (rdE X.K br (mOrV ma mb)) :=
  (pe_orT ha hb).imp fun σ H Q ⟨E, σw, S, φ, R, w, S', q, k⟩ => by
    obtain ⟨x, S1, e1, q⟩ := bind_ok q
    refine ⟨E, σw, S, φ, R, x, S1, e1, fun φ1 H1 v x1 R1 r1 => ?_⟩
    have r1' : RX X.K E σw φ1 σ H1 true x v := r1.imp id fun z => ⟨rfl, z.2⟩
    split at q
    · rename_i h
      cases q
      exact ⟨true, wtru_ok R1 r1' h, k φ1 H1 v x1 R1 r1⟩
    · rename_i h
      exact ⟨false, wtru_ok R1 r1' h, E, σw, S1, φ1, R1, w, S', q, fun φ2 H2 v x2 R2 r2 => k φ2 H2 v (x1.trans x2) R2 r2⟩
    · cases q
theorem pe_ifop (hc : PT X c (rdT X.K ta)) (ha : PE X a (rdE X.K br ma)) (hb : PE X b (rdE X.K br mb)) : PE X (.IfExp c a b pos) (rdE X.K br (mIfE ta ma mb)) :=
  (pe_ifExp hc ha hb).imp fun σ H Q ⟨E, σw, S, φ, R, w, S', q, k⟩ => by
    obtain ⟨d, S1, e1, q⟩ := bind_ok q
    refine ⟨E, σw, S, φ, R, d, S1, e1, fun φ1 H1 x1 R1 => ?_⟩
    cases d with
    | true => exact ⟨E, σw, S1, φ1, R1, w, S', q, fun φ2 H2 v x2 R2 r2 => k φ2 H2 v (x1.trans x2) R2 r2⟩
    | false => exact ⟨E, σw, S1, φ1, R1, w, S', q, fun φ2 H2 v x2 R2 r2 => k φ2 H2 v (x1.trans x2) R2 r2⟩
/-! ### lists of expressions -/
variable {es : List Expr} {la lb : M (List W)}
theorem pa_nilop : PA X [] (rdA X.K br mNil) := pa_nil.imp fun σ H Q ⟨E, σw, S, φ, R, w, S', q, k⟩ => by
  cases q
  exact k φ H [] .refl R .nil
theorem pa_consop (hs : isStar e = false) (ha : PE X e (rdE X.K br ma)) (hb : PA X es (rdA X.K br lb)) : PA X (e :: es) (rdA X.K br (mCons ma lb)) :=
  (pa_cons ha hb (by cases e <;> first | rfl | cases hs)).imp fun σ H Q ⟨E, σw, S, φ, R, w, S', q, k⟩ => by
    obtain ⟨x, S1, e1, q⟩ := bind_ok q
    obtain ⟨y, S2, e2, q⟩ := bind_ok q
    cases q
    exact ⟨E, σw, S, φ, R, x, S1, e1, fun φ1 H1 v x1 R1 r1 => ⟨E, σw, S1, φ1, R1, y, _, e2, fun φ2 H2 us x2 R2 r2 => k φ2 H2 _ (x1.trans x2) R2 (.cons (r1.ext x2) r2)⟩⟩
theorem pe_tupop {k0 : Nat} (ha : PA X es (rdA X.K false la)) : PE X (.Tuple es k0 pos) (rdE X.K br (mTup la)) :=
  (pe_tup ha).imp fun σ H Q ⟨E, σw, S, φ, R, w, S', q, k⟩ => by
    obtain ⟨x, S1, e1, q⟩ := bind_ok q
    split at q
    · rename_i h
      cases q
      refine ⟨E, σw, S, φ, R, x, _, e1, fun φ1 H1 us x1 R1 r1 => ⟨lim_size (by rw [← r1.len]; exact h), fun p hp => ?_⟩⟩
      have n := new_tup R1 hp r1.fr
      exact k φ1 _ _ (x1.trans (.same (same_new hp))) n.rl (.inl n.rf)
    · cases q
theorem pe_lstop (ha : PA X es (rdA X.K false la)) : PE X (.List es pos) (rdN X.K (mLst la)) :=
  (pe_lst ha).imp fun σ H Q ⟨E, σw, S, φ, R, w, S', q, k⟩ => by
    obtain ⟨x, S1, e1, q⟩ := bind_ok q
    split at q
    · rename_i h
      cases q
      exact ⟨E, σw, S, φ, R, x, _, e1, fun φ1 H1 us x1 R1 r1 => ⟨lim_size (by rw [← r1.len]; exact h), fun p hp => k φ1 _ _ (x1.trans (.same (same_new hp))) ((new_lst R1 hp r1.fr).back x1 R1)⟩⟩
    · cases q
theorem pe_dnew : PE X (.Dict [] [] pos) (rdN X.K mNewD) := pe_dnewK.imp fun σ H Q ⟨E, σw, S, φ, R, w, S', q, k⟩ => by
  cases q
  exact fun p hp => k φ _ _ (.same (same_new hp)) (new_dct R hp .nil)
/-! ### subscripts, fields -/
theorem plain_ix {i : Expr} (h : ∀ lo hi st p, i ≠ .Slice lo hi st p) : PlainIx i ∧ NoSl i := by
  have : ∀ o j, subscripted i false o j = operate [o, j] (getItem o j) := fun o j => by
    cases i <;> first | rfl | (exfalso; exact h _ _ _ _ rfl)
  exact ⟨this, this⟩
theorem pe_ixop (hu : X.A.units + 64 < cLine) (hs : ∀ lo hi st p, b ≠ .Slice lo hi st p) (ha : PE X a (rdE X.K true ma)) (hb : PE X b (rdE X.K true mb)) : PE X (.Subscript a b pos) (rdE X.K br (mIx ma mb)) :=
  PE.any fun σ H Q ⟨E, σw, S, φ, R, w, S', q, k⟩ => by
    obtain ⟨x, S1, e1, q⟩ := bind_ok q
    obtain ⟨y, S2, e2, q⟩ := bind_ok q
    obtain ⟨q2, e5⟩ := olift_ok q
    subst e5
    by_cases hd : ∃ kws, vwz S' x = .dct kws
    · obtain ⟨kws, hd⟩ := hd
      refine ⟨_, pe_dget (by omega) ha hb (plain_ix hs).2, E, σw, S, φ, R, x, S1, e1, fun φ1 H1 v x1 R1 r1 => ⟨E, σw, S1, φ1, R1, y, _, e2, fun φ2 H2 u x2 R2 r2 => ?_⟩⟩
      obtain ⟨c, vs, rfl, hc, rk⟩ := vz_dct R2 (r1.ext x2) hd
      rw [hd] at q2
      obtain ⟨kk, e3, e4⟩ := Option.bind_eq_some_iff.mp (show (wkey y).bind (dval kws) = some w from q2)
      have hy : vw S' y = y := by cases y <;> first | rfl | cases e3
      cases rx_key (k := kk) R2 r2 (by rw [hy]; exact e3)
      rcases rk.val kk with ⟨z1, z2⟩ | ⟨w', z, z1, z2, r3⟩
      · rw [z1] at e4; cases e4
      · rw [z1] at e4; cases e4
        refine ⟨c, z, rfl, ?_, k φ2 H2 z (x1.trans x2) R2 (.inl r3)⟩
        rw [← z2]
        exact DGet.k hc
    · refine ⟨_, pe_ix ixAny_ok ha hb (plain_ix hs).1, E, σw, S, φ, R, x, S1, e1, fun φ1 H1 v x1 R1 r1 => ⟨E, σw, S1, φ1, R1, y, _, e2, fun φ2 H2 u x2 R2 r2 => ?_⟩⟩
      exact wix_ok (Q := Q) R2 (r1.ext x2) r2 (fun kws z => hd ⟨kws, z⟩) q2 fun z r => k φ2 H2 z (x1.trans x2) R2 (.inl r)
end
end EV

namespace EV
open PySem PySem.Spec PyProof.Rows L2
/-! ### calls, methods, comprehensions -/
section
variable {X : Cx} {a b c e : Expr} {ma mb mc m : M W} {br : Bool} {pos : Pos} {E : Ent} {σw : Sls} {S S' : Sto} {φ φ' : List Addr} {σ : L2.St} {H H' : Hp} {w : W} {v : V} {es : List Expr} {la lb : M (List W)}
theorem star_cons {env : PySem.Env} (h : isStar e = false) : starEach (e :: es) env = (false, eval e env) :: starEach es env := by
  cases e <;> first | rfl | cases h
theorem noStar_cons (h : noStar (e :: es) = true) : isStar e = false ∧ noStar es = true := by
  unfold noStar at h ⊢
  rw [List.all_cons, Bool.and_eq_true] at h
  exact ⟨by simpa using h.1, h.2⟩
theorem star_any {env : PySem.Env} : ∀ {es : List Expr}, noStar es = true → (backTo pos (starEach es env)).any (·.1) = false ∧ (backTo pos (starEach es env)).all (fun x => !x.1) = true
  | [], _ => ⟨rfl, rfl⟩
  | e :: es, h => by
    obtain ⟨h1, h2⟩ := noStar_cons h
    obtain ⟨h3, h4⟩ := star_any (env := env) h2
    rw [star_cons h1]
    constructor
    · show (false || (backTo pos (starEach es env)).any (·.1)) = false
      rw [h3]; rfl
    · show (true && (backTo pos (starEach es env)).all (fun x => !x.1)) = true
      rw [h4]; rfl
theorem base_ok {o : Expr} {f : Str} {env : PySem.Env} (h : baseOk o = true) : attributeBase o f env (eval o env) = eval o env := by
  cases o with
  | Call fn args kws p =>
    cases fn with
    | Name x q =>
      cases args with
      | nil =>
        cases kws with
        | nil => cases h
        | cons _ _ => rfl
      | cons _ _ => rfl
    | _ => rfl
  | _ => rfl
/-! ### shared objects are made -/
theorem nodup_snoc {l : List Addr} {p : Addr} (h : l.Nodup) (n : p ∉ l) : (l ++ [p]).Nodup := by
  rw [List.nodup_append]
  exact ⟨h, by simp, fun a ha b hb => by simp at hb; subst hb; exact fun z => n (z ▸ ha)⟩
theorem ix_app {p : Addr} : ∀ (n : Nat) (a : Addr), φ[n]? = some a → (φ ++ [p])[n]? = some a := fun n a h => by
  obtain ⟨hn, _⟩ := List.getElem?_eq_some_iff.mp h
  rw [List.getElem?_append_left hn]; exact h
theorem ix_snoc {p : Addr} : (φ ++ [p])[φ.length]? = some p := by simp
/-- p, of which nothing speaks, becomes shared -/
theorem share {p : Addr} {ob : Ob} (R : Rl X.K (E.plus p) σw S φ σ H) (hp : ¬ ZZ E σw φ σ p) (he : E.H p = none) (hob : HoldsO X.K (φ ++ [p]) (ZZ (E.plus p) σw φ σ) H ob p) : Rl X.K E σw (S ++ [ob]) (φ ++ [p]) σ H := by
  have L : Later φ (ZZ (E.plus p) σw φ σ) H (φ ++ [p]) (ZZ E σw (φ ++ [p]) σ) H := ⟨fun n a h => by
      obtain ⟨hn, _⟩ := List.getElem?_eq_some_iff.mp h
      rw [List.getElem?_append_left hn]; exact h, fun _ _ _ h => h, fun a z => by
      rcases z with z | z | z
      · exact .inl (.inl (.inl z))
      · rcases List.mem_append.mp z with z | z
        · exact .inl (.inr (.inl z))
        · simp at z; exact .inl (.inl (.inr z))
      · exact .inl (.inr (.inr z)), fun _ _ _ h => h⟩
  have L2' : Later (φ ++ [p]) (ZZ (E.plus p) σw φ σ) H (φ ++ [p]) (ZZ E σw (φ ++ [p]) σ) H := ⟨fun _ _ h => h, fun _ _ _ h => h, L.new, fun _ _ _ h => h⟩
  have npφ : p ∉ φ := fun h => hp (.inr (.inl h))
  refine ⟨⟨by simp [R.st.len], nodup_snoc R.st.nd npφ, fun n o a h1 h2 => ?_⟩, R.len, fun i w f => ?_, fun i w f => ?_, R.inj, fun a h z => ?_, fun a z => R.zal a (.inl z), fun n a h => L.ix n a (R.eφ n a h), R.ekeep, fun a h => ?_, R.efz⟩
  · by_cases hn : n < φ.length
    · rw [List.getElem?_append_left hn] at h2
      rw [List.getElem?_append_left (by rw [← R.st.len]; exact hn)] at h1
      exact (R.st.ob n o a h1 h2).mono L fun o h => h
    · have h3 : n = φ.length := by
        have := (List.getElem?_eq_some_iff.mp h2).1
        simp at this; omega
      subst h3
      rw [ix_snoc] at h2; cases h2
      rw [R.st.len] at h1
      simp at h1; subst h1
      exact hob.mono L2' fun o h => h
  · obtain ⟨v, g, r⟩ := R.fr i w f
    exact ⟨v, g, r.mono L⟩
  · obtain ⟨a, g, h, n1, n2, n3⟩ := R.ow i w f
    refine ⟨a, g, h.mono L fun o h => h, fun m => ?_, fun z => n2 (.inl z), n3⟩
    rcases List.mem_append.mp m with m | m
    · exact n1 m
    · simp at m; exact n2 (.inr m)
  · rcases List.mem_append.mp h with h | h
    · exact R.zφ a h (.inl z)
    · simp at h; subst h; exact hp (.inl z)
  · rcases List.mem_append.mp h with h | h
    · exact R.enew a h
    · simp at h; subst h; exact .inr he
theorem ext_share {p : Addr} {H0 : Hp} (x : Ext φ' H0 φ H) (hp : H0 p = none ∨ p ∈ φ') : Ext φ' H0 (φ ++ [p]) H :=
  ⟨fun n a h => by
    have h := x.ix n a h
    obtain ⟨hn, _⟩ := List.getElem?_eq_some_iff.mp h
    rw [List.getElem?_append_left hn]; exact h, x.keep, fun a h => by
    rcases List.mem_append.mp h with h | h
    · exact x.new a h
    · simp at h; subst h; exact hp.symm, x.fz⟩
theorem toLoc_go (h : rdE X.K br (mToLoc m) σ H Q) : rdN X.K m σ H Q := by
  obtain ⟨E, σw, S, φ, R, w, S', q, k⟩ := h
  obtain ⟨x, S1, e1, q⟩ := bind_ok q
  refine ⟨E, σw, S, φ, R, x, S1, e1, fun φ1 H1 v x1 n => ?_⟩
  split at q
  · cases q
    obtain ⟨p, vs, rfl, hp, h0, nz, he, R1, r⟩ := n
    have R2 := share (ob := .lst _) R1 nz he ⟨vs, hp, r.mono ⟨ix_app, fun _ _ _ h => h, fun _ h => .inl h, fun _ _ _ h => h⟩⟩
    exact k _ H1 _ (ext_share x1 (.inl h0)) R2 (.inl (.loc (by rw [← R1.st.len]; exact ix_snoc)))
  · cases q
    obtain ⟨p, vs, rfl, hp, h0, nz, he, R1, r⟩ := n
    have R2 := share (ob := .dct _) R1 nz he ⟨vs, hp, r.mono ⟨ix_app, fun _ _ _ h => h, fun _ h => .inl h, fun _ _ _ h => h⟩⟩
    exact k _ H1 _ (ext_share x1 (.inl h0)) R2 (.inl (.loc (by rw [← R1.st.len]; exact ix_snoc)))
  · cases q
theorem pe_toLoc (he : PE X e (rdN X.K m)) : PE X e (rdE X.K br (mToLoc m)) := he.imp fun σ H Q h => toLoc_go h
/-! ### slices, fields -/
def rdO (K : PySem.W.Frag) (m : M (Option Int)) : TO := fun σ H Q => ∃ E σw S φ, Rl K E σw S φ σ H ∧ ∃ o S', m σw S = .ok o S' ∧ ∀ φ' H', Ext φ H φ' H' → Rl K E σw S' φ' σ H' → Q o H'
theorem _root_.L2.PO.imp {X : Cx} {e : Option Expr} {t t' : TO} (h : PO X e t) (k : ∀ σ H Q, t' σ H Q → t σ H Q) : PO X e t' := by
  obtain ⟨r⟩ := h
  refine ⟨?_⟩
  intro pins s σ H Q I q
  exact r pins s σ H Q I (k σ H Q q)
theorem po_op {o : Option Expr} {f : Expr → M W} (h : ∀ e, o = some e → PE X e (rdE X.K true (f e))) : PO X o (rdO X.K (mPart (o.map f))) := by
  cases o with
  | none => exact po_none.imp fun σ H Q ⟨E, σw, S, φ, R, w, S', q, k⟩ => by cases q; exact k φ H .refl R
  | some e =>
    refine (po_some (h e rfl)).imp fun σ H Q ⟨E, σw, S, φ, R, w, S', q, k⟩ => ?_
    obtain ⟨x, S1, e1, q⟩ := bind_ok q
    split at q
    · rename_i i
      cases q
      exact ⟨E, σw, S, φ, R, _, _, e1, fun φ1 H1 v x1 R1 r1 => ⟨i, rx_int R1 r1 rfl, k φ1 H1 x1 R1⟩⟩
    · cases q
theorem pe_slop {lo hi : Option Expr} {f : Expr → M W} {p2 : Pos} (ha : PE X a (rdE X.K true ma)) (hl : ∀ e, lo = some e → PE X e (rdE X.K true (f e))) (hh : ∀ e, hi = some e → PE X e (rdE X.K true (f e))) :
    PE X (.Subscript a (.Slice lo hi none p2) pos) (rdN X.K (mSl ma (lo.map f) (hi.map f))) :=
  (pe_slice slAny_ok ha (po_op hl) (po_op hh)).imp fun σ H Q ⟨E, σw, S, φ, R, w, S', q, k⟩ => by
    obtain ⟨x, S1, e1, q⟩ := bind_ok q
    obtain ⟨l, S2, e2, q⟩ := bind_ok q
    obtain ⟨u, S3, e3, q⟩ := bind_ok q
    obtain ⟨q2, e5⟩ := olift_ok q
    subst e5
    exact ⟨E, σw, S, φ, R, x, S1, e1, fun φ1 H1 v x1 R1 r1 => ⟨E, σw, S1, φ1, R1, l, S2, e2, fun φ2 H2 x2 R2 => ⟨E, σw, S2, φ2, R2, u, _, e3, fun φ3 H3 x3 R3 =>
      wsl_ok R3 (r1.ext (x2.trans x3)) q2 fun H' z s n => k φ3 H' z (((x1.trans x2).trans x3).trans (.same s)) (n.back ((x1.trans x2).trans x3) R3)⟩⟩⟩
theorem RL.lookup {K : PySem.W.Frag} {Z : Addr → Prop} {f : Str} : ∀ {fs : List (Str × W)} {gs : List (Str × V)}, RL K φ Z H fs gs → (fs.lookup f = none ∧ gs.lookup f = none) ∨ ∃ w v, fs.lookup f = some w ∧ gs.lookup f = some v ∧ RF K φ Z H w v
  | [], [], .nil => .inl ⟨rfl, rfl⟩
  | (g, w) :: fs, (g', v) :: gs, .cons ⟨h1, h2⟩ t => by
    simp only at h1 h2
    subst h1
    by_cases e : f = g
    · subst e
      exact .inr ⟨w, v, by simp [List.lookup], by simp [List.lookup], h2⟩
    · have e2 := beq_false_of_ne e
      rw [List.lookup_cons, List.lookup_cons, e2]
      exact RL.lookup (fs := fs) (gs := gs) t
theorem RL.put {K : PySem.W.Frag} {Z : Addr → Prop} {f : Str} {w : W} {v : V} (r : RF K φ Z H w v) : ∀ {fs : List (Str × W)} {gs : List (Str × V)}, RL K φ Z H fs gs → RL K φ Z H (fput f w fs) (putF f v gs)
  | [], [], .nil => .cons ⟨rfl, r⟩ .nil
  | (g, w) :: fs, (g', v) :: gs, .cons ⟨h1, h2⟩ t => by
    simp only at h1 h2
    subst h1
    unfold fput putF
    by_cases e : g = f
    · rw [if_pos e, if_pos e]; exact .cons ⟨rfl, r⟩ t
    · rw [if_neg e, if_neg e]; exact .cons ⟨rfl, h2⟩ (RL.put r (fs := fs) (gs := gs) t)
theorem RL.len {K : PySem.W.Frag} {Z : Addr → Prop} {fs : List (Str × W)} {gs : List (Str × V)} (h : RL K φ Z H fs gs) : fs.length = gs.length := Paired.length h
theorem rx_loc {x : W} {n : Nat} (R : Rl X.K E σw S φ σ H) (r : RX X.K E σw φ σ H br x v) (e : x = .loc n) : ∃ a, v = .ref a ∧ φ[n]? = some a := by
  subst e
  rcases rx_cases R r with r | ⟨a, rfl, h⟩
  · cases r with
    | loc h => exact ⟨_, rfl, h⟩
  · rcases h with ⟨_, _, z, _⟩ | ⟨_, _, z, _⟩ <;> cases z
theorem pe_fldop {f : Str} {ok : Str → Bool} (hb : baseOk a = true) (hf : ∀ c, ok c = true → Cls X.K (He.ga X.K c) ∧ NoAttr X.K (He.ga X.K c) f) (ha : PE X a (rdE X.K true ma)) : PE X (.Attribute a f pos) (rdE X.K br (mFld ma f ok)) :=
  (pe_fld ha (base_ok hb)).imp fun σ H Q ⟨E, σw, S, φ, R, w, S', q, k⟩ => by
    obtain ⟨x, S1, e1, q⟩ := bind_ok q
    refine ⟨E, σw, S, φ, R, x, S1, e1, fun φ1 H1 v x1 R1 r1 => ?_⟩
    split at q
    · rename_i n
      split at q
      · rename_i c fs hs
        split at q
        · rename_i hok
          obtain ⟨q2, e5⟩ := olift_ok q
          subst e5
          obtain ⟨p, rfl, hp⟩ := rx_loc R1 r1 rfl
          obtain ⟨dx, gs, h1, h2⟩ := R1.st.ob n _ p hs hp
          obtain ⟨f1, f2⟩ := hf c hok
          rcases RL.lookup (f := f) h2 with ⟨z, _⟩ | ⟨w', v', z1, z2, z3⟩
          · rw [z] at q2; cases q2
          · rw [z1] at q2; cases q2
            exact ⟨p, _, dx, gs, v', rfl, h1, f1, f2, z2, k φ1 H1 v' x1 R1 (.inl z3)⟩
        · cases q
      · cases q
    · cases q
/-! ### built-in functions -/
theorem pe_bltop {x : Str} {p : Pos} (hc : X.calm = true) (hg : Gl X x) (hm : X.mg x = none) (n : bfOf x ≠ .none) (hs : noStar (e :: es) = true) (ha : PA X (e :: es) (rdA X.K true la)) : PE X (.Call (.Name x p) (e :: es) [] pos) (rdN X.K (mBlt (bfOf x) la)) := by
  obtain ⟨hv, hn, hd⟩ := bf_boot n
  obtain ⟨s1, s2⟩ := noStar_cons hs
  have he := star_cons (es := es) (env := X.env) s1
  have hpl := (star_any (pos := pos) (env := X.env) s2).1
  have go : ∀ σ H Q, rdN X.K (mBlt (bfOf x) la) σ H Q → tCB (callAny X (bfV (bfOf x))) (rdA X.K true la) σ H Q := fun σ H Q ⟨E, σw, S, φ, R, w, S', q, k⟩ => by
    obtain ⟨xs, S1, e1, q⟩ := bind_ok q
    obtain ⟨q2, e5⟩ := olift_ok q
    subst e5
    exact ⟨E, σw, S, φ, R, xs, _, e1, fun φ1 H1 us x1 R1 r1 => wblt_ok hc R1 r1 q2 fun H' z s n => k φ1 H' z (x1.trans (.same s)) (n.back x1 R1)⟩
  cases hb : bfOf x with
  | none => exact absurd hb n
  | _ =>
    rw [hb] at hv go
    first
    | exact (pe_callB callAny_ok hg hm hv ha hn hd he hpl).imp go
    | exact (pe_callTy callAny_ok hg hm hv ha hn hd he hpl).imp go
/-! ### own defs -/
/-- what a def does, by its walk -/
def spF (K : PySem.W.Frag) (F : Fenv) (f : Str) : Sp := fun vs H Q _ => ∃ (S : Sto) (φ : List Addr) (Zo : Addr → Prop) (ws : List W), StOk K S φ (fun a => Zo a ∨ a ∈ φ) H ∧ (∀ a, a ∈ φ → ¬ Zo a) ∧ (∀ a, Zo a → H a ≠ none) ∧
  RFs K φ (fun a => Zo a ∨ a ∈ φ) H ws vs ∧ ∃ w S', F f ws S = .ok w S' ∧ ∀ φ' H' v, Ext φ H φ' H' → StOk K S' φ' (fun a => Zo a ∨ a ∈ φ') H' → RF K φ' (fun a => Zo a ∨ a ∈ φ') H' w v → Q v H'
theorem call_go {F : Fenv} {f : Str} {ws : List W} {us : List V} {Q : VK} {Ex : XK} (R : Rl X.K E σw S φ σ H) (r : RFs X.K φ (ZZ E σw φ σ) H ws us) (q : F f ws S = .ok w S') (k : ∀ φ' H' v, Ext φ H φ' H' → Rl X.K E σw S' φ' σ H' → RF X.K φ' (ZZ E σw φ' σ) H' w v → Q v H') : spF X.K F f us H Q Ex := by
  have z1 : ∀ a, ((ZZ E σw φ σ a ∧ a ∉ φ) ∨ a ∈ φ) → ZZ E σw φ σ a := fun a h => h.elim (·.1) fun m => .inr (.inl m)
  refine ⟨S, φ, fun a => ZZ E σw φ σ a ∧ a ∉ φ, ws, R.st.mono (.less z1) fun _ _ _ h => h, fun a m z => z.2 m, fun a z => by obtain ⟨o, h⟩ := R.alloc z.1; rw [h]; simp, r.mono (.less z1), w, S', q, fun φ' H' v x st rv => ?_⟩
  have z2 : ∀ a, ZZ E σw φ' σ a → ((ZZ E σw φ σ a ∧ a ∉ φ) ∨ a ∈ φ') := fun a z => by
    rcases z with z | z | ⟨i, w, h1, h2⟩
    · exact .inl ⟨.inl z, fun m => R.zφ a m z⟩
    · exact .inr z
    · obtain ⟨b, g, h, n1, _⟩ := R.ow i w h1
      rw [h2] at g; cases g
      exact .inl ⟨.inr (.inr ⟨i, w, h1, h2⟩), n1⟩
  exact k φ' H' v x (R.ext x (st.mono (.less z2) fun _ _ _ h => h)) (rv.mono (.less z2))
structure FnK (X : Cx) (F : Fenv) (f : Str) (i : FnI) : Prop where
  ex : ∃ (a : Addr) (fd : FuncData) (ps : List Str) (k : Nat) (ds : List Value) (dvs : List V), FnOk X.prog X.w X.K X.mg X.base CX0 k a fd ps (spF X.K F f) ∧ Room k X.A ∧ X.mg f = some (.ref a) ∧ PySem.W.keepIn X.K (.ref a) = true ∧
    Binds X.K fd ps ds ∧ Vals dvs ds ∧ ∀ φ Z H, RFs X.K φ Z H (i.kw.map (·.2)) dvs
  nd : (f == ("__debug__" : Str)) = false
theorem pe_callop {F : Fenv} {f : Str} {i : FnI} {p : Pos} (h : FnK X F f i) (hg : Gl X f) (hs : noStar es = true) (ha : PA X es (rdA X.K false la)) (hl : es = [] → la = mNil) : PE X (.Call (.Name f p) es [] pos) (rdE X.K br (mCall F f la (i.kw.map (·.2)))) := by
  obtain ⟨a, fd, ps, kk, ds, dvs, F1, hr, hm, hk, hb, hd, hrf⟩ := h.ex
  cases es with
  | nil =>
    cases hl rfl
    refine (pe_call0 F1 hr hg hm hk hb hd (E := E0) pass0 h.nd).imp fun σ H Q ⟨E, σw, S, φ, R, w, S', q, k⟩ => ?_
    exact call_go (Ex := E0) R (hrf _ _ _) q fun φ' H' v x R' r' => k φ' H' v x R' (.inl r')
  | cons e es =>
    obtain ⟨s1, s2⟩ := noStar_cons hs
    refine (pe_call F1 hr hg hm hk hb hd (E := E0) pass0 ha h.nd (star_cons s1) (star_any s2).1).imp fun σ H Q ⟨E, σw, S, φ, R, w, S', q, k⟩ => ?_
    obtain ⟨xs, S1, e1, q⟩ := bind_ok q
    exact ⟨E, σw, S, φ, R, xs, S1, e1, fun φ1 H1 us x1 R1 r1 => call_go (Ex := E0) R1 (r1.fr.append (hrf _ _ _)) q fun φ' H' v x R' r' => k φ' H' v (x1.trans x) R' (.inl r')⟩
/-! ### instances -/
structure MkK (X : Cx) (F : Fenv) (c : Str) : Prop where
  ex : ∃ (fI : Addr) (fd : FuncData) (ps : List Str) (k : Nat), Mk X.K (He.ga X.K c) fI ∧ FnOk X.prog X.w X.K X.mg X.base CX0 k fI fd ps (spF X.K F (c ++ ".__init__")) ∧ Room (k + 1) X.A ∧ X.mg c = some (.ref (He.ga X.K c)) ∧ Binds X.K fd ps []
  nd : (c == ("__debug__" : Str)) = false
theorem make_go {F : Fenv} {c : Str} {xs : List W} {us : List V} {Q : VK} (R : Rl X.K E σw S φ σ H) (r : RFs X.K φ (ZZ E σw φ σ) H xs us) {S2 : Sto}
    (q : F (c ++ ".__init__") (.loc S.length :: xs) (S ++ [.ins c []]) = .ok .non S2) (k : ∀ φ' H' v, Ext φ H φ' H' → Rl X.K E σw S2 φ' σ H' → RF X.K φ' (ZZ E σw φ' σ) H' (.loc S.length) v → Q v H') :
    ∀ x dx, H x = none → H dx = none → dx ≠ x → spF X.K F (c ++ ".__init__") (.ref x :: (us ++ [])) (upd (upd H dx (.own x)) x (.ins (He.ga X.K c) dx [])) (fun v H2 => v = .non ∧ Q (.ref x) H2) E0 := by
  intro x dx hx hdx hne
  have s1 : Same H (upd H dx (.own x)) := same_new hdx
  have hx1 : upd H dx (.own x) x = none := by rw [upd_ne (Ne.symm hne)]; exact hx
  have R1 := (R.same s1).plus (p := x) (o := .ins (He.ga X.K c) dx []) hx1
  have nz := (R.same s1).free hx1
  have he := enone (R.same s1) hx1
  have R2 := share (ob := .ins c []) R1 nz he ⟨dx, [], upd_same, .nil⟩
  have x2 : Ext φ H (φ ++ [x]) (upd (upd H dx (.own x)) x (.ins (He.ga X.K c) dx [])) := ext_share (.same (s1.trans (same_new hx1))) (.inl hx)
  have hl : (φ ++ [x])[S.length]? = some x := by rw [← R.st.len]; exact ix_snoc
  rw [List.append_nil]
  refine call_go (Ex := E0) R2 (.cons (.loc hl) (r.mono x2.later)) q fun φ' H' v x3 R3 r3 => ?_
  refine ⟨(rf_none_iff r3).mpr rfl, k φ' H' _ (x2.trans x3) R3 (.loc (x3.ix _ _ hl))⟩
theorem pe_makeop {F : Fenv} {c : Str} {p : Pos} (h : MkK X F c) (hg : Gl X c) (hs : noStar es = true) (ha : PA X es (rdA X.K false la)) (hl : es = [] → la = mNil) : PE X (.Call (.Name c p) es [] pos) (rdE X.K br (mMake F c (c ++ ".__init__") la)) := by
  obtain ⟨fI, fd, ps, kk, M1, F1, hr, hm, hb⟩ := h.ex
  have go : ∀ {σ H Q}, rdE X.K br (mMake F c (c ++ ".__init__") la) σ H Q → tMake (He.ga X.K c) (spF X.K F (c ++ ".__init__")) [] E0 (rdA X.K false la) σ H Q := fun {σ H Q} ⟨E, σw, S, φ, R, w, S', q, k⟩ => by
    obtain ⟨xs, S1, e1, q⟩ := bind_ok q
    obtain ⟨z, S2, e2, q⟩ := bind_ok q
    split at q
    · cases q
      exact ⟨E, σw, S, φ, R, xs, S1, e1, fun φ1 H1 us x1 R1 r1 => make_go R1 r1.fr e2 fun φ' H' v x R' r' => k φ' H' v (x1.trans x) R' (.inl r')⟩
    · cases q
  cases es with
  | nil =>
    cases hl rfl
    refine (pe_make0 M1 F1 hr hg hm hb .nil (E := E0) pass0 h.nd).imp fun σ H Q h => ?_
    obtain ⟨E, σw, S, φ, R, w, S', q, k⟩ := h
    obtain ⟨xs, S1, e1, q⟩ := bind_ok q
    cases e1
    obtain ⟨z, S2, e2, q⟩ := bind_ok q
    split at q
    · cases q
      exact make_go R .nil e2 fun φ' H' v x R' r' => k φ' H' v x R' (.inl r')
    · cases q
  | cons e es =>
    obtain ⟨s1, s2⟩ := noStar_cons hs
    exact (pe_make M1 F1 hr hg hm hb .nil (E := E0) pass0 ha h.nd (star_cons s1) (star_any s2).1).imp fun σ H Q h => go h
end
end EV

namespace EV
open PySem PySem.Spec PyProof.Rows L2
/-! ### methods -/
theorem Vals.take1 : ∀ {vs : List V} {us : List Value}, Vals vs us → Vals (vs.take 1) (us.take 1)
  | _, _, .nil => .nil
  | _, _, .cons r _ => .cons r .nil
theorem extend_tupleD (l : Addr) (items : Array Value) (n : Nat) (b : Addr) (items2 : Array Value) (n2 : Nat) (dd : Option Addr) (sl : Array (Option Value)) (hs0 : ¬(!items.isEmpty && Builtin.List.listTooLong (items.size + items2.size)) = true) (hs1 : items.size ≤ sizeLine) (hs2 : items.size + items2.size ≤ sizeLine + 1) :
    Meets (Builtin.«list.extend» ⟨[.ref l, .ref b], []⟩) (fun _ R s => s.heap.get? l = some { cls := .type "list", dict := none, data := .seq items n, slots := #[] } ∧ s.heap.get? b = some { cls := .type "tuple", dict := dd, data := .seq items2 n2, slots := sl } ∧ R (.ok (.ret Value.none)) { s with heap := s.heap.update l (Obj.mapSeq fun x => x ++ items2), toks := s.toks }) :=
  .of_wp fun prog w A R s h => by
    obtain ⟨hp, g, d, tk, os⟩ := s; obtain ⟨hl, hb, h⟩ := h; have f1 := AutoSeq1.idx_int; have f2 := AutoSeq1.sub_tuple_tuple; have f3 := AutoSeq1.sub_list_list; have f4 := AutoSeq1.sub_tuple_list; have f5 := AutoSeq1.sub_list_tuple;
    have hz' : (items ++ items2).size ≤ sizeLine + 1 := by rw [Array.size_append]; exact hs2
    wp_walk using (wpAny_updateSeq hl rfl (hz := hs1) (_hz' := hz')), AutoSeq1.wpAny_loadPart' hl, AutoSeq1.wpAny_loadPart' hb; exact ⟨_, rfl, h⟩
section
variable {X : Cx}
/-- xs.extend(t), t a tuple -/
def rExtendT (K : PySem.W.Frag) : V → List V → Hp → VK → Prop := fun x vs H Q => ∃ l b xs zs, x = .ref l ∧ vs = [.ref b] ∧ H l = some (.lst xs) ∧ SqT K H b zs ∧ xs.length + zs.length ≤ sizeLine ∧ Q .non (upd H l (.lst (xs ++ zs)))
theorem mt_extendT : MtR X "list.extend" (rExtendT X.K) := by
  intro pins s σ H x vs v us Q I rx rv h
  obtain ⟨l, b, xs, zs, rfl, rfl, hH, hB, hz, q⟩ := h
  cases rx
  obtain ⟨u, rfl, ru⟩ := rv.one
  cases ru
  obtain ⟨z, its, n, r, hl, e⟩ := I.lstM hH
  obtain ⟨its2, r2, ⟨⟨cls, dd, data, sl⟩, ho, hc, n2, hd⟩, hz2⟩ := I.tuple hB
  simp only at hc hd
  subst hc hd
  have l2 := r2.length
  have hsz : its.toArray.size + its2.toArray.size ≤ sizeLine := by rw [List.size_toArray, List.size_toArray]; omega
  have hlong : ¬ (!its.toArray.isEmpty && Builtin.List.listTooLong (its.toArray.size + its2.toArray.size)) = true := by
    rw [notLongL hsz, Bool.and_false]
    exact Bool.false_ne_true
  refine call_meets F.slot_list_extend ⟨_, e, rfl⟩ F.entry_list_extend (F.args_list_extend_2 _ _)
    (extend_tupleD l its.toArray n b its2.toArray n2 dd sl hlong (by rw [List.size_toArray]; omega) (by omega)) ⟨e, ho, ?_⟩
  refine ⟨.non, _, I.lset (its' := its ++ its2) hH e (by simp) (r.append r2) ?_, rfl, q⟩
  rw [List.length_append]
  omega
/-- xs.index(k), a list of texts -/
def rIndexL (K : PySem.W.Frag) : V → List V → Hp → VK → Prop := fun x vs H Q => ∃ (a : Addr) (ys : List Str) (k : Str), x = .ref a ∧ vs = [.str k] ∧ SqL K H a (ys.map V.str) ∧ k ∈ ys ∧ Q (.int (ys.idxOf k : Nat)) H
theorem mt_indexL : MtR X "list.index" (rIndexL X.K) := by
  intro pins s σ H x vs v us Q I rx rv h
  obtain ⟨a, ys, k, rfl, rfl, hs, hk, q⟩ := h
  cases rx
  obtain ⟨u, rfl, ru⟩ := rv.one
  obtain ⟨t, rfl⟩ := ru
  obtain ⟨its, r, p, hz⟩ := I.list hs
  exact SeqAt.list_index_strs p.isList r.strs (by simpa using hz) hk ⟨.int _, H, I.tok _, ⟨_, rfl⟩, q⟩
def rGet1 : V → List V → Hp → VK → Prop := fun x vs H Q => ∃ a y o, x = .ref a ∧ vs = [y] ∧ DGet H a y o ∧ Q (o.getD .non) H
theorem mt_get1 (hu : X.A.units + 1 < cLine) : MtR X "dict.get" rGet1 := by
  intro pins s σ H x vs v us Q I rx rv h
  obtain ⟨a, y, o, rfl, rfl, g, q⟩ := h
  cases rx
  obtain ⟨u, rfl, ru⟩ := rv.one
  exact d_get1 hu I g ru fun w' s3 I3 rw' => ⟨_, H, I3, rw', q⟩
def rGet2 : V → List V → Hp → VK → Prop := fun x vs H Q => ∃ a y z o, x = .ref a ∧ vs = [y, z] ∧ DGet H a y o ∧ Q (o.getD z) H
theorem mt_get2 (hu : X.A.units + 1 < cLine) : MtR X "dict.get" rGet2 := by
  intro pins s σ H x vs v us Q I rx rv h
  obtain ⟨a, y, z, o, rfl, rfl, g, q⟩ := h
  cases rx
  obtain ⟨u, u2, rfl, ru, ru2⟩ := rv.two
  exact d_get2 hu I g ru ru2 fun w' s3 I3 rw' => ⟨_, H, I3, rw', q⟩
def mtAny (X : Cx) (id : String) : V → List V → Hp → VK → Prop := fun x xs H Q => ∃ r, MtR X id r ∧ r x xs H Q
theorem mtAny_ok {id : String} : MtR X id (mtAny X id) := by
  intro pins s σ H x xs v us Q I rx rv h
  obtain ⟨r, h1, q⟩ := h
  exact h1 pins s σ H x xs v us Q I rx rv q
/-- the built-in method's id -/
def mtId : Kd → Mt → Option String
  | .lst, .append => some "list.append"
  | .lst, .extend => some "list.extend"
  | .lst, .pop => some "list.pop"
  | .lst, .reverse => some "list.reverse"
  | .lst, .index => some "list.index"
  | .lst, .insert => some "list.insert"
  | .dct, .get => some "dict.get"
  | _, _ => none
def kdT : Kd → String
  | .dct => "dict"
  | _ => "list"
theorem mt_id {k : Kd} {nm : Str} {id : String} (h : mtId k (mtOf nm) = some id) : PlainAttrs (kdT k) ∧ Slot (kdT k) nm id ∧ typeOf (.builtin id) = pure (.type "method_descriptor") := by
  have hn : ∀ m, mtOf nm = m → m ≠ .other → nm = (match m with | .append => "append" | .extend => "extend" | .pop => "pop" | .insert => "insert" | .reverse => "reverse" | .index => "index" | .get => "get" | .items => "items" | .values => "values" | .keys => "keys" | .other => "" : Str) := by
    intro m e n
    by_cases hh : nm = "append" ∨ nm = "extend" ∨ nm = "pop" ∨ nm = "get" ∨ nm = "index" ∨ nm = "reverse" ∨ nm = "insert" ∨ nm = "items" ∨ nm = "values" ∨ nm = "keys"
    · rcases hh with rfl | rfl | rfl | rfl | rfl | rfl | rfl | rfl | rfl | rfl <;> (subst e; decide +kernel)
    · simp only [not_or] at hh
      exfalso
      apply n
      rw [← e]
      unfold mtOf
      simp only [hh, if_false]
  cases hm : mtOf nm <;> rw [hm] at h <;> cases k <;> first
    | (cases h; done)
    | (cases h
       have e := hn _ hm (by decide)
       subst e
       first
       | exact ⟨F.plainAttrs_list, F.slot_list_append, F.type_list_append⟩
       | exact ⟨F.plainAttrs_list, F.slot_list_extend, F.type_list_extend⟩
       | exact ⟨F.plainAttrs_list, F.slot_list_pop, F.type_list_pop⟩
       | exact ⟨F.plainAttrs_list, F.slot_list_reverse, F.type_list_reverse⟩
       | exact ⟨F.plainAttrs_list, F.slot_list_index, F.type_list_index⟩
       | exact ⟨F.plainAttrs_list, F.slot_list_insert, F.type_list_insert⟩
       | exact ⟨F.plainAttrs_dict, F.slot_dict_get, F.type_dict_get⟩)
end
section
variable {X : Cx} {a b c e o : Expr} {mo m : M W} {br : Bool} {pos apos : Pos} {E : Ent} {σw : Sls} {S S' : Sto} {φ φ' : List Addr} {σ : L2.St} {H H' : Hp} {w x : W} {v : V} {es : List Expr} {la : M (List W)} {p : Addr} {Q : VK}
theorem rxs_cons1 {ws : List W} {us : List V} {y : W} (r : RXs X.K E σw φ σ H br ws us) (e : ws = [y]) : ∃ u, us = [u] ∧ RX X.K E σw φ σ H br y u := by
  subst e
  cases r with
  | cons a b => cases b; exact ⟨_, rfl, a⟩
theorem rxs_cons2 {ws : List W} {us : List V} {y z : W} (r : RXs X.K E σw φ σ H br ws us) (e : ws = [y, z]) : ∃ u t, us = [u, t] ∧ RX X.K E σw φ σ H br y u ∧ RX X.K E σw φ σ H br z t := by
  subst e
  cases r with
  | cons a b =>
    obtain ⟨t, rfl, h⟩ := rxs_cons1 b rfl
    exact ⟨_, _, rfl, a, h⟩
/-- a list changed by a method -/
theorem lstUp_ok {mt : Mt} {xs ys ws : List W} {r : W} {us vs : List V} (e : lstUp S mt xs ws = some (r, ys)) (R : Rl X.K E σw S φ σ H) (hp : H p = some (.lst vs)) (rv : RFs X.K φ (ZZ E σw φ σ) H xs vs)
    (ra : RXs X.K E σw φ σ H (decide (mt = .extend)) ws us) (k : ∀ vs' z, RFs X.K φ (ZZ E σw φ σ) H ys vs' → RF X.K φ (ZZ E σw φ σ) H r z → Q z (upd H p (.lst vs'))) :
    ∃ id, mtId .lst mt = some id ∧ mtAny X id (.ref p) us H Q := by
  unfold lstUp at e
  split at e
  · rename_i y
    split at e
    · rename_i hl
      cases e
      obtain ⟨u, rfl, ru⟩ := rxs_cons1 ra rfl
      rw [rv.len] at hl
      exact ⟨_, rfl, _, mt_append, p, vs, u, rfl, rfl, hp, lim_lt hl, k _ _ (rv.append (.cons ru.fr .nil)) .non⟩
    · cases e
  · rename_i y
    obtain ⟨u, rfl, ru⟩ := rxs_cons1 ra rfl
    split at e
    · rename_i zs hz
      split at e
      · rename_i hl
        cases e
        obtain ⟨b, bs, rfl, hb, rb⟩ := rx_lst R ru hz
        rw [rv.len, rb.len] at hl
        exact ⟨_, rfl, _, mt_extend, p, b, vs, bs, rfl, rfl, hp, hb, lim_size hl, k _ _ (rv.append rb) .non⟩
      · cases e
    · rename_i zs hz
      split at e
      · rename_i hl
        cases e
        obtain ⟨b, bs, rfl, hb, rb⟩ := rx_tup R ru hz
        rw [rv.len, rb.len] at hl
        exact ⟨_, rfl, _, mt_extendT, p, b, vs, bs, rfl, rfl, hp, hb.sq, lim_size hl, k _ _ (rv.append rb) .non⟩
      · cases e
    · cases e
  · cases ra
    split at e
    · rename_i y hy
      cases e
      obtain ⟨z, hz, rz⟩ := rv.get hy
      rw [rv.len] at hz
      exact ⟨_, rfl, _, mt_pop, p, vs, z, rfl, rfl, hp, hz, k _ _ rv.dropLast rz⟩
    · cases e
  · rename_i i
    split at e
    · rename_i hi
      split at e
      · rename_i j hj
        split at e
        · rename_i y hy
          cases e
          obtain ⟨u, rfl, ru⟩ := rxs_cons1 ra rfl
          cases rx_int R ru rfl
          obtain ⟨z, hz, rz⟩ := rv.get hy
          rw [rv.len] at hj
          exact ⟨_, rfl, _, mt_popAt, p, vs, i, j, z, rfl, rfl, hp, hi.1, hi.2, (ixN_seq hj).1, hz, k _ _ (rv.eraseIdx j) rz⟩
        · cases e
      · cases e
    · cases e
  · cases ra
    cases e
    exact ⟨_, rfl, _, mt_reverse, p, vs, rfl, rfl, hp, k _ _ rv.reverse .non⟩
  · rename_i i y
    split at e
    · rename_i hi
      cases e
      obtain ⟨u, t, rfl, ru, rt⟩ := rxs_cons2 ra rfl
      cases rx_int R ru rfl
      rw [rv.len] at hi
      exact ⟨_, rfl, _, mt_insert, p, vs, i, t, rfl, rfl, hp, lim_lt hi.2.2, hi.1, hi.2.1, k _ _ (((rv.take i.toNat).append (.cons rt.fr .nil)).append (rv.drop i.toNat)) .non⟩
    · cases e
  · cases e
/-- a list read by a method -/
theorem lstRd_ok {mt : Mt} {xs ws : List W} {us vs : List V} (e : wrd mt (.lst xs) ws = some w) (hp : H p = some (.lst vs)) (rv : RFs X.K φ (ZZ E σw φ σ) H xs vs) (R : Rl X.K E σw S φ σ H)
    (ra : RXs X.K E σw φ σ H (decide (mt = .extend)) ws us) (k : ∀ z, RF X.K φ (ZZ E σw φ σ) H w z → Q z H) : ∃ id, mtId .lst mt = some id ∧ mtAny X id (.ref p) us H Q := by
  unfold wrd at e
  split at e
  · rename_i ys0 kk hy
    cases hy
    split at e
    · rename_i ys hs
      split at e
      · rename_i hm
        cases e
        obtain ⟨u, rfl, ru⟩ := rxs_cons1 ra rfl
        cases rx_str R ru rfl
        have e1 := rv.strs hs
        subst e1
        exact ⟨_, rfl, _, mt_indexL, p, ys, kk, rfl, rfl, SqL.of hp, hm, k _ (.int _)⟩
      · cases e
    · cases e
  · rename_i h; cases h
  · rename_i h; cases h
  · cases e
theorem dctRd_ok {mt : Mt} {xs : List (Key × W)} {ws : List W} {us : List V} {vs : List (Key × V)} (hu : X.A.units + 1 < cLine) (e : wrd mt (.dct xs) ws = some w) (hp : H p = some (.dK vs)) (rv : RKs X.K φ (ZZ E σw φ σ) H xs vs) (R : Rl X.K E σw S φ σ H)
    (ra : RXs X.K E σw φ σ H (decide (mt = .extend)) ws us) (k : ∀ z, RF X.K φ (ZZ E σw φ σ) H w z → Q z H) : ∃ id, mtId .dct mt = some id ∧ mtAny X id (.ref p) us H Q := by
  unfold wrd at e
  split at e
  · rename_i h; cases h
  · rename_i kvs kk hy
    cases hy
    obtain ⟨q, e1, e2⟩ := Option.map_eq_some_iff.mp e
    subst e2
    obtain ⟨u, rfl, ru⟩ := rxs_cons1 ra rfl
    have hy : vw S kk = kk := by cases kk <;> first | rfl | cases e1
    cases rx_key (k := q) R ru (by rw [hy]; exact e1)
    refine ⟨_, rfl, _, mt_get1 hu, p, _, valV vs q, rfl, rfl, DGet.k hp, ?_⟩
    rcases rv.val q with ⟨z1, z2⟩ | ⟨w', z, z1, z2, r3⟩
    · rw [z2]; exact k _ (by rw [z1]; exact .non)
    · rw [z2]; exact k _ (by rw [z1]; exact r3)
  · rename_i kvs kk dd hy
    cases hy
    obtain ⟨q, e1, e2⟩ := Option.map_eq_some_iff.mp e
    subst e2
    obtain ⟨u, t, rfl, ru, rt⟩ := rxs_cons2 ra rfl
    have hy : vw S kk = kk := by cases kk <;> first | rfl | cases e1
    cases rx_key (k := q) R ru (by rw [hy]; exact e1)
    refine ⟨_, rfl, _, mt_get2 hu, p, _, t, valV vs q, rfl, rfl, DGet.k hp, ?_⟩
    rcases rv.val q with ⟨z1, z2⟩ | ⟨w', z, z1, z2, r3⟩
    · rw [z2]; exact k _ (by rw [z1]; exact rt.fr)
    · rw [z2]; exact k _ (by rw [z1]; exact r3)
  · cases e
/-- one shared object is written -/
theorem Rl.write {n : Nat} {ob : Ob} {ho : HO} (R : Rl X.K E σw S φ σ H) (hp : φ[n]? = some p) (hf : ∀ o u, H p ≠ some (.frz o u)) (h : (∀ (φ' : List Addr) (Z' : Addr → Prop) (H' : Hp), Later φ (ZZ E σw φ σ) H φ' Z' H' → H' p = some ho → HoldsO X.K φ' Z' H' ob p)) :
    Ext φ H φ (upd H p ho) ∧ Rl X.K E σw (S.set n ob) φ σ (upd H p ho) := by
  have x : Ext φ H φ (upd H p ho) := ⟨fun _ _ h => h, fun a o n h => by rw [upd_ne (fun z => n (by rw [z]; exact mem_of_ix hp))]; exact h, fun a h => .inl h, fz_upd hf⟩
  exact ⟨x, R.ext x (R.st.set hp x.later (h _ _ _ x.later upd_same))⟩
end
end EV

namespace EV
open PySem PySem.Spec PyProof.Rows L2
section
variable {X : Cx} {a b c e o : Expr} {mo m : M W} {br : Bool} {pos apos : Pos} {E : Ent} {σw : Sls} {S S' : Sto} {φ φ' : List Addr} {σ : L2.St} {H H' : Hp} {w x : W} {v : V} {es : List Expr} {la : M (List W)} {p : Addr} {Q : VK}
/-! ### methods called -/
theorem meth_ht {nm : Str} {env : PySem.Env} (hb : attributeBase o nm env (eval o env) = eval o env) (hl : (apos.endLine == pos.line) = true) (hs : noStar es = true) (hn : es.length < 28) :
    eval (.Call (.Attribute o nm apos) es [] pos) env = (do
      let ov ← eval o env
      standAt apos.atName
      let (f, first) ← holding [ov] (getMethod ov nm (do return (← importBound o env).getD true))
      callWith pos f first (backTo pos (starEach es env)) (backToKw pos (keywordEach [] env))) := by
  rw [arm_eval_Call, hb]
  have hform : methodCallForm (es.length + ([] : List Keyword).length) (backTo pos (starEach es env)) (backToKw pos (keywordEach [] env)) = true := by
    unfold methodCallForm
    rw [(star_any hs).2]
    have : decide (es.length + 0 + 0 < 30) = true := decide_eq_true (by omega)
    exact this
  have hpos : methodCallPos true o env apos pos = pure pos := by unfold methodCallPos; simp [hl]
  unfold methodCall
  rw [hform, hpos]
  rfl
structure MtK (X : Cx) (F : Fenv) (c nm q : Str) : Prop where
  ex : ∃ (fI : Addr) (fd : FuncData) (ps : List Str) (k : Nat), Cls X.K (He.ga X.K c) ∧ Meth X.K (He.ga X.K c) nm fI ∧ FnOk X.prog X.w X.K X.mg X.base CX0 k fI fd ps (spF X.K F q) ∧ Room k X.A ∧ Binds X.K fd ps []
theorem kd_lst (h : kdOf S x = .lst) : ∃ xs, vw S x = .lst xs := by
  cases x with
  | loc n =>
    simp only [kdOf] at h
    simp only [vw]
    split at h <;> first | (cases h; done) | (cases h; rename_i xs hs; exact ⟨xs, by rw [hs]⟩)
  | lst xs => exact ⟨xs, rfl⟩
  | _ => cases h
theorem kd_dct (h : kdOf S x = .dct) : ∃ xs, vw S x = .dct xs := by
  cases x with
  | loc n =>
    simp only [kdOf] at h
    simp only [vw]
    split at h <;> first | (cases h; done) | (cases h; rename_i xs hs; exact ⟨xs, by rw [hs]⟩)
  | dct xs => exact ⟨xs, rfl⟩
  | _ => cases h
theorem kd_ins {c : Str} {fs : List (Str × W)} (h : kdOf S x = .ins c fs) : ∃ n, x = .loc n ∧ S[n]? = some (.ins c fs) := by
  cases x with
  | loc n =>
    simp only [kdOf] at h
    split at h
    · rename_i c' fs' hs; cases h; exact ⟨n, rfl, hs⟩
    · cases h
    · cases h
    · cases h
  | _ => cases h
/-- a built-in method, at the end -/
theorem doB_ok {nm : Str} {k : Kd} {us : List V} {ws : List W} (hu : X.A.units + 1 < cLine) (hk : k = .lst ∨ k = .dct) (R : Rl X.K E σw S φ σ H) (rx : RX X.K E σw φ σ H true x v) (ra : RXs X.K E σw φ σ H (decide (mtOf nm = .extend)) ws us)
    (q : doB k (mtOf nm) x ws S = .ok w S') (kk : ∀ φ' H' z, Ext φ H φ' H' → Rl X.K E σw S' φ' σ H' → RF X.K φ' (ZZ E σw φ' σ) H' w z → Q z H') :
    ∃ id, mtId k (mtOf nm) = some id ∧ mtAny X id v us H Q := by
  unfold doB at q
  split at q
  · rename_i xs hx
    obtain ⟨p, vs, rfl, hp, rv⟩ := rx_lst R rx hx
    have rd : olift (wrd (mtOf nm) (.lst xs) ws) S = .ok w S' → ∃ id, mtId .lst (mtOf nm) = some id ∧ mtAny X id (.ref p) us H Q := fun q => by
      obtain ⟨q2, e5⟩ := olift_ok q
      subst e5
      exact lstRd_ok q2 hp rv R ra fun z r => kk φ H z .refl R r
    split at q
    · rename_i n r ys hl
      cases q
      obtain ⟨p', e1, hn⟩ := rx_loc R rx rfl
      cases e1
      exact lstUp_ok hl R hp rv ra fun vs' z r1 r2 => by
        obtain ⟨x2, R2⟩ := R.write (ob := .lst ys) (ho := .lst vs') hn (nfz hp fun _ _ z => by cases z) fun φ' Z' H' L h => ⟨vs', h, r1.mono L⟩
        exact kk φ _ z x2 R2 (r2.mono x2.later)
    · exact rd q
  · rename_i kvs hx
    obtain ⟨p, vs, rfl, hp, rv⟩ := rx_dct R rx hx
    obtain ⟨q2, e5⟩ := olift_ok q
    subst e5
    exact dctRd_ok hu q2 hp rv R ra fun z r => kk φ H z .refl R r
  · cases q
theorem pe_methop {nm : Str} {F : Fenv} {own : Str → Option Str} (hu : X.A.units + 64 < cLine) (hown : ∀ c q, own c = some q → MtK X F c nm q) (hok : methOk o apos pos es = true) (ho : PE X o (rdE X.K true mo))
    (ha : PA X es (rdA X.K (decide (mtOf nm = .extend)) la)) (hl : es = [] → la = mNil) : PE X (.Call (.Attribute o nm apos) es [] pos) (rdE X.K br (mMeth F own (mtOf nm) nm mo la)) := by
  simp only [methOk, callOk, Bool.and_eq_true, decide_eq_true_eq] at hok
  obtain ⟨⟨hb, hline⟩, hs, hn⟩ := hok
  have hbase := base_ok (f := nm) (env := X.env) hb
  have ht := meth_ht (es := es) (pos := pos) (apos := apos) hbase hline hs hn
  refine PE.any fun σ H Q ⟨E, σw, S, φ, R, w, S', q, k⟩ => ?_
  obtain ⟨x, S1, e1, q⟩ := bind_ok q
  -- a built-in one
  have bi : ∀ kd, (kd = .lst ∨ kd = .dct) → kdOf S1 x = kd → ((la σw S1).bind fun ws S2 => doB kd (mtOf nm) x ws S2) = .ok w S' → ∃ t, PE X (.Call (.Attribute o nm apos) es [] pos) t ∧ t σ H Q := fun kd hkd hkx q => by
    obtain ⟨ws, S2, e2, q⟩ := bind_ok q
    have hid : ∃ id, mtId kd (mtOf nm) = some id := by
      cases hm : mtId kd (mtOf nm) with
      | some id => exact ⟨id, rfl⟩
      | none =>
        exfalso
        rcases hkd with rfl | rfl
        · unfold doB at q
          split at q
          · rename_i xs h00 hx
            cases hmm : mtOf nm <;> rw [hmm] at q hm <;> first
              | (cases hm; done)
              | (have e0 : lstUp S2 Mt.get xs ws = none ∧ lstUp S2 Mt.items xs ws = none ∧ lstUp S2 Mt.values xs ws = none ∧ lstUp S2 Mt.keys xs ws = none ∧ lstUp S2 Mt.other xs ws = none := ⟨rfl, rfl, rfl, rfl, rfl⟩
                 simp only [e0.1, e0.2.1, e0.2.2.1, e0.2.2.2.1, e0.2.2.2.2, wrd, olift] at q
                 cases q)
          · rename_i h _; cases h
          · cases q
        · unfold doB at q
          split at q
          · rename_i h _; cases h
          · rename_i kvs h00 hx
            cases hmm : mtOf nm <;> rw [hmm] at q hm <;> first
              | (cases hm; done)
              | (simp only [wrd, olift] at q; cases q)
          · cases q
    obtain ⟨id, hid⟩ := hid
    obtain ⟨f1, f2, f3⟩ := mt_id hid
    have ty : ∀ φ1 H1 v, Rl X.K E σw S1 φ1 σ H1 → RX X.K E σw φ1 σ H1 true x v → tyV X.K (kdT kd) v H1 := fun φ1 H1 v R1 r1 => by
      rcases hkd with rfl | rfl
      · obtain ⟨xs, hx⟩ := kd_lst hkx
        obtain ⟨p, vs, rfl, hp, _⟩ := rx_lst R1 r1 hx
        exact .inl ⟨rfl, vs, SqL.of hp⟩
      · obtain ⟨xs, hx⟩ := kd_dct hkx
        obtain ⟨p, vs, rfl, hp, _⟩ := rx_dct R1 r1 hx
        exact .inr (.inr (.inl ⟨rfl, .inl ⟨vs, hp⟩⟩))
    have fin : ∀ φ1 H1 v φ2 H2 us, Ext φ H φ1 H1 → Rl X.K E σw S1 φ1 σ H1 → RX X.K E σw φ1 σ H1 true x v → Ext φ1 H1 φ2 H2 → Rl X.K E σw S2 φ2 σ H2 → RXs X.K E σw φ2 σ H2 (decide (mtOf nm = .extend)) ws us → mtAny X id v us H2 Q :=
      fun φ1 H1 v φ2 H2 us x1 R1 r1 x2 R2 r2 => by
        obtain ⟨id', h1, h2⟩ := doB_ok (Q := Q) (by omega) hkd R2 (r1.ext x2) r2 q fun φ' H' z x3 R3 r3 => k φ' H' z ((x1.trans x2).trans x3) R3 (.inl r3)
        rw [hid] at h1; cases h1
        exact h2
    cases es with
    | nil =>
      cases hl rfl
      cases e2
      exact ⟨_, pe_bm0 f1 f2 f3 mtAny_ok ho hbase hline, E, σw, S, φ, R, x, S1, e1, fun φ1 H1 v x1 R1 r1 => ⟨ty φ1 H1 v R1 r1, fin φ1 H1 v φ1 H1 [] x1 R1 r1 .refl R1 .nil⟩⟩
    | cons e es =>
      obtain ⟨s1, s2⟩ := noStar_cons hs
      refine ⟨_, pe_bm f1 f2 f3 mtAny_ok ho ha hbase ?_ hline (star_cons s1) (star_any s2).1, E, σw, S, φ, R, x, S1, e1, fun φ1 H1 v x1 R1 r1 => ⟨ty φ1 H1 v R1 r1, E, σw, S1, φ1, R1, ws, S2, e2, fun φ2 H2 us x2 R2 r2 => fin φ1 H1 v φ2 H2 us x1 R1 r1 x2 R2 r2⟩⟩
      rw [(star_any hs).2]
      have : decide ((e :: es).length + 0 + 0 < 30) = true := decide_eq_true (by omega)
      exact this
  unfold goMeth at q
  split at q
  · rename_i c fs hk
    obtain ⟨n, rfl, hS⟩ := kd_ins hk
    split at q
    · rename_i q0 h1 h2 h3
      obtain ⟨ws, S2, e2, q⟩ := bind_ok q
      obtain ⟨fI, fd, ps, kk, C1, M1, F1, hr, hbd⟩ := (hown c q0 h1).ex
      have hx : decide (mtOf nm = .extend) = false := h3
      have at1 : ∀ φ1 H1 v, Rl X.K E σw S1 φ1 σ H1 → RX X.K E σw φ1 σ H1 true (.loc n) v → ∃ a dx gs, v = .ref a ∧ H1 a = some (.ins (He.ga X.K c) dx gs) ∧ gs.lookup nm = none ∧ φ1[n]? = some a := fun φ1 H1 v R1 r1 => by
        obtain ⟨p, rfl, hp⟩ := rx_loc R1 r1 rfl
        obtain ⟨dx, gs, g1, g2⟩ := R1.st.ob n _ p hS hp
        refine ⟨p, dx, gs, rfl, g1, ?_, hp⟩
        rcases RL.lookup (f := nm) g2 with ⟨_, z⟩ | ⟨w', v', z1, _⟩
        · exact z
        · rw [h2] at z1; cases z1
      cases es with
      | nil =>
        cases hl rfl
        cases e2
        refine ⟨_, pe_meth0 ho C1 M1 F1 hr hbd .nil (E := E0) pass0 ht, E, σw, S, φ, R, _, S1, e1, fun φ1 H1 v x1 R1 r1 => ?_⟩
        obtain ⟨a, dx, gs, rfl, g1, g2, g3⟩ := at1 φ1 H1 v R1 r1
        exact ⟨a, dx, gs, rfl, g1, g2, call_go (Ex := E0) R1 (.cons (.loc g3) .nil) q fun φ' H' v x R' r' => k φ' H' v (x1.trans x) R' (.inl r')⟩
      | cons e es =>
        obtain ⟨s1, s2⟩ := noStar_cons hs
        rw [hx] at ha
        refine ⟨_, pe_meth ho C1 M1 F1 hr hbd .nil (E := E0) pass0 ha (star_cons s1) (star_any s2).1 ht, E, σw, S, φ, R, _, S1, e1, fun φ1 H1 v x1 R1 r1 => ?_⟩
        obtain ⟨a, dx, gs, rfl, g1, g2, g3⟩ := at1 φ1 H1 v R1 r1
        refine ⟨a, dx, gs, rfl, g1, g2, E, σw, S1, φ1, R1, ws, S2, e2, fun φ2 H2 us x2 R2 r2 => ?_⟩
        show spF X.K F q0 (.ref a :: (us ++ [])) H2 Q E0
        rw [List.append_nil]
        exact call_go (Ex := E0) R2 (.cons (.loc (x2.ix _ _ g3)) r2.fr) q fun φ' H' v x R' r' => k φ' H' v ((x1.trans x2).trans x) R' (.inl r')
    · cases q
  · cases q
  · rename_i h1 h2
    cases hk : kdOf S1 x with
    | ins c fs => exact absurd hk (h1 c fs)
    | bad => exact absurd hk h2
    | lst => rw [hk] at q; exact bi .lst (.inl rfl) hk q
    | dct => rw [hk] at q; exact bi .dct (.inr rfl) hk q
    | str => rw [hk] at q; obtain ⟨ws, S2, e2, q⟩ := bind_ok q; simp only [doB] at q; cases q
    | tup => rw [hk] at q; obtain ⟨ws, S2, e2, q⟩ := bind_ok q; simp only [doB] at q; cases q
/-- t.index(k), a tuple of texts -/
def rIndexT (K : PySem.W.Frag) : V → List V → Hp → VK → Prop := fun x vs H Q => ∃ (a : Addr) (ys : List Str) (k : Str), x = .ref a ∧ vs = [.str k] ∧ SqT K H a (ys.map V.str) ∧ k ∈ ys ∧ Q (.int (ys.idxOf k : Nat)) H
theorem mt_indexT : MtR X "tuple.index" (rIndexT X.K) := by
  intro pins s σ H x vs v us Q I rx rv h
  obtain ⟨a, ys, k, rfl, rfl, hs, hk, q⟩ := h
  cases rx
  obtain ⟨u, rfl, ru⟩ := rv.one
  obtain ⟨t, rfl⟩ := ru
  obtain ⟨its, r, p, _⟩ := I.tuple hs
  exact SeqAt.tuple_index_strs (show s.heap.IsTuple a its.toArray from p) r.strs hk ⟨.int _, H, I.tok _, ⟨_, rfl⟩, q⟩
theorem pe_tixop {x m : Str} {ws : List W} {p0 p q : Pos} {a : Expr} {ma : M W} {v : V} (hp : PE X (.Name x p0) (fun _ H Q => Q v H)) (h1 : ∀ φ Z H, RF X.K φ Z H (.tup ws) v) (hm : m = ("index" : Str)) (hok : methOk (.Name x p0) p q [a] = true) (ha : PE X a (rdE X.K false ma)) :
    PE X (.Call (.Attribute (.Name x p0) m p) [a] [] q) (rdE X.K br (mTIx ws ma)) := by
  subst hm
  simp only [methOk, callOk, Bool.and_eq_true, decide_eq_true_eq] at hok
  obtain ⟨⟨hb, hline⟩, hs, hn⟩ := hok
  have hbase := base_ok (f := "index") (env := X.env) hb
  obtain ⟨s1, s2⟩ := noStar_cons hs
  have h0 := h1 [] (fun _ => True) (fun _ => none)
  cases h0 with
  | tup h r =>
    rename_i a0 vs
    rcases h with ⟨_, n⟩ | ⟨o, its, n, k1, k2, k3, k4⟩
    · exact absurd trivial n
    · refine (pe_bm F.plainAttrs_tuple F.slot_tuple_index F.type_tuple_index mt_indexT hp (pa_consop s1 ha pa_nilop) hbase ?_ hline (star_cons s1) (star_any s2).1).imp fun σ H Q ⟨E, σw, S, φ, R, w, S', qq, k⟩ => ?_
      · rw [(star_any hs).2]
        rfl
      · obtain ⟨y, S1, e1, qq⟩ := bind_ok qq
        obtain ⟨q2, e5⟩ := olift_ok qq
        subst e5
        refine ⟨.inr (.inl ⟨rfl, o, k1, k2, k3⟩), E, σw, S, φ, R, [y], S', by unfold mCons; rw [e1]; rfl, fun φ1 H1 us x1 R1 r1 => ?_⟩
        obtain ⟨u, rfl, ru⟩ := rxs_cons1 r1 rfl
        have hsq : SqT X.K H1 a0 vs := .inr ⟨o, its, n, k1, k2, k4⟩
        cases y with
        | str kk =>
          simp only [wrd] at q2
          split at q2
          · rename_i ys hst
            split at q2
            · rename_i hmem
              cases q2
              cases rx_str R1 ru rfl
              have e1 := r.strs hst
              subst e1
              exact ⟨a0, ys, kk, rfl, rfl, hsq, hmem, k φ1 H1 _ x1 R1 (.inl (.int _))⟩
            · cases q2
          · cases q2
        | _ => simp only [wrd] at q2; cases q2
/-- d.get(k, x), d a dict of the top with text keys -/
structure TblK (K : PySem.W.Frag) (w : World) (mg : Str → Option Value) (x : Str) (t : List (Str × W) × List Str) : Prop where
  ex : ∃ (d : Addr) (es : Array DictEntry) (n : Nat), KDict K w d es n ∧ mg x = some (.ref d) ∧
    (∀ s y, (s, y) ∈ t.1 → ∃ u v, PySem.W.nsIn K d s = some (some u) ∧ RelV v u ∧ ∀ φ Z H, RF K φ Z H y v) ∧ ∀ s, s ∈ t.2 → PySem.W.nsIn K d s = some none
  nd : (x == ("__debug__" : Str)) = false
theorem tbl_mem {s : Str} {w : W} : ∀ {l : List (Str × W)}, l.lookup s = some w → (s, w) ∈ l
  | [], h => by cases h
  | (a, b) :: l, h => by
    rw [List.lookup_cons] at h
    cases e : s == a with
    | true => rw [e] at h; cases h; rw [eq_of_beq e]; exact List.mem_cons_self ..
    | false => rw [e] at h; exact List.mem_cons_of_mem _ (tbl_mem h)
theorem pe_tgetop {x m : Str} {t : List (Str × W) × List Str} {p0 p q : Pos} {a b : Expr} {ma mb : M W} (C : TblK X.K X.w X.mg x t) (hg : Gl X x) (hm : m = ("get" : Str)) (hok : methOk (.Name x p0) p q [a, b] = true) (ha : PE X a (rdE X.K false ma)) (hb : PE X b (rdE X.K false mb)) :
    PE X (.Call (.Attribute (.Name x p0) m p) [a, b] [] q) (rdE X.K br (mTGet t ma mb)) := by
  subst hm
  obtain ⟨⟨d, es, n, D, hd, hv, hn⟩, hdb⟩ := C
  simp only [methOk, callOk, Bool.and_eq_true, decide_eq_true_eq] at hok
  obtain ⟨⟨hb0, hline⟩, hs, hn0⟩ := hok
  have hbase := base_ok (f := "get") (env := X.env) hb0
  obtain ⟨s1, s2⟩ := noStar_cons hs
  obtain ⟨s3, s4⟩ := noStar_cons s2
  have ho : PE X (.Name x p0) (tC (.ref d)) := pe_glob hg hd rfl hdb
  have htr : backTo q (starEach [a, b] X.env) = [(false, eval a X.env), (false, eval b X.env)] := by
    rw [star_cons s1, star_cons s3]
    rfl
  have M : M2 X (.Name x p0) "get" p a b q := ⟨hbase, by rw [htr]; rfl, hline, htr⟩
  refine ⟨fun pins s σ H Q I ⟨E, σw, S, φ, R, w, S', qq, k⟩ => ?_⟩
  obtain ⟨kw, S1, e1, qq⟩ := bind_ok qq
  obtain ⟨dw, S2, e2, qq⟩ := bind_ok qq
  obtain ⟨q2, e5⟩ := olift_ok qq
  subst e5
  refine wpAny_Call_method M.base M.few M.line PySem.F.plainAttrs_dict PySem.F.slot_dict_get PySem.F.type_dict_get (thn (ho.run pins s σ H (fun v H1 => v = .ref d ∧ H1 = H) I ⟨rfl, rfl⟩) fun u s1 ⟨y, H1, I1, rx, ex, eh⟩ => ?_)
  subst ex eh
  obtain rfl : u = Value.ref d := rx
  refine ⟨kd_type D I1, fun b q => ?_, ?_⟩
  · cases q
    exact ⟨_, I1.kIn d _ D.at_, rfl⟩
  rw [M.trees]
  refine Calls.callWith_builtin rfl (Calls.evalArgs_plain (Calls.spliced_cons (thn (ha.run pins s1 σ H1 _ I1 ⟨E, σw, S, φ, R, kw, S1, e1, fun φ1 H2 v x1 R1 r1 => (⟨φ1, x1, R1, r1⟩ : ∃ φ1, Ext φ H1 φ1 H2 ∧ Rl X.K E σw S1 φ1 σ H2 ∧ RX X.K E σw φ1 σ H2 false kw v)⟩) fun iv s2 ⟨y, H2, I2, ry, φ1, x1, R1, r1⟩ =>
    Calls.spliced_cons (thn (hb.run pins s2 σ H2 _ I2 ⟨E, σw, S1, φ1, R1, dw, _, e2, fun φ2 H3 v x2 R2 r2 => (⟨φ2, x2, R2, r2⟩ : ∃ φ2, Ext φ1 H2 φ2 H3 ∧ Rl X.K E σw S' φ2 σ H3 ∧ RX X.K E σw φ2 σ H3 false dw v)⟩) fun fv s3 ⟨z, H3, I3, rz, φ2, x2, R2, r2⟩ => Calls.spliced_nil ?_))))
  cases kw with
  | str kk =>
    cases rx_str R1 r1 rfl
    obtain ⟨t0, rfl⟩ := ry
    simp only [wTGet] at q2
    refine call_meetsIn PySem.F.slot_dict_get (kd_type D I3) PySem.F.entry_dict_get (PySem.F.args_dict_get_3 _ _ _) (meets_dict_get_default (strKind X.prog X.w) d (PySem.strKind_is X.prog X.w kk t0) D.low fv) ⟨_, PySem.W.mapOf_K (prog := X.prog) I3.kIn D.at_ D.lit, ?_⟩
    cases hl : t.1.lookup kk with
    | some w0 =>
      rw [hl] at q2
      cases q2
      obtain ⟨u, v, h1, h2, h3⟩ := hv _ _ (tbl_mem hl)
      rw [PySem.W.find_K D.at_ h1]
      exact ⟨v, H3, I3.tok _, h2, k φ2 H3 v (x1.trans x2) R2 (.inl (h3 _ _ _))⟩
    | none =>
      rw [hl] at q2
      simp only at q2
      split at q2
      · rename_i hc
        cases q2
        rw [PySem.W.find_K D.at_ (hn kk (List.contains_iff_mem.mp hc))]
        exact ⟨z, H3, I3.tok _, rz, k φ2 H3 z (x1.trans x2) R2 (.inl r2.fr)⟩
      · cases q2
  | _ => simp only [wTGet] at q2; cases q2
/-! ### a dict of the top whose text keys are all known -/
structure DtsK (K : PySem.W.Frag) (w : World) (mg : Str → Option Value) (x : Str) (t : List (Str × W)) : Prop where
  ex : ∃ (d : Addr) (es : Array DictEntry) (n : Nat), KDict K w d es n ∧ mg x = some (.ref d) ∧
    (∀ s y, t.lookup s = some y → ∃ u v, PySem.W.nsIn K d s = some (some u) ∧ RelV v u ∧ ∀ φ Z H, RF K φ Z H y v) ∧ ∀ s, t.lookup s = none → PySem.W.nsIn K d s = some none
  nd : (x == ("__debug__" : Str)) = false
theorem tin_go {x : Str} {t : List (Str × W)} {ng : Bool} {ma : M W} {d : Addr} {r : Bool → R2} {R0 : Bool → Hp → Prop} {Qf : VK} (get : ∀ (s : Str), ∃ r, PySem.W.nsIn X.K d s = some r ∧ r.isSome = (t.lookup s).isSome)
    (hr : ∀ (s : Str) (o : Option Value) H1 Q1, PySem.W.nsIn X.K d s = some o → Q1 (.bl (o.isSome != ng)) H1 → r ng (.str s) (.ref d) H1 Q1) (k0 : ∀ b H1, R0 b H1 → Qf (.bl b) H1) (q : rdT X.K (mTIn t ng ma) σ H R0) : tOp (r ng) (rdE X.K true ma) (tC (.ref d)) σ H Qf := by
  obtain ⟨E, σw, S, φ, R, b, S', q, k⟩ := q
  obtain ⟨y, S1, e1, q⟩ := bind_ok q
  obtain ⟨q2, e5⟩ := olift_ok q
  subst e5
  refine ⟨E, σw, S, φ, R, y, _, e1, fun φ1 H1 v x1 R1 r1 => ?_⟩
  cases y with
  | str s =>
    cases rx_str R1 r1 rfl
    obtain ⟨o, h1, h2⟩ := get s
    cases q2
    refine hr s o H1 _ h1 ?_
    rw [h2]
    exact k0 _ _ (k φ1 H1 x1 R1)
  | _ => cases q2
theorem dts_get {x : Str} {t : List (Str × W)} {d : Addr} (hv : ∀ s y, t.lookup s = some y → ∃ u v, PySem.W.nsIn X.K d s = some (some u) ∧ RelV v u ∧ ∀ φ Z H, RF X.K φ Z H y v) (hn : ∀ s, t.lookup s = none → PySem.W.nsIn X.K d s = some none) (s : Str) : ∃ r, PySem.W.nsIn X.K d s = some r ∧ r.isSome = (t.lookup s).isSome := by
  cases hl : t.lookup s with
  | none => exact ⟨none, hn s hl, rfl⟩
  | some y => obtain ⟨u, v, h1, _⟩ := hv s y hl; exact ⟨some u, h1, rfl⟩
theorem pe_tinop {x : Str} {t : List (Str × W)} {op : CmpOp} {ng : Bool} {p0 pos : Pos} {a : Expr} {ma : M W} (C : DtsK X.K X.w X.mg x t) (hg : Gl X x) (hop : inOp op = some ng) (hm : behindInMarks op (.Name x p0) = false) (ha : PE X a (rdE X.K true ma)) :
    PE X (.Compare a [op] [.Name x p0] pos) (rdE X.K br (mVal (mTIn t ng ma))) := by
  obtain ⟨⟨d, es, n, D, hd, hv, hn⟩, hdb⟩ := C
  have ho : PE X (.Name x p0) (tC (.ref d)) := pe_glob hg hd rfl hdb
  have go : ∀ σ H Q, rdE X.K br (mVal (mTIn t ng ma)) σ H Q → rdT X.K (mTIn t ng ma) σ H fun b H1 => Q (.bl b) H1 := fun σ H Q ⟨E, σw, S, φ, R, w, S', q, k⟩ => by
    obtain ⟨b, S1, e1, q⟩ := bind_ok q
    cases q
    exact ⟨E, σw, S, φ, R, b, _, e1, fun φ1 H1 x1 R1 => k φ1 H1 _ x1 R1 (.inl (.bl _))⟩
  cases op <;> first | cases hop | skip
  · exact (pe_cmpR (op_in_kd D) ha ho hm).imp fun σ H Q q => tin_go (x := x) (r := fun _ => fun x y H Q => ∃ (z : Str) (r : Option Value), x = .str z ∧ y = .ref d ∧ PySem.W.nsIn X.K d z = some r ∧ Q (.bl r.isSome) H) (dts_get (x := x) hv hn) (fun s o H1 Q1 h q => ⟨s, o, rfl, rfl, h, by simpa using q⟩) (fun b H1 h => h) (go σ H Q q)
  · exact (pe_cmpR (op_notIn_kd D) ha ho hm).imp fun σ H Q q => tin_go (x := x) (r := fun _ => fun x y H Q => ∃ (z : Str) (r : Option Value), x = .str z ∧ y = .ref d ∧ PySem.W.nsIn X.K d z = some r ∧ Q (.bl (!r.isSome)) H) (dts_get (x := x) hv hn) (fun s o H1 Q1 h q => ⟨s, o, rfl, rfl, h, by simpa using q⟩) (fun b H1 h => h) (go σ H Q q)
theorem pt_tinop {x : Str} {t : List (Str × W)} {op : CmpOp} {ng : Bool} {p0 pos : Pos} {a : Expr} {ma : M W} (C : DtsK X.K X.w X.mg x t) (hg : Gl X x) (hop : inOp op = some ng) (hm : behindInMarks op (.Name x p0) = false) (ha : PE X a (rdE X.K true ma)) :
    PT X (.Compare a [op] [.Name x p0] pos) (rdT X.K (mTIn t ng ma)) := by
  obtain ⟨⟨d, es, n, D, hd, hv, hn⟩, hdb⟩ := C
  have ho : PE X (.Name x p0) (tC (.ref d)) := pe_glob hg hd rfl hdb
  cases op <;> first | cases hop | skip
  · exact (pt_cmpR (op_in_kd D) ha ho hm).imp fun σ H Q q => tin_go (x := x) (r := fun _ => fun x y H Q => ∃ (z : Str) (r : Option Value), x = .str z ∧ y = .ref d ∧ PySem.W.nsIn X.K d z = some r ∧ Q (.bl r.isSome) H) (dts_get (x := x) hv hn) (fun s o H1 Q1 h q => ⟨s, o, rfl, rfl, h, by simpa using q⟩) (fun b H1 h => ⟨b, rfl, h⟩) q
  · exact (pt_cmpR (op_notIn_kd D) ha ho hm).imp fun σ H Q q => tin_go (x := x) (r := fun _ => fun x y H Q => ∃ (z : Str) (r : Option Value), x = .str z ∧ y = .ref d ∧ PySem.W.nsIn X.K d z = some r ∧ Q (.bl (!r.isSome)) H) (dts_get (x := x) hv hn) (fun s o H1 Q1 h q => ⟨s, o, rfl, rfl, h, by simpa using q⟩) (fun b H1 h => ⟨b, rfl, h⟩) q
theorem pe_tsubop {x : Str} {t : List (Str × W)} {p0 pos : Pos} {i : Expr} {mi : M W} (C : DtsK X.K X.w X.mg x t) (hg : Gl X x) (hs : ∀ lo hi st p, i ≠ .Slice lo hi st p) (hi : PE X i (rdE X.K true mi)) :
    PE X (.Subscript (.Name x p0) i pos) (rdE X.K br (mTSub t mi)) := by
  obtain ⟨⟨d, es, n, D, hd, hv, hn⟩, hdb⟩ := C
  have ho : PE X (.Name x p0) (tC (.ref d)) := pe_glob hg hd rfl hdb
  refine ⟨fun pins s σ H Q I ⟨E, σw, S, φ, R, w, S', q, k⟩ => ?_⟩
  obtain ⟨y, S1, e1, q⟩ := bind_ok q
  obtain ⟨q2, e5⟩ := olift_ok q
  subst e5
  refine subD_of PySem.F.slot_dict_getitem.lookup (plain_ix hs).2 (thn (ho.run pins s σ H (fun v H1 => v = .ref d ∧ H1 = H) I ⟨rfl, rfl⟩) fun u s1 ⟨x0, H1, I1, rx, ex, eh⟩ => ?_)
  subst ex eh
  refine thn (hi.run pins s1 σ H1 _ I1 ⟨E, σw, S, φ, R, y, _, e1, fun φ1 H2 v x1 R1 r1 => (⟨φ1, x1, R1, r1⟩ : ∃ φ1, Ext φ H1 φ1 H2 ∧ Rl X.K E σw S' φ1 σ H2 ∧ RX X.K E σw φ1 σ H2 true y v)⟩) fun iv s2 ⟨z, H2, I2, ry, φ1, x1, R1, r1⟩ => ?_
  obtain rfl : u = Value.ref d := rx
  cases y with
  | str s =>
    cases rx_str R1 r1 rfl
    obtain ⟨u, z, h1, h2, h3⟩ := hv s w q2
    exact ⟨kd_type D I2, op_item_kd D pins s2 σ H2 (.ref d) (.str s) _ _ Q I2 rfl ry ⟨s, u, z, rfl, rfl, h1, h2, k φ1 H2 z x1 R1 (.inl (h3 _ _ _))⟩⟩
  | _ => cases q2
/-! ### methods of texts -/
theorem rfs_strs {φ : List Addr} {Z : Addr → Prop} : ∀ ys : List Str, RFs X.K φ Z H (ys.map .str) (ys.map V.str)
  | [] => .nil
  | y :: ys => .cons (.str y) (rfs_strs ys)
theorem mt_rstripC : MtR X "str.rstrip" (fun x xs H Q => ∃ a b, x = .str a ∧ xs = [.str b] ∧ a.length ≤ sizeLine ∧ Q (.str (Txt.rstripChars a b)) H) := by
  intro pins s σ H x xs v us Q I rx rs h
  obtain ⟨a, b, rfl, rfl, hz, h⟩ := h
  obtain ⟨t, rfl⟩ := rx
  cases rs with
  | cons r1 rs =>
    cases rs
    obtain ⟨u, rfl⟩ := r1
    exact PySem.W.KXw.rstripChars rfl hz fun t' k => ⟨.str _, H, I.tok k, ⟨t', rfl⟩, h⟩
theorem mt_stripC : MtR X "str.strip" (fun x xs H Q => ∃ a b, x = .str a ∧ xs = [.str b] ∧ a.length ≤ sizeLine ∧ Q (.str (Txt.stripChars a b)) H) := by
  intro pins s σ H x xs v us Q I rx rs h
  obtain ⟨a, b, rfl, rfl, hz, h⟩ := h
  obtain ⟨t, rfl⟩ := rx
  cases rs with
  | cons r1 rs =>
    cases rs
    obtain ⟨u, rfl⟩ := r1
    exact PySem.W.KXw.stripChars rfl hz fun t' k => ⟨.str _, H, I.tok k, ⟨t', rfl⟩, h⟩
theorem mt_lstripC : MtR X "str.lstrip" (fun x xs H Q => ∃ a b, x = .str a ∧ xs = [.str b] ∧ a.length ≤ sizeLine ∧ Q (.str (Txt.lstripChars a b)) H) := by
  intro pins s σ H x xs v us Q I rx rs h
  obtain ⟨a, b, rfl, rfl, hz, h⟩ := h
  obtain ⟨t, rfl⟩ := rx
  cases rs with
  | cons r1 rs =>
    cases rs
    obtain ⟨u, rfl⟩ := r1
    exact PySem.W.KXw.lstripChars rfl hz fun t' k => ⟨.str _, H, I.tok k, ⟨t', rfl⟩, h⟩
theorem mt_findC : MtR X "str.find" (fun x xs H Q => ∃ a b, x = .str a ∧ xs = [.str b] ∧ a.length ≤ sizeLine ∧ Q (.int (Txt.find a b)) H) := by
  intro pins s σ H x xs v us Q I rx rs h
  obtain ⟨a, b, rfl, rfl, hz, h⟩ := h
  obtain ⟨t, rfl⟩ := rx
  cases rs with
  | cons r1 rs =>
    cases rs
    obtain ⟨u, rfl⟩ := r1
    exact PySem.W.KXw.find rfl fun t' k => ⟨.int _, H, I.tok k, ⟨t', rfl⟩, h⟩
theorem mt_rfindC : MtR X "str.rfind" (fun x xs H Q => ∃ a b, x = .str a ∧ xs = [.str b] ∧ a.length ≤ sizeLine ∧ Q (.int (Txt.rfind a b)) H) := by
  intro pins s σ H x xs v us Q I rx rs h
  obtain ⟨a, b, rfl, rfl, hz, h⟩ := h
  obtain ⟨t, rfl⟩ := rx
  cases rs with
  | cons r1 rs =>
    cases rs
    obtain ⟨u, rfl⟩ := r1
    exact PySem.W.KXw.rfind rfl fun t' k => ⟨.int _, H, I.tok k, ⟨t', rfl⟩, h⟩
theorem mt_startsC : MtR X "str.startswith" (fun x xs H Q => ∃ a b, x = .str a ∧ xs = [.str b] ∧ a.length ≤ sizeLine ∧ Q (.bl (Txt.startswith a b)) H) := by
  intro pins s σ H x xs v us Q I rx rs h
  obtain ⟨a, b, rfl, rfl, hz, h⟩ := h
  obtain ⟨t, rfl⟩ := rx
  cases rs with
  | cons r1 rs =>
    cases rs
    obtain ⟨u, rfl⟩ := r1
    exact SC.startswith ⟨.bl _, H, I, rfl, h⟩
theorem pe_smop {m : Str} {k : Sm} {p q : Pos} {a : Expr} {ma : M W} (hk : smOf m = some k) (hok : methOk o p q [a] = true) (ho : PE X o (rdE X.K true mo)) (ha : PE X a (rdE X.K false ma)) :
    PE X (.Call (.Attribute o m p) [a] [] q) (rdE X.K br (mSm k mo ma)) := by
  simp only [methOk, callOk, Bool.and_eq_true, decide_eq_true_eq] at hok
  obtain ⟨⟨hb, hline⟩, hs, hn⟩ := hok
  have hbase := base_ok (f := m) (env := X.env) hb
  obtain ⟨s1, s2⟩ := noStar_cons hs
  have hse : starEach [a] X.env = [(false, eval a X.env)] := by rw [star_cons s1]; rfl
  unfold smOf at hk
  split at hk
  · rename_i hm
    cases hk
    subst hm
    refine (pe_split ho ha hse hbase hline).imp fun σ H Q ⟨E, σw, S, φ, R, w, S', qq, k⟩ => ?_
    obtain ⟨x, S1, e1, qq⟩ := bind_ok qq
    obtain ⟨y, S2, e2, qq⟩ := bind_ok qq
    obtain ⟨q2, e5⟩ := olift_ok qq
    subst e5
    refine ⟨E, σw, S, φ, R, x, _, e1, fun φ1 H1 v x1 R1 r1 => ?_⟩
    cases x with
    | str s =>
      cases y with
      | str t =>
        cases rx_str R1 r1 rfl
        simp only [wSm] at q2
        split at q2
        · rename_i h
          cases q2
          refine ⟨⟨_, rfl⟩, E, σw, _, φ1, R1, _, _, e2, fun φ2 H2 u x2 R2 r2 => ?_⟩
          cases rx_str R2 r2 rfl
          refine ⟨s, t, rfl, rfl, h.1, h.2, fun p hp => ?_⟩
          have n := new_lst (ws := (Txt.split s t).map .str) (vs := (Txt.split s t).map V.str) R2 hp (rfs_strs _)
          exact k φ2 _ _ ((x1.trans x2).trans (.same (same_new hp))) n.rl (.inl n.rf)
        · cases q2
      | _ => cases q2
    | _ => cases q2
  · split at hk
    · rename_i hm
      cases hk
      subst hm
      refine (pe_join ho ha hse hbase hline).imp fun σ H Q ⟨E, σw, S, φ, R, w, S', qq, k⟩ => ?_
      obtain ⟨x, S1, e1, qq⟩ := bind_ok qq
      obtain ⟨y, S2, e2, qq⟩ := bind_ok qq
      obtain ⟨q2, e5⟩ := olift_ok qq
      subst e5
      refine ⟨E, σw, S, φ, R, x, _, e1, fun φ1 H1 v x1 R1 r1 => ?_⟩
      cases x with
      | str s =>
        cases rx_str R1 r1 rfl
        cases y with
        | lst xs =>
          simp only [wSm] at q2
          split at q2
          · rename_i ys hst
            split at q2
            · rename_i h
              cases q2
              refine ⟨⟨_, rfl⟩, E, σw, _, φ1, R1, _, _, e2, fun φ2 H2 u x2 R2 r2 => ?_⟩
              cases r2.fr with
              | lst hh n r =>
                rename_i a0 vs
                have e1 := r.strs hst
                subst e1
                exact ⟨s, a0, ys, rfl, rfl, .inl (SqL.of hh), h, k φ2 H2 _ (x1.trans x2) R2 (.inl (.str _))⟩
            · cases q2
          · cases q2
        | tup xs =>
          simp only [wSm] at q2
          split at q2
          · rename_i ys hst
            split at q2
            · rename_i h
              cases q2
              refine ⟨⟨_, rfl⟩, E, σw, _, φ1, R1, _, _, e2, fun φ2 H2 u x2 R2 r2 => ?_⟩
              cases r2.fr with
              | tup hh r =>
                rename_i a0 vs
                have e1 := r.strs hst
                subst e1
                exact ⟨s, a0, ys, rfl, rfl, .inr hh.sq, h, k φ2 H2 _ (x1.trans x2) R2 (.inl (.str _))⟩
            · cases q2
          · cases q2
        | _ => cases q2
      | _ => simp only [wSm] at q2; cases q2
    · split at hk
      · rename_i hm
        cases hk
        subst hm
        refine (pe_m1 F.slot_str_rstrip F.type_str_rstrip mt_rstripC ho ha hse hbase hline).imp fun σ H Q ⟨E, σw, S, φ, R, w, S', qq, k⟩ => ?_
        obtain ⟨x, S1, e1, qq⟩ := bind_ok qq
        obtain ⟨y, S2, e2, qq⟩ := bind_ok qq
        obtain ⟨q2, e5⟩ := olift_ok qq
        subst e5
        refine ⟨E, σw, S, φ, R, x, _, e1, fun φ1 H1 v x1 R1 r1 => ?_⟩
        cases x with
        | str s =>
          cases y with
          | str t =>
            cases rx_str R1 r1 rfl
            simp only [wSm] at q2
            split at q2
            · rename_i h
              cases q2
              refine ⟨⟨_, rfl⟩, E, σw, _, φ1, R1, _, _, e2, fun φ2 H2 u x2 R2 r2 => ?_⟩
              cases rx_str R2 r2 rfl
              exact ⟨s, t, rfl, rfl, h, k φ2 H2 _ (x1.trans x2) R2 (.inl (.str _))⟩
            · cases q2
          | _ => simp only [wSm] at q2; cases q2
        | _ => cases y <;> (simp only [wSm] at q2; cases q2)
      · split at hk
        · cases hk
          refine PE.any fun σ H Q ⟨E, σw, S, φ, R, w, S', qq, k⟩ => ?_
          exfalso
          obtain ⟨x, S1, e1, qq⟩ := bind_ok qq
          obtain ⟨y, S2, e2, qq⟩ := bind_ok qq
          obtain ⟨q2, e5⟩ := olift_ok qq
          cases x <;> cases y <;> (simp only [wSm] at q2; cases q2)
        · split at hk
          · rename_i hm
            cases hk
            subst hm
            refine (pe_m1 F.slot_str_strip F.type_str_strip mt_stripC ho ha hse hbase hline).imp fun σ H Q ⟨E, σw, S, φ, R, w, S', qq, k⟩ => ?_
            obtain ⟨x, S1, e1, qq⟩ := bind_ok qq
            obtain ⟨y, S2, e2, qq⟩ := bind_ok qq
            obtain ⟨q2, e5⟩ := olift_ok qq
            subst e5
            refine ⟨E, σw, S, φ, R, x, _, e1, fun φ1 H1 v x1 R1 r1 => ?_⟩
            cases x with
            | str s =>
              cases y with
              | str t =>
                cases rx_str R1 r1 rfl
                simp only [wSm] at q2
                split at q2
                · rename_i h
                  cases q2
                  refine ⟨⟨_, rfl⟩, E, σw, _, φ1, R1, _, _, e2, fun φ2 H2 u x2 R2 r2 => ?_⟩
                  cases rx_str R2 r2 rfl
                  exact ⟨s, t, rfl, rfl, h, k φ2 H2 _ (x1.trans x2) R2 (.inl (.str _))⟩
                · cases q2
              | _ => simp only [wSm] at q2; cases q2
            | _ => cases y <;> (simp only [wSm] at q2; cases q2)
          · split at hk
            · rename_i hm
              cases hk
              subst hm
              refine (pe_m1 F.slot_str_lstrip F.type_str_lstrip mt_lstripC ho ha hse hbase hline).imp fun σ H Q ⟨E, σw, S, φ, R, w, S', qq, k⟩ => ?_
              obtain ⟨x, S1, e1, qq⟩ := bind_ok qq
              obtain ⟨y, S2, e2, qq⟩ := bind_ok qq
              obtain ⟨q2, e5⟩ := olift_ok qq
              subst e5
              refine ⟨E, σw, S, φ, R, x, _, e1, fun φ1 H1 v x1 R1 r1 => ?_⟩
              cases x with
              | str s =>
                cases y with
                | str t =>
                  cases rx_str R1 r1 rfl
                  simp only [wSm] at q2
                  split at q2
                  · rename_i h
                    cases q2
                    refine ⟨⟨_, rfl⟩, E, σw, _, φ1, R1, _, _, e2, fun φ2 H2 u x2 R2 r2 => ?_⟩
                    cases rx_str R2 r2 rfl
                    exact ⟨s, t, rfl, rfl, h, k φ2 H2 _ (x1.trans x2) R2 (.inl (.str _))⟩
                  · cases q2
                | _ => simp only [wSm] at q2; cases q2
              | _ => cases y <;> (simp only [wSm] at q2; cases q2)
            · split at hk
              · rename_i hm
                cases hk
                subst hm
                refine (pe_m1 F.slot_str_find F.type_str_find mt_findC ho ha hse hbase hline).imp fun σ H Q ⟨E, σw, S, φ, R, w, S', qq, k⟩ => ?_
                obtain ⟨x, S1, e1, qq⟩ := bind_ok qq
                obtain ⟨y, S2, e2, qq⟩ := bind_ok qq
                obtain ⟨q2, e5⟩ := olift_ok qq
                subst e5
                refine ⟨E, σw, S, φ, R, x, _, e1, fun φ1 H1 v x1 R1 r1 => ?_⟩
                cases x with
                | str s =>
                  cases y with
                  | str t =>
                    cases rx_str R1 r1 rfl
                    simp only [wSm] at q2
                    split at q2
                    · rename_i h
                      cases q2
                      refine ⟨⟨_, rfl⟩, E, σw, _, φ1, R1, _, _, e2, fun φ2 H2 u x2 R2 r2 => ?_⟩
                      cases rx_str R2 r2 rfl
                      exact ⟨s, t, rfl, rfl, h, k φ2 H2 _ (x1.trans x2) R2 (.inl (.int _))⟩
                    · cases q2
                  | _ => simp only [wSm] at q2; cases q2
                | _ => cases y <;> (simp only [wSm] at q2; cases q2)
              · split at hk
                · rename_i hm
                  cases hk
                  subst hm
                  refine (pe_m1 F.slot_str_rfind F.type_str_rfind mt_rfindC ho ha hse hbase hline).imp fun σ H Q ⟨E, σw, S, φ, R, w, S', qq, k⟩ => ?_
                  obtain ⟨x, S1, e1, qq⟩ := bind_ok qq
                  obtain ⟨y, S2, e2, qq⟩ := bind_ok qq
                  obtain ⟨q2, e5⟩ := olift_ok qq
                  subst e5
                  refine ⟨E, σw, S, φ, R, x, _, e1, fun φ1 H1 v x1 R1 r1 => ?_⟩
                  cases x with
                  | str s =>
                    cases y with
                    | str t =>
                      cases rx_str R1 r1 rfl
                      simp only [wSm] at q2
                      split at q2
                      · rename_i h
                        cases q2
                        refine ⟨⟨_, rfl⟩, E, σw, _, φ1, R1, _, _, e2, fun φ2 H2 u x2 R2 r2 => ?_⟩
                        cases rx_str R2 r2 rfl
                        exact ⟨s, t, rfl, rfl, h, k φ2 H2 _ (x1.trans x2) R2 (.inl (.int _))⟩
                      · cases q2
                    | _ => simp only [wSm] at q2; cases q2
                  | _ => cases y <;> (simp only [wSm] at q2; cases q2)
                · split at hk
                  · rename_i hm
                    cases hk
                    subst hm
                    refine (pe_m1 F.slot_str_startswith F.type_str_startswith mt_startsC ho ha hse hbase hline).imp fun σ H Q ⟨E, σw, S, φ, R, w, S', qq, k⟩ => ?_
                    obtain ⟨x, S1, e1, qq⟩ := bind_ok qq
                    obtain ⟨y, S2, e2, qq⟩ := bind_ok qq
                    obtain ⟨q2, e5⟩ := olift_ok qq
                    subst e5
                    refine ⟨E, σw, S, φ, R, x, _, e1, fun φ1 H1 v x1 R1 r1 => ?_⟩
                    cases x with
                    | str s =>
                      cases y with
                      | str t =>
                        cases rx_str R1 r1 rfl
                        simp only [wSm] at q2
                        split at q2
                        · rename_i h
                          cases q2
                          refine ⟨⟨_, rfl⟩, E, σw, _, φ1, R1, _, _, e2, fun φ2 H2 u x2 R2 r2 => ?_⟩
                          cases rx_str R2 r2 rfl
                          exact ⟨s, t, rfl, rfl, h, k φ2 H2 _ (x1.trans x2) R2 (.inl (.bl _))⟩
                        · cases q2
                      | _ => simp only [wSm] at q2; cases q2
                    | _ => cases y <;> (simp only [wSm] at q2; cases q2)
                  · cases hk
/-- text.rstrip() -/
theorem pe_stripop {p q : Pos} (hok : methOk o p q [] = true) (ho : PE X o (rdE X.K true mo)) : PE X (.Call (.Attribute o "rstrip" p) [] [] q) (rdE X.K br (mStrip mo)) := by
  simp only [methOk, callOk, Bool.and_eq_true, decide_eq_true_eq] at hok
  obtain ⟨⟨hb, hline⟩, hs, hn⟩ := hok
  have hbase := base_ok (f := "rstrip") (env := X.env) hb
  refine (pe_m0 F.slot_str_rstrip F.type_str_rstrip mt_rstrip ho hbase hline).imp fun σ H Q ⟨E, σw, S, φ, R, w, S', qq, k⟩ => ?_
  obtain ⟨x, S1, e1, qq⟩ := bind_ok qq
  obtain ⟨q2, e5⟩ := olift_ok qq
  subst e5
  refine ⟨E, σw, S, φ, R, x, _, e1, fun φ1 H1 v x1 R1 r1 => ?_⟩
  cases x with
  | str s =>
    cases rx_str R1 r1 rfl
    simp only [wStrip] at q2
    split at q2
    · rename_i h
      cases q2
      exact ⟨⟨_, rfl⟩, s, rfl, rfl, h, k φ1 H1 _ x1 R1 (.inl (.str _))⟩
    · cases q2
  | _ => simp only [wStrip] at q2; cases q2
/-- text.ljust(n, sign) -/
theorem pe_justop {p q : Pos} {a b : Expr} {ma mb : M W} (hok : methOk o p q [a, b] = true) (ho : PE X o (rdE X.K true mo)) (ha : PE X a (rdE X.K true ma)) (hb : PE X b (rdE X.K true mb)) : PE X (.Call (.Attribute o "ljust" p) [a, b] [] q) (rdE X.K br (mJust mo ma mb)) := by
  simp only [methOk, callOk, Bool.and_eq_true, decide_eq_true_eq] at hok
  obtain ⟨⟨hb0, hline⟩, hs, hn⟩ := hok
  have hbase := base_ok (f := "ljust") (env := X.env) hb0
  obtain ⟨s1, s2⟩ := noStar_cons hs
  obtain ⟨s3, s4⟩ := noStar_cons s2
  have hse : starEach [a, b] X.env = [(false, eval a X.env), (false, eval b X.env)] := by rw [star_cons s1, star_cons s3]; rfl
  refine ⟨fun pins s σ H Q I ⟨E, σw, S, φ, R, w, S', qq, k⟩ => ?_⟩
  obtain ⟨x, S1, e1, qq⟩ := bind_ok qq
  obtain ⟨y, S2, e2, qq⟩ := bind_ok qq
  obtain ⟨z, S3, e3, qq⟩ := bind_ok qq
  obtain ⟨q2, e5⟩ := olift_ok qq
  subst e5
  obtain ⟨s0, rfl⟩ : ∃ s0, x = .str s0 := by cases x <;> first | exact ⟨_, rfl⟩ | (cases y <;> cases z <;> (simp only [wJust] at q2; cases q2))
  obtain ⟨i, rfl⟩ : ∃ i, y = .int i := by cases y <;> first | exact ⟨_, rfl⟩ | (cases z <;> (simp only [wJust] at q2; cases q2))
  obtain ⟨f, rfl⟩ : ∃ f, z = .str f := by cases z <;> first | exact ⟨_, rfl⟩ | (simp only [wJust] at q2; cases q2)
  simp only [wJust] at q2
  split at q2
  · rename_i h
    obtain ⟨i0, i1, hf⟩ := h
    cases q2
    have hp : PySem.PadOk i = true := PyProof.Rows.padOk_of (by omega) (by omega)
    refine PySem.Call_method2 hbase hse hline (thn (ho.run pins s σ H (fun v H1 => v = .str s0 ∧ ∃ φ1, Ext φ H φ1 H1 ∧ Rl X.K E σw S1 φ1 σ H1) I ⟨E, σw, S, φ, R, .str s0, _, e1, fun φ1 H1 v x1 R1 r1 => ?_⟩) fun v s1 ⟨x0, H1, I1, rx, ex, φ1, x1, R1⟩ => ?_)
    · cases rx_str R1 r1 rfl
      exact ⟨rfl, φ1, x1, R1⟩
    · subst ex
      obtain ⟨t, rfl⟩ := _root_.id rx
      refine ⟨"str", _, F.plainAttrs_str, F.slot_str_ljust, F.type_str_ljust, typeIs_str _ _ _, (fun _ e => nomatch e), Calls.callWith_builtin rfl (Calls.evalArgs_plain (Calls.spliced_cons ?_))⟩
      refine thn (ha.run pins s1 σ H1 (fun v H2 => v = .int i ∧ ∃ φ2, Ext φ H φ2 H2 ∧ Rl X.K E σw S2 φ2 σ H2) I1 ⟨E, σw, S1, φ1, R1, .int i, _, e2, fun φ2 H2 v x2 R2 r2 => ?_⟩) fun u s2 ⟨y0, H2, I2, ry, ey, φ2, x2, R2⟩ => ?_
      · cases rx_int R2 r2 rfl
        exact ⟨rfl, φ2, x1.trans x2, R2⟩
      · subst ey
        obtain ⟨t2, rfl⟩ := _root_.id ry
        refine Calls.spliced_cons (thn (hb.run pins s2 σ H2 (fun v H3 => v = .str f ∧ ∃ φ3, Ext φ H φ3 H3 ∧ Rl X.K E σw S' φ3 σ H3) I2 ⟨E, σw, S2, φ2, R2, .str f, _, e3, fun φ3 H3 v x3 R3 r3 => ?_⟩) fun u s3 ⟨z0, H3, I3, rz, ez, φ3, x3, R3⟩ => ?_)
        · cases rx_str R3 r3 rfl
          exact ⟨rfl, φ3, x2.trans x3, R3⟩
        · subst ez
          obtain ⟨t3, rfl⟩ := _root_.id rz
          exact Calls.spliced_nil (PyProof.Rows.ljust_fill hp hf fun t' kk => ⟨.str _, H3, I3.tok kk, ⟨t', rfl⟩, k φ3 H3 _ x3 R3 (.inl (.str _))⟩)
  · cases q2
/-! ### texts with values in them -/
theorem pe_fmtop {a : Expr} {p : Pos} {ma : M W} (ha : PE X a (rdE X.K true ma)) : PE X (.FormattedValue a (-1) none p) (rdE X.K br (mFmt ma)) := by
  refine (pe_fmt ha).imp fun σ H Q ⟨E, σw, S, φ, R, w, S', qq, k⟩ => ?_
  obtain ⟨x, S1, e1, qq⟩ := bind_ok qq
  obtain ⟨q2, e5⟩ := olift_ok qq
  subst e5
  refine ⟨E, σw, S, φ, R, x, _, e1, fun φ1 H1 v x1 R1 r1 => ?_⟩
  cases x with
  | str s =>
    cases rx_str R1 r1 rfl
    simp only [wFmt] at q2
    split at q2
    · rename_i h
      cases q2
      exact .inl ⟨s, rfl, h, k φ1 H1 _ x1 R1 (.inl (.str _))⟩
    · cases q2
  | int i =>
    cases rx_int R1 r1 rfl
    simp only [wFmt] at q2
    split at q2
    · rename_i h
      cases q2
      exact .inr ⟨i, rfl, h, k φ1 H1 _ x1 R1 (.inl (.str _))⟩
    · cases q2
  | _ => simp only [wFmt] at q2; cases q2
/-- the parts by their walks -/
inductive EJ (X : Cx) : List Expr → M (List W) → Prop where
  | nil : EJ X [] mNil
  | cons {e : Expr} {es : List Expr} {m : M W} {ms : M (List W)} (h : PE X e (rdE X.K true m)) (r : EJ X es ms) : EJ X (e :: es) (mCons m ms)
  | bad {es : List Expr} : EJ X es mBad
theorem pj_bad : ∀ es : List Expr, ∃ ts, PJ X es ts
  | [] => ⟨[], .nil⟩
  | e :: es => by
    obtain ⟨ts, h⟩ := pj_bad es
    exact ⟨_ :: ts, .cons (PE.no (br := true)) h⟩
theorem ej_js {es : List Expr} {ms : M (List W)} (h : EJ X es ms) : ∃ ts, PJ X es ts ∧ ∀ (acc : Str) (E : Ent) (σw : Sls) (S : Sto) (φ : List Addr) (σ : L2.St) (H : Hp) (xs : List W) (S' : Sto) (out : Str) (Q : Str → Hp → Prop), Rl X.K E σw S φ σ H → ms σw S = .ok xs S' → wJs acc xs = some out →
    (∀ φ1 H1, Ext φ H φ1 H1 → Rl X.K E σw S' φ1 σ H1 → Q out H1) → tJs ts acc σ H Q := by
  induction h with
  | nil =>
    refine ⟨[], .nil, fun acc E σw S φ σ H xs S' out Q R e1 e2 k => ?_⟩
    cases e1
    cases e2
    exact k φ H .refl R
  | @bad es =>
    obtain ⟨ts, hp⟩ := pj_bad (X := X) es
    exact ⟨ts, hp, fun acc E σw S φ σ H xs S' out Q R e1 e2 k => by cases e1⟩
  | @cons e es m ms h r ih =>
    obtain ⟨ts, hp, ih⟩ := ih
    refine ⟨_ :: ts, .cons h hp, fun acc E σw S φ σ H xs S' out Q R e1 e2 k => ?_⟩
    obtain ⟨x, S1, f1, e1⟩ := bind_ok e1
    obtain ⟨ys, S2, f2, e1⟩ := bind_ok e1
    cases e1
    cases x with
    | str y =>
      simp only [wJs] at e2
      split at e2
      · rename_i hl
        refine ⟨E, σw, S, φ, R, .str y, S1, f1, fun φ1 H1 v x1 R1 r1 => ?_⟩
        cases rx_str R1 r1 rfl
        exact ⟨y, rfl, hl, ih (acc ++ y) E σw S1 φ1 σ H1 ys _ out Q R1 f2 e2 fun φ2 H2 x2 R2 => k φ2 H2 (x1.trans x2) R2⟩
      · cases e2
    | _ => simp only [wJs] at e2; cases e2
theorem pe_jsop {e1 e2 : Expr} {es : List Expr} {p : Pos} {ms : M (List W)} (h : EJ X (e1 :: e2 :: es) ms) : PE X (.JoinedStr (e1 :: e2 :: es) p) (rdE X.K br (mJs ms)) := by
  obtain ⟨ts, hp, hj⟩ := ej_js h
  refine (pe_joined hp).imp fun σ H Q ⟨E, σw, S, φ, R, w, S', qq, k⟩ => ?_
  obtain ⟨xs, S1, f1, qq⟩ := bind_ok qq
  obtain ⟨q2, e5⟩ := olift_ok qq
  subst e5
  obtain ⟨out, f2, f3⟩ := Option.map_eq_some_iff.mp q2
  subst f3
  exact hj Str.empty E σw S φ σ H xs _ out _ R f1 f2 fun φ1 H1 x1 R1 => k φ1 H1 _ x1 R1 (.inl (.str _))
/-! ### max(x, default=d) -/
theorem max_rawD {prog : Program} {w : World} {A : Around} {E : Value → Shared → Prop} {s : Shared} {l : Addr} {its : List Value} {ns : List Int} {d : Value} {Q : Value → Shared → Prop} (hh : A.handled = none) (hl : s.heap.IsList l its.toArray) (hi : PyProof.Rows.IntsAre its ns)
    (h0 : ns = [] → ∀ h' tk, (∀ b o, s.heap.get? b = some o → h'.get? b = some o) → Q d { s with heap := h', toks := tk })
    (h : ns ≠ [] → ∀ h' tk M t', (∀ b o, s.heap.get? b = some o → h'.get? b = some o) → M ∈ ns → (∀ a, a ∈ ns → a ≤ M) → Q (.int M t') { s with heap := h', toks := tk }) : wpAny (model prog w) A (call (.builtin "max") [.ref l] [(Str.ofString "default", d)]) Q E s := by
  obtain ⟨xs, e⟩ := hi.allInts.items
  have hn : numsOf (intItems xs).toList = ns := by rw [← e]; exact hi.numsOf
  rw [nums_intItems] at hn
  subst hn
  rw [e] at hl
  refine call_max_walkD (PySem.W.iter_listW (A := A.in1) hh hl fun s₂ e W st hfp hw hk => ?_)
  refine ⟨_, _, _, _, _, _, _, s.heap, (fun i j => decide (numAt xs i > numAt xs j)), rfl, W, st, hfp, hw, hk, fun hz s' m => ?_, fun hp => ⟨fun i j vi vj s Q E _ hi hj h => CmpOf.ints_gt (numAt xs) (fun _ _ => intItems_at) i j vi vj s Q E hi hj h, fun v s' hP m => ?_⟩⟩
  · obtain ⟨h', tk, rfl, hk'⟩ := PySem.W.moved_old e rfl m
    refine h0 ?_ h' tk hk'
    have : xs.size = 0 := by simpa [intItems] using hz
    apply List.eq_nil_of_length_eq_zero
    rw [List.length_map, Array.length_toList, this]
  · obtain ⟨h', tk, rfl, hk'⟩ := PySem.W.moved_old e rfl m
    have hsz : 0 < xs.size := by simpa [intItems] using hp
    have hP : (intItems xs)[argBest (fun i j => decide (numAt xs i > numAt xs j)) (xs.size - 1)]? = some v := by simpa [intItems] using hP
    obtain ⟨t, rfl⟩ := intItems_at hP
    obtain ⟨h1, h2⟩ := argBest_gt (numAt xs) (xs.size - 1)
    refine h (by intro z; have := congrArg List.length z; rw [List.length_map, Array.length_toList, List.length_nil] at this; omega) h' tk _ t hk' ?_ fun a ha => ?_
    · rw [numAt_eq]; exact PySem.getD_mem (by rw [List.length_map, Array.length_toList]; omega)
    · obtain ⟨j, hj, rfl⟩ := mem_getD ha
      rw [List.length_map, Array.length_toList] at hj
      rw [← numAt_eq]; exact h2 j (by omega)
def rMaxDef (K : PySem.W.Frag) : List V → List V → Hp → VK → Prop := fun vs zs H Q => ∃ (a : Addr) (ns : List Int) (d : V), vs = [V.ref a] ∧ zs = [d] ∧ SqL K H a (ns.map V.int) ∧ (ns = [] → Q d H) ∧ (ns ≠ [] → ∀ m, m ∈ ns → (∀ y, y ∈ ns → y ≤ m) → Q (.int m) H)
theorem cr_maxDef (hc : X.calm = true) : CallRK X (.builtin "max") ["default"] (rMaxDef X.K) := by
  intro pins s σ H xs zs us ws Q I rx rz h
  obtain ⟨a, ns, d, rfl, rfl, hs, h0, h1⟩ := h
  obtain ⟨its, rv, hl, _⟩ := I.list hs
  rw [Vals.ref1 rx]
  cases rz with
  | cons r1 rz =>
    cases rz
    exact max_rawD (I.ok.hd hc) hl.isList rv.ints (fun e h' tk hk => ⟨d, H, I.kept hk, r1, h0 e⟩) fun e h' tk m t' hk g1 g2 => ⟨.int _, H, I.kept hk, ⟨_, rfl⟩, h1 e m g1 g2⟩
/-! ### keywords -/
theorem _root_.L2.PK.imp {kws : List Keyword} {t t' : TA} (h : PK X kws t) (k : ∀ σ H Q, t' σ H Q → t σ H Q) : PK X kws t' := ⟨fun pos pins s σ H Q I q => h.run pos pins s σ H Q I (k σ H Q q)⟩
theorem _root_.L2.PK.no {br : Bool} {kws : List Keyword} : PK X kws (rdA X.K br mBad) := ⟨fun _ _ _ _ _ _ _ ⟨_, _, _, _, _, _, _, q, _⟩ => by cases q⟩
theorem pk_nilop : PK X [] (rdA X.K br mNil) := pk_nil.imp fun σ H Q ⟨E, σw, S, φ, R, w, S', q, k⟩ => by
  cases q
  exact k φ H [] .refl R .nil
theorem pk_consop {nm : Option Str} {kpos : Pos} {ma : M W} {lb : M (List W)} {kws : List Keyword} (ha : PE X e (rdE X.K br ma)) (hb : PK X kws (rdA X.K br lb)) : PK X (⟨nm, e, kpos⟩ :: kws) (rdA X.K br (mCons ma lb)) :=
  (pk_cons ha hb).imp fun σ H Q ⟨E, σw, S, φ, R, w, S', q, k⟩ => by
    obtain ⟨x, S1, e1, q⟩ := bind_ok q
    obtain ⟨y, S2, e2, q⟩ := bind_ok q
    cases q
    exact ⟨E, σw, S, φ, R, x, S1, e1, fun φ1 H1 v x1 R1 r1 => ⟨E, σw, S1, φ1, R1, y, _, e2, fun φ2 H2 us x2 R2 r2 => k φ2 H2 _ (x1.trans x2) R2 (.cons (r1.ext x2) r2)⟩⟩
theorem kw_each {env : PySem.Env} : ∀ {kws : List Keyword} {ks : List Str}, kws.map (·.arg) = ks.map some → (backToKw pos (keywordEach kws env)).all (·.1.isSome) = true ∧ (backToKw pos (keywordEach kws env)).filterMap (·.1) = ks ∧ (backToKw pos (keywordEach kws env)).any (·.1.isNone) = false
  | [], [], _ => ⟨rfl, rfl, rfl⟩
  | [], _ :: _, h => by cases h
  | _ :: _, [], h => by cases h
  | ⟨nm, v, p⟩ :: kws, k :: ks, h => by
    rw [List.map_cons, List.map_cons, List.cons.injEq] at h
    obtain ⟨h1, h2⟩ := h
    have h1 : nm = some k := h1
    subst h1
    obtain ⟨a, b, c⟩ := kw_each (env := env) h2
    refine ⟨?_, ?_, ?_⟩
    · show (true && (backToKw pos (keywordEach kws env)).all (·.1.isSome)) = true
      rw [a]; rfl
    · show k :: (backToKw pos (keywordEach kws env)).filterMap (·.1) = k :: ks
      rw [b]
    · show (false || (backToKw pos (keywordEach kws env)).any (·.1.isNone)) = false
      rw [c]; rfl
structure KwK (X : Cx) (F : Fenv) (f : Str) (ks : List (Option Str)) (np : Nat) (ord : List (Nat ⊕ W)) : Prop where
  ex : ∃ (a : Addr) (fd : FuncData) (ps : List Str) (k : Nat) (kn : List Str) (g : List Value → List Value → List Value) (gV : List V → List V → List V), FnOk X.prog X.w X.K X.mg X.base CX0 k a fd ps (spF X.K F f) ∧ Room k X.A ∧ X.mg f = some (.ref a) ∧ PySem.W.keepIn X.K (.ref a) = true ∧
    ks = kn.map some ∧ KBn X.K fd ps np kn g gV ∧ ∀ φ Z H ws vs us zs, RFs X.K φ Z H ws vs → RFs X.K φ Z H us zs → us.length = kn.length → RFs X.K φ Z H (ws ++ ord.map (kwSel us)) (gV vs zs)
  nd : (f == ("__debug__" : Str)) = false
theorem pe_callKop {F : Fenv} {f : Str} {np : Nat} {ord : List (Nat ⊕ W)} {p : Pos} {kws : List Keyword} {lk : M (List W)} (h : KwK X F f (kws.map (·.arg)) np ord) (hg : Gl X f) (hs : noStar es = true) (hn : es ≠ []) (hnp : es.length = np) (ha : PA X es (rdA X.K false la)) (hk : PK X kws (rdA X.K false lk))
    (len : ∀ σ S xs S', la σ S = .ok xs S' → xs.length = es.length) (lenk : ∀ σ S xs S', lk σ S = .ok xs S' → xs.length = kws.length) : PE X (.Call (.Name f p) es kws pos) (rdE X.K br (mCallK F f la lk ord)) := by
  obtain ⟨a, fd, ps, kk, kn, g, gV, F1, hr, hm, hkp, hks, hb, hrf⟩ := h.ex
  cases es with
  | nil => exact absurd rfl hn
  | cons e es =>
    obtain ⟨s1, s2⟩ := noStar_cons hs
    obtain ⟨w1, w2, w3⟩ := kw_each (pos := pos) (env := X.env) hks
    have hkl : kws.length = kn.length := by have := congrArg List.length hks; simpa using this
    refine (pe_callN F1 hr hg hm hkp hb (E := E0) pass0 ha hk w1 w2 h.nd (star_cons s1) (by rw [(star_any hs).1, w3]; rfl)).imp fun σ H Q ⟨E, σw, S, φ, R, w, S', q, k⟩ => ?_
    obtain ⟨xs, S1, e1, q⟩ := bind_ok q
    obtain ⟨us, S2, e2, q⟩ := bind_ok q
    have l1 := len _ _ _ _ e1
    have l2 := lenk _ _ _ _ e2
    refine ⟨E, σw, S, φ, R, xs, S1, e1, fun φ1 H1 vs x1 R1 r1 => ⟨E, σw, S1, φ1, R1, us, S2, e2, fun φ2 H2 zs x2 R2 r2 => ⟨by rw [← r1.len, l1, hnp], by rw [← r2.len, l2, hkl], ?_⟩⟩⟩
    exact call_go (Ex := E0) R2 (hrf _ _ _ _ _ _ _ (r1.ext x2).fr r2.fr (by rw [l2, hkl])) q fun φ' H' v x R' r' => k φ' H' v ((x1.trans x2).trans x) R' (.inl r')
theorem pe_maxDop {p : Pos} {a b : Expr} {kpos : Pos} {ma mb : M W} (hc : X.calm = true) (hg : Gl X "max") (hm : X.mg "max" = none) (hs : isStar a = false) (ha : PE X a (rdE X.K true ma)) (hb : PE X b (rdE X.K false mb)) :
    PE X (.Call (.Name "max" p) [a] [⟨some ("default" : Str), b, kpos⟩] pos) (rdE X.K br (mMaxD ma mb)) := by
  have hns : noStar [a] = true := by unfold noStar; simp [hs]
  obtain ⟨w1, w2, w3⟩ := kw_each (kws := [⟨some ("default" : Str), b, kpos⟩]) (ks := [("default" : Str)]) (pos := pos) (env := X.env) rfl
  refine (pe_callBK (cr_maxDef hc) hg hm (by decide +kernel) (pa_consop hs ha pa_nilop) (pk_consop hb pk_nilop) (by decide +kernel) (by decide +kernel) (by rw [star_cons hs]; rfl) (star_any hns).1 w1 w3 w2).imp fun σ H Q ⟨E, σw, S, φ, R, w, S', q, k⟩ => ?_
  obtain ⟨x, S1, e1, q⟩ := bind_ok q
  obtain ⟨y, S2, e2, q⟩ := bind_ok q
  obtain ⟨q2, e5⟩ := olift_ok q
  subst e5
  refine ⟨E, σw, S, φ, R, [x], S1, by show (ma σw S).bind _ = _; rw [e1]; rfl, fun φ1 H1 vs x1 R1 r1 => ⟨E, σw, S1, φ1, R1, [y], _, by show (mb σw S1).bind _ = _; rw [e2]; rfl, fun φ2 H2 zs x2 R2 r2 => ?_⟩⟩
  have rq := r1.ext x2
  cases rq with
  | cons ra ra' =>
    cases ra'
    cases r2 with
    | cons rb rb' =>
      cases rb'
      cases hx : vwz S' x with
      | lst ws =>
        rw [hx] at q2
        obtain ⟨a, us, rfl, ha, rr⟩ := rz_lst R2 ra hx
        simp only [wMaxD] at q2
        split at q2
        · rename_i hi
          cases q2
          have e1 := rr.ints hi
          subst e1
          exact ⟨a, [], _, rfl, rfl, ha, fun _ => k φ2 H2 _ (x1.trans x2) R2 (.inl rb.fr), fun z => absurd rfl z⟩
        · rename_i i r hi
          cases q2
          have e1 := rr.ints hi
          subst e1
          exact ⟨a, i :: r, _, rfl, rfl, ha, fun z => (by cases z), fun _ m hm hl => by rw [imax_ok _ _ m hm hl]; exact k φ2 H2 _ (x1.trans x2) R2 (.inl (.int _))⟩
        · cases q2
      | _ => rw [hx] at q2; simp only [wMaxD] at q2; cases q2
end
end EV

namespace EV
open PySem PySem.Spec PyProof.Rows L2
section
variable {X : Cx} {a b c e o : Expr} {mo m : M W} {br : Bool} {pos apos : Pos} {E : Ent} {σw σw' : Sls} {S S' : Sto} {φ φ' : List Addr} {σ σ' : L2.St} {H H' : Hp} {w x : W} {v : V} {es : List Expr} {la : M (List W)} {p : Addr} {Q : VK}
/-- what others own may be written by whoever owns it -/
theorem Rl.wr {K : PySem.W.Frag} {ho : HO} (R : Rl K E σw S φ σ H) (hz : E.Z p) (he : E.H p = none) (hf : ∀ o u, H p ≠ some (.frz o u)) : Rl K E σw S φ σ (upd H p ho) := by
  have k : ∀ a o, a ≠ p → H a = some o → upd H p ho a = some o := fun a o n h => by rw [upd_ne n]; exact h
  have L : Later φ (ZZ E σw φ σ) H φ (ZZ E σw φ σ) (upd H p ho) := ⟨fun _ _ h => h, fun a o n h => k a o (fun z => n (.inl (by rw [z]; exact hz))) h, fun a h => .inl h, fz_upd hf⟩
  refine ⟨R.st.mono L fun a o m h => k a o (fun z => R.zφ a m (by rw [z]; exact hz)) h, R.len, fun i w f => ?_, fun i w f => ?_, R.inj, R.zφ, fun a z => ?_, R.eφ, fun a o n h => k a o (fun z => by rw [z, he] at h; cases h) (R.ekeep a o n h), R.enew, fun a o u h => fz_upd hf a o u (R.efz a o u h)⟩
  · obtain ⟨v, g, r⟩ := R.fr i w f
    exact ⟨v, g, r.mono L⟩
  · obtain ⟨a, g, h, n1, n2, n3⟩ := R.ow i w f
    exact ⟨a, g, h.mono L fun o h => k a o (fun z => n2 (by rw [z]; exact hz)) h, n1, n2, n3⟩
  · by_cases e : a = p
    · rw [e, upd_same]; simp
    · rw [upd_ne e]; exact R.zal a z
/-! ### displays of dicts -/
theorem _root_.L2.PPs.no {X : Cx} {pos : Pos} {ks : List (Option Expr)} {vs : List Expr} : PPs X pos ks vs [(rdE X.K true mBad, rdE X.K false mBad)] := by
  refine ⟨?_⟩
  intro pins s σ H Q I h
  obtain ⟨_, _, _, _, _, _, _, q, _⟩ := h
  cases q
theorem pairs_go {Q : List (V × V) → Hp → Prop} : ∀ {ps : List (M W × M W)} {σw : Sls} {S S' : Sto} {φ : List Addr} {H : Hp} {kvs : List (Key × W)}, Rl X.K E σw S φ σ H → mPairs ps σw S = .ok kvs S' →
    (∀ φ' H' us, Ext φ H φ' H' → Rl X.K E σw S' φ' σ H' → RKs X.K φ' (ZZ E σw φ' σ) H' kvs us → Q (us.map fun kv => (kV kv.1, kv.2)) H') → tPairs (ps.map fun p => (rdE X.K true p.1, rdE X.K false p.2)) σ H Q
  | [], σw, S, S', φ, H, kvs, R, q, k => by cases q; exact k φ H [] .refl R .nil
  | (mk, mv) :: ps, σw, S, S', φ, H, kvs, R, q, k => by
    obtain ⟨x, S1, e1, q⟩ := bind_ok q
    obtain ⟨y, S2, e2, q⟩ := bind_ok q
    obtain ⟨kvs', S3, e3, q⟩ := bind_ok q
    split at q
    · rename_i kk hk
      cases q
      refine ⟨E, σw, S, φ, R, x, S1, e1, fun φ1 H1 v x1 R1 r1 => ⟨E, σw, S1, φ1, R1, y, S2, e2, fun φ2 H2 u x2 R2 r2 => ?_⟩⟩
      refine pairs_go R2 e3 fun φ3 H3 us x3 R3 r3 => ?_
      have hy : vw S1 x = x := by cases x <;> first | rfl | cases hk
      cases rx_key (k := kk) R1 r1 (by rw [hy]; exact hk)
      exact k φ3 H3 ((kk, u) :: us) ((x1.trans x2).trans x3) R3 (.cons (r2.fr.mono x3.later) r3)
    · cases q
theorem pe_dictop {ks : List (Option Expr)} {vs : List Expr} {ps : List (M W × M W)} (hd : dictOk ks vs = true) (h : PPs X pos ks vs (ps.map fun p => (rdE X.K true p.1, rdE X.K false p.2))) : PE X (.Dict ks vs pos) (rdN X.K (mDict ps)) := by
  simp only [dictOk, Bool.and_eq_true, decide_eq_true_eq] at hd
  refine (pe_disp h hd.1.1.1 hd.1.1.2 (fun z => by rw [z] at hd; simp at hd) hd.2).imp fun σ H Q ⟨E, σw, S, φ, R, w, S', q, k⟩ => ?_
  obtain ⟨kvs, S1, e1, q⟩ := bind_ok q
  split at q
  · rename_i hl
    cases q
    intro p hp
    refine pairs_go (R.plus hp) e1 fun φ' H' us x' R' r' => ?_
    have hpp : H' p = some (.dK []) := x'.keep p _ (fun m => R.free hp (.inr (.inl m))) upd_same
    refine ⟨hpp, us, rfl, by rw [← r'.len]; exact hl, ?_⟩
    have he := enone R hp
    have R2 := R'.wr (ho := .dK (mergeK [] us)) (.inr rfl) he (nfz hpp fun _ _ z => by cases z)
    refine k φ' _ _ ?_ ⟨p, _, rfl, upd_same, hp, fun z => ?_, he, R2, (RKs.merge r' .nil).mono ⟨fun _ _ h => h, fun a o n h => by rw [upd_ne (fun z => n (.inl (.inr z)))]; exact h, fun a h => .inl h, fz_upd (nfz hpp fun _ _ z => by cases z)⟩⟩
    · refine ⟨x'.ix, fun a o n h => ?_, fun a m => ?_, fun a o u h => ?_⟩
      · have : a ≠ p := ne_of_none h hp
        rw [upd_ne this]
        exact x'.keep a o n (by rw [upd_ne this]; exact h)
      · rcases x'.new a m with z | z
        · exact .inl z
        · right
          by_cases ha : a = p
          · rw [ha]; exact hp
          · rw [upd_ne ha] at z; exact z
      · have : a ≠ p := ne_of_none h hp
        rw [upd_ne this]
        exact x'.fz a o u (by rw [upd_ne this]; exact h)
    · rcases z with z | z | ⟨i, w, f, g⟩
      · exact R.zal p z hp
      · exact R'.zφ p z (.inr rfl)
      · obtain ⟨c, g', _, _, n2, _⟩ := R'.ow i w f
        rw [g] at g'; cases g'
        exact n2 (.inr rfl)
  · cases q
/-! ### slots -/
theorem Rl.setFr {K : PySem.W.Frag} {i : Nat} (R : Rl K E σw S φ σ H) (r : RF K φ (ZZ E σw φ σ) H w v) : Rl K E (σw.set i (.fr w)) S φ (σ.set i (some v)) H ∧ ∀ a, ZZ E (σw.set i (.fr w)) φ (σ.set i (some v)) a → ZZ E σw φ σ a := by
  have o1 : ∀ j u, (σw.set i (.fr w))[j]? = some (.ow u) → j ≠ i ∧ σw[j]? = some (.ow u) := fun j u h => by
    by_cases e : i = j
    · subst e
      by_cases hl : i < σw.length
      · rw [List.getElem?_set_self hl] at h; cases h
      · rw [List.getElem?_eq_none (by simpa using hl)] at h; cases h
    · rw [List.getElem?_set_ne e] at h
      exact ⟨fun z => e z.symm, h⟩
  have z : ∀ a, ZZ E (σw.set i (.fr w)) φ (σ.set i (some v)) a → ZZ E σw φ σ a := fun a z => by
    rcases z with z | z | ⟨j, u, f, g⟩
    · exact .inl z
    · exact .inr (.inl z)
    · obtain ⟨n, f⟩ := o1 j u f
      rw [List.getElem?_set_ne (Ne.symm n)] at g
      exact .inr (.inr ⟨j, u, f, g⟩)
  have L : Later φ (ZZ E σw φ σ) H φ (ZZ E (σw.set i (.fr w)) φ (σ.set i (some v))) H := .less z
  refine ⟨⟨R.st.mono L fun _ _ _ h => h, by rw [List.length_set, List.length_set]; exact R.len, fun j u f => ?_, fun j u f => ?_, fun j j' u u' a f f' g g' => ?_, R.zφ, R.zal, R.eφ, R.ekeep, R.enew, R.efz⟩, z⟩
  · by_cases e : i = j
    · subst e
      have hl : i < σw.length := by
        have := (List.getElem?_eq_some_iff.mp f).1
        simpa using this
      rw [List.getElem?_set_self hl] at f
      cases f
      exact ⟨v, by rw [List.getElem?_set_self (by rw [R.len]; exact hl)], r.mono L⟩
    · rw [List.getElem?_set_ne e] at f ⊢
      obtain ⟨v, g, r⟩ := R.fr j u f
      exact ⟨v, g, r.mono L⟩
  · obtain ⟨n, f⟩ := o1 j u f
    obtain ⟨a, g, h, n1⟩ := R.ow j u f
    exact ⟨a, by rw [List.getElem?_set_ne (Ne.symm n)]; exact g, h.mono L fun _ h => h, n1⟩
  · obtain ⟨n, f⟩ := o1 j u f
    obtain ⟨n', f'⟩ := o1 j' u' f'
    rw [List.getElem?_set_ne (Ne.symm n)] at g
    rw [List.getElem?_set_ne (Ne.symm n')] at g'
    exact R.inj j j' u u' a f f' g g'
theorem Rl.setEmp {K : PySem.W.Frag} {i : Nat} (R : Rl K E σw S φ σ H) : Rl K E (σw.set i .emp) S φ (σ.set i none) H ∧ ∀ a, ZZ E (σw.set i .emp) φ (σ.set i none) a → ZZ E σw φ σ a := by
  have o1 : ∀ j s, (σw.set i .emp)[j]? = some s → s ≠ .emp → j ≠ i ∧ σw[j]? = some s := fun j u h n => by
    by_cases e : i = j
    · subst e
      by_cases hl : i < σw.length
      · rw [List.getElem?_set_self hl] at h; cases h; exact absurd rfl n
      · rw [List.getElem?_eq_none (by simpa using hl)] at h; cases h
    · rw [List.getElem?_set_ne e] at h
      exact ⟨fun z => e z.symm, h⟩
  have z : ∀ a, ZZ E (σw.set i .emp) φ (σ.set i none) a → ZZ E σw φ σ a := fun a z => by
    rcases z with z | z | ⟨j, u, f, g⟩
    · exact .inl z
    · exact .inr (.inl z)
    · obtain ⟨n, f⟩ := o1 j _ f (by intro z; cases z)
      rw [List.getElem?_set_ne (Ne.symm n)] at g
      exact .inr (.inr ⟨j, u, f, g⟩)
  have L : Later φ (ZZ E σw φ σ) H φ (ZZ E (σw.set i .emp) φ (σ.set i none)) H := .less z
  refine ⟨⟨R.st.mono L fun _ _ _ h => h, by rw [List.length_set, List.length_set]; exact R.len, fun j u f => ?_, fun j u f => ?_, fun j j' u u' a f f' g g' => ?_, R.zφ, R.zal, R.eφ, R.ekeep, R.enew, R.efz⟩, z⟩
  · obtain ⟨n, f⟩ := o1 j _ f (by intro z; cases z)
    obtain ⟨v, g, r⟩ := R.fr j u f
    exact ⟨v, by rw [List.getElem?_set_ne (Ne.symm n)]; exact g, r.mono L⟩
  · obtain ⟨n, f⟩ := o1 j _ f (by intro z; cases z)
    obtain ⟨a, g, h, n1⟩ := R.ow j u f
    exact ⟨a, by rw [List.getElem?_set_ne (Ne.symm n)]; exact g, h.mono L fun _ h => h, n1⟩
  · obtain ⟨n, f⟩ := o1 j _ f (by intro z; cases z)
    obtain ⟨n', f'⟩ := o1 j' _ f' (by intro z; cases z)
    rw [List.getElem?_set_ne (Ne.symm n)] at g
    rw [List.getElem?_set_ne (Ne.symm n')] at g'
    exact R.inj j j' u u' a f f' g g'
theorem Rl.wiped {K : PySem.W.Frag} (R : Rl K E σw S φ σ H) : ∀ own : List Nat, Rl K E (wwipe σw own) S φ (wipe σ own) H ∧ ∀ a, ZZ E (wwipe σw own) φ (wipe σ own) a → ZZ E σw φ σ a
  | [] => ⟨R, fun _ z => z⟩
  | i :: own => by
    obtain ⟨R1, z1⟩ := Rl.wiped R own
    obtain ⟨R2, z2⟩ := R1.setEmp (i := i)
    exact ⟨R2, fun a z => z1 a (z2 a z)⟩
theorem wwipe_ne {i : Nat} : ∀ {own : List Nat}, i ∉ own → (wwipe σw own)[i]? = σw[i]?
  | [], _ => rfl
  | j :: own, h => by
    simp only [List.mem_cons, not_or] at h
    show ((wwipe σw own).set j .emp)[i]? = _
    rw [List.getElem?_set_ne (Ne.symm h.1)]
    exact wwipe_ne h.2
theorem wipe_ne {i : Nat} : ∀ {own : List Nat}, i ∉ own → (wipe σ own)[i]? = σ[i]?
  | [], _ => rfl
  | j :: own, h => by
    simp only [List.mem_cons, not_or] at h
    show ((wipe σ own).set j none)[i]? = _
    rw [List.getElem?_set_ne (Ne.symm h.1)]
    exact wipe_ne h.2
theorem wipe_in {i : Nat} : ∀ {own : List Nat}, i ∈ own → i < σ.length → (wipe σ own)[i]? = some none
  | j :: own, h, hl => by
    show ((wipe σ own).set j none)[i]? = _
    by_cases e : j = i
    · subst e; rw [List.getElem?_set_self (by rw [wipe_length]; exact hl)]
    · rw [List.getElem?_set_ne e]
      exact wipe_in ((List.mem_cons.mp h).resolve_left fun z => e z.symm) hl
theorem wipe_eq {own : List Nat} (hl : σ'.length = σ.length) (h : ∀ i, i ∉ own → σ'[i]? = (wipe σ own)[i]?) : wipe σ' own = wipe σ own := by
  apply List.ext_getElem?
  intro i
  by_cases hi : i ∈ own
  · by_cases hlt : i < σ.length
    · rw [wipe_in hi hlt, wipe_in hi (by rw [hl]; exact hlt)]
    · rw [List.getElem?_eq_none (by rw [wipe_length, hl]; omega), List.getElem?_eq_none (by rw [wipe_length]; omega)]
  · rw [wipe_ne hi, h i hi]
/-! ### targets -/
/-- a target stores to slots of own alone -/
def BdOk (own : List Nat) (bd : W → M Sls) : Prop := ∀ w σ S σ1 S1, bd w σ S = .ok σ1 S1 → S1 = S ∧ σ1.length = σ.length ∧ ∀ i, i ∉ own → σ1[i]? = σ[i]?
theorem bd_bad {own : List Nat} : BdOk own fun _ => mBad := fun _ _ _ _ _ h => by cases h
theorem bd_name {i : Nat} : BdOk [i] (bName i) := fun w σ S σ1 S1 h => by
  cases h
  exact ⟨rfl, by simp, fun j hj => by rw [List.getElem?_set_ne (by simp at hj; exact fun z => hj z.symm)]⟩
theorem BdOk.mono {own own' : List Nat} {bd : W → M Sls} (h : BdOk own bd) (k : ∀ i, i ∈ own → i ∈ own') : BdOk own' bd := fun w σ S σ1 S1 e => by
  obtain ⟨h1, h2, h3⟩ := h w σ S σ1 S1 e
  exact ⟨h1, h2, fun i hi => h3 i fun z => hi (k i z)⟩
theorem bd_all {own : List Nat} : ∀ {gs : List (W → M Sls)}, (∀ g, g ∈ gs → BdOk own g) → ∀ ws σ S σ1 S1, bAll gs ws σ S = .ok σ1 S1 → S1 = S ∧ σ1.length = σ.length ∧ ∀ i, i ∉ own → σ1[i]? = σ[i]?
  | [], _, [], σ, S, σ1, S1, e => by cases e; exact ⟨rfl, rfl, fun _ _ => rfl⟩
  | [], _, _ :: _, σ, S, σ1, S1, e => by cases e
  | g :: gs, h, [], σ, S, σ1, S1, e => by cases e
  | g :: gs, h, w :: ws, σ, S, σ1, S1, e => by
    obtain ⟨σ2, S2, e1, e2⟩ := bind_ok (show ((g w σ S).bind fun σ1 S1 => bAll gs ws σ1 S1) = .ok σ1 S1 from e)
    obtain ⟨a1, a2, a3⟩ := h g (List.mem_cons_self ..) _ _ _ _ _ e1
    obtain ⟨b1, b2, b3⟩ := bd_all (fun g hg => h g (List.mem_cons_of_mem _ hg)) ws σ2 S2 σ1 S1 e2
    exact ⟨b1.trans a1, b2.trans a2, fun i hi => (b3 i hi).trans (a3 i hi)⟩
theorem bd_tup {own : List Nat} {gs : List (W → M Sls)} (h : ∀ g, g ∈ gs → BdOk own g) : BdOk own (bTup gs) := fun w σ S σ1 S1 e => by
  unfold bTup at e
  split at e
  · split at e
    · exact bd_all h _ _ _ _ _ e
    · cases e
  · cases e
theorem pg_nameop {i : Nat} {y : Str} (hN : X.N.Nodup) (hi : X.N[i]? = some y) (hx : Loc X.env.scope y) (hf : X.fn y = true ∨ X.env.scope.names.lookup y = some .local) : PG X (.Name y pos) (rdG X.K [i] (bName i)) :=
  (pg_name hN hi hx hf).imp fun v σ H Q ⟨E, σw, S, φ, w, R, r, σw1, q, k⟩ => by
    cases q
    obtain ⟨R1, z⟩ := R.setFr (i := i) r
    exact k _ (fun j hj => by rw [List.getElem?_set_ne (by simp at hj; exact fun z => hj z.symm)]) R1 z
theorem rdG_mono {own own' : List Nat} {bd : W → M Sls} (h : PG X e (rdG X.K own bd)) (k : ∀ i, i ∈ own → i ∈ own') : PG X e (rdG X.K own' bd) := h.imp fun v σ H Q ⟨E, σw, S, φ, w, R, r, σw1, q, kk⟩ =>
  ⟨E, σw, S, φ, w, R, r, σw1, q, fun σ1 h1 => kk σ1 fun i hi => h1 i fun z => hi (k i z)⟩
/-- several targets, one after another -/
def rdGs (K : PySem.W.Frag) (own : List Nat) (gs : List (W → M Sls)) : TGs := fun vs σ H Q => ∃ E σw S φ ws, Rl K E σw S φ σ H ∧ RFs K φ (ZZ E σw φ σ) H ws vs ∧ okG K own E σw S φ σ H (bAll gs ws σw S) Q
theorem pgs_nilop {own : List Nat} : PGs X [] (rdGs X.K own []) := pgs_nil.imp fun vs σ H Q ⟨E, σw, S, φ, ws, R, r, σw1, q, k⟩ => by
  cases ws with
  | nil => cases q; cases r; exact ⟨rfl, k σ (fun _ _ => rfl) R fun _ z => z⟩
  | cons _ _ => cases q
theorem assign_cons {env : PySem.Env} (h : isStar e = false) : (assignEach (e :: es) env).map (·.2) = assign e env :: (assignEach es env).map (·.2) := by
  cases e <;> first | rfl | cases h
theorem assign_plain {env : PySem.Env} : ∀ {es : List Expr}, noStar es = true → (assignEach es env).length = es.length ∧ (assignEach es env).findIdx? (·.1) = none
  | [], _ => ⟨rfl, rfl⟩
  | e :: es, h => by
    obtain ⟨h1, h2⟩ := noStar_cons h
    obtain ⟨h3, h4⟩ := assign_plain (env := env) h2
    have e1 : assignEach (e :: es) env = (false, assign e env) :: assignEach es env := by cases e <;> first | rfl | cases h1
    rw [e1]
    refine ⟨by rw [List.length_cons, List.length_cons, h3], ?_⟩
    rw [List.findIdx?_cons, h4]
    rfl
theorem pgs_consop {g : W → M Sls} {gs : List (W → M Sls)} {own : List Nat} (hs : isStar e = false) (hg : PG X e (rdG X.K own g)) (hgs : PGs X es (rdGs X.K own gs)) (hb : BdOk own g) : PGs X (e :: es) (rdGs X.K own (g :: gs)) :=
  (pgs_cons hg hgs (assign_cons hs)).imp fun vs σ H Q ⟨E, σw, S, φ, ws, R, r, σw1, q, k⟩ => by
    cases ws with
    | nil => cases q
    | cons w ws =>
      obtain ⟨v, us, rfl, r1, r2⟩ := r.cons_inv
      obtain ⟨σw2, S2, e1, q⟩ := bind_ok (show ((g w σw S).bind fun σ1 S1 => bAll gs ws σ1 S1) = .ok σw1 S from q)
      have hS := (hb _ _ _ _ _ e1).1
      subst hS
      exact ⟨v, us, rfl, E, σw, _, φ, w, R, r1, σw2, e1, fun σ1 hσ R1 z1 => ⟨E, σw2, _, φ, ws, R1, r2.mono (.less z1), σw1, q, fun σ2 hσ2 R2 z2 => k σ2 (fun i hi => (hσ2 i hi).trans (hσ i hi)) R2 fun a z => z1 a (z2 a z)⟩⟩
theorem pg_tupop {gs : List (W → M Sls)} {own : List Nat} {k0 : Nat} (hc : X.calm = true) (hs : noStar es = true) (hl : gs.length = es.length) (h : PGs X es (rdGs X.K own gs)) : PG X (.Tuple es k0 pos) (rdG X.K own (bTup gs)) :=
  (pg_tup hc h (assign_plain hs).1 (assign_plain hs).2).imp fun v σ H Q ⟨E, σw, S, φ, w, R, r, σw1, q, k⟩ => by
    unfold bTup at q
    split at q
    · rename_i ws
      split at q
      · rename_i hw
        cases r with
        | tup ht rs => exact ⟨_, _, rfl, ht.sq, by rw [← rs.len, hw, hl], E, σw, S, φ, ws, R, rs, σw1, q, k⟩
      · cases q
    · cases q
/-! ### comprehensions -/
theorem zz_same {K : PySem.W.Frag} {own : List Nat} (hl : ∀ i w, i ∈ own → σw[i]? ≠ some (.ow w)) (h : ∀ i, i ∉ own → σw'[i]? = σw[i]?) (h' : ∀ i, i ∉ own → σ'[i]? = σ[i]?) : ∀ a, ZZ E σw φ σ a → ZZ E σw' φ σ' a := fun a z => by
  rcases z with z | z | ⟨i, w, f, g⟩
  · exact .inl z
  · exact .inr (.inl z)
  · have hi : i ∉ own := fun m => hl i w m f
    exact .inr (.inr ⟨i, w, (h i hi).trans f, (h' i hi).trans g⟩)
theorem lc_go {mit : M (List W)} {bd : W → M Sls} {mt : M Bool} {me : M W} {own : List Nat} (hb : BdOk own bd) (R : Rl X.K E σw S φ σ H) (q : mLc mit bd mt me own σw S = .ok w S')
    (k : ∀ φ' H' v, Ext φ H φ' H' → New X.K E σw S' φ' σ H H' w v → Q v H') : tLc (rdI X.K mit) (rdG X.K own bd) (rdT X.K mt) (rdE X.K false me) own σ H Q := by
  obtain ⟨ws, S1, e1, q⟩ := bind_ok q
  split at q
  · rename_i hlim
    obtain ⟨hlim, how⟩ := hlim
    have how : ∀ i w, i ∈ own → σw[i]? ≠ some (.ow w) := fun i w hi z => by
      have := List.all_eq_true.mp how i hi
      rw [z] at this
      cases this
    obtain ⟨vs, S2, e2, q⟩ := bind_ok q
    cases q
    refine ⟨E, σw, S, φ, R, ws, S1, e1, fun φ1 H1 J x1 R1 it => fun D hD => ?_⟩
    have RD := R1.plus (o := .lst []) hD
    have heD := enone R1 hD
    refine ⟨fun i m H' => m = ws.length - i ∧ i ≤ ws.length ∧ ∃ φ' Si acc accw rest, Rl X.K (E.plus D) σw Si φ' σ H' ∧ H' D = some (.lst acc) ∧ RFs X.K φ' (ZZ (E.plus D) σw φ' σ) H' accw acc ∧ acc.length ≤ i ∧ Ext φ1 H1 φ' H' ∧
      lcL bd mt me (wwipe σw own) (ws.drop i) Si = .ok rest S' ∧ vs = accw ++ rest, ⟨_, rfl, Nat.zero_le _, φ1, S1, [], [], vs, RD, upd_same, .nil, Nat.le_refl _, .same (same_new hD), e2, rfl⟩, ?_⟩
    rintro i m H' ⟨rfl, hi, φ', Si, acc, accw, rest, R', hA, rA, hlen, x', e', hv⟩
    have L : Later φ1 (ZZ E σw φ1 σ) H1 φ' (ZZ (E.plus D) σw φ' σ) H' := ⟨x'.ix, fun a o n h => x'.keep a o (fun z => n (.inr (.inl z))) h, fun a z => by
      rcases z with (z | z) | z | z
      · exact .inl (.inl z)
      · right; rw [z]; exact hD
      · exact (x'.new a z).imp (fun z => .inr (.inl z)) id
      · exact .inl (.inr (.inr z)), x'.fz⟩
    obtain ⟨st, go⟩ := it φ' _ H' L fun a z => by obtain ⟨o, h⟩ := R'.alloc z; rw [h]; simp
    by_cases hlt : i < ws.length
    · right
      have hw : ws[i]? = some ws[i] := List.getElem?_eq_getElem hlt
      obtain ⟨g1, g2⟩ := go i _ hw
      have hdrop : ws.drop i = ws[i] :: ws.drop (i + 1) := (List.getElem_cons_drop ..).symm
      rw [hdrop, lcL] at e'
      obtain ⟨σw1, Sa, b1, e3⟩ := bind_ok e'
      clear e'
      obtain ⟨hSa, hlw, hnw⟩ := hb _ _ _ _ _ b1
      subst hSa
      obtain ⟨tb, Sb, b2, e'⟩ := bind_ok e3
      refine ⟨g1, fun H5 => ∃ m', m' < ws.length - i ∧ (m' = ws.length - (i + 1) ∧ i + 1 ≤ ws.length ∧ ∃ φ' Si acc accw rest, Rl X.K (E.plus D) σw Si φ' σ H5 ∧ H5 D = some (.lst acc) ∧ RFs X.K φ' (ZZ (E.plus D) σw φ' σ) H5 accw acc ∧ acc.length ≤ i + 1 ∧ Ext φ1 H1 φ' H5 ∧
        lcL bd mt me (wwipe σw own) (ws.drop (i + 1)) Si = .ok rest S' ∧ vs = accw ++ rest), fun H5 h => h, fun x H2 hy => ?_⟩
      obtain ⟨s2, rx⟩ := g2 x H2 hy
      have R2 := R'.same s2
      obtain ⟨Rw, zw⟩ := R2.wiped own
      refine ⟨E.plus D, wwipe σw own, _, φ', _, Rw, rx.mono (.less zw), σw1, b1, fun σ1 hσ1 R3 z3 => ?_⟩
      have hlσ : σ1.length = σ.length := by rw [R3.len, hlw, ← Rw.len, wipe_length]
      refine ⟨wipe_eq hlσ hσ1, ?_⟩
      have hZ : ∀ φ a, ZZ (E.plus D) σw φ σ a → ZZ (E.plus D) σw1 φ σ1 a := fun φ => zz_same (K := X.K) how (fun i hi => (hnw i hi).trans (wwipe_ne hi)) fun i hi => (hσ1 i hi).trans (wipe_ne hi)
      refine ⟨E.plus D, σw1, _, φ', R3, tb, Sb, b2, fun φ4 H4 x4 R4 => ?_⟩
      have xs : Ext φ' H' φ4 H4 := (Ext.same s2).trans x4
      have hDφ : ∀ φ, (∃ S σ H, Rl X.K (E.plus D) σw1 S φ σ H) → D ∉ φ := fun φ ⟨_, _, _, r⟩ z => r.zφ D z (.inr rfl)
      have R4' : Rl X.K (E.plus D) σw Sb φ4 σ H4 := R'.ext xs (R4.st.mono (.less (hZ φ4)) fun _ _ _ h => h)
      have hD4 : H4 D = some (.lst acc) := xs.keep D _ (fun z => R'.zφ D z (.inr rfl)) hA
      cases tb with
      | true =>
        obtain ⟨y, Sc, b3, e'⟩ := bind_ok (show ((me σw1 Sb).bind fun v S3 => (lcL bd mt me (wwipe σw own) (ws.drop (i + 1)) S3).bind fun vs S4 => .ok (v :: vs) S4) = .ok rest S' from e')
        obtain ⟨rest', Sd, b4, e'⟩ := bind_ok e'
        cases e'
        refine ⟨E.plus D, σw1, Sb, φ4, R4, y, Sc, b3, fun φ5 H5 v x5 R5 r5 => ?_⟩
        have xs5 := xs.trans x5
        have R5' : Rl X.K (E.plus D) σw Sc φ5 σ H5 := R'.ext xs5 (R5.st.mono (.less (hZ φ5)) fun _ _ _ h => h)
        have hD5 : H5 D = some (.lst acc) := xs5.keep D _ (fun z => R'.zφ D z (.inr rfl)) hA
        refine ⟨acc, hD5, lim_lt (by omega), ws.length - (i + 1), by omega, rfl, by omega, φ5, Sc, acc ++ [v], accw ++ [y], rest', R5'.wr (.inr rfl) heD (nfz hD5 fun _ _ z => by cases z), upd_same, ?_, by simp; omega, ?_, b4, by rw [hv]; simp⟩
        · have L6 : Later φ5 (ZZ (E.plus D) σw φ5 σ) H5 φ5 (ZZ (E.plus D) σw φ5 σ) (upd H5 D (.lst (acc ++ [v]))) := ⟨fun _ _ h => h, fun a o n h => by rw [upd_ne (fun z => n (.inl (.inr z)))]; exact h, fun a h => .inl h, fz_upd (nfz hD5 fun _ _ z => by cases z)⟩
          exact ((rA.mono xs5.later).append (.cons (r5.fr.mono (.less (hZ φ5))) .nil)).mono L6
        · have xx := x'.trans xs5
          exact ⟨xx.ix, fun a o n h => by rw [upd_ne (ne_of_none h hD)]; exact xx.keep a o n h, fun a m => xx.new a m, fun a o u h => by rw [upd_ne (ne_of_none h hD)]; exact xx.fz a o u h⟩
      | false =>
        exact ⟨ws.length - (i + 1), by omega, rfl, by omega, φ4, Sb, acc, accw, rest, R4', hD4, rA.mono xs.later, by omega, x'.trans xs, e', hv⟩
    · have hie : i = ws.length := by omega
      subst hie
      rw [List.drop_length] at e'
      cases e'
      rw [List.append_nil] at hv
      subst hv
      refine .inl ⟨st, k φ' H' _ (x1.trans x') ⟨D, acc, rfl, hA, ext_none x1 R1 hD, fun z => ?_, heD, R', rA⟩⟩
      rcases z with z | z | ⟨i, w, f, g⟩
      · exact R1.zal D z hD
      · exact R'.zφ D z (.inr rfl)
      · obtain ⟨c, g', _, _, n2, _⟩ := R'.ow i w f
        rw [g] at g'; cases g'
        exact n2 (.inr rfl)
  · cases q
/-! ### dict comprehensions -/
theorem putK_len (acc : List (Key × V)) (k : Key) (v : V) : (L2.putK acc k v).length ≤ acc.length + 1 := by
  unfold L2.putK
  split
  · simp
  · simp
theorem dc_go {mit : M (List W)} {bd : W → M Sls} {mt : M Bool} {mk me : M W} {own : List Nat} (hb : BdOk own bd) (R : Rl X.K E σw S φ σ H) (q : mDc mit bd mt mk me own σw S = .ok w S')
    (k : ∀ φ' H' v, Ext φ H φ' H' → New X.K E σw S' φ' σ H H' w v → Q v H') : tDc (rdI X.K mit) (rdG X.K own bd) (rdT X.K mt) (rdE X.K true mk) (rdE X.K false me) own σ H Q := by
  obtain ⟨ws, S1, e1, q⟩ := bind_ok q
  split at q
  · rename_i hlim
    obtain ⟨hlim, how⟩ := hlim
    have how : ∀ i w, i ∈ own → σw[i]? ≠ some (.ow w) := fun i w hi z => by
      have := List.all_eq_true.mp how i hi
      rw [z] at this
      cases this
    obtain ⟨vs, S2, e2, q⟩ := bind_ok q
    cases q
    refine ⟨E, σw, S, φ, R, ws, S1, e1, fun φ1 H1 J x1 R1 it => fun D hD => ?_⟩
    have RD := R1.plus (o := .dK []) hD
    have heD := enone R1 hD
    refine ⟨fun i m H' => m = ws.length - i ∧ i ≤ ws.length ∧ ∃ φ' Si acc accw rest, Rl X.K (E.plus D) σw Si φ' σ H' ∧ H' D = some (.dK acc) ∧ RKs X.K φ' (ZZ (E.plus D) σw φ' σ) H' (pairsD accw) acc ∧ acc.length ≤ i ∧ Ext φ1 H1 φ' H' ∧
      lcL bd mt (mPr mk me) (wwipe σw own) (ws.drop i) Si = .ok rest S' ∧ vs = accw ++ rest, ⟨_, rfl, Nat.zero_le _, φ1, S1, [], [], vs, RD, upd_same, RKs.nil, Nat.le_refl _, .same (same_new hD), e2, rfl⟩, ?_⟩
    rintro i m H' ⟨rfl, hi, φ', Si, acc, accw, rest, R', hA, rA, hlen, x', e', hv⟩
    have L : Later φ1 (ZZ E σw φ1 σ) H1 φ' (ZZ (E.plus D) σw φ' σ) H' := ⟨x'.ix, fun a o n h => x'.keep a o (fun z => n (.inr (.inl z))) h, fun a z => by
      rcases z with (z | z) | z | z
      · exact .inl (.inl z)
      · right; rw [z]; exact hD
      · exact (x'.new a z).imp (fun z => .inr (.inl z)) id
      · exact .inl (.inr (.inr z)), x'.fz⟩
    obtain ⟨st, go⟩ := it φ' _ H' L fun a z => by obtain ⟨o, h⟩ := R'.alloc z; rw [h]; simp
    by_cases hlt : i < ws.length
    · right
      have hw : ws[i]? = some ws[i] := List.getElem?_eq_getElem hlt
      obtain ⟨g1, g2⟩ := go i _ hw
      have hdrop : ws.drop i = ws[i] :: ws.drop (i + 1) := (List.getElem_cons_drop ..).symm
      rw [hdrop, lcL] at e'
      obtain ⟨σw1, Sa, b1, e3⟩ := bind_ok e'
      clear e'
      obtain ⟨hSa, hlw, hnw⟩ := hb _ _ _ _ _ b1
      subst hSa
      obtain ⟨tb, Sb, b2, e'⟩ := bind_ok e3
      refine ⟨g1, fun H5 => ∃ m', m' < ws.length - i ∧ (m' = ws.length - (i + 1) ∧ i + 1 ≤ ws.length ∧ ∃ φ' Si acc accw rest, Rl X.K (E.plus D) σw Si φ' σ H5 ∧ H5 D = some (.dK acc) ∧ RKs X.K φ' (ZZ (E.plus D) σw φ' σ) H5 (pairsD accw) acc ∧ acc.length ≤ i + 1 ∧ Ext φ1 H1 φ' H5 ∧
        lcL bd mt (mPr mk me) (wwipe σw own) (ws.drop (i + 1)) Si = .ok rest S' ∧ vs = accw ++ rest), fun H5 h => h, fun x H2 hy => ?_⟩
      obtain ⟨s2, rx⟩ := g2 x H2 hy
      have R2 := R'.same s2
      obtain ⟨Rw, zw⟩ := R2.wiped own
      refine ⟨E.plus D, wwipe σw own, _, φ', _, Rw, rx.mono (.less zw), σw1, b1, fun σ1 hσ1 R3 z3 => ?_⟩
      have hlσ : σ1.length = σ.length := by rw [R3.len, hlw, ← Rw.len, wipe_length]
      refine ⟨wipe_eq hlσ hσ1, ?_⟩
      have hZ : ∀ φ a, ZZ (E.plus D) σw φ σ a → ZZ (E.plus D) σw1 φ σ1 a := fun φ => zz_same (K := X.K) how (fun i hi => (hnw i hi).trans (wwipe_ne hi)) fun i hi => (hσ1 i hi).trans (wipe_ne hi)
      refine ⟨E.plus D, σw1, _, φ', R3, tb, Sb, b2, fun φ4 H4 x4 R4 => ?_⟩
      have xs : Ext φ' H' φ4 H4 := (Ext.same s2).trans x4
      have hDφ : ∀ φ, (∃ S σ H, Rl X.K (E.plus D) σw1 S φ σ H) → D ∉ φ := fun φ ⟨_, _, _, r⟩ z => r.zφ D z (.inr rfl)
      have R4' : Rl X.K (E.plus D) σw Sb φ4 σ H4 := R'.ext xs (R4.st.mono (.less (hZ φ4)) fun _ _ _ h => h)
      have hD4 : H4 D = some (.dK acc) := xs.keep D _ (fun z => R'.zφ D z (.inr rfl)) hA
      cases tb with
      | true =>
        obtain ⟨yp, Sc, b3, e'⟩ := bind_ok (show ((mPr mk me σw1 Sb).bind fun v S3 => (lcL bd mt (mPr mk me) (wwipe σw own) (ws.drop (i + 1)) S3).bind fun vs S4 => .ok (v :: vs) S4) = .ok rest S' from e')
        obtain ⟨rest', Sd, b4, e'⟩ := bind_ok e'
        cases e'
        obtain ⟨xk, Sk, c1, b3⟩ := bind_ok b3
        obtain ⟨y, Sv, c2, b3⟩ := bind_ok b3
        split at b3
        · rename_i kk hk
          cases b3
          refine ⟨E.plus D, σw1, Sb, φ4, R4, xk, Sk, c1, fun φ5 H5 vk x5 R5 r5 => ⟨E.plus D, σw1, Sk, φ5, R5, y, Sc, c2, fun φ6 H6 v x6 R6 r6 => ?_⟩⟩
          have hy : vw Sk xk = xk := by cases xk <;> first | rfl | cases hk
          cases rx_key (k := kk) R5 r5 (by rw [hy]; exact hk)
          have xs5 := (xs.trans x5).trans x6
          have R6' : Rl X.K (E.plus D) σw Sc φ6 σ H6 := R'.ext xs5 (R6.st.mono (.less (hZ φ6)) fun _ _ _ h => h)
          have hD6 : H6 D = some (.dK acc) := xs5.keep D _ (fun z => R'.zφ D z (.inr rfl)) hA
          have hput : pairsD (accw ++ [.tup [xk, y]]) = dput (pairsD accw) kk y := by unfold pairsD; rw [List.foldl_append]; simp only [List.foldl_cons, List.foldl_nil, hk]
          have hal : acc.length ≤ i := hlen
          refine ⟨acc, kk, rfl, hD6, lim_lt (by omega), ws.length - (i + 1), by omega, rfl, by omega, φ6, Sc, L2.putK acc kk v, accw ++ [.tup [xk, y]], rest', R6'.wr (.inr rfl) heD (nfz hD6 fun _ _ z => by cases z), upd_same, ?_, Nat.le_trans (putK_len acc kk v) (by omega), ?_, b4, by rw [hv]; simp⟩
          · have L6 : Later φ6 (ZZ (E.plus D) σw φ6 σ) H6 φ6 (ZZ (E.plus D) σw φ6 σ) (upd H6 D (.dK (L2.putK acc kk v))) := ⟨fun _ _ h => h, fun a o n h => by rw [upd_ne (fun z => n (.inl (.inr z)))]; exact h, fun a h => .inl h, fz_upd (nfz hD6 fun _ _ z => by cases z)⟩
            rw [hput]
            exact (RKs.put kk (r6.fr.mono (.less (hZ φ6))) (rA.mono xs5.later)).mono L6
          · have xx := x'.trans xs5
            exact ⟨xx.ix, fun a o n h => by rw [upd_ne (ne_of_none h hD)]; exact xx.keep a o n h, fun a m => xx.new a m, fun a o u h => by rw [upd_ne (ne_of_none h hD)]; exact xx.fz a o u h⟩
        · cases b3
      | false =>
        exact ⟨ws.length - (i + 1), by omega, rfl, by omega, φ4, Sb, acc, accw, rest, R4', hD4, rA.mono xs.later, by omega, x'.trans xs, e', hv⟩
    · have hie : i = ws.length := by omega
      subst hie
      rw [List.drop_length] at e'
      cases e'
      rw [List.append_nil] at hv
      subst hv
      refine .inl ⟨st, k φ' H' _ (x1.trans x') ⟨D, acc, rfl, hA, ext_none x1 R1 hD, fun z => ?_, heD, R', rA⟩⟩
      rcases z with z | z | ⟨i, w, f, g⟩
      · exact R1.zal D z hD
      · exact R'.zφ D z (.inr rfl)
      · obtain ⟨c, g', _, _, n2, _⟩ := R'.ow i w f
        rw [g] at g'; cases g'
        exact n2 (.inr rfl)
  · cases q
/-- as Ext, while the list D grows -/
structure ExtD (D : Addr) (φ : List Addr) (H : Hp) (φ' : List Addr) (H' : Hp) : Prop where
  ix : ∀ (n : Nat) (a : Addr), φ[n]? = some a → φ'[n]? = some a
  keep : ∀ a o, a ∉ φ → a ≠ D → H a = some o → H' a = some o
  new : ∀ a, a ∈ φ' → a ∈ φ ∨ H a = none
  fz : ∀ a o u, H a = some (.frz o u) → H' a = some (.frz o u)
theorem ExtD.refl {D : Addr} {φ : List Addr} {H : Hp} : ExtD D φ H φ H := ⟨fun _ _ h => h, fun _ _ _ _ h => h, fun _ h => .inl h, fun _ _ _ h => h⟩
theorem ExtD.trans {D : Addr} {φ φ' φ'' : List Addr} {H H' H'' : Hp} (x : ExtD D φ H φ' H') (hd : H' D ≠ none) (y : Ext φ' H' φ'' H'') : ExtD D φ H φ'' H'' := by
  refine ⟨fun n a h => y.ix n a (x.ix n a h), fun a o n d h => y.keep a o (fun m => ?_) (x.keep a o n d h), fun a m => ?_, fun a o u h => y.fz a o u (x.fz a o u h)⟩
  · rcases x.new a m with z | z
    · exact n z
    · rw [h] at z; cases z
  · rcases y.new a m with z | z
    · exact x.new a z
    · by_cases q : a ∈ φ
      · exact .inl q
      · right
        cases r : H a with
        | none => rfl
        | some o =>
          by_cases d : a = D
          · subst d; exact absurd z hd
          · rw [x.keep a o q d r] at z; cases z
theorem ExtD.upd {D : Addr} {φ φ' : List Addr} {H H' : Hp} {o : HO} (x : ExtD D φ H φ' H') (hf : ∀ o u, H' D ≠ some (.frz o u)) : ExtD D φ H φ' (upd H' D o) :=
  ⟨x.ix, fun a o n d h => by rw [upd_ne d]; exact x.keep a o n d h, x.new, fun a o u h => fz_upd hf a o u (x.fz a o u h)⟩
theorem ExtD.later {D : Addr} {φ φ' : List Addr} {H H' : Hp} (x : ExtD D φ H φ' H') : Later φ (ZZ (E.plus D) σw φ σ) H φ' (ZZ (E.plus D) σw φ' σ) H' where
  ix := x.ix
  fz := x.fz
  keep := fun a o n h => x.keep a o (fun m => n (.inr (.inl m))) (fun d => n (.inl (.inr d))) h
  new := fun a z => by
    rcases z with z | z | z
    · exact .inl (.inl z)
    · exact (x.new a z).imp (fun z => .inr (.inl z)) id
    · exact .inl (.inr (.inr z))
theorem noOw_of {own : List Nat} (h : noOw σw own = true) : ∀ i w, i ∈ own → σw[i]? ≠ some (.ow w) := fun i w hi z => by
  have := List.all_eq_true.mp h i hi
  rw [z] at this
  cases this
theorem lc2_go {mit mit1 : M (List W)} {bd bd1 : W → M Sls} {mt mt1 : M Bool} {me : M W} {own own1 : List Nat} (hb : BdOk own bd) (hb1 : BdOk own1 bd1) (R : Rl X.K E σw S φ σ H) (q : mLc2 mit bd mt mit1 bd1 mt1 me own own1 σw S = .ok w S')
    (k : ∀ φ' H' v, Ext φ H φ' H' → New X.K E σw S' φ' σ H H' w v → Q v H') : tLc2 (rdI X.K mit) (rdG X.K own bd) (rdT X.K mt) (rdI X.K mit1) (rdG X.K own1 bd1) (rdT X.K mt1) (rdE X.K false me) own own1 σ H Q := by
  obtain ⟨ws, S1, e1, q⟩ := bind_ok q
  split at q
  · rename_i how0
    have how := noOw_of how0
    obtain ⟨vs, S2, e2, q⟩ := bind_ok q
    split at q
    · rename_i hlim
      cases q
      refine ⟨E, σw, S, φ, R, ws, S1, e1, fun φ1 H1 J x1 R1 it => fun D hD => ?_⟩
      have RD := R1.plus (o := .lst []) hD
      have heD := enone R1 hD
      refine ⟨fun i m H' => m = ws.length - i ∧ i ≤ ws.length ∧ ∃ φ' Si acc accw rest, Rl X.K (E.plus D) σw Si φ' σ H' ∧ H' D = some (.lst acc) ∧ RFs X.K φ' (ZZ (E.plus D) σw φ' σ) H' accw acc ∧ Ext φ1 H1 φ' H' ∧ lc2L bd mt mit1 bd1 mt1 me own1 (wwipe σw own) (ws.drop i) Si = .ok rest S' ∧ vs = accw ++ rest, ⟨_, rfl, Nat.zero_le _, φ1, S1, [], [], vs, RD, upd_same, .nil, .same (same_new hD), e2, rfl⟩, ?_⟩
      rintro i m H' ⟨rfl, hi, φ', Si, acc, accw, rest, R', hA, rA, x', e', hv⟩
      have L : Later φ1 (ZZ E σw φ1 σ) H1 φ' (ZZ (E.plus D) σw φ' σ) H' := ⟨x'.ix, fun a o n h => x'.keep a o (fun z => n (.inr (.inl z))) h, fun a z => by
        rcases z with (z | z) | z | z
        · exact .inl (.inl z)
        · right; rw [z]; exact hD
        · exact (x'.new a z).imp (fun z => .inr (.inl z)) id
        · exact .inl (.inr (.inr z)), x'.fz⟩
      obtain ⟨st, go⟩ := it φ' _ H' L fun a z => by obtain ⟨o, h⟩ := R'.alloc z; rw [h]; simp
      by_cases hlt : i < ws.length
      · right
        have hw : ws[i]? = some ws[i] := List.getElem?_eq_getElem hlt
        obtain ⟨g1, g2⟩ := go i _ hw
        have hdrop : ws.drop i = ws[i] :: ws.drop (i + 1) := (List.getElem_cons_drop ..).symm
        rw [hdrop, lc2L] at e'
        obtain ⟨σw1, Sa, b1, e3⟩ := bind_ok e'
        clear e'
        obtain ⟨hSa, hlw, hnw⟩ := hb _ _ _ _ _ b1
        subst hSa
        obtain ⟨tb, Sb, b2, e'⟩ := bind_ok e3
        refine ⟨g1, fun H5 => ∃ m', m' < ws.length - i ∧ (m' = ws.length - (i + 1) ∧ i + 1 ≤ ws.length ∧ ∃ φ' Si acc accw rest, Rl X.K (E.plus D) σw Si φ' σ H5 ∧ H5 D = some (.lst acc) ∧ RFs X.K φ' (ZZ (E.plus D) σw φ' σ) H5 accw acc ∧ Ext φ1 H1 φ' H5 ∧ lc2L bd mt mit1 bd1 mt1 me own1 (wwipe σw own) (ws.drop (i + 1)) Si = .ok rest S' ∧ vs = accw ++ rest), fun H5 h => h, fun x H2 hy => ?_⟩
        obtain ⟨s2, rx⟩ := g2 x H2 hy
        have R2 := R'.same s2
        obtain ⟨Rw, zw⟩ := R2.wiped own
        refine ⟨E.plus D, wwipe σw own, _, φ', _, Rw, rx.mono (.less zw), σw1, b1, fun σ1 hσ1 R3 z3 => ?_⟩
        have hlσ : σ1.length = σ.length := by rw [R3.len, hlw, ← Rw.len, wipe_length]
        refine ⟨wipe_eq hlσ hσ1, ?_⟩
        have hZ : ∀ φ a, ZZ (E.plus D) σw φ σ a → ZZ (E.plus D) σw1 φ σ1 a := fun φ => zz_same (K := X.K) how (fun i hi => (hnw i hi).trans (wwipe_ne hi)) fun i hi => (hσ1 i hi).trans (wipe_ne hi)
        refine ⟨E.plus D, σw1, _, φ', R3, tb, Sb, b2, fun φ4 H4 x4 R4 => ?_⟩
        have xs : Ext φ' H' φ4 H4 := (Ext.same s2).trans x4
        have R4' : Rl X.K (E.plus D) σw Sb φ4 σ H4 := R'.ext xs (R4.st.mono (.less (hZ φ4)) fun _ _ _ h => h)
        have hD4 : H4 D = some (.lst acc) := xs.keep D _ (fun z => R'.zφ D z (.inr rfl)) hA
        cases tb with
        | true =>
          simp only [if_true] at e'
          split at e'
          · rename_i how1'
            have how1 := noOw_of how1'
            obtain ⟨us, Sc, b3, e'⟩ := bind_ok e'
            obtain ⟨vs1, Sd, b4, e'⟩ := bind_ok e'
            obtain ⟨vs2, Se, b5, e'⟩ := bind_ok e'
            cases e'
            refine ⟨E.plus D, σw1, Sb, φ4, R4, us, Sc, b3, fun φ5 H5 J1 x5 R5 it1 => ?_⟩
            have xs5 := xs.trans x5
            have R5o : Rl X.K (E.plus D) σw Sc φ5 σ H5 := R'.ext xs5 (R5.st.mono (.less (hZ φ5)) fun _ _ _ h => h)
            have hD5 : H5 D = some (.lst acc) := xs5.keep D _ (fun z => R'.zφ D z (.inr rfl)) hA
            refine ⟨fun j kk H6 => kk = us.length - j ∧ j ≤ us.length ∧ ∃ φ6 Si6 acc6 accw6 rest6, Rl X.K (E.plus D) σw Si6 φ6 σ H6 ∧ Rl X.K (E.plus D) σw1 Si6 φ6 σ1 H6 ∧ H6 D = some (.lst acc6) ∧ RFs X.K φ6 (ZZ (E.plus D) σw φ6 σ) H6 accw6 acc6 ∧ ExtD D φ5 H5 φ6 H6 ∧ Ext φ1 H1 φ6 H6 ∧ lcL bd1 mt1 me (wwipe σw1 own1) (us.drop j) Si6 = .ok rest6 Sd ∧ vs = accw6 ++ (rest6 ++ vs2), ⟨_, rfl, Nat.zero_le _, φ5, Sc, acc, accw, vs1, R5o, R5, hD5, rA.mono xs5.later, .refl, x'.trans xs5, b4, hv⟩, ?_⟩
            rintro j kk H6 ⟨rfl, hj, φ6, Si6, acc6, accw6, rest6, Ro, Ri, hA6, rA6, xd, xb, f', hv6⟩
            obtain ⟨st1, go1⟩ := it1 φ6 _ H6 xd.later fun a z => by obtain ⟨o, h⟩ := Ri.alloc z; rw [h]; simp
            by_cases hlt1 : j < us.length
            · right
              have hw1 : us[j]? = some us[j] := List.getElem?_eq_getElem hlt1
              obtain ⟨g3, g4⟩ := go1 j _ hw1
              have hdrop1 : us.drop j = us[j] :: us.drop (j + 1) := (List.getElem_cons_drop ..).symm
              rw [hdrop1, lcL] at f'
              obtain ⟨σw3, Sx, c1, f3⟩ := bind_ok f'
              clear f'
              obtain ⟨hSx, hlw1, hnw1⟩ := hb1 _ _ _ _ _ c1
              subst hSx
              obtain ⟨tb1, Sy, c2, f'⟩ := bind_ok f3
              refine ⟨g3, fun H7 => ∃ k', k' < us.length - j ∧ (k' = us.length - (j + 1) ∧ j + 1 ≤ us.length ∧ ∃ φ6 Si6 acc6 accw6 rest6, Rl X.K (E.plus D) σw Si6 φ6 σ H7 ∧ Rl X.K (E.plus D) σw1 Si6 φ6 σ1 H7 ∧ H7 D = some (.lst acc6) ∧ RFs X.K φ6 (ZZ (E.plus D) σw φ6 σ) H7 accw6 acc6 ∧ ExtD D φ5 H5 φ6 H7 ∧ Ext φ1 H1 φ6 H7 ∧ lcL bd1 mt1 me (wwipe σw1 own1) (us.drop (j + 1)) Si6 = .ok rest6 Sd ∧ vs = accw6 ++ (rest6 ++ vs2)), fun H7 h => h, fun x H7 hy => ?_⟩
              obtain ⟨s3, rx1⟩ := g4 x H7 hy
              have Ri7 := Ri.same s3
              obtain ⟨Rw1, zw1⟩ := Ri7.wiped own1
              refine ⟨E.plus D, wwipe σw1 own1, _, φ6, _, Rw1, rx1.mono (.less zw1), σw3, c1, fun σ3 hσ3 R8 z8 => ?_⟩
              have hlσ3 : σ3.length = σ1.length := by rw [R8.len, hlw1, ← Rw1.len, wipe_length]
              refine ⟨wipe_eq hlσ3 hσ3, ?_⟩
              have hZ1 : ∀ φ a, ZZ (E.plus D) σw1 φ σ1 a → ZZ (E.plus D) σw3 φ σ3 a := fun φ => zz_same (K := X.K) how1 (fun i hi => (hnw1 i hi).trans (wwipe_ne hi)) fun i hi => (hσ3 i hi).trans (wipe_ne hi)
              refine ⟨E.plus D, σw3, _, φ6, R8, tb1, Sy, c2, fun φ9 H9 x9 R9 => ?_⟩
              have xs9 : Ext φ6 H6 φ9 H9 := (Ext.same s3).trans x9
              have Ri9 : Rl X.K (E.plus D) σw1 Sy φ9 σ1 H9 := Ri.ext xs9 (R9.st.mono (.less (hZ1 φ9)) fun _ _ _ h => h)
              have Ro9 : Rl X.K (E.plus D) σw Sy φ9 σ H9 := Ro.ext xs9 (Ri9.st.mono (.less (hZ φ9)) fun _ _ _ h => h)
              have hD9 : H9 D = some (.lst acc6) := xs9.keep D _ (fun z => Ri.zφ D z (.inr rfl)) hA6
              cases tb1 with
              | true =>
                obtain ⟨y, Sz, c3, f'⟩ := bind_ok (show ((me σw3 Sy).bind fun v S3 => (lcL bd1 mt1 me (wwipe σw1 own1) (us.drop (j + 1)) S3).bind fun vs S4 => .ok (v :: vs) S4) = .ok rest6 Sd from f')
                obtain ⟨rest7, Sq, c4, f'⟩ := bind_ok f'
                cases f'
                refine ⟨E.plus D, σw3, Sy, φ9, R9, y, Sz, c3, fun φ10 H10 v x10 R10 r10 => ?_⟩
                have xs10 := xs9.trans x10
                have Ri10 : Rl X.K (E.plus D) σw1 Sz φ10 σ1 H10 := Ri.ext xs10 (R10.st.mono (.less (hZ1 φ10)) fun _ _ _ h => h)
                have Ro10 : Rl X.K (E.plus D) σw Sz φ10 σ H10 := Ro.ext xs10 (Ri10.st.mono (.less (hZ φ10)) fun _ _ _ h => h)
                have hD10 : H10 D = some (.lst acc6) := xs10.keep D _ (fun z => Ri.zφ D z (.inr rfl)) hA6
                have hn10 := nfz hD10 (fun _ _ z => by cases z)
                have hlen : acc6.length < LIM := by
                  have l1 := rA6.len
                  have l2 := congrArg List.length hv6
                  simp only [List.length_append, List.length_cons] at l2
                  omega
                refine ⟨acc6, hD10, lim_lt hlen, us.length - (j + 1), by omega, rfl, by omega, φ10, Sz, acc6 ++ [v], accw6 ++ [y], rest7, Ro10.wr (.inr rfl) heD hn10, Ri10.wr (.inr rfl) heD hn10, upd_same, ?_, (xd.trans (by rw [hA6]; simp) xs10).upd hn10, ?_, c4, by rw [hv6]; simp⟩
                · have L6 : Later φ10 (ZZ (E.plus D) σw φ10 σ) H10 φ10 (ZZ (E.plus D) σw φ10 σ) (upd H10 D (.lst (acc6 ++ [v]))) := ⟨fun _ _ h => h, fun a o n h => by rw [upd_ne (fun z => n (.inl (.inr z)))]; exact h, fun a h => .inl h, fz_upd hn10⟩
                  exact ((rA6.mono xs10.later).append (.cons ((r10.fr.mono (.less (hZ1 φ10))).mono (.less (hZ φ10))) .nil)).mono L6
                · have xx := xb.trans xs10
                  exact ⟨xx.ix, fun a o n h => by rw [upd_ne (ne_of_none h hD)]; exact xx.keep a o n h, fun a m => xx.new a m, fun a o u h => by rw [upd_ne (ne_of_none h hD)]; exact xx.fz a o u h⟩
              | false =>
                exact ⟨us.length - (j + 1), by omega, rfl, by omega, φ9, Sy, acc6, accw6, rest6, Ro9, Ri9, hD9, rA6.mono xs9.later, xd.trans (by rw [hA6]; simp) xs9, xb.trans xs9, f', hv6⟩
            · have hje : j = us.length := by omega
              subst hje
              rw [List.drop_length] at f'
              cases f'
              exact .inl ⟨st1, ws.length - (i + 1), by omega, rfl, by omega, φ6, _, acc6, accw6, vs2, Ro, hA6, rA6, xb, b5, by simpa using hv6⟩
          · cases e'
        | false =>
          exact ⟨ws.length - (i + 1), by omega, rfl, by omega, φ4, Sb, acc, accw, rest, R4', hD4, rA.mono xs.later, x'.trans xs, e', hv⟩
      · have hie : i = ws.length := by omega
        subst hie
        rw [List.drop_length] at e'
        cases e'
        rw [List.append_nil] at hv
        subst hv
        refine .inl ⟨st, k φ' H' _ (x1.trans x') ⟨D, acc, rfl, hA, ext_none x1 R1 hD, fun z => ?_, heD, R', rA⟩⟩
        rcases z with z | z | ⟨i, w, f, g⟩
        · exact R1.zal D z hD
        · exact R'.zφ D z (.inr rfl)
        · obtain ⟨c, g', _, _, n2, _⟩ := R'.ow i w f
          rw [g] at g'; cases g'
          exact n2 (.inr rfl)
    · cases q
  · cases q
end
end EV

namespace L2
open PySem PySem.Spec PyProof.Rows
section
variable {X : Cx}
/-- name = {k: v for ..} on one line, the name a local -/
theorem ps_setDc {i : Nat} {y : Str} {py : Pos} {kx vx tg iter : Expr} {ifs : List Expr} {scope : Scope} {own : List (Str × Nat)} {pos spos : Pos} {wi : TI} {g : TG} {tt : TT} {tk tv : TE} (hc : X.calm = true) (hN : X.N.Nodup) (hy : X.N[i]? = some y) (hyl : X.env.scope.names.lookup y = some .local)
    (hsw : swapsWith (.DictComp kx vx [⟨tg, iter, ifs, 0⟩] scope pos) (some (.Name y py)) spos.line X.env = pure true) (hi : PI X tg iter wi) (ok : BlkOk X.N X.env.scope scope own)
    (hg : ∀ (s : Shared) (H : Hp) (C : Addr) (cl : List (Str × Addr)) (fp : List Addr), PG (X.blk s H scope (compEnvC scope cl C X.env) fp) tg g) (ht : ∀ (s : Shared) (H : Hp) (C : Addr) (cl : List (Str × Addr)) (fp : List Addr), PTs (X.blk s H scope (compEnvC scope cl C X.env) fp) ifs tt)
    (hk : ∀ (s : Shared) (H : Hp) (C : Addr) (cl : List (Str × Addr)) (fp : List Addr), PE (X.blk s H scope (compEnvC scope cl C X.env) fp) kx tk)
    (he : ∀ (s : Shared) (H : Hp) (C : Addr) (cl : List (Str × Addr)) (fp : List Addr), PE (X.blk s H scope (compEnvC scope cl C X.env) fp) vx tv) (hs : ∀ x, foldedSetIterable iter X.env x = pure x := by intro _; rfl) :
    PS X (.Assign [.Name y py] (.DictComp kx vx [⟨tg, iter, ifs, 0⟩] scope pos) spos) (tAsg (tDc wi g tt tk tv (own.map (·.2))) (gName i)) := by
  refine ⟨fun pins s σ H D I h => ?_⟩
  rw [exec_Assign_Name_used _ _ _ _ hsw]
  refine wpAny_bind (wpAny_standAt (wpAny_bind ?_))
  show wpAny _ X.A (do let _ ← comprehension (.DictComp kx vx [⟨tg, iter, ifs, 0⟩] scope pos) scope X.env (firstIterPos [⟨tg, iter, ifs, 0⟩] pos) newDict false (eval iter X.env) (some (assign (.Name y py) X.env))) _ _ s
  have h : tDc wi g tt tk tv (own.map (·.2)) σ H (fun x H1 => gName i x σ H1 D.nx) := h
  refine wpAny_bind (thn (dc_core (Qf := fun _ s' => SP X pins D .next s') hc hN I hi ok hg ht hk he hs h fun L C s' m H' I' q hn f => ?_) fun _ s' hq => wpAny_pure (wpAny_pure hq))
  show wpAny _ _ (assign (.Name y py) X.env (.ref L)) _ _ _
  refine wpAny_assign_Name (store_ok2 (v := V.ref L) I' hN hy (.inl hyl) rfl (fun s2 I2 ⟨a, sb, ha⟩ => ?_) (.inr hyl))
  obtain ⟨f0, f1, f2, f3, f4, f5⟩ := f
  have haC : C ≠ a := by
    rcases ha with z | z
    · rw [z]; exact f1
    · exact fun e => f4 y a z e.symm
  refine ⟨m, hn.sameBut sb haC, fun h3 sb3 => ?_⟩
  exact ⟨_, H', I2.turned (t' := s2.toks) (fun b o hb e => (sb3.2 b hb).trans e) f0 f1 f3 f4 f5, q⟩
end
end L2
namespace EV
open PySem PySem.Spec PyProof.Rows L2
section
open Sem RZ
/-! ### enumerate of a tuple -/
open AutoSeq1 (wpAny_loadPart') in
theorem meets_enumerate_newT (l : Addr) (items : Array Value) (n : Nat) (dct : Option Addr) (sl : Array (Option Value)) :
    Meets (Builtin.«enumerate.__new__» ⟨[.type "enumerate", .ref l], []⟩) (fun _ R s => s.heap.get? l = some { cls := .type "tuple", dict := dct, data := .seq items n, slots := sl } ∧
      R (.ok (.ret (.ref (s.heap.push { cls := .type "tuple_iterator", data := .fields #[.ref l, .int 0 0] }).objs.size)))
        { s with heap := (s.heap.push { cls := .type "tuple_iterator", data := .fields #[.ref l, .int 0 0] }).push { cls := .type "enumerate", data := .fields #[.none, .bool false, .ref s.heap.objs.size, rawInt 0, .none, .none] } }) :=
  .of_wp fun prog w A R s h => by
    obtain ⟨hp, g, d, tk, os⟩ := s; obtain ⟨hl, h⟩ := h
    have hsub := sub_enumerate
    have hL : Heap.IsTuple (Shared.heap ⟨hp, g, d, tk, os⟩) l items := ⟨_, hl, rfl, n, rfl⟩
    wp_walk using wpAny_loadPart' hl
    refine wpAny_stack_any fun st => wpAny_pure ?_
    split
    · rename_i c _ _ _ _ _
      cases (c == Value.type "enumerate")
      · wp_walk using wpAny_loadPart' hl, wpAny_pyIter_tuple hL
        exact ⟨_, rfl, h⟩
      · wp_walk using wpAny_loadPart' hl, wpAny_pyIter_tuple hL
        exact ⟨_, rfl, h⟩
    · wp_walk using wpAny_loadPart' hl, wpAny_pyIter_tuple hL
      exact ⟨_, rfl, h⟩
section
variable {prog : Program} {w : World} {A : Around} {E : Value → Shared → Prop} {s : Shared}
theorem call_enumerate_tuple {l : Addr} {items : Array Value} {Q : Value → Shared → Prop} (hL : s.heap.IsTuple l items)
    (h : ∀ h', IsEnum h' (s.heap.objs.size + 1) s.heap.objs.size 0 .none → h'.IsTupleIter s.heap.objs.size l 0 → h'.objs.size = s.heap.objs.size + 2 →
      (∀ b o, s.heap.get? b = some o → h'.get? b = some o) → Q (.ref (s.heap.objs.size + 1)) { s with heap := h' }) :
    wpAny (model prog w) A (call (.type "enumerate") [.ref l]) Q E s := by
  obtain ⟨⟨c, dct, dt, sl⟩, hl, hc, n, hd⟩ := hL
  replace hc : c = .type "tuple" := hc
  replace hd : dt = .seq items n := hd
  subst hc hd
  refine callType_new F.called_enumerate (by decide) (F.typeCall_enumerate_1 _) (F.newCall_enumerate_1 _) (fun obj => F.args_object_init_2 obj _) F.entry_enumerate_new
    (meets_enumerate_newT l items n dct sl) ⟨hl, ?_⟩
  have hz : (s.heap.push { cls := .type "tuple_iterator", data := .fields #[.ref l, .int 0 0] }).objs.size = s.heap.objs.size + 1 := Heap.size_push ..
  show _ ∧ _
  rw [hz]
  have he : IsEnum ((s.heap.push { cls := .type "tuple_iterator", data := .fields #[.ref l, .int 0 0] }).push
      { cls := .type "enumerate", data := .fields #[.none, .bool false, .ref s.heap.objs.size, rawInt 0, .none, .none] }) (s.heap.objs.size + 1) s.heap.objs.size 0 .none := by
    have := Heap.get?_push_size (s.heap.push { cls := .type "tuple_iterator", data := .fields #[.ref l, .int 0 0] })
      (o := { cls := .type "enumerate", data := .fields #[.none, .bool false, .ref s.heap.objs.size, rawInt 0, .none, .none] }) rfl
    rw [hz] at this; exact this
  refine ⟨⟨_, he, rfl⟩, h _ he ⟨_, Heap.get?_push_of_some _ (Heap.get?_push_size _ rfl), rfl, rfl⟩ (by rw [Heap.size_push, hz]) fun b o x => Heap.get?_push_of_some _ (Heap.get?_push_of_some _ x)⟩
end
def IteT (K : PySem.W.Frag) (a : Addr) : It :=
  ⟨fun i H => ∃ (xs : List V) (x : V), SqT K H a xs ∧ xs[i]? = some x, fun i H v H' => ∃ T x, v = .ref T ∧ H T = none ∧ H' = upd H T (.tup [.int (i : Nat), x]) ∧ ∀ xs, SqT K H a xs → xs[i]? = some x, fun i H => ∃ xs : List V, SqT K H a xs ∧ xs.length = i⟩
theorem turn_enumT {P : Program} {w : World} {K : PySem.W.Frag} {elts : List Expr} {kk : Nat} {tpos : Pos} (a e it : Addr) (hai : a ≠ it) (hae : e ≠ a) :
    Turn P w K (.Tuple elts kk tpos) (IteT K a) [e, it] e (fun i h => (∃ old, IsEnum h e it ((i : Nat) : Int) old) ∧ h.IsTupleIter it a i ∧ e ≠ it) where
  mem := by simp
  obj := fun i h st b hb => by
    obtain ⟨⟨old, he⟩, ⟨o, ho, hc, hd⟩, _⟩ := st
    have e' : b = e ∨ b = it := by simpa using hb
    rcases e' with z | z
    · rw [z]; exact ⟨_, he, fun v q => nomatch q⟩
    · rw [z]; exact ⟨o, ho, fun v q => by rw [hd] at q; cases q⟩
  keep := fun i h h' st k => let ⟨⟨old, he⟩, hi, hne⟩ := st; ⟨⟨old, k e (by simp) _ he⟩, hi.at fun o q => k it (by simp) o q, hne⟩
  item := by
    intro X hP hw hK hc i pins s σ H E I hf st hg
    subst hP hw hK
    obtain ⟨⟨old, he⟩, hit, hne⟩ := st
    obtain ⟨xs, x, hq, hx⟩ := hg
    obtain ⟨its, rv, p, hz⟩ := I.tuple hq
    obtain ⟨u, hu, ru⟩ := rv.get hx
    have hel : e < s.heap.objs.size := Heap.lt_size he
    have hil : it < s.heap.objs.size := by obtain ⟨_, q, _⟩ := hit; exact Heap.lt_size q
    have hlt : i < its.toArray.size := by
      have := (List.getElem?_eq_some_iff.mp hu).1
      simpa using this
    refine wpAny_pyNext_enum_itemD (Draws.tuple (A := X.A.in1) (I.ok.hd hc) it a hai its.toArray) he ⟨hit, p⟩ hlt hne (by simp [hne, hae]) fun x' h' tk hP ho hit' hT hsz hk => ?_
    have hxu : x' = u := by
      have h1 : its[i]? = some x' := by simpa using hP
      rw [hu] at h1
      exact (Option.some.inj h1).symm
    subst hxu
    refine ⟨_, rfl, wpAny_letOwnedTupleGo_enum (s := { s with heap := h', toks := tk + 1 }) ho fun h'' he' sb => ?_⟩
    have hT2 : h''.get? s.heap.objs.size = some { cls := .type "tuple", data := .seq #[.int i tk, x'] } := (sb.2 _ (Nat.ne_of_gt hel)).trans hT
    have new : ObjOk X.prog X.w (upd H s.heap.objs.size (.tup [.int (i : Nat), x])) h'' s.heap.objs.size (.tup [.int (i : Nat), x]) :=
      ⟨by show 2 ≤ sizeLine; decide, [.int i tk, x'], .cons ⟨_, rfl⟩ (.cons ru .nil), ⟨_, hT2, rfl, _, rfl⟩⟩
    have I1 : Inv X pins σ (upd H s.heap.objs.size (.tup [.int (i : Nat), x])) { s with heap := h'', toks := tk + 1 } :=
      I.turnedNew (ch := [e, it]) (fun b ob hb q => (sb.2 b (fun z => hb (by simp [z]))).trans (hk b ob (fun z => hb (by simp [z])) (fun z => hb (by simp [z])) q)) hf (Nat.le_refl _) new
    refine ⟨.ref s.heap.objs.size, _, I1, rfl, ⟨_, x, rfl, I.hok.fresh (Nat.le_refl _), rfl, fun ys hy => by rw [I.tuple_inj hy hq]; exact hx⟩, ⟨⟨x', ?_⟩, hit'.1.at fun o q => (sb.2 it (Ne.symm hne)).trans q, hne⟩, fun b hb => ?_⟩
    · have e1 : ((i + 1 : Nat) : Int) = (i : Int) + 1 := by omega
      rw [e1]; exact he'
    · have hb' : b < s.heap.objs.size := by
        have e' : b = e ∨ b = it := by simpa using hb
        rcases e' with z | z
        · rw [z]; exact hel
        · rw [z]; exact hil
      rw [upd_ne (Nat.ne_of_lt hb')]
      exact (hf b hb).1
  done := by
    intro X hP hw hK hc i pins s σ H E I hf st hg
    subst hP hw hK
    obtain ⟨⟨old, he⟩, hit, hne⟩ := st
    obtain ⟨xs, hq, hx⟩ := hg
    obtain ⟨its, rv, p, hz⟩ := I.tuple hq
    obtain ⟨f0, f1, f2, f3, f4, f5⟩ := hf it (by simp)
    have hl := rv.length
    have hn : i = its.toArray.size := by simp; omega
    subst hn
    exact wpAny_pyNext_enum_endD (Draws.tuple (A := X.A.in1) (I.ok.hd hc) it a hai its.toArray) he ⟨hit, p⟩ fun h' eb => ⟨rfl, I.turned (t' := s.toks) (fun b o hb q => eb b o hb q) f0 f1 f3 f4 f5⟩
  self := fun A i s Q E st h => let ⟨⟨_, he⟩, _⟩ := st; wpAny_pyIter_enum he h
def iEnumA (K : PySem.W.Frag) (ta : TA) : TI := fun σ H R => ta σ H fun vs H1 => ∃ a xs, vs = [.ref a] ∧ ((SqL K H1 a xs ∧ R (Ite K a) H1) ∨ (SqT K H1 a xs ∧ R (IteT K a) H1))
theorem pi_enumA {X : Cx} {e : Expr} {ta : TA} {p pos tpos : Pos} {elts : List Expr} {kk : Nat} (hg : Gl X "enumerate") (hm : X.mg "enumerate" = none) (ha : PA X [e] ta) (hs : starEach [e] X.env = [(false, eval e X.env)] := by rfl) :
    PI X (.Tuple elts kk tpos) (.Call (.Name "enumerate" p) [e] [] pos) (iEnumA X.K ta) := by
  refine ⟨fun pins s σ H R I h => ?_⟩
  refine Call_ (ld_blt I hg hm boot_enumerate (PyProof.Rows.callWith_type1 (thn (ha.run pos pins s σ H _ I h) fun us s1 ⟨vs, H1, I1, r1, q1⟩ => ?_) hs rfl))
  obtain ⟨a, xs, ex, q⟩ := q1
  subst ex
  cases r1 with
  | cons r rr =>
    cases rr
    cases r
    have fresh2 : ∀ b, b ∈ [s1.heap.objs.size + 1, s1.heap.objs.size] → FpOk X pins H1 b := fun b hb => by
      have e' : b = s1.heap.objs.size + 1 ∨ b = s1.heap.objs.size := by simpa using hb
      have hle : s1.heap.objs.size ≤ b := by
        rcases e' with z | z
        · rw [z]; exact Nat.le_add_right _ _
        · rw [z]; exact Nat.le_refl _
      exact I1.fpOk hle (I1.hok.fresh hle)
    rcases q with ⟨hq, q⟩ | ⟨hq, q⟩
    · obtain ⟨its, rv, p', hz⟩ := I1.list hq
      refine call_enumerate_list p'.isList fun h' he hit hsz hk => wpAny_pyIter_enum he ?_
      have I2 : Inv X pins σ H1 { s1 with heap := h' } := I1.kept (t' := s1.toks) hk
      exact ⟨s1.heap.objs.size + 1, [s1.heap.objs.size + 1, s1.heap.objs.size], _, _, H1, rfl, I2, turn_enum a (s1.heap.objs.size + 1) s1.heap.objs.size, ⟨⟨.none, he⟩, hit, Nat.succ_ne_self _⟩, fresh2, q⟩
    · obtain ⟨its, rv, p', hz⟩ := I1.tuple hq
      have hal : a < s1.heap.objs.size := by obtain ⟨o, q, _⟩ := p'; exact Heap.lt_size q
      refine call_enumerate_tuple p' fun h' he hit hsz hk => wpAny_pyIter_enum he ?_
      have I2 : Inv X pins σ H1 { s1 with heap := h' } := I1.kept (t' := s1.toks) hk
      exact ⟨s1.heap.objs.size + 1, [s1.heap.objs.size + 1, s1.heap.objs.size], _, _, H1, rfl, I2, turn_enumT a (s1.heap.objs.size + 1) s1.heap.objs.size (Nat.ne_of_lt hal) (Nat.ne_of_gt (Nat.lt_succ_of_lt hal)), ⟨⟨.none, he⟩, hit, Nat.succ_ne_self _⟩, fresh2, q⟩
/-! ### zip of two, lists or tuples -/
def iterT (b : Bool) : String := if b then "tuple_iterator" else "list_iterator"
def IsSeq (b : Bool) (h : Heap) (a : Addr) (items : Array Value) : Prop := if b then h.IsTuple a items else h.IsList a items
def IsItr (b : Bool) (h : Heap) (it a : Addr) (i : Nat) : Prop := if b then h.IsTupleIter it a i else h.IsListIter it a i
def SqB (b : Bool) (K : PySem.W.Frag) (H : Hp) (a : Addr) (xs : List V) : Prop := if b then SqT K H a xs else SqL K H a xs
theorem drawsB {prog : Program} {w : World} {A : Around} (b : Bool) (hh : A.handled = none) (it t : Addr) (hne : t ≠ it) (items : Array Value) :
    Draws prog w A it [it, t] items.size (fun i v => items[i]? = some v) (fun i h => IsItr b h it t i ∧ IsSeq b h t items) := by
  cases b
  · exact Draws.list hh it t hne items
  · exact Draws.tuple hh it t hne items
theorem IsItr.obj {b : Bool} {h : Heap} {it a : Addr} {i : Nat} (x : IsItr b h it a i) : ∃ o, h.get? it = some o ∧ o.data = .fields #[.ref a, .int i 0] := by
  cases b
  · obtain ⟨o, ho, _, hd⟩ := x; exact ⟨o, ho, hd⟩
  · obtain ⟨o, ho, _, hd⟩ := x; exact ⟨o, ho, hd⟩
theorem IsItr.at {b : Bool} {h h' : Heap} {it a : Addr} {i : Nat} (x : IsItr b h it a i) (k : ∀ o, h.get? it = some o → h'.get? it = some o) : IsItr b h' it a i := by
  cases b
  · exact Heap.IsListIter.at x k
  · exact Heap.IsTupleIter.at x k
theorem IsSeq.lt {b : Bool} {h : Heap} {a : Addr} {items : Array Value} (x : IsSeq b h a items) : a < h.objs.size := by
  cases b
  · obtain ⟨o, q, _⟩ := x; exact Heap.lt_size q
  · obtain ⟨o, q, _⟩ := x; exact Heap.lt_size q
theorem IsSeq.push {b : Bool} {h : Heap} {a : Addr} {items : Array Value} (x : IsSeq b h a items) (o : Obj) : IsSeq b (h.push o) a items := by
  cases b
  · exact Heap.IsList.push x o
  · exact Heap.IsTuple.push x o
section
variable {prog : Program} {w : World} {A : Around} {E : Value → Shared → Prop} {s : Shared}
theorem wpAny_pyIter_B {b : Bool} {l : Addr} {items : Array Value} {Q : Value → Shared → Prop} (hL : IsSeq b s.heap l items) (hQ : Q (.ref s.heap.objs.size) { s with heap := s.heap.push { cls := .type (iterT b), data := .fields #[.ref l, .int 0 0] } }) :
    wpAny (model prog w) A (pyIter (.ref l)) Q E s := by
  cases b
  · exact wpAny_pyIter_list hL hQ
  · exact wpAny_pyIter_tuple hL hQ
end
abbrev zbH1 (b1 : Bool) (h : Heap) (l1 : Addr) : Heap := h.push { cls := .type (iterT b1), data := .fields #[.ref l1, .int 0 0] }
abbrev zbH2 (b1 b2 : Bool) (h : Heap) (l1 l2 : Addr) : Heap := (zbH1 b1 h l1).push { cls := .type (iterT b2), data := .fields #[.ref l2, .int 0 0] }
abbrev zbH3 (b1 b2 : Bool) (h : Heap) (l1 l2 : Addr) : Heap := (zbH2 b1 b2 h l1 l2).push { cls := .type "tuple", data := .seq #[.ref h.objs.size, .ref (zbH1 b1 h l1).objs.size] }
abbrev zbH4 (b1 b2 : Bool) (h : Heap) (l1 l2 : Addr) : Heap := (zbH3 b1 b2 h l1 l2).push { cls := .type "tuple", data := .seq #[.none, .none] }
abbrev zbH5 (b1 b2 : Bool) (h : Heap) (l1 l2 : Addr) : Heap := (zbH4 b1 b2 h l1 l2).push { cls := .type "zip", data := .fields #[.none, .bool false, .bool false, .ref (zbH2 b1 b2 h l1 l2).objs.size, .ref (zbH3 b1 b2 h l1 l2).objs.size] }
theorem meets_zipB_new (b1 b2 : Bool) (l1 l2 : Addr) (xs ys : Array Value) :
    Meets (Builtin.«zip.__new__» ⟨[.type "zip", .ref l1, .ref l2], []⟩) (fun _ R s => IsSeq b1 s.heap l1 xs ∧ IsSeq b2 s.heap l2 ys ∧
      R (.ok (.ret (.ref (zbH4 b1 b2 s.heap l1 l2).objs.size))) { s with heap := zbH5 b1 b2 s.heap l1 l2 }) :=
  .of_wp fun prog w A R s h => by
    obtain ⟨hp, g, d, tk, os⟩ := s; obtain ⟨hl1, hl2, h⟩ := h
    have hsub := sub_zip
    have hL1 : IsSeq b1 (Shared.heap ⟨hp, g, d, tk, os⟩) l1 xs := hl1
    have hL2 : IsSeq b2 (Shared.heap ⟨hp.push { cls := .type (iterT b1), data := .fields #[.ref l1, .int 0 0] }, g, d, tk, os⟩) l2 ys := hl2.push _
    wp_walk using wpAny_pyIter_B hL1, wpAny_pyIter_B hL2
    exact ⟨_, rfl, h⟩
section
variable {prog : Program} {w : World} {A : Around} {E : Value → Shared → Prop} {s : Shared}
theorem isItr_of {b : Bool} {h : Heap} {it a : Addr} (e : h.get? it = some { cls := .type (iterT b), data := .fields #[.ref a, .int 0 0] }) : IsItr b h it a 0 := by
  cases b
  · exact ⟨_, e, rfl, rfl⟩
  · exact ⟨_, e, rfl, rfl⟩
theorem call_zipB {b1 b2 : Bool} {l1 l2 : Addr} {xs ys : Array Value} {Q : Value → Shared → Prop} (hl1 : IsSeq b1 s.heap l1 xs) (hl2 : IsSeq b2 s.heap l2 ys)
    (h : ∀ h', IsZip h' (s.heap.objs.size + 4) (s.heap.objs.size + 2) (s.heap.objs.size + 3) .none → IsTupOf2 h' (s.heap.objs.size + 2) (.ref s.heap.objs.size) (.ref (s.heap.objs.size + 1)) →
      IsTupOf2 h' (s.heap.objs.size + 3) .none .none → IsItr b1 h' s.heap.objs.size l1 0 → IsItr b2 h' (s.heap.objs.size + 1) l2 0 → h'.objs.size = s.heap.objs.size + 5 →
      (∀ c o, s.heap.get? c = some o → h'.get? c = some o) → Q (.ref (s.heap.objs.size + 4)) { s with heap := h' }) :
    wpAny (model prog w) A (call (.type "zip") [.ref l1, .ref l2]) Q E s := by
  refine callType_new F.called_zip (by decide) (F.typeCall_zip_2 _ _) (F.newCall_zip_2 _ _) (fun obj => F.args_object_init_3 obj _ _) F.entry_zip_new
    (meets_zipB_new b1 b2 l1 l2 xs ys) ⟨hl1, hl2, ?_⟩
  have z1 : (zbH1 b1 s.heap l1).objs.size = s.heap.objs.size + 1 := Heap.size_push ..
  have z2 : (zbH2 b1 b2 s.heap l1 l2).objs.size = s.heap.objs.size + 2 := by rw [Heap.size_push, z1]
  have z3 : (zbH3 b1 b2 s.heap l1 l2).objs.size = s.heap.objs.size + 3 := by rw [Heap.size_push, z2]
  have z4 : (zbH4 b1 b2 s.heap l1 l2).objs.size = s.heap.objs.size + 4 := by rw [Heap.size_push, z3]
  have z5 : (zbH5 b1 b2 s.heap l1 l2).objs.size = s.heap.objs.size + 5 := by rw [Heap.size_push, z4]
  have g5 : (zbH5 b1 b2 s.heap l1 l2).get? (zbH4 b1 b2 s.heap l1 l2).objs.size = some _ := Heap.get?_push_size _ rfl
  have g4 : (zbH5 b1 b2 s.heap l1 l2).get? (zbH3 b1 b2 s.heap l1 l2).objs.size = some _ := Heap.get?_push_of_some _ (Heap.get?_push_size _ rfl)
  have g3 : (zbH5 b1 b2 s.heap l1 l2).get? (zbH2 b1 b2 s.heap l1 l2).objs.size = some _ := Heap.get?_push_of_some _ (Heap.get?_push_of_some _ (Heap.get?_push_size _ rfl))
  have g2 : (zbH5 b1 b2 s.heap l1 l2).get? (zbH1 b1 s.heap l1).objs.size = some _ := Heap.get?_push_of_some _ (Heap.get?_push_of_some _ (Heap.get?_push_of_some _ (Heap.get?_push_size _ rfl)))
  have g1 : (zbH5 b1 b2 s.heap l1 l2).get? s.heap.objs.size = some _ := Heap.get?_push_of_some _ (Heap.get?_push_of_some _ (Heap.get?_push_of_some _ (Heap.get?_push_of_some _ (Heap.get?_push_size _ rfl))))
  show _ ∧ _
  rw [z2, z3, z4] at g5
  rw [z1, z2] at g3
  rw [z3] at g4
  rw [z1] at g2
  rw [z4]
  exact ⟨⟨_, g5, rfl⟩, h _ g5 g3 g4 (isItr_of g1) (isItr_of g2) z5 fun c o x =>
    Heap.get?_push_of_some _ (Heap.get?_push_of_some _ (Heap.get?_push_of_some _ (Heap.get?_push_of_some _ (Heap.get?_push_of_some _ x))))⟩
end
theorem inv_sq {X : Cx} {pins : List (Addr × Obj)} {σ : L2.St} {H : Hp} {s : Shared} (I : Inv X pins σ H s) {b : Bool} {a : Addr} {xs : List V} (h : SqB b X.K H a xs) : ∃ its : List Value, Vals xs its ∧ IsSeq b s.heap a its.toArray := by
  cases b
  · obtain ⟨its, r, p, _⟩ := I.list h
    exact ⟨its, r, p.isList⟩
  · obtain ⟨its, r, p, _⟩ := I.tuple h
    exact ⟨its, r, p⟩
theorem inv_sqInj {X : Cx} {pins : List (Addr × Obj)} {σ : L2.St} {H : Hp} {s : Shared} (I : Inv X pins σ H s) {b : Bool} {a : Addr} {xs ys : List V} (h : SqB b X.K H a xs) (g : SqB b X.K H a ys) : xs = ys := by
  cases b
  · exact I.list_inj h g
  · exact I.tuple_inj h g
def ItzB (b1 b2 : Bool) (K : PySem.W.Frag) (a b : Addr) : It :=
  ⟨fun i H => ∃ (xs ys : List V) (x y : V), SqB b1 K H a xs ∧ SqB b2 K H b ys ∧ xs[i]? = some x ∧ ys[i]? = some y,
    fun i H v H' => ∃ T x y, v = .ref T ∧ H T = none ∧ H' = upd H T (.tup [x, y]) ∧ (∀ xs, SqB b1 K H a xs → xs[i]? = some x) ∧ ∀ ys, SqB b2 K H b ys → ys[i]? = some y,
    fun i H => ∃ xs ys : List V, SqB b1 K H a xs ∧ SqB b2 K H b ys ∧ i ≤ xs.length ∧ i ≤ ys.length ∧ (i = xs.length ∨ i = ys.length)⟩
theorem turn_zipB {P : Program} {w : World} {K : PySem.W.Frag} {elts : List Expr} {kk : Nat} {tpos : Pos} (b1 b2 : Bool) {a b z TI TO i1 i2 : Addr} (D : ZipSep2 z TI TO i1 i2 [i1, a] [i2, b]) (ha1 : a ≠ i1) (hb2 : b ≠ i2) :
    Turn P w K (.Tuple elts kk tpos) (ItzB b1 b2 K a b) [z, TI, TO, i1, i2] z (fun i h => IsZip h z TI TO .none ∧ IsTupOf2 h TI (.ref i1) (.ref i2) ∧ (∃ x y, IsTupOf2 h TO x y) ∧ IsItr b1 h i1 a i ∧ IsItr b2 h i2 b i) where
  mem := by simp
  obj := fun i h st c hc => by
    obtain ⟨hz, hTI, ⟨x, y, hTO⟩, h1, h2⟩ := st
    obtain ⟨o1, e1, d1⟩ := h1.obj
    obtain ⟨o2, e2, d2⟩ := h2.obj
    have e' : c = z ∨ c = TI ∨ c = TO ∨ c = i1 ∨ c = i2 := by simpa using hc
    rcases e' with q | q | q | q | q
    · rw [q]; exact ⟨_, hz, fun v q => nomatch q⟩
    · rw [q]; exact ⟨_, hTI, fun v q => nomatch q⟩
    · rw [q]; exact ⟨_, hTO, fun v q => nomatch q⟩
    · rw [q]; exact ⟨o1, e1, fun v q => by rw [d1] at q; cases q⟩
    · rw [q]; exact ⟨o2, e2, fun v q => by rw [d2] at q; cases q⟩
  keep := fun i h h' st k => by
    obtain ⟨hz, hTI, ⟨x, y, hTO⟩, h1, h2⟩ := st
    exact ⟨k z (by simp) _ hz, k TI (by simp) _ hTI, ⟨x, y, k TO (by simp) _ hTO⟩, h1.at fun o q => k i1 (by simp) o q, h2.at fun o q => k i2 (by simp) o q⟩
  item := by
    intro X hP hw hK hc i pins s σ H E I hf st hg
    subst hP hw hK
    obtain ⟨hz, hTI, ⟨x0, y0, hTO⟩, h1, h2⟩ := st
    obtain ⟨xs, ys, x, y, hqx, hqy, hx, hy⟩ := hg
    obtain ⟨its, rv, p⟩ := inv_sq I hqx
    obtain ⟨its2, rv2, p2⟩ := inv_sq I hqy
    obtain ⟨u, hu, ru⟩ := rv.get hx
    obtain ⟨u2, hu2, ru2⟩ := rv2.get hy
    have hzl : z < s.heap.objs.size := Heap.lt_size hz
    have hl1 : i < its.toArray.size := by have := (List.getElem?_eq_some_iff.mp hu).1; simpa using this
    have hl2 : i < its2.toArray.size := by have := (List.getElem?_eq_some_iff.mp hu2).1; simpa using this
    refine wpAny_pyNext_zipD2_item D (drawsB (A := X.A.in1) b1 (I.ok.hd hc) i1 a ha1 its.toArray) (drawsB (A := X.A.in1) b2 (I.ok.hd hc) i2 b hb2 its2.toArray) hz hTI hTO ⟨h1, p⟩ ⟨h2, p2⟩ hl1 hl2 fun x1 x2 h' tk q1 q2 z' TO' s1' s2' hT hsz hk => ?_
    have e1 : x1 = u := by
      have h1 : its[i]? = some x1 := by simpa using q1
      rw [hu] at h1; exact (Option.some.inj h1).symm
    have e2 : x2 = u2 := by
      have h1 : its2[i]? = some x2 := by simpa using q2
      rw [hu2] at h1; exact (Option.some.inj h1).symm
    subst e1 e2
    refine ⟨_, rfl, wpAny_letOwnedTupleGo_zip (s := { s with heap := h', toks := tk }) z' fun h'' z'' sb => ?_⟩
    have hT2 : h''.get? s.heap.objs.size = some { cls := .type "tuple", data := .seq #[x1, x2] } := (sb.2 _ (Nat.ne_of_gt hzl)).trans hT
    have new : ObjOk X.prog X.w (upd H s.heap.objs.size (.tup [x, y])) h'' s.heap.objs.size (.tup [x, y]) :=
      ⟨by show 2 ≤ sizeLine; decide, [x1, x2], .cons ru (.cons ru2 .nil), ⟨_, hT2, rfl, _, rfl⟩⟩
    have I1 : Inv X pins σ (upd H s.heap.objs.size (.tup [x, y])) { s with heap := h'', toks := tk } :=
      I.turnedNew (t' := tk) (ch := [z, TI, TO, i1, i2]) (fun c o hb q => (sb.2 c (fun q' => hb (by simp [q']))).trans (hk c o (fun q' => hb (by simp [q'])) (fun q' => hb (by simp [q'])) (fun q' => hb (by simp [q'])) (fun q' => hb (by simp [q'])) q)) hf (Nat.le_refl _) new
    refine ⟨.ref s.heap.objs.size, _, I1, rfl, ⟨_, x, y, rfl, I.hok.fresh (Nat.le_refl _), rfl, fun l hl => by rw [inv_sqInj I hl hqx]; exact hx, fun l hl => by rw [inv_sqInj I hl hqy]; exact hy⟩, ⟨z'', ?_, ⟨x1, x2, ?_⟩, ?_, ?_⟩, fun c hcm => ?_⟩
    · exact (sb.2 _ D.TIz).trans (hk _ _ D.TIz D.TITO D.TIi1 D.TIi2 hTI)
    · exact (sb.2 _ D.TOz).trans TO'
    · exact s1'.1.at fun o q => (sb.2 _ (Ne.symm D.zi1)).trans q
    · exact s2'.1.at fun o q => (sb.2 _ (Ne.symm D.zi2)).trans q
    · have hlt : c < s.heap.objs.size := by
        have e' : c = z ∨ c = TI ∨ c = TO ∨ c = i1 ∨ c = i2 := by simpa using hcm
        rcases e' with q | q | q | q | q
        · rw [q]; exact hzl
        · rw [q]; exact Heap.lt_size hTI
        · rw [q]; exact Heap.lt_size hTO
        · rw [q]; obtain ⟨_, e1, _⟩ := h1.obj; exact Heap.lt_size e1
        · rw [q]; obtain ⟨_, e2, _⟩ := h2.obj; exact Heap.lt_size e2
      rw [upd_ne (Nat.ne_of_lt hlt)]
      exact (hf c hcm).1
  done := by
    intro X hP hw hK hc i pins s σ H E I hf st hg
    subst hP hw hK
    obtain ⟨hz, hTI, ⟨x0, y0, hTO⟩, h1, h2⟩ := st
    obtain ⟨xs, ys, hqx, hqy, hle1, hle2, hend⟩ := hg
    obtain ⟨its, rv, p⟩ := inv_sq I hqx
    obtain ⟨its2, rv2, p2⟩ := inv_sq I hqy
    have l1 := rv.length
    have l2 := rv2.length
    refine wpAny_pyNext_zipD2_end D (drawsB (A := X.A.in1) b1 (I.ok.hd hc) i1 a ha1 its.toArray) (drawsB (A := X.A.in1) b2 (I.ok.hd hc) i2 b hb2 its2.toArray) hz hTI hTO ⟨h1, p⟩ ⟨h2, p2⟩ (by simp; omega) (by simp; omega) (by simp; omega) fun h' tk hk => ⟨rfl, ?_⟩
    exact I.turnedL (t' := tk) (ch := [z, TI, TO, i1, i2]) (fun c o hb q =>
      hk c o (fun q' => hb (by simp [q'])) (fun q' => hb (by simp [q'])) (fun q' => hb (by simp [q'])) (fun q' => hb (by simp [q'])) q) hf
  self := fun A i s Q E st h => wpAny_pyIter_zip st.1 h
theorem sepZ (n a b : Nat) (la : a < n) (lb : b < n) : ZipSep2 (n + 4 : Nat) (n + 2 : Nat) (n + 3 : Nat) n (n + 1 : Nat) [n, a] [(n + 1 : Nat), b] := by
  have ne : ∀ x y : Nat, x ≠ y → ¬ (@Eq Addr x y) := fun x y h => h
  have nm : ∀ x y z : Nat, x ≠ y → x ≠ z → ¬ (@Membership.mem Addr (List Addr) _ [y, z] x) := fun x y z h g m => by
    rcases List.mem_cons.mp m with m | m
    · exact h m
    · exact g (List.mem_singleton.mp m)
  refine ⟨ne _ _ (by omega), ne _ _ (by omega), ne _ _ (by omega), ne _ _ (by omega), List.mem_cons_self .., nm _ _ _ (by omega) (by omega), nm _ _ _ (by omega) (by omega), ne _ _ (by omega), List.mem_cons_self .., nm _ _ _ (by omega) (by omega), nm _ _ _ (by omega) (by omega), nm _ _ _ (by omega) (by omega), nm _ _ _ (by omega) (by omega)⟩
def iZipB (K : PySem.W.Frag) (ta : TA) : TI := fun σ H R => ta σ H fun vs H1 => ∃ b1 b2 a b xs ys, vs = [.ref a, .ref b] ∧ SqB b1 K H1 a xs ∧ SqB b2 K H1 b ys ∧ R (ItzB b1 b2 K a b) H1
theorem pi_zipB {X : Cx} {e e2 : Expr} {ta : TA} {p pos tpos : Pos} {elts : List Expr} {kk : Nat} (hg : Gl X "zip") (hm : X.mg "zip" = none) (ha : PA X [e, e2] ta)
    (hs : starEach [e, e2] X.env = (false, eval e X.env) :: starEach [e2] X.env := by rfl) (hpl : (backTo pos (starEach [e2] X.env)).any (·.1) = false := by rfl) :
    PI X (.Tuple elts kk tpos) (.Call (.Name "zip" p) [e, e2] [] pos) (iZipB X.K ta) := by
  refine ⟨fun pins s σ H R I h => ?_⟩
  refine Call_ (ld_blt I hg hm PyProof.Rows.boot_zip (PyProof.Rows.callWith_type1 (thn (ha.run pos pins s σ H _ I h) fun us s1 ⟨vs, H1, I1, r1, q1⟩ => ?_) hs hpl))
  obtain ⟨b1, b2, a, b, xs, ys, ex, hqx, hqy, q⟩ := q1
  subst ex
  cases r1 with
  | cons r rr =>
    cases rr with
    | cons r' rr =>
      cases rr
      cases r
      cases r'
      obtain ⟨its, rv, p1⟩ := inv_sq I1 hqx
      obtain ⟨its2, rv2, p2⟩ := inv_sq I1 hqy
      have la := p1.lt
      have lb := p2.lt
      refine call_zipB p1 p2 fun h' hz hTI hTO h1 h2 hsz hk => wpAny_pyIter_zip hz ?_
      have I2 : Inv X pins σ H1 { s1 with heap := h' } := I1.kept (t' := s1.toks) hk
      refine ⟨s1.heap.objs.size + 4, [s1.heap.objs.size + 4, s1.heap.objs.size + 2, s1.heap.objs.size + 3, s1.heap.objs.size, s1.heap.objs.size + 1], _, _, H1, rfl, I2,
        turn_zipB b1 b2 (a := a) (b := b) (z := s1.heap.objs.size + 4) (TI := s1.heap.objs.size + 2) (TO := s1.heap.objs.size + 3) (i1 := s1.heap.objs.size) (i2 := s1.heap.objs.size + 1) (sepZ s1.heap.objs.size a b la lb) (Nat.ne_of_lt la) (Nat.ne_of_lt (Nat.lt_succ_of_lt lb)), ⟨hz, hTI, ⟨_, _, hTO⟩, h1, h2⟩, fun c hcm => ?_, q⟩
      · have e' : c = s1.heap.objs.size + 4 ∨ c = s1.heap.objs.size + 2 ∨ c = s1.heap.objs.size + 3 ∨ c = s1.heap.objs.size ∨ c = s1.heap.objs.size + 1 := by simpa using hcm
        have hle : s1.heap.objs.size ≤ c := by
          rcases e' with z | z | z | z | z
          · rw [z]; exact Nat.le_add_right _ _
          · rw [z]; exact Nat.le_add_right _ _
          · rw [z]; exact Nat.le_add_right _ _
          · rw [z]; exact Nat.le_refl _
          · rw [z]; exact Nat.le_add_right _ _
        exact I1.fpOk hle (I1.hok.fresh hle)
end
section
variable {X : Cx} {a b c e o tg : Expr} {mo m ma mb : M W} {br : Bool} {pos apos : Pos} {E : Ent} {σw σw' : Sls} {S S' : Sto} {φ φ' : List Addr} {σ σ' : L2.St} {H H' : Hp} {w x : W} {v : V} {es : List Expr} {la : M (List W)} {p : Addr} {Q : VK}
/-! ### what is walked -/
theorem _root_.L2.PI.any {T : TI} (k : ∀ σ H Q, T σ H Q → ∃ t, PI X tg e t ∧ t σ H Q) : PI X tg e T := ⟨fun pins s σ H Q I q => by
  obtain ⟨t, h, q⟩ := k σ H Q q
  exact h.run pins s σ H Q I q⟩
theorem pi_itop (ha : PE X e (rdE X.K false ma)) : PI X tg e (rdI X.K (mIt ma)) := PI.any fun σ H Q ⟨E, σw, S, φ, R, ws, S', q, k⟩ => by
  obtain ⟨x, S1, e1, q⟩ := bind_ok q
  split at q
  · rename_i xs
    cases q
    refine ⟨_, pi_list ha, E, σw, S, φ, R, _, _, e1, fun φ1 H1 v x1 R1 r1 => ?_⟩
    cases r1.fr with
    | lst h n r =>
      refine ⟨_, rfl, ⟨_, SqL.of h⟩, k φ1 H1 _ x1 R1 fun φ' Z' H' L al => ?_⟩
      obtain ⟨h', n'⟩ := L.at h n
      have r' := r.mono L
      refine ⟨⟨_, SqL.of h', by rw [r'.len]; exact Nat.le_refl _⟩, fun i w hw => ?_⟩
      obtain ⟨z, hz, rz⟩ := r'.get hw
      refine ⟨⟨_, z, SqL.of h', hz⟩, fun x H'' y => ?_⟩
      obtain ⟨e2, y⟩ := y
      subst e2
      have := y _ (SqL.of h')
      rw [hz] at this; cases this
      exact ⟨Same.refl _, rz⟩
  · rename_i xs
    cases q
    refine ⟨_, pi_tup ha, E, σw, S, φ, R, _, _, e1, fun φ1 H1 v x1 R1 r1 => ?_⟩
    cases r1.fr with
    | tup h r =>
      refine ⟨_, rfl, ⟨_, h.sq⟩, k φ1 H1 _ x1 R1 fun φ' Z' H' L al => ?_⟩
      have h' := TupAt.mono L h
      have r' := r.mono L
      refine ⟨⟨_, h'.sq, by rw [r'.len]; exact Nat.le_refl _⟩, fun i w hw => ?_⟩
      obtain ⟨z, hz, rz⟩ := r'.get hw
      refine ⟨⟨_, z, h'.sq, hz⟩, fun x H'' y => ?_⟩
      obtain ⟨e2, y⟩ := y
      subst e2
      have := y _ h'.sq
      rw [hz] at this; cases this
      exact ⟨Same.refl _, rz⟩
  · rename_i xs
    cases q
    refine ⟨_, pi_list ha, E, σw, S, φ, R, _, _, e1, fun φ1 H1 v x1 R1 r1 => ?_⟩
    cases r1.fr with
    | scr h r =>
      refine ⟨_, rfl, ⟨_, h.sql⟩, k φ1 H1 _ x1 R1 fun φ' Z' H' L al => ?_⟩
      have h' : SqZ _ _ H' _ _ := h.elim (fun ⟨o, h, n⟩ => .inl ⟨o, L.at h n⟩) .inr
      have r' := r.mono L
      refine ⟨⟨_, h'.sql, by rw [r'.len]; exact Nat.le_refl _⟩, fun i w hw => ?_⟩
      obtain ⟨z, hz, rz⟩ := r'.get hw
      refine ⟨⟨_, z, h'.sql, hz⟩, fun x H'' y => ?_⟩
      obtain ⟨e2, y⟩ := y
      subst e2
      have := y _ h'.sql
      rw [hz] at this; cases this
      exact ⟨Same.refl _, rz⟩
  · rename_i s
    cases q
    refine ⟨_, pi_str ha, E, σw, S, φ, R, _, _, e1, fun φ1 H1 v x1 R1 r1 => ?_⟩
    cases r1.fr with
    | str _ =>
      refine ⟨_, rfl, k φ1 H1 _ x1 R1 fun φ' Z' H' L al => ⟨by simp [Its], fun i w hw => ?_⟩⟩
      rw [List.getElem?_map] at hw
      obtain ⟨c, hc, hw⟩ := Option.map_eq_some_iff.mp hw
      subst hw
      have hlt := (List.getElem?_eq_some_iff.mp hc).1
      refine ⟨by simpa [Its] using hlt, fun x H'' y => ?_⟩
      obtain ⟨e2, c', hc', e3⟩ := y
      subst e2 e3
      have : s.cps[i]? = some c := by simpa using hc
      rw [this] at hc'; cases hc'
      exact ⟨Same.refl _, .str _⟩
  · rename_i n
    split at q
    · rename_i xs hn
      cases q
      refine ⟨_, pi_list ha, E, σw, S, φ, R, _, _, e1, fun φ1 H1 v x1 R1 r1 => ?_⟩
      obtain ⟨d, rfl, hd⟩ := rx_loc R1 r1 rfl
      obtain ⟨od, vs, hA, rA⟩ := R1.st.ob n _ d hn hd
      refine ⟨_, rfl, ⟨_, .inl (.inr ⟨od, hA⟩)⟩, k φ1 H1 _ x1 R1 fun φ' Z' H' L al => ?_⟩
      have h' : SqL X.K H' d vs := .inl (.inr ⟨od, L.fz d _ _ hA⟩)
      have r' := rA.mono L
      refine ⟨⟨_, h', by rw [r'.len]; exact Nat.le_refl _⟩, fun i w hw => ?_⟩
      obtain ⟨z, hz, rz⟩ := r'.get hw
      refine ⟨⟨_, z, h', hz⟩, fun x H'' y => ?_⟩
      obtain ⟨e2, y⟩ := y
      subst e2
      have := y _ h'
      rw [hz] at this; cases this
      exact ⟨Same.refl _, rz⟩
    · cases q
  · cases q
theorem rev_get {ws : List W} {i : Nat} {w : W} (h : ws.reverse[i]? = some w) : i < ws.length ∧ ws[ws.length - 1 - i]? = some w := by
  have hi := (List.getElem?_eq_some_iff.mp h).1
  rw [List.length_reverse] at hi
  rw [List.getElem?_reverse hi] at h
  exact ⟨hi, h⟩
theorem pi_revop {p : Pos} (hg : Gl X "reversed") (hm : X.mg "reversed" = none) (hs : isStar e = false) (ha : PE X e (rdE X.K false ma)) : PI X tg (.Call (.Name "reversed" p) [e] [] pos) (rdI X.K (mRev ma)) :=
  (RT.pi_revA hg hm ha (star_cons hs)).imp fun σ H Q ⟨E, σw, S, φ, R, ws, S', q, k⟩ => by
  obtain ⟨x, S1, e1, q⟩ := bind_ok q
  split at q
  · rename_i xs
    cases q
    refine ⟨E, σw, S, φ, R, _, _, e1, fun φ1 H1 v x1 R1 r1 => ?_⟩
    cases r1.fr with
    | lst h n r =>
      refine ⟨_, _, rfl, .inl ⟨SqL.of h, k φ1 H1 _ x1 R1 fun φ' Z' H' L al => ?_⟩⟩
      obtain ⟨h', n'⟩ := L.at h n
      have r' := r.mono L
      refine ⟨by show _ ≤ xs.reverse.length; rw [List.length_reverse, r'.len]; exact Nat.le_refl _, fun i w hw => ?_⟩
      obtain ⟨hi, hw'⟩ := rev_get hw
      obtain ⟨z, hz, rz⟩ := r'.get hw'
      rw [r'.len] at hz hi
      refine ⟨⟨hi, _, z, SqL.of h', hz⟩, fun x H'' y => ?_⟩
      obtain ⟨e2, y⟩ := y
      subst e2
      have := y _ (SqL.of h')
      rw [hz] at this; cases this
      exact ⟨Same.refl _, rz⟩
  · rename_i xs
    cases q
    refine ⟨E, σw, S, φ, R, _, _, e1, fun φ1 H1 v x1 R1 r1 => ?_⟩
    cases r1.fr with
    | tup h r =>
      refine ⟨_, _, rfl, .inr ⟨h.sq, k φ1 H1 _ x1 R1 fun φ' Z' H' L al => ?_⟩⟩
      have h' := TupAt.mono L h
      have r' := r.mono L
      refine ⟨by show _ ≤ xs.reverse.length; rw [List.length_reverse, r'.len]; exact Nat.le_refl _, fun i w hw => ?_⟩
      obtain ⟨hi, hw'⟩ := rev_get hw
      obtain ⟨z, hz, rz⟩ := r'.get hw'
      rw [r'.len] at hz hi
      refine ⟨⟨hi, _, z, h'.sq, hz⟩, fun x H'' y => ?_⟩
      obtain ⟨e2, y⟩ := y
      subst e2
      have := y _ h'.sq
      rw [hz] at this; cases this
      exact ⟨Same.refl _, rz⟩
  · cases q
theorem it_rng {lo : Int} {n : Nat} {Z : Addr → Prop} {K : PySem.W.Frag} : ItOk K (Itr lo n) (rngW lo n) φ Z H := fun φ' Z' H' L al => by
  unfold rngW
  refine ⟨by simp [Itr], fun i w hw => ?_⟩
  rw [List.getElem?_map] at hw
  obtain ⟨j, hj, hw⟩ := Option.map_eq_some_iff.mp hw
  obtain ⟨hlt, e1⟩ := List.getElem?_eq_some_iff.mp hj
  simp at hlt e1
  subst e1 hw
  refine ⟨hlt, fun x H'' y => ?_⟩
  obtain ⟨e2, e3⟩ := y
  subst e2 e3
  exact ⟨Same.refl _, .int _⟩
theorem pi_rng1op {p : Pos} (hg : Gl X "range") (hm : X.mg "range" = none) (hs : isStar a = false) (ha : PE X a (rdE X.K true ma)) : PI X tg (.Call (.Name "range" p) [a] [] pos) (rdI X.K (mRng1 ma)) :=
  (pi_range1 hg hm (pa_consop hs ha pa_nilop) (star_cons hs)).imp fun σ H Q ⟨E, σw, S, φ, R, ws, S', q, k⟩ => by
    obtain ⟨x, S1, e1, q⟩ := bind_ok q
    split at q
    · rename_i j
      split at q
      · rename_i h
        cases q
        have e2 : mCons ma mNil σw S = .ok [.int j] S' := by unfold mCons; rw [e1]; rfl
        refine ⟨E, σw, S, φ, R, _, _, e2, fun φ1 H1 us x1 R1 r1 => ?_⟩
        obtain ⟨u, rfl, ru⟩ := rxs_cons1 r1 rfl
        exact ⟨j, by rw [rx_int R1 ru rfl], h.1, h.2, k φ1 H1 _ x1 R1 it_rng⟩
      · cases q
    · cases q
theorem pi_rng2op {p : Pos} (hg : Gl X "range") (hm : X.mg "range" = none) (hs : isStar a = false) (hs2 : isStar b = false) (ha : PE X a (rdE X.K true ma)) (hb : PE X b (rdE X.K true mb)) : PI X tg (.Call (.Name "range" p) [a, b] [] pos) (rdI X.K (mRng2 ma mb)) :=
  (pi_range2 hg hm (pa_consop hs ha (pa_consop hs2 hb pa_nilop)) (by rw [star_cons hs, star_cons hs2]; rfl) (star_cons hs2)).imp fun σ H Q ⟨E, σw, S, φ, R, ws, S', q, k⟩ => by
    obtain ⟨x, S1, e1, q1⟩ := bind_ok q
    clear q
    obtain ⟨y, S2, e3, q⟩ := bind_ok q1
    clear q1
    split at q
    · rename_i i j
      split at q
      · rename_i h
        cases q
        have e2 : mCons ma (mCons mb mNil) σw S = .ok [.int i, .int j] S' := by
          unfold mCons; rw [e1]; show (Res.bind (Res.bind (mb σw S1) _) _) = _; rw [e3]; rfl
        refine ⟨E, σw, S, φ, R, _, _, e2, fun φ1 H1 us x1 R1 r1 => ?_⟩
        obtain ⟨u, t, rfl, ru, rt⟩ := rxs_cons2 r1 rfl
        exact ⟨i, j, by rw [rx_int R1 ru rfl, rx_int R1 rt rfl], ⟨h.1.1, h.1.2, h.2.1, h.2.2⟩, k φ1 H1 _ x1 R1 it_rng⟩
      · cases q
    · cases q
theorem it_rngC {lo c : Int} {n : Nat} {Z : Addr → Prop} {K : PySem.W.Frag} : ItOk K (Itc lo c n) (rngC lo c n) φ Z H := fun φ' Z' H' L al => by
  unfold rngC
  refine ⟨by simp [Itc], fun i w hw => ?_⟩
  rw [List.getElem?_map] at hw
  obtain ⟨j, hj, hw⟩ := Option.map_eq_some_iff.mp hw
  obtain ⟨hlt, e1⟩ := List.getElem?_eq_some_iff.mp hj
  simp at hlt e1
  subst e1 hw
  refine ⟨hlt, fun x H'' y => ?_⟩
  obtain ⟨e2, e3⟩ := y
  subst e2 e3
  exact ⟨Same.refl _, .int _⟩
theorem pi_rng3op {c : Expr} {mc : M W} {p : Pos} (hg : Gl X "range") (hm : X.mg "range" = none) (hs : noStar [a, b, c] = true) (ha : PE X a (rdE X.K true ma)) (hb : PE X b (rdE X.K true mb)) (hc : PE X c (rdE X.K true mc)) : PI X tg (.Call (.Name "range" p) [a, b, c] [] pos) (rdI X.K (mRng3 ma mb mc)) := by
  obtain ⟨s1, hs⟩ := noStar_cons hs
  obtain ⟨s2, hs⟩ := noStar_cons hs
  obtain ⟨s3, hs⟩ := noStar_cons hs
  exact (pi_range3 hg hm (pa_consop s1 ha (pa_consop s2 hb (pa_consop s3 hc pa_nilop))) (star_cons s1) (by rw [star_cons s2, star_cons s3]; rfl)).imp fun σ H Q ⟨E, σw, S, φ, R, ws, S', q, k⟩ => by
    obtain ⟨x, S1, e1, q1⟩ := bind_ok q
    clear q
    obtain ⟨y, S2, e3, q2⟩ := bind_ok q1
    clear q1
    obtain ⟨z, S3, e4, q⟩ := bind_ok q2
    clear q2
    split at q
    · rename_i i j kk
      split at q
      · rename_i h
        cases q
        have e2 : mCons ma (mCons mb (mCons mc mNil)) σw S = .ok [.int i, .int j, .int kk] S' := by
          unfold mCons; rw [e1]; show (Res.bind (Res.bind (mb σw S1) _) _) = _; rw [e3]; show (Res.bind (Res.bind (Res.bind (mc σw S2) _) _) _) = _; rw [e4]; rfl
        refine ⟨E, σw, S, φ, R, _, _, e2, fun φ1 H1 us x1 R1 r1 => ?_⟩
        cases r1 with
        | cons ru r1 =>
          obtain ⟨t, t2, rfl, rt, rt2⟩ := rxs_cons2 r1 rfl
          obtain ⟨h1, h2, rfl⟩ := h
          exact ⟨i, j, -1, _, by rw [rx_int R1 ru rfl, rx_int R1 rt rfl, rx_int R1 rt2 rfl], RgC.neg h1.1 h1.2 h2.1 h2.2, k φ1 H1 _ x1 R1 it_rngC⟩
      · cases q
    · cases q
theorem pi_enumop {p tpos : Pos} {elts : List Expr} {kk : Nat} (hg : Gl X "enumerate") (hm : X.mg "enumerate" = none) (hs : isStar a = false) (ha : PE X a (rdE X.K false ma)) : PI X (.Tuple elts kk tpos) (.Call (.Name "enumerate" p) [a] [] pos) (rdI X.K (mEnum ma)) :=
  (pi_enumA hg hm (pa_consop hs ha pa_nilop) (star_cons hs)).imp fun σ H Q ⟨E, σw, S, φ, R, ws, S', q, k⟩ => by
    obtain ⟨x, S1, e1, q⟩ := bind_ok q
    split at q
    · rename_i xs
      cases q
      have e2 : mCons ma mNil σw S = .ok [.lst xs] S' := by unfold mCons; rw [e1]; rfl
      refine ⟨E, σw, S, φ, R, _, _, e2, fun φ1 H1 us x1 R1 r1 => ?_⟩
      obtain ⟨u, rfl, ru⟩ := rxs_cons1 r1 rfl
      cases ru.fr with
      | lst h n r =>
        refine ⟨_, _, rfl, .inl ⟨SqL.of h, k φ1 H1 _ x1 R1 fun φ' Z' H' L al => ?_⟩⟩
        obtain ⟨h', n'⟩ := L.at h n
        have r' := r.mono L
        refine ⟨⟨_, SqL.of h', by rw [← r'.len]; simp⟩, fun i w hw => ?_⟩
        rw [List.getElem?_mapIdx] at hw
        obtain ⟨y, hy, hw⟩ := Option.map_eq_some_iff.mp hw
        subst hw
        obtain ⟨z, hz, rz⟩ := r'.get hy
        refine ⟨⟨_, z, SqL.of h', hz⟩, fun x H'' y => ?_⟩
        obtain ⟨T, x', e3, hT, e4, y⟩ := y
        subst e3 e4
        have := y _ (SqL.of h')
        rw [hz] at this; cases this
        have nT : ¬ Z' T := fun z => al T z hT
        exact ⟨same_new hT, .tup (.inl ⟨upd_same, nT⟩) ((RFs.cons (.int _) (.cons rz .nil)).mono (.same (same_new hT) fun _ z => z))⟩
    · rename_i xs
      cases q
      have e2 : mCons ma mNil σw S = .ok [.tup xs] S' := by unfold mCons; rw [e1]; rfl
      refine ⟨E, σw, S, φ, R, _, _, e2, fun φ1 H1 us x1 R1 r1 => ?_⟩
      obtain ⟨u, rfl, ru⟩ := rxs_cons1 r1 rfl
      cases ru.fr with
      | tup h r =>
        refine ⟨_, _, rfl, .inr ⟨h.sq, k φ1 H1 _ x1 R1 fun φ' Z' H' L al => ?_⟩⟩
        have h' := (h.mono L).sq
        have r' := r.mono L
        refine ⟨⟨_, h', by rw [← r'.len]; simp⟩, fun i w hw => ?_⟩
        rw [List.getElem?_mapIdx] at hw
        obtain ⟨y, hy, hw⟩ := Option.map_eq_some_iff.mp hw
        subst hw
        obtain ⟨z, hz, rz⟩ := r'.get hy
        refine ⟨⟨_, z, h', hz⟩, fun x H'' y => ?_⟩
        obtain ⟨T, x', e3, hT, e4, y⟩ := y
        subst e3 e4
        have := y _ h'
        rw [hz] at this; cases this
        have nT : ¬ Z' T := fun z => al T z hT
        exact ⟨same_new hT, .tup (.inl ⟨upd_same, nT⟩) ((RFs.cons (.int _) (.cons rz .nil)).mono (.same (same_new hT) fun _ z => z))⟩
    · cases q
theorem wseq_rf {K : PySem.W.Frag} {φ : List Addr} {Z : Addr → Prop} {H : Hp} {w : W} {v : V} {b : Bool} {xs : List W} (r : RF K φ Z H w v) (e : wseq w = some (b, xs)) : ∃ a vs, v = .ref a ∧ SqB b K H a vs ∧ RFs K φ Z H xs vs ∧ ∀ {φ' Z' H'}, Later φ Z H φ' Z' H' → SqB b K H' a vs := by
  cases r <;> simp only [wseq, Option.some.injEq, Prod.mk.injEq] at e <;> first | (cases e; done) | skip
  all_goals obtain ⟨rfl, rfl⟩ := e
  case lst h n r => exact ⟨_, _, rfl, SqL.of h, r, fun L => SqL.of (L.at h n).1⟩
  case tup h r => exact ⟨_, _, rfl, h.sq, r, fun L => (h.mono L).sq⟩
theorem pi_zipop {p tpos : Pos} {elts : List Expr} {kk : Nat} (hg : Gl X "zip") (hm : X.mg "zip" = none) (hs : isStar a = false) (hs2 : isStar b = false) (ha : PE X a (rdE X.K false ma)) (hb : PE X b (rdE X.K false mb)) : PI X (.Tuple elts kk tpos) (.Call (.Name "zip" p) [a, b] [] pos) (rdI X.K (mZip ma mb)) :=
  (pi_zipB hg hm (pa_consop hs ha (pa_consop hs2 hb pa_nilop)) (star_cons hs) (by rw [star_cons hs2]; rfl)).imp fun σ H Q ⟨E, σw, S, φ, R, ws, S', q, k⟩ => by
    obtain ⟨x, S1, e1, q1⟩ := bind_ok q
    clear q
    obtain ⟨y, S2, e3, q⟩ := bind_ok q1
    clear q1
    split at q
    · rename_i b1 xs b2 ys hx hy
      cases q
      have e2 : mCons ma (mCons mb mNil) σw S = .ok [x, y] S' := by
        unfold mCons; rw [e1]; show (Res.bind (Res.bind (mb σw S1) _) _) = _; rw [e3]; rfl
      refine ⟨E, σw, S, φ, R, _, _, e2, fun φ1 H1 us x1 R1 r1 => ?_⟩
      obtain ⟨u, t, rfl, ru, rt⟩ := rxs_cons2 r1 rfl
      obtain ⟨pa, va, rfl, sa, ra, la⟩ := wseq_rf ru.fr hx
      obtain ⟨pb, vb, rfl, sb, rb, lb⟩ := wseq_rf rt.fr hy
      refine ⟨b1, b2, pa, pb, va, vb, rfl, sa, sb, k φ1 H1 _ x1 R1 fun φ' Z' H' L al => ?_⟩
      have ra' := ra.mono L
      have rb' := rb.mono L
      have l1 := ra'.len
      have l2 := rb'.len
      refine ⟨⟨_, _, la L, lb L, ?_⟩, fun i w hw => ?_⟩
      · simp only [List.length_map, List.length_zip, ← l1, ← l2]
        omega
      rw [List.getElem?_map] at hw
      obtain ⟨pr, hp, hw⟩ := Option.map_eq_some_iff.mp hw
      subst hw
      obtain ⟨h1, h2⟩ := List.getElem?_zip_eq_some.mp hp
      obtain ⟨z1, hz1, rz1⟩ := ra'.get h1
      obtain ⟨z2, hz2, rz2⟩ := rb'.get h2
      refine ⟨⟨_, _, z1, z2, la L, lb L, hz1, hz2⟩, fun x H'' y => ?_⟩
      obtain ⟨T, x', y', e3, hT, e4, y1, y2⟩ := y
      subst e3 e4
      have q1 := y1 _ (la L)
      rw [hz1] at q1; cases q1
      have q2 := y2 _ (lb L)
      rw [hz2] at q2; cases q2
      have nT : ¬ Z' T := fun z => al T z hT
      exact ⟨same_new hT, .tup (.inl ⟨upd_same, nT⟩) ((RFs.cons rz1 (.cons rz2 .nil)).mono (.same (same_new hT) fun _ z => z))⟩
    · cases q
/-! ### comprehensions as expressions -/
theorem pe_lcop {mit : M (List W)} {bd : W → M Sls} {mt : M Bool} {me : M W} {own : List (Str × Nat)} {cs : Scope} {it : Expr} {ifs : List Expr} (hc : X.calm = true) (hN : X.N.Nodup) (hi : PI X tg it (rdI X.K mit)) (ok : BlkOk X.N X.env.scope cs own) (hb : BdOk (own.map (·.2)) bd)
    (hg : ∀ (s : Shared) (H : Hp) (C : Addr) (cl : List (Str × Addr)) (fp : List Addr), PG (X.blk s H cs (compEnvC cs cl C X.env) fp) tg (rdG X.K (own.map (·.2)) bd)) (ht : ∀ (s : Shared) (H : Hp) (C : Addr) (cl : List (Str × Addr)) (fp : List Addr), PTs (X.blk s H cs (compEnvC cs cl C X.env) fp) ifs (rdT X.K mt))
    (he : ∀ (s : Shared) (H : Hp) (C : Addr) (cl : List (Str × Addr)) (fp : List Addr), PE (X.blk s H cs (compEnvC cs cl C X.env) fp) e (rdE X.K false me)) (hs : isSet it = false) : PE X (.ListComp e [⟨tg, it, ifs, 0⟩] cs pos) (rdN X.K (mLc mit bd mt me (own.map (·.2)))) :=
  (pe_lc hc hN hi ok hg ht he (by cases it <;> first | (intro _; rfl) | cases hs)).imp fun σ H Q ⟨E, σw, S, φ, R, w, S', q, k⟩ => lc_go hb R q k
theorem pe_dcop {mit : M (List W)} {bd : W → M Sls} {mt : M Bool} {mk me : M W} {own : List (Str × Nat)} {cs : Scope} {kx it : Expr} {ifs : List Expr} (hc : X.calm = true) (hN : X.N.Nodup) (hi : PI X tg it (rdI X.K mit)) (ok : BlkOk X.N X.env.scope cs own) (hb : BdOk (own.map (·.2)) bd)
    (hg : ∀ (s : Shared) (H : Hp) (C : Addr) (cl : List (Str × Addr)) (fp : List Addr), PG (X.blk s H cs (compEnvC cs cl C X.env) fp) tg (rdG X.K (own.map (·.2)) bd)) (ht : ∀ (s : Shared) (H : Hp) (C : Addr) (cl : List (Str × Addr)) (fp : List Addr), PTs (X.blk s H cs (compEnvC cs cl C X.env) fp) ifs (rdT X.K mt))
    (hk : ∀ (s : Shared) (H : Hp) (C : Addr) (cl : List (Str × Addr)) (fp : List Addr), PE (X.blk s H cs (compEnvC cs cl C X.env) fp) kx (rdE X.K true mk))
    (he : ∀ (s : Shared) (H : Hp) (C : Addr) (cl : List (Str × Addr)) (fp : List Addr), PE (X.blk s H cs (compEnvC cs cl C X.env) fp) e (rdE X.K false me)) (hs : isSet it = false) : PE X (.DictComp kx e [⟨tg, it, ifs, 0⟩] cs pos) (rdN X.K (mDc mit bd mt mk me (own.map (·.2)))) :=
  (pe_dc hc hN hi ok hg ht hk he (by cases it <;> first | (intro _; rfl) | cases hs)).imp fun σ H Q ⟨E, σw, S, φ, R, w, S', q, k⟩ => dc_go hb R q k
theorem pe_lcop2 {mit mit1 : M (List W)} {bd bd1 : W → M Sls} {mt mt1 : M Bool} {me : M W} {own : List (Str × Nat)} {own1 : List Nat} {cs : Scope} {it it1 tg1 : Expr} {ifs ifs1 : List Expr} (hc : X.calm = true) (hN : X.N.Nodup) (hi : PI X tg it (rdI X.K mit)) (ok : BlkOk X.N X.env.scope cs own) (hv : ∀ i ∈ own1, i ∈ own.map (·.2)) (hb : BdOk (own.map (·.2)) bd) (hb1 : BdOk own1 bd1)
    (hg : ∀ (s : Shared) (H : Hp) (C : Addr) (cl : List (Str × Addr)) (fp : List Addr), PG (X.blk s H cs (compEnvC cs cl C X.env) fp) tg (rdG X.K (own.map (·.2)) bd)) (ht : ∀ (s : Shared) (H : Hp) (C : Addr) (cl : List (Str × Addr)) (fp : List Addr), PTs (X.blk s H cs (compEnvC cs cl C X.env) fp) ifs (rdT X.K mt))
    (hi1 : ∀ (s : Shared) (H : Hp) (C : Addr) (cl : List (Str × Addr)) (fp : List Addr), PI (X.blk s H cs (compEnvC cs cl C X.env) fp) tg1 it1 (rdI X.K mit1))
    (hg1 : ∀ (s : Shared) (H : Hp) (C : Addr) (cl : List (Str × Addr)) (fp : List Addr), PG (X.blk s H cs (compEnvC cs cl C X.env) fp) tg1 (rdG X.K own1 bd1)) (ht1 : ∀ (s : Shared) (H : Hp) (C : Addr) (cl : List (Str × Addr)) (fp : List Addr), PTs (X.blk s H cs (compEnvC cs cl C X.env) fp) ifs1 (rdT X.K mt1))
    (he : ∀ (s : Shared) (H : Hp) (C : Addr) (cl : List (Str × Addr)) (fp : List Addr), PE (X.blk s H cs (compEnvC cs cl C X.env) fp) e (rdE X.K false me)) (hs : isSet it = false) (hs1 : isSet it1 = false) : PE X (.ListComp e [⟨tg, it, ifs, 0⟩, ⟨tg1, it1, ifs1, 0⟩] cs pos) (rdN X.K (mLc2 mit bd mt mit1 bd1 mt1 me (own.map (·.2)) own1)) :=
  (pe_lc2 hc hN hi ok hv hg ht hi1 hg1 ht1 he (by cases it <;> first | (intro _; rfl) | cases hs) (by cases it1 <;> first | (intro _ _; rfl) | cases hs1)).imp fun σ H Q ⟨E, σw, S, φ, R, w, S', q, k⟩ => lc2_go hb hb1 R q k
end
end EV

namespace EV
open PySem PySem.Spec PyProof.Rows L2
section
variable {X : Cx} {a b c e o tg : Expr} {mo m ma mb me mi : M W} {br : Bool} {pos apos : Pos} {E : Ent} {σw σw' : Sls} {S S' : Sto} {φ φ' : List Addr} {σ σ' : L2.St} {H H' : Hp} {w x : W} {v : V} {es : List Expr} {la : M (List W)} {p : Addr} {Q : VK} {D : Ends} {f g : M Fl} {mt : M Bool}
/-! ### statements -/
theorem okS_move {K : PySem.W.Frag} {r : Res Fl} (L : Later φ (ZZ E σw φ σ) H φ' (ZZ E σw' φ' σ') H') (h : okS K E σw φ σ H r D) : okS K E σw' φ' σ' H' r D := by
  cases r with
  | ok fl S =>
    cases fl with
    | nx s => exact fun φ2 σ2 H2 L2 R2 => h φ2 σ2 H2 (L.trans L2) R2
    | bk s => exact fun φ2 σ2 H2 L2 R2 => h φ2 σ2 H2 (L.trans L2) R2
    | ct s => exact fun φ2 σ2 H2 L2 R2 => h φ2 σ2 H2 (L.trans L2) R2
    | rt w => exact fun φ2 H2 v L2 R2 => h φ2 H2 v (L.trans L2) R2
  | ex c as S => exact h
  | bad => exact h
theorem ps_nextop {st : Stmt} (h : PS X st tNext) : PS X st (rdS X.K sNext) := h.imp fun D σ H ⟨E, σw, S, φ, R, k⟩ => k φ σ H .refl R
theorem ps_brkop : PS X (.Break pos) (rdS X.K sBrk) := ps_break.imp fun D σ H ⟨E, σw, S, φ, R, k⟩ => k φ σ H .refl R
theorem ps_cntop : PS X (.Continue pos) (rdS X.K sCnt) := ps_continue.imp fun D σ H ⟨E, σw, S, φ, R, k⟩ => k φ σ H .refl R
theorem pss_nilop : PSs X [] (rdS X.K sNext) := pss_nil.imp fun D σ H ⟨E, σw, S, φ, R, k⟩ => k φ σ H .refl R
theorem seq_go {K : PySem.W.Frag} (R : Rl K E σw S φ σ H) (k : okS K E σw φ σ H (sSeq f g σw S) D) : rdS K f { D with nx := rdS K g D } σ H := by
  refine ⟨E, σw, S, φ, R, ?_⟩
  unfold sSeq at k
  cases hr : f σw S with
  | ok fl S1 =>
    rw [hr] at k
    cases fl with
    | nx s => exact fun φ1 σ1 H1 L1 R1 => ⟨E, s, S1, φ1, R1, okS_move L1 k⟩
    | bk s => exact k
    | ct s => exact k
    | rt w => exact k
  | ex c as S1 => rw [hr] at k; exact k
  | bad => rw [hr] at k; exact k
theorem pss_consop {st : Stmt} {rest : List Stmt} (h1 : PS X st (rdS X.K f)) (h2 : PSs X rest (rdS X.K g)) : PSs X (st :: rest) (rdS X.K (sSeq f g)) :=
  (pss_cons h1 h2).imp fun D σ H ⟨E, σw, S, φ, R, k⟩ => seq_go R k
theorem pss_oneop {st : Stmt} (h1 : PS X st (rdS X.K f)) : PSs X [st] (rdS X.K f) := pss_one h1
/-- an expression first -/
theorem okS_bind {α : Type} {r : Res α} {F : α → Sto → Res Fl} {K : PySem.W.Frag} (k : okS K E σw φ σ H (r.bind F) D) : ∃ x S1, r = .ok x S1 ∧ okS K E σw φ σ H (F x S1) D := by
  cases r with
  | ok x S1 => exact ⟨x, S1, rfl, k⟩
  | ex c as S1 => exact k.elim
  | bad => exact k.elim
theorem ps_dropop (hs : isLCm e = false ∧ isSDC e = false) (he : PE X e (rdE X.K false me)) : PS X (.Expr e pos) (rdS X.K (sDrop me)) :=
  (ps_expr he (by cases e <;> first | rfl | (cases hs.1; done) | (cases hs.2; done))).imp fun D σ H ⟨E, σw, S, φ, R, k⟩ => by
    obtain ⟨x, S1, e1, k⟩ := okS_bind k
    exact ⟨E, σw, S, φ, R, x, S1, e1, fun φ1 H1 v x1 R1 _ => k φ1 σ H1 x1.later R1⟩
theorem ret_z : ∀ a, (E.Z a ∨ a ∈ φ) → ZZ E σw φ σ a := fun a h => h.elim .inl fun m => .inr (.inl m)
theorem ret_ok {K : PySem.W.Frag} (R : Rl K E σw S φ σ H) (r : RF K φ (ZZ E σw φ σ) H w v) : RetOk K E S φ H w v := by
  have z : ∀ a, (E.Z a ∨ a ∈ φ) → ZZ E σw φ σ a := fun a h => h.elim .inl fun m => .inr (.inl m)
  exact ⟨R.st.mono (.less z) fun _ _ _ h => h, r.mono (.less z), R.eφ, R.ekeep, R.enew, R.efz⟩
theorem ps_retop (he : PE X e (rdE X.K false me)) : PS X (.Return (some e) pos) (rdS X.K (sRet me)) :=
  (ps_ret he).imp fun D σ H ⟨E, σw, S, φ, R, k⟩ => by
    obtain ⟨x, S1, e1, k⟩ := okS_bind k
    exact ⟨E, σw, S, φ, R, x, S1, e1, fun φ1 H1 v x1 R1 r1 => k φ1 H1 v (x1.later.trans (.less ret_z)) (ret_ok R1 r1.fr)⟩
theorem ps_retNop : PS X (.Return none pos) (rdS X.K sRetN) := ps_retN.imp fun D σ H ⟨E, σw, S, φ, R, k⟩ => k φ H .non (.less ret_z) (ret_ok R .non)
theorem ps_ifop {t : Expr} {A B : List Stmt} (ht : PT X t (rdT X.K mt)) (ha : PSs X A (rdS X.K f)) (hb : PSs X B (rdS X.K g)) : PS X (.If t A B pos) (rdS X.K (sIf mt f g)) :=
  (ps_if ht ha hb).imp fun D σ H ⟨E, σw, S, φ, R, k⟩ => by
    obtain ⟨d, S1, e1, k⟩ := okS_bind k
    refine ⟨E, σw, S, φ, R, d, S1, e1, fun φ1 H1 x1 R1 => ?_⟩
    cases d with
    | true => exact ⟨E, σw, S1, φ1, R1, okS_move x1.later k⟩
    | false => exact ⟨E, σw, S1, φ1, R1, okS_move x1.later k⟩
/-! ### stores to names -/
theorem later_fr {i : Nat} {K : PySem.W.Frag} (R : Rl K E σw S φ σ H) (r : RF K φ (ZZ E σw φ σ) H w v) : Later φ (ZZ E σw φ σ) H φ (ZZ E (σw.set i (.fr w)) φ (σ.set i (some v))) H := .less (R.setFr r).2
theorem ps_setop {i : Nat} (h : ∀ {te : TE}, PE X e te → PS X (.Assign [tg] e pos) (tAsg te (gName i))) (he : PE X e (rdE X.K false me)) : PS X (.Assign [tg] e pos) (rdS X.K (sSet i me)) :=
  (h he).imp fun D σ H ⟨E, σw, S, φ, R, k⟩ => by
    obtain ⟨x, S1, e1, k⟩ := okS_bind k
    exact ⟨E, σw, S, φ, R, x, S1, e1, fun φ1 H1 v x1 R1 r1 => k φ1 _ H1 (x1.later.trans (later_fr R1 r1.fr)) (R1.setFr r1.fr).1⟩
/-- .. a new list or dict that becomes a shared object -/
theorem ps_setSop {i : Nat} (h : PS X (.Assign [tg] e pos) (tAsg (rdN X.K me) (gName i))) : PS X (.Assign [tg] e pos) (rdS X.K (sSet i (mToLoc me))) := h.imp fun D σ H ⟨E, σw, S, φ, R, k⟩ => toLoc_go (X := X) (br := false) (by
    obtain ⟨x, S1, e1, k⟩ := okS_bind k
    exact ⟨E, σw, S, φ, R, x, S1, e1, fun φ1 H1 v x1 R1 r1 => k φ1 _ H1 (x1.later.trans (later_fr R1 r1.fr)) (R1.setFr r1.fr).1⟩)
/-- a slot takes a new list or dict as its own -/
theorem Rl.setOw {K : PySem.W.Frag} {i : Nat} (R : Rl K (E.plus p) σw S φ σ H) (hp : ¬ ZZ E σw φ σ p) (he : E.H p = none) (hw : Holds K φ (ZZ (E.plus p) σw φ σ) H w p) :
    Rl K E (σw.set i (.ow w)) S φ (σ.set i (some (.ref p))) H ∧ ∀ a, ZZ E (σw.set i (.ow w)) φ (σ.set i (some (.ref p))) a → ZZ E σw φ σ a ∨ a = p := by
  have o1 : ∀ j u, (σw.set i (.ow w))[j]? = some (.ow u) → (j = i ∧ u = w ∧ i < σw.length) ∨ (j ≠ i ∧ σw[j]? = some (.ow u)) := fun j u h => by
    by_cases e : i = j
    · subst e
      by_cases hl : i < σw.length
      · rw [List.getElem?_set_self hl] at h; cases h; exact .inl ⟨rfl, rfl, hl⟩
      · rw [List.getElem?_eq_none (by simpa using hl)] at h; cases h
    · rw [List.getElem?_set_ne e] at h
      exact .inr ⟨fun z => e z.symm, h⟩
  have z : ∀ a, ZZ E (σw.set i (.ow w)) φ (σ.set i (some (.ref p))) a → ZZ E σw φ σ a ∨ a = p := fun a z => by
    rcases z with z | z | ⟨j, u, f, g⟩
    · exact .inl (.inl z)
    · exact .inl (.inr (.inl z))
    · rcases o1 j u f with ⟨rfl, rfl, hl⟩ | ⟨n, f⟩
      · rw [List.getElem?_set_self (by rw [R.len]; exact hl)] at g
        cases g; exact .inr rfl
      · rw [List.getElem?_set_ne (Ne.symm n)] at g
        exact .inl (.inr (.inr ⟨j, u, f, g⟩))
  have z' : ∀ a, ZZ E (σw.set i (.ow w)) φ (σ.set i (some (.ref p))) a → ZZ (E.plus p) σw φ σ a := fun a h => (z a h).elim zz_of_plus fun q => .inl (.inr q)
  have L : Later φ (ZZ (E.plus p) σw φ σ) H φ (ZZ E (σw.set i (.ow w)) φ (σ.set i (some (.ref p)))) H := .less z'
  refine ⟨⟨R.st.mono L fun _ _ _ h => h, by rw [List.length_set, List.length_set]; exact R.len, fun j u f => ?_, fun j u f => ?_, fun j j' u u' a f f' g g' => ?_, fun a m q => R.zφ a m (.inl q), fun a q => R.zal a (.inl q), R.eφ, R.ekeep, R.enew, R.efz⟩, z⟩
  · have n : i ≠ j := fun e => by
      subst e
      by_cases hl : i < σw.length
      · rw [List.getElem?_set_self hl] at f; cases f
      · rw [List.getElem?_eq_none (by simpa using hl)] at f; cases f
    rw [List.getElem?_set_ne n] at f ⊢
    obtain ⟨v, g, r⟩ := R.fr j u f
    exact ⟨v, g, r.mono L⟩
  · rcases o1 j u f with ⟨rfl, rfl, hl⟩ | ⟨n, f⟩
    · exact ⟨p, by rw [List.getElem?_set_self (by rw [R.len]; exact hl)], hw.mono L fun _ h => h, fun m => hp (.inr (.inl m)), fun q => hp (.inl q), he⟩
    · obtain ⟨a, g, h, n1, n2, n3⟩ := R.ow j u f
      exact ⟨a, by rw [List.getElem?_set_ne (Ne.symm n)]; exact g, h.mono L fun _ h => h, n1, fun q => n2 (.inl q), n3⟩
  · have own : ∀ (j : Nat) (u : W) (a : Addr), (σw.set i (Sl.ow w))[j]? = some (Sl.ow u) → (σ.set i (some (V.ref p)))[j]? = some (some (V.ref a)) → (j = i ∧ a = p) ∨ (j ≠ i ∧ σw[j]? = some (Sl.ow u) ∧ σ[j]? = some (some (V.ref a))) := fun j u a f g => by
      rcases o1 j u f with ⟨rfl, rfl, hl⟩ | ⟨n, f⟩
      · rw [List.getElem?_set_self (by rw [R.len]; exact hl)] at g
        cases g; exact .inl ⟨rfl, rfl⟩
      · rw [List.getElem?_set_ne (Ne.symm n)] at g
        exact .inr ⟨n, f, g⟩
    have np : ∀ (j : Nat) (u : W), σw[j]? = some (Sl.ow u) → σ[j]? = some (some (V.ref p)) → False := fun j u f g => by
      obtain ⟨a, g', _, _, n2, _⟩ := R.ow j u f
      rw [g] at g'; cases g'
      exact n2 (.inr rfl)
    rcases own j u a f g with ⟨e1, e2⟩ | ⟨e1, f1, g1⟩ <;> rcases own j' u' a f' g' with ⟨e3, e4⟩ | ⟨e3, f2, g2⟩
    · rw [e1, e3]
    · subst e2; exact (np _ _ f2 g2).elim
    · subst e4; exact (np _ _ f1 g1).elim
    · exact R.inj j j' u u' a f1 f2 g1 g2
theorem own_go {K : PySem.W.Frag} {i : Nat} {H0 : Hp} (n : New K E σw S φ σ H0 H w v) : Rl K E (σw.set i (mkOwn w)) S φ (σ.set i (some v)) H ∧ ∀ a, ZZ E (σw.set i (mkOwn w)) φ (σ.set i (some v)) a → ZZ E σw φ σ a ∨ H0 a = none := by
  cases w with
  | lst ws =>
    obtain ⟨p, vs, rfl, hp, h0, nz, he, R, r⟩ := n
    obtain ⟨R1, z⟩ := R.setOw (i := i) nz he (.inl ⟨ws, vs, rfl, hp, r⟩)
    exact ⟨R1, fun a h => (z a h).imp id fun q => by rw [q]; exact h0⟩
  | dct ws =>
    obtain ⟨p, vs, rfl, hp, h0, nz, he, R, r⟩ := n
    obtain ⟨R1, z⟩ := R.setOw (i := i) nz he (.inr ⟨ws, vs, rfl, hp, r⟩)
    exact ⟨R1, fun a h => (z a h).imp id fun q => by rw [q]; exact h0⟩
  | _ =>
    obtain ⟨R1, z⟩ := Rl.setFr (i := i) n.1 n.2
    exact ⟨R1, fun a h => .inl (z a h)⟩
theorem ps_setFop {i : Nat} (h : PS X (.Assign [tg] e pos) (tAsg (rdN X.K me) (gName i))) : PS X (.Assign [tg] e pos) (rdS X.K (sSetF i me)) :=
  h.imp fun D σ H ⟨E, σw, S, φ, R, k⟩ => by
    obtain ⟨x, S1, e1, k⟩ := okS_bind k
    refine ⟨E, σw, S, φ, R, x, S1, e1, fun φ1 H1 v x1 n => ?_⟩
    obtain ⟨R1, z⟩ := own_go (i := i) n
    refine k φ1 _ H1 ⟨x1.ix, fun a o q h => x1.keep a o (fun m => q (.inr (.inl m))) h, fun a h => ?_, x1.fz⟩ R1
    rcases z a h with z | z
    · rcases z with z | z | z
      · exact .inl (.inl z)
      · exact (x1.new a z).imp (fun z => .inr (.inl z)) id
      · exact .inl (.inr (.inr z))
    · exact .inr z
/-- .. one that the comprehension's own words store -/
theorem ps_setLcop {i : Nat} {y : Str} {py : Pos} {mit : M (List W)} {bd : W → M Sls} {own : List (Str × Nat)} {cs : Scope} {it : Expr} {ifs : List Expr} {spos : Pos} (hc : X.calm = true) (hN : X.N.Nodup) (hy : X.N[i]? = some y) (hyl : X.env.scope.names.lookup y = some .local)
    (hsw : swapsWith (.ListComp e [⟨tg, it, ifs, 0⟩] cs pos) (some (.Name y py)) spos.line X.env = pure true) (hi : PI X tg it (rdI X.K mit)) (ok : BlkOk X.N X.env.scope cs own) (hb : BdOk (own.map (·.2)) bd)
    (hg : ∀ (s : Shared) (H : Hp) (C : Addr) (cl : List (Str × Addr)) (fp : List Addr), PG (X.blk s H cs (compEnvC cs cl C X.env) fp) tg (rdG X.K (own.map (·.2)) bd)) (ht : ∀ (s : Shared) (H : Hp) (C : Addr) (cl : List (Str × Addr)) (fp : List Addr), PTs (X.blk s H cs (compEnvC cs cl C X.env) fp) ifs (rdT X.K mt))
    (he : ∀ (s : Shared) (H : Hp) (C : Addr) (cl : List (Str × Addr)) (fp : List Addr), PE (X.blk s H cs (compEnvC cs cl C X.env) fp) e (rdE X.K false me)) (hs : isSet it = false) : PS X (.Assign [.Name y py] (.ListComp e [⟨tg, it, ifs, 0⟩] cs pos) spos) (tAsg (rdN X.K (mLc mit bd mt me (own.map (·.2)))) (gName i)) :=
  (ps_setLc hc hN hy hyl hsw hi ok hg ht he (by cases it <;> first | (intro _; rfl) | cases hs)).imp fun D σ H ⟨E, σw, S, φ, R, w, S', q, k⟩ => lc_go hb R q k
theorem ps_setDcop {i : Nat} {y : Str} {py : Pos} {mit : M (List W)} {bd : W → M Sls} {mt : M Bool} {mk me : M W} {own : List (Str × Nat)} {cs : Scope} {kx it : Expr} {ifs : List Expr} {spos : Pos} (hc : X.calm = true) (hN : X.N.Nodup) (hy : X.N[i]? = some y) (hyl : X.env.scope.names.lookup y = some .local)
    (hsw : swapsWith (.DictComp kx e [⟨tg, it, ifs, 0⟩] cs pos) (some (.Name y py)) spos.line X.env = pure true) (hi : PI X tg it (rdI X.K mit)) (ok : BlkOk X.N X.env.scope cs own) (hb : BdOk (own.map (·.2)) bd)
    (hg : ∀ (s : Shared) (H : Hp) (C : Addr) (cl : List (Str × Addr)) (fp : List Addr), PG (X.blk s H cs (compEnvC cs cl C X.env) fp) tg (rdG X.K (own.map (·.2)) bd)) (ht : ∀ (s : Shared) (H : Hp) (C : Addr) (cl : List (Str × Addr)) (fp : List Addr), PTs (X.blk s H cs (compEnvC cs cl C X.env) fp) ifs (rdT X.K mt))
    (hk : ∀ (s : Shared) (H : Hp) (C : Addr) (cl : List (Str × Addr)) (fp : List Addr), PE (X.blk s H cs (compEnvC cs cl C X.env) fp) kx (rdE X.K true mk))
    (he : ∀ (s : Shared) (H : Hp) (C : Addr) (cl : List (Str × Addr)) (fp : List Addr), PE (X.blk s H cs (compEnvC cs cl C X.env) fp) e (rdE X.K false me)) (hs : isSet it = false) : PS X (.Assign [.Name y py] (.DictComp kx e [⟨tg, it, ifs, 0⟩] cs pos) spos) (tAsg (rdN X.K (mDc mit bd mt mk me (own.map (·.2)))) (gName i)) :=
  (ps_setDc hc hN hy hyl hsw hi ok hg ht hk he (by cases it <;> first | (intro _; rfl) | cases hs)).imp fun D σ H ⟨E, σw, S, φ, R, w, S', q, k⟩ => dc_go hb R q k
theorem ps_asgop {bd : W → M Sls} {own : List Nat} (h : ∀ {te : TE} {tgt : TG}, PE X e te → PG X tg tgt → PS X (.Assign [tg] e pos) (tAsg te tgt)) (hb : BdOk own bd) (he : PE X e (rdE X.K false me)) (hg : PG X tg (rdG X.K own bd)) : PS X (.Assign [tg] e pos) (rdS X.K (sAsg me bd)) :=
  (h he hg).imp fun D σ H ⟨E, σw, S, φ, R, k⟩ => by
    obtain ⟨x, S1, e1, k1⟩ := okS_bind k
    refine ⟨E, σw, S, φ, R, x, S1, e1, fun φ1 H1 v x1 R1 r1 => ?_⟩
    obtain ⟨σw1, S2, b1, k2⟩ := okS_bind k1
    have e5 := (hb _ _ _ _ _ b1).1
    subst e5
    exact ⟨E, σw, _, φ1, x, R1, r1.fr, σw1, b1, fun σ1 _ R2 z => k2 φ1 σ1 H1 (x1.later.trans (.less z)) R2⟩
theorem ps_parop {i j : Nat} (h : ∀ {ta : TA}, PA X [a, b] ta → PS X (.Assign [tg] e pos) (tPar i j ta)) (hs : isStar a = false) (hs2 : isStar b = false) (ha : PE X a (rdE X.K false ma)) (hb : PE X b (rdE X.K false mb)) : PS X (.Assign [tg] e pos) (rdS X.K (sPar i j ma mb)) :=
  (h (pa_consop hs ha (pa_consop hs2 hb pa_nilop))).imp fun D σ H ⟨E, σw, S, φ, R, k⟩ => by
    obtain ⟨x, S1, e1, k⟩ := okS_bind k
    obtain ⟨y, S2, e2, k⟩ := okS_bind k
    have e3 : mCons ma (mCons mb mNil) σw S = .ok [x, y] S2 := by
      unfold mCons; rw [e1]; show (Res.bind (Res.bind (mb σw S1) _) _) = _; rw [e2]; rfl
    refine ⟨E, σw, S, φ, R, _, _, e3, fun φ1 H1 us x1 R1 r1 => ?_⟩
    obtain ⟨u, t, rfl, ru, rt⟩ := rxs_cons2 r1 rfl
    obtain ⟨R2, z2⟩ := R1.setFr (i := i) ru.fr
    have rt' := rt.fr.mono (.less z2)
    exact ⟨u, t, rfl, k φ1 _ H1 (x1.later.trans ((later_fr R1 ru.fr).trans (later_fr R2 rt'))) (R2.setFr rt').1⟩
theorem ps_augop {i : Nat} {op : Operator} (h : ∀ {te : TE} {ti : TIp}, PE X e te → PIp X op ti → PS X (.AugAssign tg op e pos) (tAug i te ti)) (he : PE X e (rdE X.K false me)) : PS X (.AugAssign tg op e pos) (rdS X.K (sAug i op me)) :=
  PS.any fun D σ H ⟨E, σw, S, φ, R, k⟩ => by
    unfold sAug at k
    split at k
    · rename_i x hx
      obtain ⟨y, S1, e1, k⟩ := okS_bind k
      obtain ⟨u, hu, ru⟩ := R.fr i _ hx
      cases ru
      have go : ∀ (F : Int → Int → Int) (z : Int), y = .int z → okS X.K E σw φ σ H (.ok (.nx (σw.set i (.fr (.int (F x z))))) S1) D → tAug i (rdE X.K false me) (ipI F) D σ H := fun F z hy k2 => by
        subst hy
        refine ⟨.int x, hu, E, σw, S, φ, R, _, S1, e1, fun φ1 H1 v x1 R1 r1 => ?_⟩
        cases r1.fr
        exact ⟨x, z, rfl, rfl, k2 φ1 _ H1 (x1.later.trans (later_fr R1 (.int _))) (R1.setFr (.int _)).1⟩
      split at k
      · exact ⟨_, h he ip_add, go _ _ rfl k⟩
      · exact ⟨_, h he ip_sub, go _ _ rfl k⟩
      · exact k.elim
    · exact k.elim
/-- lists of one's own become values that stay -/
theorem Rl.frz {K : PySem.W.Frag} (R : Rl K E σw S φ σ H) : ∀ is : List Nat, Rl K E (frz σw is) S φ σ H ∧ ∀ a, ZZ E (frz σw is) φ σ a → ZZ E σw φ σ a
  | [] => ⟨R, fun _ z => z⟩
  | i :: is => by
    obtain ⟨R1, z1⟩ := Rl.frz R is
    unfold EV.frz
    split
    · rename_i w hw
      obtain ⟨a, g, hh, n1, n2, n3⟩ := R1.ow i w hw
      have hsz : ((EV.frz σw is).set i (.fr w)).length = (EV.frz σw is).length := List.length_set ..
      have o1 : ∀ j u, ((EV.frz σw is).set i (.fr w))[j]? = some (.ow u) → j ≠ i ∧ (EV.frz σw is)[j]? = some (.ow u) := fun j u h => by
        by_cases e : i = j
        · subst e
          rw [List.getElem?_set_self (List.getElem?_eq_some_iff.mp hw).1] at h; cases h
        · rw [List.getElem?_set_ne e] at h
          exact ⟨fun z => e z.symm, h⟩
      have z : ∀ b, ZZ E ((EV.frz σw is).set i (.fr w)) φ σ b → ZZ E (EV.frz σw is) φ σ b := fun b z => by
        rcases z with z | z | ⟨j, u, f, g⟩
        · exact .inl z
        · exact .inr (.inl z)
        · exact .inr (.inr ⟨j, u, (o1 j u f).2, g⟩)
      have na : ¬ ZZ E ((EV.frz σw is).set i (.fr w)) φ σ a := fun z => by
        rcases z with z | z | ⟨j, u, f, g'⟩
        · exact n2 z
        · exact n1 z
        · obtain ⟨n, f⟩ := o1 j u f
          exact n (R1.inj j i u w a f hw g' g)
      have L : Later φ (ZZ E (EV.frz σw is) φ σ) H φ (ZZ E ((EV.frz σw is).set i (.fr w)) φ σ) H := .less z
      refine ⟨⟨R1.st.mono L fun _ _ _ h => h, by rw [hsz]; exact R1.len, fun j u f => ?_, fun j u f => ?_, fun j j' u u' b f f' g g' => R1.inj j j' u u' b (o1 j u f).2 (o1 j' u' f').2 g g', R1.zφ, R1.zal, R1.eφ, R1.ekeep, R1.enew, R1.efz⟩, fun b h => z1 b (z b h)⟩
      · by_cases e : i = j
        · subst e
          rw [List.getElem?_set_self (List.getElem?_eq_some_iff.mp hw).1] at f
          cases f
          refine ⟨.ref a, g, ?_⟩
          rcases hh with ⟨ws, vs, rfl, h, r⟩ | ⟨ws, vs, rfl, h, r⟩
          · exact .lst h na (r.mono L)
          · exact .dct h na (r.mono L)
        · rw [List.getElem?_set_ne e] at f
          obtain ⟨v, g, r⟩ := R1.fr j u f
          exact ⟨v, g, r.mono L⟩
      · obtain ⟨b, g, h, n1⟩ := R1.ow j u (o1 j u f).2
        exact ⟨b, g, h.mono L fun _ h => h, n1⟩
    · exact ⟨R1, z1⟩
theorem ps_frzop {st : Stmt} {is : List Nat} (h : PS X st (rdS X.K f)) : PS X st (rdS X.K (sFrz is f)) := h.imp fun D σ H ⟨E, σw, S, φ, R, k⟩ => by
  obtain ⟨R1, z⟩ := R.frz is
  exact ⟨E, EV.frz σw is, S, φ, R1, okS_move (.less z) k⟩
end
end EV

namespace EV
open PySem PySem.Spec PyProof.Rows L2
section
variable {X : Cx} {a b c e o tg : Expr} {mo m ma mb me mi : M W} {br : Bool} {pos apos : Pos} {E : Ent} {σw σw' : Sls} {S S' : Sto} {φ φ' : List Addr} {σ σ' : L2.St} {H H' : Hp} {w x : W} {v : V} {es : List Expr} {la : M (List W)} {p : Addr} {Q : VK} {D : Ends} {f g : M Fl} {mt : M Bool}
/-! ### names -/
theorem pe_varop {i : Nat} {x : Str} (hN : X.N[i]? = some x) (hv : Vis X.env.scope x) (hd : (x == ("__debug__" : Str)) = false) (hcd : (x == ("__classdict__" : Str)) = false) : PE X (.Name x pos) (rdE X.K false (mVar i)) :=
  (pe_var hN hv hd hcd).imp fun σ H Q ⟨E, σw, S, φ, R, w, S', q, k⟩ => by
    unfold mVar at q
    split at q
    · rename_i w' hw
      cases q
      obtain ⟨v, hv, r⟩ := R.fr i _ hw
      exact ⟨v, hv, k φ H v .refl R (.inl r)⟩
    · cases q
theorem pe_varopB {i : Nat} {x : Str} (hN : X.N[i]? = some x) (hv : Vis X.env.scope x) (hd : (x == ("__debug__" : Str)) = false) (hcd : (x == ("__classdict__" : Str)) = false) : PE X (.Name x pos) (rdE X.K true (mVarB i)) :=
  (pe_var hN hv hd hcd).imp fun σ H Q ⟨E, σw, S, φ, R, w, S', q, k⟩ => by
    unfold mVarB at q
    split at q
    · rename_i w' hw
      cases q
      obtain ⟨v, hv, r⟩ := R.fr i _ hw
      exact ⟨v, hv, k φ H v .refl R (.inl r)⟩
    · rename_i w' hw
      cases q
      obtain ⟨a, ha, _⟩ := R.ow i _ hw
      exact ⟨_, ha, k φ H _ .refl R (.inr ⟨rfl, i, a, hw, ha, rfl⟩)⟩
    · cases q
/-! ### loops -/
theorem ps_forop {own : List Nat} {bd : W → M Sls} {mit : M (List W)} {it : Expr} {body : List Stmt} (hp : PassesOwn (model X.prog X.w) X.A X.env X.xe) (hc : X.calm = true) (hb : BdOk own bd) (hi : PI X tg it (rdI X.K mit)) (hg : PG X tg (rdG X.K own bd)) (hbody : PSs X body (rdS X.K f)) (hs : isSet it = false) :
    PS X (.For tg it body [] pos) (rdS X.K (sFor mit bd f)) :=
  (ps_for hp hc hi hg hbody (by cases it <;> first | (intro _; rfl) | cases hs)).imp fun D σ H ⟨E, σw, S, φ, R, k⟩ => by
    obtain ⟨ws, S1, e1, k1⟩ := okS_bind k
    refine ⟨E, σw, S, φ, R, ws, S1, e1, fun φ1 H1 J x1 R1 it => ?_⟩
    refine ⟨fun i m σ' H' => m = ws.length - i ∧ i ≤ ws.length ∧ ∃ σw' S' φ', Rl X.K E σw' S' φ' σ' H' ∧ Later φ1 (ZZ E σw φ1 σ) H1 φ' (ZZ E σw' φ' σ') H' ∧ okS X.K E σw' φ' σ' H' (forL bd f (ws.drop i) σw' S') D, ⟨_, rfl, Nat.zero_le _, σw, S1, φ1, R1, .refl, okS_move x1.later k1⟩, ?_⟩
    rintro i m σ' H' ⟨rfl, hi, σw', S', φ', R', L', k'⟩
    obtain ⟨st, go⟩ := it φ' _ H' L' fun a z => by obtain ⟨o, h⟩ := R'.alloc z; rw [h]; simp
    by_cases hlt : i < ws.length
    · right
      obtain ⟨g1, g2⟩ := go i _ (List.getElem?_eq_getElem hlt)
      have hdrop : ws.drop i = ws[i] :: ws.drop (i + 1) := (List.getElem_cons_drop ..).symm
      rw [hdrop, forL] at k'
      obtain ⟨σw1, Sa, b1, k2⟩ := okS_bind k'
      clear k'
      have hSa := (hb _ _ _ _ _ b1).1
      subst hSa
      refine ⟨g1, fun σ5 H5 => ∃ m', m' < ws.length - i ∧ (m' = ws.length - (i + 1) ∧ i + 1 ≤ ws.length ∧ ∃ σw' S' φ', Rl X.K E σw' S' φ' σ5 H5 ∧ Later φ1 (ZZ E σw φ1 σ) H1 φ' (ZZ E σw' φ' σ5) H5 ∧ okS X.K E σw' φ' σ5 H5 (forL bd f (ws.drop (i + 1)) σw' S') D), fun _ _ h => h, fun x H2 hy => ?_⟩
      obtain ⟨s2, rx⟩ := g2 x H2 hy
      refine ⟨E, σw', _, φ', _, R'.same s2, rx, σw1, b1, fun σ1 _ R3 z3 => ⟨E, σw1, _, φ', R3, ?_⟩⟩
      have L3 : Later φ' (ZZ E σw' φ' σ') H' φ' (ZZ E σw1 φ' σ1) H2 := .same s2 z3
      have step : ∀ (s : Sls) (S2 : Sto), okS X.K E σw' φ' σ' H' (forL bd f (ws.drop (i + 1)) s S2) D → ∀ φ5 σ5 H5, Later φ' (ZZ E σw1 φ' σ1) H2 φ5 (ZZ E s φ5 σ5) H5 → Rl X.K E s S2 φ5 σ5 H5 →
          ∃ m', m' < ws.length - i ∧ (m' = ws.length - (i + 1) ∧ i + 1 ≤ ws.length ∧ ∃ σw' S' φ', Rl X.K E σw' S' φ' σ5 H5 ∧ Later φ1 (ZZ E σw φ1 σ) H1 φ' (ZZ E σw' φ' σ5) H5 ∧ okS X.K E σw' φ' σ5 H5 (forL bd f (ws.drop (i + 1)) σw' S') D) :=
        fun s S2 k3 φ5 σ5 H5 L5 R5 => ⟨_, by omega, rfl, by omega, s, S2, φ5, R5, L'.trans (L3.trans L5), okS_move (L3.trans L5) k3⟩
      cases hr : f σw1 Sa with
      | ok fl S2 =>
        rw [hr] at k2
        cases fl with
        | nx s => exact step s S2 k2
        | ct s => exact step s S2 k2
        | bk s => exact fun φ5 σ5 H5 L5 R5 => k2 φ5 σ5 H5 (L3.trans L5) R5
        | rt w => exact fun φ5 H5 v L5 R5 => k2 φ5 H5 v (L3.trans L5) R5
      | ex c as S2 => rw [hr] at k2; exact k2.elim
      | bad => rw [hr] at k2; exact k2.elim
    · have hie : i = ws.length := by omega
      subst hie
      rw [List.drop_length] at k'
      exact .inl ⟨st, k' φ' σ' H' .refl R'⟩
theorem ps_whop {t : Expr} {body : List Stmt} (hp : PassesOwn (model X.prog X.w) X.A X.env X.xe) (ht : PT X t (rdT X.K mt)) (hbody : PSs X body (rdS X.K f)) : PS X (.While t body [] pos) (rdS X.K (sWh mt f)) :=
  (ps_while hp ht hbody).imp fun D σ H ⟨E, σw, S, φ, R, k⟩ => by
    refine ⟨fun m σ' H' => ∃ σw' S' φ', Rl X.K E σw' S' φ' σ' H' ∧ okS X.K E σw' φ' σ' H' (whL mt f m σw' S') D, ⟨_, σw, S, φ, R, k⟩, ?_⟩
    rintro m σ' H' ⟨σw', S', φ', R', k'⟩
    cases m with
    | zero => exact k'.elim
    | succ m =>
      rw [whL] at k'
      obtain ⟨b, S1, e1, k1⟩ := okS_bind k'
      refine ⟨E, σw', S', φ', R', b, S1, e1, fun φ1 H1 x1 R1 => ?_⟩
      cases b with
      | false => exact k1 φ1 σ' H1 x1.later R1
      | true =>
        have k1 : okS X.K E σw' φ' σ' H' ((f σw' S1).bind fun fl S2 => match fl with
          | .nx σ2 => whL mt f m σ2 S2
          | .ct σ2 => whL mt f m σ2 S2
          | .bk σ2 => .ok (.nx σ2) S2
          | .rt w => .ok (.rt w) S2) D := k1
        refine ⟨fun σ5 H5 => ∃ σw' S' φ', Rl X.K E σw' S' φ' σ5 H5 ∧ okS X.K E σw' φ' σ5 H5 (whL mt f m σw' S') D, fun σ5 H5 h => ⟨m, Nat.lt_succ_self _, h⟩, E, σw', S1, φ1, R1, ?_⟩
        cases hr : f σw' S1 with
        | ok fl S2 =>
          rw [hr] at k1
          cases fl with
          | nx s => exact fun φ5 σ5 H5 L5 R5 => ⟨s, S2, φ5, R5, okS_move (x1.later.trans L5) k1⟩
          | ct s => exact fun φ5 σ5 H5 L5 R5 => ⟨s, S2, φ5, R5, okS_move (x1.later.trans L5) k1⟩
          | bk s => exact fun φ5 σ5 H5 L5 R5 => k1 φ5 σ5 H5 (x1.later.trans L5) R5
          | rt w => exact fun φ5 H5 v L5 R5 => k1 φ5 H5 v (x1.later.trans L5) R5
        | ex c as S2 => rw [hr] at k1; exact k1.elim
        | bad => rw [hr] at k1; exact k1.elim
/-! ### stores to lists and dicts -/
/-- a list or dict of the slot's own is written -/
theorem Rl.setOwW {K : PySem.W.Frag} {n : Nat} {w' : W} {ho : HO} (R : Rl K E σw S φ σ H) (hw : σw[n]? = some (.ow w)) (hp : σ[n]? = some (some (.ref p))) (hf : ∀ o u, H p ≠ some (.frz o u))
    (h : Later φ (ZZ E σw φ σ) H φ (ZZ E σw φ σ) (upd H p ho) → Holds K φ (ZZ E σw φ σ) (upd H p ho) w' p) :
    Rl K E (σw.set n (.ow w')) S φ σ (upd H p ho) ∧ Later φ (ZZ E σw φ σ) H φ (ZZ E (σw.set n (.ow w')) φ σ) (upd H p ho) := by
  obtain ⟨a, g0, hh, n1, n2, n3⟩ := R.ow n w hw
  rw [hp] at g0; cases g0
  have hn := (List.getElem?_eq_some_iff.mp hw).1
  have o1 : ∀ (j : Nat) (u : W), (σw.set n (Sl.ow w'))[j]? = some (Sl.ow u) → (j = n ∧ u = w') ∨ (j ≠ n ∧ σw[j]? = some (Sl.ow u)) := fun j u h => by
    by_cases e : n = j
    · subst e; rw [List.getElem?_set_self hn] at h; cases h; exact .inl ⟨rfl, rfl⟩
    · rw [List.getElem?_set_ne e] at h; exact .inr ⟨fun z => e z.symm, h⟩
  have o2 : ∀ (j : Nat) (u : W), (σw.set n (Sl.ow w'))[j]? = some (Sl.ow u) → ∃ u', σw[j]? = some (Sl.ow u') := fun j u h => by
    rcases o1 j u h with ⟨rfl, _⟩ | ⟨_, h⟩
    · exact ⟨_, hw⟩
    · exact ⟨_, h⟩
  have z1 : ∀ a, ZZ E (σw.set n (.ow w')) φ σ a → ZZ E σw φ σ a := fun a z => by
    rcases z with z | z | ⟨j, u, f, g⟩
    · exact .inl z
    · exact .inr (.inl z)
    · obtain ⟨u', f'⟩ := o2 j u f; exact .inr (.inr ⟨j, u', f', g⟩)
  have zp : ZZ E σw φ σ p := .inr (.inr ⟨n, w, hw, hp⟩)
  have ne : ∀ a o, ¬ ZZ E σw φ σ a → H a = some o → upd H p ho a = some o := fun a o z h => by rw [upd_ne (fun q => z (by rw [q]; exact zp))]; exact h
  have L0 : Later φ (ZZ E σw φ σ) H φ (ZZ E σw φ σ) (upd H p ho) := ⟨fun _ _ h => h, ne, fun a z => .inl z, fz_upd hf⟩
  have L : Later φ (ZZ E σw φ σ) H φ (ZZ E (σw.set n (.ow w')) φ σ) (upd H p ho) := L0.trans (.less z1)
  refine ⟨⟨R.st.mono L fun a o m h => by rw [upd_ne (fun q => n1 (by rw [← q]; exact m))]; exact h, by rw [List.length_set]; exact R.len, fun i u f => ?_, fun i u f => ?_, fun i j u u' b f f' g g' => ?_, R.zφ, fun b z => ?_, R.eφ, fun b o z h => ?_, R.enew, fun b o u h => ?_⟩, L⟩
  · have e : n ≠ i := fun e => by subst e; rw [List.getElem?_set_self hn] at f; cases f
    rw [List.getElem?_set_ne e] at f
    obtain ⟨v, g, r⟩ := R.fr i u f
    exact ⟨v, g, r.mono L⟩
  · rcases o1 i u f with ⟨rfl, rfl⟩ | ⟨e, f⟩
    · exact ⟨p, hp, (h L0).mono (.less z1) fun _ h => h, n1, n2, n3⟩
    · obtain ⟨b, g, hb, m1, m2, m3⟩ := R.ow i u f
      exact ⟨b, g, hb.mono L fun o h => by rw [upd_ne (fun q => e (R.inj i n u w b f hw g (by rw [q]; exact hp)))]; exact h, m1, m2, m3⟩
  · obtain ⟨y, f⟩ := o2 i u f
    obtain ⟨y', f'⟩ := o2 j u' f'
    exact R.inj i j y y' b f f' g g'
  · by_cases q : b = p
    · subst q; rw [upd_same]; simp
    · rw [upd_ne q]; exact R.zal b z
  · rw [upd_ne (fun q => by rw [q, n3] at h; cases h)]; exact R.ekeep b o z h
  · rw [upd_ne (fun q => by rw [q, n3] at h; cases h)]; exact R.efz b o u h
/-- the slot's own list as it stands behind an expression -/
theorem own_lst {K : PySem.W.Frag} {n : Nat} {xs : List W} (R : Rl K E σw S φ σ H) (hw : σw[n]? = some (.ow (.lst xs))) : ∃ a vs, σ[n]? = some (some (.ref a)) ∧ H a = some (.lst vs) ∧ RFs K φ (ZZ E σw φ σ) H xs vs := by
  obtain ⟨a, g, h, _⟩ := R.ow n _ hw
  rcases h with ⟨ws, vs, e, h, r⟩ | ⟨_, _, e, _⟩
  · cases e; exact ⟨a, vs, g, h, r⟩
  · cases e
theorem own_dct {K : PySem.W.Frag} {n : Nat} {xs : List (Key × W)} (R : Rl K E σw S φ σ H) (hw : σw[n]? = some (.ow (.dct xs))) : ∃ a vs, σ[n]? = some (some (.ref a)) ∧ H a = some (.dK vs) ∧ RKs K φ (ZZ E σw φ σ) H xs vs := by
  obtain ⟨a, g, h, _⟩ := R.ow n _ hw
  rcases h with ⟨_, _, e, _⟩ | ⟨ws, vs, e, h, r⟩
  · cases e
  · cases e; exact ⟨a, vs, g, h, r⟩
theorem wkey_vw {S : Sto} {k : Key} (h : wkey w = some k) : wkey (vw S w) = some k := by cases w <;> first | exact h | cases h
theorem sub_side {i : Expr} {env : PySem.Env} {p0 : Pos} (h : isSl i = false) : ∀ v, assign (.Subscript o i p0) env v = (do
      let ov ← holding [v] (eval o env)
      let iv ← holding [v, ov] (eval i env)
      standAt p0
      holding [v, ov, iv] (setItem ov iv v)
      release [v, ov, iv] []) := by
  cases i <;> first | (intro _; rfl) | cases h
theorem asg_side {env : PySem.Env} {i : Expr} {p0 : Pos} {ln : Nat} (h1 : isLCm e = false) (h2 : isSDC e = false) : swapsWithSole [.Subscript o i p0] e ln env = pure false ∧ swappedStores [.Subscript o i p0] e env = pure none ∧ swapsWith e (some (.Subscript o i p0)) ln env = pure false := by
  cases e <;> first | exact ⟨rfl, rfl, rfl⟩ | cases h1 | cases h2
end
end EV

namespace EV
open PySem PySem.Spec PyProof.Rows L2
section
variable {X : Cx} {a b c e o tg : Expr} {mo m ma mb me mi : M W} {br : Bool} {pos apos : Pos} {E : Ent} {σw σw' : Sls} {S S' : Sto} {φ φ' : List Addr} {σ σ' : L2.St} {H H' : Hp} {w x : W} {v : V} {es : List Expr} {la : M (List W)} {p : Addr} {Q : VK} {D : Ends} {f g : M Fl} {mt : M Bool}
theorem ps_putOwn {i : Expr} {xn : Str} {px p0 : Pos} {n : Nat} (hu : X.A.units + 64 < cLine) (h1 : isLCm e = false) (h2 : isSDC e = false) (h3 : isSl i = false) (ho : PE X (.Name xn px) (tVar n)) (hi : PE X i (rdE X.K true mi)) (he : PE X e (rdE X.K false me)) :
    PS X (.Assign [.Subscript (.Name xn px) i p0] e pos) (fun D σ H => ∃ E σw S φ w, σw[n]? = some (.ow w) ∧ Rl X.K E σw S φ σ H ∧ okS X.K E σw φ σ H (putOwn n w mi me σw S) D) :=
  PS.any fun D σ H ⟨E, σw, S, φ, w, hw, R, k⟩ => by
    obtain ⟨s1, s2, s3⟩ := asg_side (o := .Name xn px) (i := i) (env := X.env) (p0 := p0) (ln := pos.line) h1 h2
    obtain ⟨y, S1, e1, k1⟩ := okS_bind k
    obtain ⟨ki, S2, e2, k2⟩ := okS_bind k1
    cases w with
    | lst xs =>
      cases ki with
      | int kk =>
        cases hj : ixN xs.length kk with
        | none => simp only [hj] at k2; exact k2.elim
        | some j =>
          simp only [hj] at k2
          refine ⟨_, ps_asg he (pg_sub ho hi set_list (sub_side h3)) s1 s2, E, σw, S, φ, R, y, S1, e1, fun φ1 H1 v x1 R1 r1 => ?_⟩
          obtain ⟨a, vs, g, hA, rA⟩ := own_lst R1 hw
          refine ⟨_, g, E, σw, S1, φ1, R1, _, S2, e2, fun φ2 H2 u x2 R2 r2 => ?_⟩
          obtain ⟨a', vs', g', hA', rA'⟩ := own_lst R2 hw
          rw [g] at g'; cases g'
          refine ⟨a, vs', kk, j, rfl, rx_int R2 r2 rfl, hA', by rw [← rA'.len]; exact hj, ?_⟩
          obtain ⟨R3, L3⟩ := R2.setOwW (w' := .lst (xs.set j y)) (ho := .lst (vs'.set j v)) hw g (nfz hA' fun _ _ z => by cases z) fun L => .inl ⟨_, _, rfl, upd_same, (rA'.set j (r1.fr.mono x2.later)).mono L⟩
          exact k2 φ2 σ _ ((x1.trans x2).later.trans L3) R3
      | _ => exact k2.elim
    | dct kvs =>
      cases hk : wkey ki with
      | none => simp only [hk] at k2; exact k2.elim
      | some kk =>
        simp only [hk] at k2
        split at k2
        · rename_i hlim
          refine ⟨_, ps_dput (by omega) ho hi he s3, E, σw, S, φ, R, y, S1, e1, fun φ1 H1 v x1 R1 r1 => ?_⟩
          obtain ⟨a, vs, g, hA, rA⟩ := own_dct R1 hw
          refine ⟨_, g, E, σw, S1, φ1, R1, _, S2, e2, fun φ2 H2 u x2 R2 r2 => ?_⟩
          obtain ⟨a', vs', g', hA', rA'⟩ := own_dct R2 hw
          rw [g] at g'; cases g'
          cases rx_key (k := kk) R2 r2 (wkey_vw hk)
          refine ⟨a, _, rfl, DPut.k hA' (lim_lt (by rw [← rA'.len]; exact hlim)), ?_⟩
          obtain ⟨R3, L3⟩ := R2.setOwW (w' := .dct (dput kvs kk y)) (ho := .dK (putK vs' kk v)) hw g (nfz hA' fun _ _ z => by cases z) fun L => .inr ⟨_, _, rfl, upd_same, (rA'.put kk (r1.fr.mono x2.later)).mono L⟩
          exact k2 φ2 σ _ ((x1.trans x2).later.trans L3) R3
        · exact k2.elim
    | _ => exact k2.elim
theorem ps_putS {i : Expr} {p0 : Pos} (hu : X.A.units + 64 < cLine) (h1 : isLCm e = false) (h2 : isSDC e = false) (h3 : isSl i = false) (ho : PE X o (rdE X.K true mo)) (hi : PE X i (rdE X.K true mi)) (he : PE X e (rdE X.K false me)) :
    PS X (.Assign [.Subscript o i p0] e pos) (rdS X.K (sPutS mo mi me)) :=
  PS.any fun D σ H ⟨E, σw, S, φ, R, k⟩ => by
    obtain ⟨s1, s2, s3⟩ := asg_side (o := o) (i := i) (env := X.env) (p0 := p0) (ln := pos.line) h1 h2
    obtain ⟨y, S1, e1, k1⟩ := okS_bind k
    obtain ⟨xo, S2, e2, k2⟩ := okS_bind k1
    obtain ⟨ki, S3, e3, k3⟩ := okS_bind k2
    cases xo with
    | loc n =>
      cases hn : S3[n]? with
      | none => simp only [hn] at k3; exact k3.elim
      | some ob =>
        simp only [hn] at k3
        cases ob with
        | lst xs =>
          cases ki with
          | int kk =>
            cases hj : ixN xs.length kk with
            | none => simp only [hj] at k3; exact k3.elim
            | some j =>
              simp only [hj] at k3
              refine ⟨_, ps_asg he (pg_sub ho hi set_list (sub_side h3)) s1 s2, E, σw, S, φ, R, y, S1, e1, fun φ1 H1 v x1 R1 r1 => ⟨E, σw, S1, φ1, R1, _, S2, e2, fun φ2 H2 u x2 R2 r2 => ⟨E, σw, S2, φ2, R2, _, S3, e3, fun φ3 H3 t x3 R3 r3 => ?_⟩⟩⟩
              obtain ⟨a, rfl, ha⟩ := rx_loc R3 (r2.ext x3) rfl
              obtain ⟨vs, hA, rA⟩ := R3.st.ob n _ a hn ha
              refine ⟨a, vs, kk, j, rfl, rx_int R3 r3 rfl, hA, by rw [← rA.len]; exact hj, ?_⟩
              have rset := rA.set j (r1.fr.mono (x2.trans x3).later)
              obtain ⟨x4, R4⟩ := R3.write (ob := .lst (xs.set j y)) (ho := .lst (vs.set j v)) ha (nfz hA fun _ _ z => by cases z) fun φ' Z' H' L h => ⟨_, h, rset.mono L⟩
              exact k3 φ3 σ _ (((x1.trans x2).trans x3).trans x4).later R4
          | _ => exact k3.elim
        | dct kvs =>
          cases hk : wkey ki with
          | none => simp only [hk] at k3; exact k3.elim
          | some kk =>
            simp only [hk] at k3
            split at k3
            · rename_i hlim
              refine ⟨_, ps_dput (by omega) ho hi he s3, E, σw, S, φ, R, y, S1, e1, fun φ1 H1 v x1 R1 r1 => ⟨E, σw, S1, φ1, R1, _, S2, e2, fun φ2 H2 u x2 R2 r2 => ⟨E, σw, S2, φ2, R2, _, S3, e3, fun φ3 H3 t x3 R3 r3 => ?_⟩⟩⟩
              obtain ⟨a, rfl, ha⟩ := rx_loc R3 (r2.ext x3) rfl
              obtain ⟨vs, hA, rA⟩ := R3.st.ob n _ a hn ha
              cases rx_key (k := kk) R3 r3 (wkey_vw hk)
              refine ⟨a, _, rfl, DPut.k hA (lim_lt (by rw [← rA.len]; exact hlim)), ?_⟩
              have rput := rA.put kk (r1.fr.mono (x2.trans x3).later)
              obtain ⟨x4, R4⟩ := R3.write (ob := .dct (dput kvs kk y)) (ho := .dK (putK vs kk v)) ha (nfz hA fun _ _ z => by cases z) fun φ' Z' H' L h => ⟨_, h, rput.mono L⟩
              exact k3 φ3 σ _ (((x1.trans x2).trans x3).trans x4).later R4
            · exact k3.elim
        | _ => exact k3.elim
    | _ => exact k3.elim
theorem ps_putop {i : Expr} {xn : Str} {px p0 : Pos} {n : Nat} (hu : X.A.units + 64 < cLine) (h1 : isLCm e = false) (h2 : isSDC e = false) (h3 : isSl i = false) (ho : PE X (.Name xn px) (tVar n)) (ho2 : PE X (.Name xn px) (rdE X.K true mo)) (hi : PE X i (rdE X.K true mi)) (he : PE X e (rdE X.K false me)) :
    PS X (.Assign [.Subscript (.Name xn px) i p0] e pos) (rdS X.K (sPut n mo mi me)) :=
  PS.any fun D σ H ⟨E, σw, S, φ, R, k⟩ => by
    unfold sPut at k
    split at k
    · rename_i w hw
      exact ⟨_, ps_putOwn hu h1 h2 h3 ho hi he, E, σw, S, φ, w, hw, R, k⟩
    · exact ⟨_, ps_putS hu h1 h2 h3 ho2 hi he, E, σw, S, φ, R, k⟩
theorem ps_fldop {fn : Str} {ok : Str → Bool} {p0 : Pos} (h1 : isLCm e = false) (h2 : isSDC e = false) (hf : ∀ c, ok c = true → Cls X.K (He.ga X.K c) ∧ NoAttr X.K (He.ga X.K c) fn) (ho : PE X o (rdE X.K true mo)) (he : PE X e (rdE X.K false me)) :
    PS X (.Assign [.Attribute o fn p0] e pos) (rdS X.K (sFldM mo me fn ok)) :=
  (ps_fld ho he (by cases e <;> first | rfl | cases h1 | cases h2)).imp fun D σ H ⟨E, σw, S, φ, R, k⟩ => by
    obtain ⟨y, S1, e1, k1⟩ := okS_bind k
    obtain ⟨xo, S2, e2, k2⟩ := okS_bind k1
    refine ⟨E, σw, S, φ, R, y, S1, e1, fun φ1 H1 v x1 R1 r1 => ⟨E, σw, S1, φ1, R1, _, S2, e2, fun φ2 H2 u x2 R2 r2 => ?_⟩⟩
    cases xo with
    | loc n =>
      cases hn : S2[n]? with
      | none => simp only [hn] at k2; exact k2.elim
      | some ob =>
        simp only [hn] at k2
        cases ob with
        | ins c fs =>
          simp only at k2
          split at k2
          · rename_i hok
            obtain ⟨a, rfl, ha⟩ := rx_loc R2 r2 rfl
            obtain ⟨dx, gs, hA, rA⟩ := R2.st.ob n _ a hn ha
            obtain ⟨f1, f2⟩ := hf c hok.1
            refine ⟨a, _, dx, gs, rfl, hA, f1, f2, by rw [← RL.len rA]; exact hok.2, ?_⟩
            have rput := RL.put (f := fn) (r1.fr.mono x2.later) rA
            obtain ⟨x4, R4⟩ := R2.write (ob := .ins c (fput fn y fs)) (ho := .ins (He.ga X.K c) dx (putF fn v gs)) ha (nfz hA fun _ _ z => by cases z) fun φ' Z' H' L h => ⟨dx, _, h, RL.mono L rput⟩
            exact k2 φ2 σ _ ((x1.trans x2).trans x4).later R4
          · exact k2.elim
        | _ => exact k2.elim
    | _ => exact k2.elim
/-! ### a name's list changed by its method -/
def okM (K : PySem.W.Frag) (E : Ent) (σw : Sls) (φ : List Addr) (σ : L2.St) (H : Hp) (r : Res (W × Sls)) (Q : VK) : Prop :=
  ∃ w σw' S', r = .ok (w, σw') S' ∧ ∀ φ' H' v, Later φ (ZZ E σw φ σ) H φ' (ZZ E σw' φ' σ) H' → Rl K E σw' S' φ' σ H' → RF K φ' (ZZ E σw' φ' σ) H' w v → Q v H'
def rdM (K : PySem.W.Frag) (m : M (W × Sls)) : TE := fun σ H Q => ∃ E σw S φ, Rl K E σw S φ σ H ∧ okM K E σw φ σ H (m σw S) Q
theorem up_id {mt : Mt} {xs ws : List W} {r : W × List W} (e : lstUp S mt xs ws = some r) : ∃ id, mtId .lst mt = some id := by
  unfold lstUp at e
  split at e <;> first | exact ⟨_, rfl⟩ | cases e
theorem rdl_id {mt : Mt} {xs ws : List W} {r : W} (e : wrd mt (.lst xs) ws = some r) : ∃ id, mtId .lst mt = some id := by
  unfold wrd at e
  split at e
  · exact ⟨_, rfl⟩
  · rename_i h; cases h
  · rename_i h; cases h
  · cases e
theorem rdd_id {mt : Mt} {xs : List (Key × W)} {ws : List W} {r : W} (e : wrd mt (.dct xs) ws = some r) : ∃ id, mtId .dct mt = some id := by
  unfold wrd at e
  split at e
  · rename_i h; cases h
  · exact ⟨_, rfl⟩
  · exact ⟨_, rfl⟩
  · cases e
/-- a built-in method of a slot's own list or dict: what it does when all is evaluated -/
theorem pe_ownmeth {nm xn : Str} {px : Pos} {n : Nat} {k0 : Kd} {id : String} (hid : mtId k0 (mtOf nm) = some id) (hok : methOk (.Name xn px) apos pos es = true) (hv : PE X (.Name xn px) (tVar n))
    (ha : PA X es (rdA X.K (decide (mtOf nm = .extend)) la)) (hl : es = [] → la = mNil) : PE X (.Call (.Attribute (.Name xn px) nm apos) es [] pos) (fun σ H Q => ∃ E σw S φ v ws S1, Rl X.K E σw S φ σ H ∧ σ[n]? = some (some v) ∧ tyV X.K (kdT k0) v H ∧ la σw S = .ok ws S1 ∧
      ∀ φ' H' us, Ext φ H φ' H' → Rl X.K E σw S1 φ' σ H' → RXs X.K E σw φ' σ H' (decide (mtOf nm = .extend)) ws us → mtAny X id v us H' Q) := by
  simp only [methOk, callOk, Bool.and_eq_true, decide_eq_true_eq] at hok
  obtain ⟨⟨hb, hline⟩, hs, hn⟩ := hok
  have hbase := base_ok (f := nm) (env := X.env) hb
  obtain ⟨f1, f2, f3⟩ := mt_id hid
  cases es with
  | nil =>
    cases hl rfl
    refine (pe_bm0 f1 f2 f3 mtAny_ok hv hbase hline).imp fun σ H Q ⟨E, σw, S, φ, v, ws, S1, R, h1, h2, h3, h4⟩ => ?_
    cases h3
    exact ⟨v, h1, h2, h4 φ H [] .refl R .nil⟩
  | cons e es =>
    obtain ⟨s1, s2⟩ := noStar_cons hs
    refine (pe_bm f1 f2 f3 mtAny_ok hv ha hbase ?_ hline (star_cons s1) (star_any s2).1).imp fun σ H Q ⟨E, σw, S, φ, v, ws, S1, R, h1, h2, h3, h4⟩ => ?_
    · rw [(star_any hs).2]
      have : decide ((e :: es).length + 0 + 0 < 30) = true := decide_eq_true (by omega)
      exact this
    · exact ⟨v, h1, h2, E, σw, S, φ, R, ws, S1, h3, h4⟩
theorem pe_mutop {nm xn : Str} {px : Pos} {n : Nat} {F : Fenv} {own : Str → Option Str} (hu : X.A.units + 64 < cLine) (hown : ∀ c q, own c = some q → MtK X F c nm q) (hok : methOk (.Name xn px) apos pos es = true) (hv : PE X (.Name xn px) (tVar n))
    (hv2 : PE X (.Name xn px) (rdE X.K false (mVar n))) (ha : PA X es (rdA X.K (decide (mtOf nm = .extend)) la)) (hl : es = [] → la = mNil) : PE X (.Call (.Attribute (.Name xn px) nm apos) es [] pos) (rdM X.K (mutE F own (mtOf nm) nm n la)) :=
  PE.any fun σ H Q ⟨E, σw, S, φ, R, w, σw2, S2, q, k⟩ => by
    unfold mutE at q
    split at q
    · rename_i xs hw
      obtain ⟨ws, S1, e1, q⟩ := bind_ok q
      obtain ⟨a, vs, g, hA, rA⟩ := own_lst R hw
      have ty : tyV X.K (kdT .lst) (.ref a) H := .inl ⟨rfl, vs, SqL.of hA⟩
      split at q
      · rename_i r ys hup
        cases q
        obtain ⟨id, hid⟩ := up_id hup
        refine ⟨_, pe_ownmeth hid hok hv ha hl, E, σw, S, φ, _, ws, _, R, g, ty, e1, fun φ1 H1 us x1 R1 r1 => ?_⟩
        obtain ⟨a', vs', g', hA', rA'⟩ := own_lst R1 hw
        rw [g] at g'; cases g'
        obtain ⟨id', h1, h2⟩ := lstUp_ok (Q := Q) hup R1 hA' rA' r1 fun vs2 z rv rz => by
          obtain ⟨R3, L3⟩ := R1.setOwW (w' := .lst ys) (ho := .lst vs2) hw g (nfz hA' fun _ _ z => by cases z) fun L => .inl ⟨_, _, rfl, upd_same, rv.mono L⟩
          exact k φ1 _ z (x1.later.trans L3) R3 (rz.mono L3)
        rw [hid] at h1; cases h1
        exact h2
      · obtain ⟨r, S3, q1, q⟩ := bind_ok q
        cases q
        obtain ⟨q2, e5⟩ := olift_ok q1
        subst e5
        obtain ⟨id, hid⟩ := rdl_id q2
        refine ⟨_, pe_ownmeth hid hok hv ha hl, E, σw, S, φ, _, ws, _, R, g, ty, e1, fun φ1 H1 us x1 R1 r1 => ?_⟩
        obtain ⟨a', vs', g', hA', rA'⟩ := own_lst R1 hw
        rw [g] at g'; cases g'
        obtain ⟨id', h1, h2⟩ := lstRd_ok (Q := Q) q2 hA' rA' R1 r1 fun z rz => k φ1 _ z x1.later R1 rz
        rw [hid] at h1; cases h1
        exact h2
    · rename_i xs hw
      obtain ⟨ws, S1, e1, q⟩ := bind_ok q
      obtain ⟨a, vs, g, hA, rA⟩ := own_dct R hw
      have ty : tyV X.K (kdT .dct) (.ref a) H := .inr (.inr (.inl ⟨rfl, .inl ⟨vs, hA⟩⟩))
      obtain ⟨r, S3, q1, q⟩ := bind_ok q
      cases q
      obtain ⟨q2, e5⟩ := olift_ok q1
      subst e5
      obtain ⟨id, hid⟩ := rdd_id q2
      refine ⟨_, pe_ownmeth hid hok hv ha hl, E, σw, S, φ, _, ws, _, R, g, ty, e1, fun φ1 H1 us x1 R1 r1 => ?_⟩
      obtain ⟨a', vs', g', hA', rA'⟩ := own_dct R1 hw
      rw [g] at g'; cases g'
      obtain ⟨id', h1, h2⟩ := dctRd_ok (Q := Q) (by omega) q2 hA' rA' R1 r1 fun z rz => k φ1 _ z x1.later R1 rz
      rw [hid] at h1; cases h1
      exact h2
    · rename_i w0 hw
      obtain ⟨r, S3, q1, q⟩ := bind_ok q
      cases q
      refine ⟨_, pe_methop (br := false) hu hown hok (rdE_mono hv2) ha hl, E, σw, S, φ, R, w, S2, ?_, fun φ1 H1 z x1 R1 r1 => k φ1 H1 z x1.later R1 r1.fr⟩
      have e0 : mVar n σw S = .ok w0 S := by unfold mVar; rw [hw]
      unfold mMeth
      rw [e0]
      exact q1
    · cases q
theorem ps_mutop {mm : M (W × Sls)} (h : isLCm e = false ∧ isSDC e = false) (he : PE X e (rdM X.K mm)) : PS X (.Expr e pos) (rdS X.K (sMut mm)) :=
  (ps_expr he (by cases e <;> first | rfl | (cases h.1; done) | (cases h.2; done))).imp fun D σ H ⟨E, σw, S, φ, R, k⟩ => by
    obtain ⟨⟨r, s⟩, S1, e1, k1⟩ := okS_bind k
    exact ⟨E, σw, S, φ, R, r, s, S1, e1, fun φ1 H1 v L1 R1 _ => k1 φ1 σ H1 L1 R1⟩
theorem ps_mutYop {i : Nat} {mm : M (W × Sls)} (h : ∀ {te : TE}, PE X e te → PS X (.Assign [tg] e pos) (tAsg te (gName i))) (he : PE X e (rdM X.K mm)) : PS X (.Assign [tg] e pos) (rdS X.K (sMutY i mm)) :=
  (h he).imp fun D σ H ⟨E, σw, S, φ, R, k⟩ => by
    obtain ⟨⟨r, s⟩, S1, e1, k1⟩ := okS_bind k
    exact ⟨E, σw, S, φ, R, r, s, S1, e1, fun φ1 H1 v L1 R1 r1 => k1 φ1 _ H1 (L1.trans (later_fr R1 r1)) (R1.setFr r1).1⟩
end
end EV

namespace EV
open PySem PySem.Spec PyProof.Rows L2
section
variable {X : Cx} {a b c e o tg : Expr} {mo m ma mb me mi : M W} {br : Bool} {pos apos : Pos} {E : Ent} {σw σw' : Sls} {S S' : Sto} {φ φ' : List Addr} {σ σ' : L2.St} {H H' : Hp} {w x : W} {v : V} {es : List Expr} {la : M (List W)} {p : Addr} {Q : VK} {D : Ends} {f g : M Fl} {mt : M Bool} {ob : Ob} {Z : Addr → Prop}
/-! ### a walk over a dict's items, locked -/
theorem StOk.set0 {K : PySem.W.Frag} {n : Nat} {ho : HO} (st : StOk K S φ Z H) (hp : φ[n]? = some p) (L : Later0 φ Z H φ Z (upd H p ho)) (h : HoldsO K φ Z (upd H p ho) ob p) : StOk K (S.set n ob) φ Z (upd H p ho) := by
  refine ⟨by rw [List.length_set]; exact st.len, st.nd, fun m ob' a e f => ?_⟩
  by_cases hm : n = m
  · subst hm
    rw [hp] at f; cases f
    obtain ⟨hn, _⟩ := List.getElem?_eq_some_iff.mp hp
    rw [List.getElem?_set_self (by rw [← st.len]; exact hn)] at e
    cases e
    exact h
  · rw [List.getElem?_set_ne hm] at e
    refine (st.ob m ob' a e f).mono0 L fun u hu => ?_
    rw [upd_ne (fun z : a = p => hm (ix_inj st.nd hp (by rw [← z]; exact f)))]
    exact hu
theorem later0_upd {ho : HO} (hz : Z p) : Later0 φ Z H φ Z (upd H p ho) := ⟨fun _ _ h => h, fun a o n h => by rw [upd_ne (fun z => n (by rw [z]; exact hz))]; exact h, fun a h => .inl h⟩
theorem Rl.wrt {K : PySem.W.Frag} {n : Nat} {ho : HO} (R : Rl K E σw S φ σ H) (hp : φ[n]? = some p) (he : ∀ o u, E.H p ≠ some (.frz o u)) (h : HoldsO K φ (ZZ E σw φ σ) (upd H p ho) ob p) : Rl K E σw (S.set n ob) φ σ (upd H p ho) := by
  have mp := mem_of_ix hp
  have L0 : Later0 φ (ZZ E σw φ σ) H φ (ZZ E σw φ σ) (upd H p ho) := later0_upd (.inr (.inl mp))
  refine ⟨R.st.set0 hp L0 h, R.len, fun i u f => ?_, fun i u f => ?_, R.inj, R.zφ, fun b z => ?_, R.eφ, fun b o z hb => ?_, R.enew, fun b o u hb => ?_⟩
  · obtain ⟨v, g, r⟩ := R.fr i u f
    exact ⟨v, g, r.mono0 L0⟩
  · obtain ⟨b, g, hb, n1, n2⟩ := R.ow i u f
    exact ⟨b, g, hb.mono0 L0 fun o h => by rw [upd_ne (fun q => n1 (by rw [q]; exact mp))]; exact h, n1, n2⟩
  · by_cases q : b = p
    · rw [q, upd_same]; simp
    · rw [upd_ne q]; exact R.zal b z
  · rw [upd_ne (fun q => by
      subst q
      rcases R.enew b mp with m | m
      · exact z m
      · rw [m] at hb; cases hb)]
    exact R.ekeep b o z hb
  · rw [upd_ne (fun q => he o u (by rw [← q]; exact hb))]; exact R.efz b o u hb
theorem pi_itemsop {elts : List Expr} {kk : Nat} {tpos : Pos} (hb : baseOk e = true) (hline : (apos.endLine == pos.line) = true) (he : PE X e (rdE X.K false me)) : PI X (.Tuple elts kk tpos) (.Call (.Attribute e "items" apos) [] [] pos) (rdI X.K (mItems me)) :=
  (pi_items he (base_ok hb) hline).imp fun σ H Q ⟨E, σw, S, φ, R, ws, S', q, k⟩ => by
    obtain ⟨x, S1, e1, q⟩ := bind_ok q
    split at q
    · rename_i n
      split at q
      · rename_i kvs hn
        cases q
        refine ⟨E, σw, S, φ, R, _, _, e1, fun φ1 H1 v x1 R1 r1 => ?_⟩
        obtain ⟨d, rfl, hd⟩ := rx_loc R1 r1 rfl
        obtain ⟨od, vs, hA, rA⟩ := R1.st.ob n _ d hn hd
        refine ⟨d, od, vs, rfl, hA, k φ1 H1 _ x1 R1 fun φ' Z' H' L al => ?_⟩
        have h' := L.fz d _ _ hA
        have rA' := rA.mono L
        refine ⟨⟨h', by rw [← rA.len]; simp⟩, fun i w hw => ?_⟩
        rw [List.getElem?_map] at hw
        obtain ⟨⟨ky, y⟩, hy, hw⟩ := Option.map_eq_some_iff.mp hw
        subst hw
        obtain ⟨z, hz, rz⟩ := rA'.get hy
        refine ⟨⟨h', (List.getElem?_eq_some_iff.mp hz).1⟩, fun x H'' yl => ?_⟩
        obtain ⟨T, ky', v', e3, e4, hT, e5⟩ := yl
        rw [hz] at e3; cases e3
        subst e4 e5
        have nT : ¬ Z' T := fun z => al T z hT
        exact ⟨same_new hT, .tup (.inl ⟨upd_same, nT⟩) ((RFs.cons (rf_kW ky) (.cons rz .nil)).mono (.same (same_new hT) fun _ z => z))⟩
      · cases q
    · cases q
theorem ps_forIop {bd : W → M Sls} {st : Stmt} (h : PS X st (rdS X.K (sFor (mItems mo) bd f))) : PS X st (rdS X.K (sForI mo bd f)) :=
  (ps_lock h).imp fun D σ H ⟨E, σw, S, φ, R, k⟩ => by
    obtain ⟨x, S0, e0, k0⟩ := okS_bind k
    cases x with
    | loc n =>
      cases hn : S[n]? with
      | none => simp only [hn] at k0; exact k0.elim
      | some ob =>
        simp only [hn] at k0
        cases ob with
        | dct kvs =>
          obtain ⟨a, ha, vs, hA, rA⟩ := R.st.at hn
          have ma := mem_of_ix ha
          have he : ∀ o u, E.H a ≠ some (.frz o u) := fun o u z => by
            have := R.efz a o u z
            rw [hA] at this; cases this
          refine ⟨a, .dK vs, hA, trivial, fun od => ?_⟩
          obtain ⟨x4, R4⟩ := R.write (ob := .lck kvs) (ho := .frz od (.dK vs)) ha (nfz hA fun _ _ z => by cases z) fun φ' Z' H' L h => ⟨od, vs, h, rA.mono L⟩
          refine ⟨E, σw, _, φ, R4, ?_⟩
          have hla : upd H a (.frz od (.dK vs)) a = some (.frz od (.dK vs)) := upd_same
          have back : ∀ {φ5 : List Addr} {Z5 : Addr → Prop} {H5 : Hp}, Later φ (ZZ E σw φ σ) (upd H a (.frz od (.dK vs))) φ5 Z5 H5 → Later φ (ZZ E σw φ σ) H φ5 Z5 (upd H5 a (.dK vs)) := fun {φ5 Z5 H5} L5 =>
            ⟨L5.ix, fun b o nz h => by
              have : b ≠ a := fun q => nz (by rw [q]; exact .inr (.inl ma))
              rw [upd_ne this]; exact L5.keep b o nz (by rw [upd_ne this]; exact h), fun b z => (L5.new b z).imp id fun q => by
              have : b ≠ a := fun w => by rw [w, upd_same] at q; cases q
              rw [upd_ne this] at q; exact q, fun b o u h => by
              have : b ≠ a := fun w => by rw [w, hA] at h; cases h
              rw [upd_ne this]; exact L5.fz b o u (by rw [upd_ne this]; exact h)⟩
          have hold : ∀ {φ5 : List Addr} {Z5 : Addr → Prop} {H5 : Hp}, Later φ (ZZ E σw φ σ) (upd H a (.frz od (.dK vs))) φ5 Z5 H5 → HoldsO X.K φ5 Z5 (upd H5 a (.dK vs)) (.dct kvs) a := fun {φ5 Z5 H5} L5 => ⟨vs, upd_same, rA.mono (back L5)⟩
          have k0 : okS X.K E σw φ σ H ((sFor (mItems mo) bd f σw (S.set n (.lck kvs))).bind fun fl S3 => match S3[n]? with
              | some (.lck _) => .ok fl (S3.set n (.dct kvs))
              | _ => .bad) D := k0
          cases hr : sFor (mItems mo) bd f σw (S.set n (.lck kvs)) with
          | ok fl S3 =>
            rw [hr] at k0
            have k0 : okS X.K E σw φ σ H (match S3[n]? with
              | some (.lck _) => .ok fl (S3.set n (.dct kvs))
              | _ => .bad) D := k0
            split at k0
            · have nxt : ∀ (s : Sls) (U : L2.St → Hp → Prop), (∀ φ' σ' H', Later φ (ZZ E σw φ σ) H φ' (ZZ E s φ' σ') H' → Rl X.K E s (S3.set n (.dct kvs)) φ' σ' H' → U σ' H') → ∀ φ5 σ5 H5, Later φ (ZZ E σw φ σ) (upd H a (.frz od (.dK vs))) φ5 (ZZ E s φ5 σ5) H5 → Rl X.K E s S3 φ5 σ5 H5 → H5 a = some (.frz od (.dK vs)) ∧ U σ5 (upd H5 a (.dK vs)) :=
                fun s U kU φ5 σ5 H5 L5 R5 => ⟨L5.fz a _ _ hla, kU φ5 σ5 _ (back L5) (R5.wrt (L5.ix n a ha) he (hold L5))⟩
              cases fl with
              | nx s => exact nxt s D.nx k0
              | bk s => exact nxt s D.bk k0
              | ct s => exact nxt s D.ct k0
              | rt w =>
                refine fun φ5 H5 v L5 ⟨st5, r5, x5⟩ => ⟨L5.fz a _ _ hla, k0 φ5 _ v (back L5) ?_⟩
                have ma5 : a ∈ φ5 := mem_of_ix (L5.ix n a ha)
                have L0 : Later0 φ5 (fun a => E.Z a ∨ a ∈ φ5) H5 φ5 (fun a => E.Z a ∨ a ∈ φ5) (upd H5 a (.dK vs)) := later0_upd (.inr ma5)
                refine ⟨st5.set0 (L5.ix n a ha) L0 (hold L5), r5.mono0 L0, x5.ix, fun b o z hb => ?_, x5.new, fun b o u hb => ?_⟩
                · rw [upd_ne (fun q => by
                    subst q
                    rcases R.enew b ma with m | m
                    · exact z m
                    · rw [m] at hb; cases hb)]
                  exact x5.keep b o z hb
                · rw [upd_ne (fun q => he o u (by rw [← q]; exact hb))]; exact x5.fz b o u hb
            · exact k0.elim
          | ex c as S3 => rw [hr] at k0; exact k0.elim
          | bad => rw [hr] at k0; exact k0.elim
        | _ => exact k0.elim
    | _ => exact k0.elim
/-! ### a shared list, locked while an expression runs -/
theorem lock_ext {ho hf : HO} (x5 : Ext φ (upd H p hf) φ' H') (hp : p ∈ φ) (hH : H p = some ho) (hn : ∀ o u, ho ≠ .frz o u) : Ext φ H φ' (upd H' p ho) where
  ix := x5.ix
  keep := fun b o nb hb => by
    have : b ≠ p := fun q => nb (by rw [q]; exact hp)
    rw [upd_ne this]; exact x5.keep b o nb (by rw [upd_ne this]; exact hb)
  new := fun b hb => (x5.new b hb).imp id fun q => by
    have : b ≠ p := fun w => by rw [w, upd_same] at q; cases q
    rw [upd_ne this] at q; exact q
  fz := fun b o u hb => by
    have : b ≠ p := fun q => by rw [q, hH] at hb; cases hb; exact hn _ _ rfl
    rw [upd_ne this]; exact x5.fz b o u (by rw [upd_ne this]; exact hb)
theorem lock_in {n : Nat} {xs : List W} (R : Rl X.K E σw S φ σ H) (hn : S[n]? = some (.lst xs)) : ∃ a vs, φ[n]? = some a ∧ H a = some (.lst vs) ∧ RFs X.K φ (ZZ E σw φ σ) H xs vs ∧ (∀ o u, E.H a ≠ some (.frz o u)) ∧ ∀ od, Rl X.K E σw (S.set n (.frz xs)) φ σ (upd H a (.frz od (.lst vs))) := by
  obtain ⟨a, ha, vs, hA, rA⟩ := R.st.at hn
  refine ⟨a, vs, ha, hA, rA, fun o u z => ?_, fun od => ?_⟩
  · have := R.efz a o u z
    rw [hA] at this; cases this
  · exact (R.write (ob := .frz xs) (ho := .frz od (.lst vs)) ha (nfz hA fun _ _ z => by cases z) fun φ' Z' H' L h => ⟨od, vs, h, rA.mono L⟩).2
theorem pe_fz (h : PE X e (rdE X.K br m)) : PE X e (rdE X.K br (mFz m)) := ⟨fun pins s σ H Q I ⟨E, σw, S, φ, R, w, S', q, k⟩ => by
  obtain ⟨x, S1, e1, q⟩ := bind_ok q
  have pass : w = x → S' = S1 → wpAny (model X.prog X.w) X.A (eval e X.env) (EP X pins σ Q) X.xe s := fun h1 h2 => by
    subst h1 h2
    exact h.run pins s σ H Q I ⟨E, σw, S, φ, R, w, S', e1, k⟩
  split at q
  · rename_i n
    split at q
    · rename_i xs hn
      cases q
      refine thn (h.run pins s σ H (fun v H1 => ∃ φ1, Ext φ H φ1 H1 ∧ Rl X.K E σw S1 φ1 σ H1 ∧ RX X.K E σw φ1 σ H1 br (.loc n) v) I ⟨E, σw, S, φ, R, .loc n, S1, e1, fun φ1 H1 v x1 R1 r1 => ⟨φ1, x1, R1, r1⟩⟩) fun u s1 ⟨v, H1, I1, rv, φ1, x1, R1, r1⟩ => ?_
      obtain ⟨a, ha, vs, hA, rA⟩ := R1.st.at hn
      obtain ⟨od, I2⟩ := I1.lock hA trivial
      obtain ⟨xw, R2⟩ := R1.write (ob := .frz xs) (ho := .frz od (.lst vs)) ha (nfz hA fun _ _ z => by cases z) fun φ' Z' H' L h => ⟨od, vs, h, rA.mono L⟩
      exact ⟨v, _, I2, rv, k φ1 _ v (x1.trans xw) R2 (r1.ext xw)⟩
    · cases q
      exact pass rfl rfl
  · cases q
    exact pass rfl rfl⟩
theorem lockE_ok {i : Nat} (h : mLockE i m σw S = .ok w S') : ∃ n xs ys S3, σw[i]? = some (.fr (.loc n)) ∧ S[n]? = some (.lst xs) ∧ m σw (S.set n (.frz xs)) = .ok w S3 ∧ S3[n]? = some (.frz ys) ∧ S' = S3.set n (.lst xs) := by
  unfold mLockE at h
  split at h
  · rename_i n hi
    split at h
    · rename_i xs hn
      obtain ⟨w', S3, e3, h⟩ := bind_ok h
      split at h
      · rename_i ys hy
        cases h
        exact ⟨n, xs, ys, S3, hi, hn, e3, hy, rfl⟩
      · cases h
    · cases h
  · cases h
theorem pe_lockE {i : Nat} (h : PE X e (rdE X.K br m)) : PE X e (rdE X.K br (mLockE i m)) := (pe_lock h).imp fun σ H Q ⟨E, σw, S, φ, R, w, S', q, k⟩ => by
  obtain ⟨n, xs, ys, S3, hi, hn, e3, hy, rfl⟩ := lockE_ok q
  obtain ⟨a, vs, ha, hA, rA, he, R4⟩ := lock_in R hn
  have ma := mem_of_ix ha
  refine ⟨a, .lst vs, hA, trivial, fun od => ⟨E, σw, _, φ, R4 od, w, S3, e3, fun φ5 H5 v x5 R5 r5 => ⟨x5.fz a _ _ upd_same, ?_⟩⟩⟩
  have x6 : Ext φ H φ5 (upd H5 a (.lst vs)) := lock_ext x5 ma hA (fun _ _ z => by cases z)
  have ma5 : a ∈ φ5 := mem_of_ix (x5.ix n a ha)
  have L0 : Later0 φ5 (ZZ E σw φ5 σ) H5 φ5 (ZZ E σw φ5 σ) (upd H5 a (.lst vs)) := later0_upd (.inr (.inl ma5))
  exact k φ5 _ v x6 (R5.wrt (x5.ix n a ha) he ⟨vs, upd_same, rA.mono x6.later⟩) (r5.imp (fun r => r.mono0 L0) id)
theorem lockN_go {i : Nat} (h : rdN X.K (mLockE i m) σ H Q) : tLockE (rdN X.K m) σ H Q := by
  obtain ⟨E, σw, S, φ, R, w, S', q, k⟩ := h
  obtain ⟨n, xs, ys, S3, hi, hn, e3, hy, rfl⟩ := lockE_ok q
  obtain ⟨a, vs, ha, hA, rA, he, R4⟩ := lock_in R hn
  have ma := mem_of_ix ha
  refine ⟨a, .lst vs, hA, trivial, fun od => ⟨E, σw, _, φ, R4 od, w, S3, e3, fun φ5 H5 v x5 N5 => ⟨x5.fz a _ _ upd_same, ?_⟩⟩⟩
  have x6 : Ext φ H φ5 (upd H5 a (.lst vs)) := lock_ext x5 ma hA (fun _ _ z => by cases z)
  have ma5 : a ∈ φ5 := mem_of_ix (x5.ix n a ha)
  refine k φ5 _ v x6 ?_
  have hold : HoldsO X.K φ5 (ZZ E σw φ5 σ) (upd H5 a (.lst vs)) (.lst xs) a := ⟨vs, upd_same, rA.mono x6.later⟩
  have plain : ∀ {p : Addr}, Rl X.K (E.plus p) σw S3 φ5 σ H5 → H p = none → Rl X.K (E.plus p) σw (S3.set n (.lst xs)) φ5 σ (upd H5 a (.lst vs)) := fun {p} R5 hp => by
    have L6 := x6.later (E := E) (σw := σw) (σ := σ)
    have L7 : Later φ (ZZ E σw φ σ) H φ5 (ZZ (E.plus p) σw φ5 σ) (upd H5 a (.lst vs)) := ⟨L6.ix, L6.keep, fun b z => by
      rcases z with (z | z) | z
      · exact .inl (.inl z)
      · subst z; exact .inr hp
      · exact L6.new b (.inr z), L6.fz⟩
    exact R5.wrt (x5.ix n a ha) he ⟨vs, upd_same, rA.mono L7⟩
  cases w with
  | lst ws =>
    obtain ⟨p, us, rfl, h1, h2, h3, h4, R5, r5⟩ := N5
    have np : p ≠ a := fun q => h3 (by rw [q]; exact .inr (.inl ma5))
    rw [upd_ne np] at h2
    exact ⟨p, us, rfl, by rw [upd_ne np]; exact h1, h2, h3, h4, plain R5 h2, r5.mono0 (later0_upd (.inr (.inl ma5)))⟩
  | dct ws =>
    obtain ⟨p, us, rfl, h1, h2, h3, h4, R5, r5⟩ := N5
    have np : p ≠ a := fun q => h3 (by rw [q]; exact .inr (.inl ma5))
    rw [upd_ne np] at h2
    exact ⟨p, us, rfl, by rw [upd_ne np]; exact h1, h2, h3, h4, plain R5 h2, r5.mono0 (later0_upd (.inr (.inl ma5)))⟩
  | _ => exact ⟨N5.1.wrt (x5.ix n a ha) he hold, N5.2.mono0 (later0_upd (.inr (.inl ma5)))⟩
theorem pe_lockN {i : Nat} (h : PE X e (rdN X.K m)) : PE X e (rdN X.K (mLockE i m)) := (pe_lock h).imp fun σ H Q h => lockN_go h
theorem ps_lkN {D : Dx} {st : Stmt} {j : Nat} (h : PS X st (tAsg (rdN X.K m) (gName j))) : PS X st (tAsg (rdN X.K (lkE D e m)) (gName j)) := by
  unfold lkE
  split
  · exact (ps_lock h).imp fun D σ H q => by
      obtain ⟨a, u, hA, mu, q⟩ := lockN_go q
      exact ⟨a, u, hA, mu, q⟩
  · exact h
theorem pe_lkE {D : Dx} (h : PE X e (rdE X.K br m)) : PE X e (rdE X.K br (lkE D e m)) := by
  unfold lkE
  split
  · exact pe_lockE h
  · exact h
theorem pe_lkN {D : Dx} (h : PE X e (rdN X.K m)) : PE X e (rdN X.K (lkE D e m)) := by
  unfold lkE
  split
  · exact pe_lockN h
  · exact h
end
/-! ### own classes: operators, ==, in, isinstance, static methods -/
/-- what isinstance and == ask of an own class -/
def opB (K : PySem.W.Frag) (C : Addr) : Bool := PySem.W.selfFirst K C && (He.eqO (PySem.W.findIn K (.ref C) "__class__") (some (some (.builtin "object.__class__"))) &&
  (He.eqO (PySem.W.specialIn K (.builtin "object.__class__") "__get__") (some (some (.builtin "getset_descriptor.__get__"))) && (decide (PySem.W.takesIn K (.builtin "object.__class__") = some true) &&
  (decide (PySem.W.mroIn K C (.type "object") = some true) && (["NoneType", "bool", "int", "str", "tuple", "list"] : List String).all fun t => PySem.W.notFirst K C (.type t) && decide (PySem.W.kitOne K (.type t) (.ref C) = some false)))))
structure OpK (K : PySem.W.Frag) (C : Addr) : Prop where
  sf : PySem.W.selfFirst K C = true
  ha : PySem.W.findIn K (.ref C) "__class__" = some (some (.builtin "object.__class__"))
  hn : PySem.W.specialIn K (.builtin "object.__class__") "__get__" = some (some (.builtin "getset_descriptor.__get__"))
  ht : PySem.W.takesIn K (.builtin "object.__class__") = some true
  hm : PySem.W.mroIn K C (.type "object") = some true
  ty : ∀ t, t ∈ (["NoneType", "bool", "int", "str", "tuple", "list"] : List String) → PySem.W.notFirst K C (.type t) = true ∧ PySem.W.kitOne K (.type t) (.ref C) = some false
theorem opB_ok {K : PySem.W.Frag} {C : Addr} (h : opB K C = true) : OpK K C := by
  unfold opB at h
  obtain ⟨h1, h⟩ := Bool.and_eq_true_iff.mp h
  obtain ⟨h2, h⟩ := Bool.and_eq_true_iff.mp h
  obtain ⟨h3, h⟩ := Bool.and_eq_true_iff.mp h
  obtain ⟨h4, h⟩ := Bool.and_eq_true_iff.mp h
  obtain ⟨h5, h⟩ := Bool.and_eq_true_iff.mp h
  refine ⟨h1, He.eqO_ok h2, He.eqO_ok h3, of_decide_eq_true h4, of_decide_eq_true h5, fun t m => ?_⟩
  obtain ⟨a, b⟩ := Bool.and_eq_true_iff.mp (List.all_eq_true.mp h t m)
  exact ⟨a, of_decide_eq_true b⟩
structure IclK (X : Cx) (c : Str) : Prop where
  op : OpK X.K (He.ga X.K c)
  cl : Cls X.K (He.ga X.K c)
  mg : X.mg c = some (.ref (He.ga X.K c))
  nd : (c == ("__debug__" : Str)) = false
structure SmK (X : Cx) (F : Fenv) (c m q : Str) : Prop where
  ex : ∃ (fI : Addr) (fd : FuncData) (ps : List Str) (k : Nat) (p : Addr) (rest : List Value), ClX.CRead X.K (He.ga X.K c) (.type "type") ∧ PySem.W.findCls X.K (.ref (He.ga X.K c)) (.type "type") m = some (.get (.builtin "staticmethod.__get__") (.ref p) .none (.ref (He.ga X.K c))) ∧
    PySem.W.recIn X.K p "staticmethod" = some (.ref fI :: rest) ∧ PySem.W.keepIn X.K (.ref fI) = true ∧ X.mg c = some (.ref (He.ga X.K c)) ∧ FnOk X.prog X.w X.K X.mg X.base CX0 k fI fd ps (spF X.K F q) ∧ Room k X.A ∧ Binds X.K fd ps []
  nd : (c == ("__debug__" : Str)) = false
section
variable {X : Cx} {a b c e o : Expr} {ma mb : M W} {br : Bool} {pos apos : Pos} {E : Ent} {σw : Sls} {S S' : Sto} {φ φ' : List Addr} {σ : L2.St} {H H' : Hp} {w x y : W} {v u : V} {es : List Expr} {la : M (List W)} {p : Addr} {Q : VK} {C f : Addr} {fd : FuncData} {ps : List Str} {k : Nat} {sp : Sp}
/-- an own method called by the model: its answer -/
theorem own_call {us : List Value} {vs : List V} {P : V → Prop} {σ : L2.St} {s : Shared} {pins : List (Addr × Obj)} (F : FnOk X.prog X.w X.K X.mg X.base CX0 k f fd ps sp) (hr : Room k X.A) (hb : Binds X.K fd ps []) (I : Inv X pins σ H s) (r : Vals vs us)
    (h : sp vs H (fun v H' => P v ∧ Q v H') E0) : wpAny (model X.prog X.w) X.A (call (.ref f) us) (fun z s' => ∃ v H', Inv X pins σ H' s' ∧ RelV v z ∧ P v ∧ Q v H') X.xe s := by
  have z := run_fn (ds := []) (dvs := []) (vs := vs) F hr hb .nil (E := E0) pass0 I r (by rw [List.append_nil]; exact h)
  exact thn z fun z s' ⟨v, H', I', rv, p, q⟩ => ⟨v, H', I', rv, p, q⟩
theorem op_own {op : Operator} (M : Meth X.K C (PySem.dunder op.info.2) f) (sf : PySem.W.selfFirst X.K C = true) (F : FnOk X.prog X.w X.K X.mg X.base CX0 k f fd ps sp) (hr : Room k X.A) (hb : Binds X.K fd ps []) :
    OpR X (binaryOp op) (fun x y H Q => ∃ a b dx dy fs gs, x = .ref a ∧ y = .ref b ∧ H a = some (.ins C dx fs) ∧ H b = some (.ins C dy gs) ∧ sp [.ref a, .ref b] H (fun v H' => (∃ r, v = .ref r) ∧ Q v H') E0) := by
  intro pins s σ H x y v u Q I rx ry h
  obtain ⟨a, b, dx, dy, fs, gs, rfl, rfl, ha, hb', hs⟩ := h
  cases (show v = Value.ref a from rx)
  cases (show u = Value.ref b from ry)
  obtain ⟨mA, J, _⟩ := ins_get I.hok ha
  obtain ⟨mB, J', _⟩ := ins_get I.hok hb'
  obtain ⟨od, J, _⟩ := J.look
  obtain ⟨od', J', _⟩ := J'.look
  obtain ⟨m, hF⟩ := I.fr
  refine PySem.W.binop_K hF I.ok.mod.kin J J'.type sf M.at_ M.fn ?_
  refine thn (own_call (us := [.ref a, .ref b]) (vs := [.ref a, .ref b]) F hr hb I (.cons rfl (.cons rfl .nil)) hs) fun z s' ⟨v, H', I', rv, ⟨r, e⟩, q⟩ => ?_
  subst e
  cases (show z = Value.ref r from rv)
  exact ⟨.ref r, H', I', rfl, q⟩
theorem eq_own (hu : X.A.units < cLine) (M : Meth X.K C "__eq__" f) (F : FnOk X.prog X.w X.K X.mg X.base CX0 k f fd ps sp) (hr : Room k X.A) (hb : Binds X.K fd ps []) :
    OpR X (compareOp .Eq) (fun x y H Q => ∃ a dx fs t, x = .ref a ∧ H a = some (.ins C dx fs) ∧ TyX X.K H y t ∧ PySem.W.notFirst X.K C t = true ∧ sp [.ref a, y] H (fun v H' => (∃ r, v = .bl r) ∧ Q v H') E0) := by
  intro pins s σ H x y v u Q I rx ry h
  obtain ⟨a, dx, fs, t, rfl, ha, ty, hn, hs⟩ := h
  cases (show v = Value.ref a from rx)
  obtain ⟨mA, J, _⟩ := ins_get I.hok ha
  obtain ⟨od, J, _⟩ := J.look
  obtain ⟨P, Z, hp, _⟩ := kit_of I ry ty
  obtain ⟨m, hF⟩ := I.fr
  show wpAny (model X.prog X.w) X.A (richCompare .Eq (.ref a) u) (EP X pins σ Q) X.xe s
  refine PySem.W.cmp_K (op := .Eq) (tb := t) hu hF I.ok.mod.kin J (Z.ty _ _ I.kIn hp) hn M.at_ M.fn ?_
  refine thn (own_call (us := [.ref a, u]) (vs := [.ref a, y]) F hr hb I (.cons rfl (.cons ry .nil)) hs) fun z s' ⟨v, H', I', rv, ⟨r, e⟩, q⟩ => ?_
  subst e
  cases (show z = Value.bool r from rv)
  exact ⟨.bl r, H', I', rfl, q⟩
theorem in_own (M : Meth X.K C "__contains__" f) (F : FnOk X.prog X.w X.K X.mg X.base CX0 k f fd ps sp) (hr : Room k X.A) (hb : Binds X.K fd ps []) :
    OpR X (compareOp .In) (fun x y H Q => ∃ a dx fs, y = .ref a ∧ H a = some (.ins C dx fs) ∧ sp [.ref a, x] H (fun v H' => (∃ r, v = .bl r) ∧ Q v H') E0) := by
  intro pins s σ H x y v u Q I rx ry h
  obtain ⟨a, dx, fs, rfl, ha, hs⟩ := h
  cases (show u = Value.ref a from ry)
  obtain ⟨mA, J, _⟩ := ins_get I.hok ha
  obtain ⟨od, J, _⟩ := J.look
  obtain ⟨m, hF⟩ := I.fr
  refine PySem.W.in_K hF I.ok.mod.kin J M.at_ M.fn ?_
  refine thn (own_call (us := [.ref a, v]) (vs := [.ref a, x]) F hr hb I (.cons rfl (.cons rx .nil)) hs) fun z s' ⟨v, H', I', rv, ⟨r, e⟩, q⟩ => ?_
  subst e
  cases (show z = Value.bool r from rv)
  exact wpAny_truthy_bool ⟨.bl r, H', I', rfl, q⟩
theorem nin_own (M : Meth X.K C "__contains__" f) (F : FnOk X.prog X.w X.K X.mg X.base CX0 k f fd ps sp) (hr : Room k X.A) (hb : Binds X.K fd ps []) :
    OpR X (compareOp .NotIn) (fun x y H Q => ∃ a dx fs, y = .ref a ∧ H a = some (.ins C dx fs) ∧ sp [.ref a, x] H (fun v H' => (∃ r, v = .bl r ∧ Q (.bl (!r)) H')) E0) := by
  intro pins s σ H x y v u Q I rx ry h
  obtain ⟨a, dx, fs, rfl, ha, hs⟩ := h
  cases (show u = Value.ref a from ry)
  obtain ⟨mA, J, _⟩ := ins_get I.hok ha
  obtain ⟨od, J, _⟩ := J.look
  obtain ⟨m, hF⟩ := I.fr
  refine PySem.W.notIn_K hF I.ok.mod.kin J M.at_ M.fn ?_
  have z := run_fn (ds := []) (dvs := []) (vs := [.ref a, x]) F hr hb .nil (E := E0) pass0 I (.cons rfl (.cons rx .nil)) hs
  refine thn z fun z s' ⟨v, H', I', rv, r, e, q⟩ => ?_
  subst e
  cases (show z = Value.bool r from rv)
  exact wpAny_truthy_bool ⟨.bl (!r), H', I', rfl, q⟩
/-- an instance among the values -/
theorem ins_of {c : Str} (R : Rl X.K E σw S φ σ H) (r : RX X.K E σw φ σ H br x v) (h : insOf S x = some c) : ∃ n a dx gs, x = .loc n ∧ v = .ref a ∧ φ[n]? = some a ∧ H a = some (.ins (He.ga X.K c) dx gs) := by
  cases x with
  | loc n =>
    simp only [insOf] at h
    split at h
    · rename_i c' fs hs
      cases h
      obtain ⟨a, rfl, hp⟩ := rx_loc R r rfl
      obtain ⟨dx, gs, g1, g2⟩ := R.st.ob n _ a hs hp
      exact ⟨n, a, dx, gs, rfl, rfl, hp, g1⟩
    · cases h
  | _ => cases h
theorem wty_of {t : String} (R : Rl X.K E σw S φ σ H) (r : RX X.K E σw φ σ H br x v) (h : wtyN (vwz S x) = some t) : TyX X.K H v (.type t) ∧ t ∈ (["NoneType", "bool", "int", "str", "tuple", "list"] : List String) := by
  generalize hx : vwz S x = z at h
  cases z with
  | non => cases h; cases vz_non R r hx; exact ⟨.base .non, by decide⟩
  | bl i => cases h; cases vz_bl R r hx; exact ⟨.base (.bl _), by decide⟩
  | int i => cases h; cases vz_int R r hx; exact ⟨.base (.int _), by decide⟩
  | str i => cases h; cases vz_str R r hx; exact ⟨.base (.str _), by decide⟩
  | tup i => cases h; obtain ⟨a, vs, rfl, ha, _⟩ := vz_tup R r hx; exact ⟨tyx_t ha.sq, by decide⟩
  | lst i => cases h; obtain ⟨a, vs, rfl, ha, _⟩ := rz_lst R r hx; exact ⟨tyx_l ha, by decide⟩
  | _ => cases h
theorem tyx_ins {dx : Addr} {fs : List (Str × V)} (O : OpK X.K C) (cl : Cls X.K C) (h : H p = some (.ins C dx fs)) : TyX X.K H (.ref p) (.ref C) := .base (.ins h cl O.ha O.hn O.ht O.hm)
theorem toLocR_ok {w' : W} (h : toLocR w S = .ok w' S') : w' = w ∧ S' = S ∧ ∃ n, w = .loc n := by
  cases w <;> first | (cases h; done) | (cases h; exact ⟨rfl, rfl, _, rfl⟩)
theorem toBlR_ok {d : Bool} (h : toBlR w S = .ok d S') : w = .bl d ∧ S' = S := by
  cases w <;> first | (cases h; done) | (cases h; exact ⟨rfl, rfl⟩)
/-- x op y -/
theorem goOpI_ok {op : Operator} {F : Fenv} {own : Str → Option Str} {m : Str} (hop : m = PySem.dunder op.info.2) (hown : ∀ c q, own c = some q → IclK X c ∧ MtK X F c m q) (R : Rl X.K E σw S φ σ H) (rx : RX X.K E σw φ σ H false x v) (ry : RX X.K E σw φ σ H false y u)
    (q : goOpI F own x y S = .ok w S') (kk : ∀ φ' H' z, Ext φ H φ' H' → Rl X.K E σw S' φ' σ H' → RF X.K φ' (ZZ E σw φ' σ) H' w z → Q z H') : opAny X (binaryOp op) v u H Q := by
  unfold goOpI at q
  split at q
  · rename_i c c' h1 h2
    split at q
    · rename_i hc
      subst hc
      split at q
      · rename_i q0 h3
        obtain ⟨w', S2, e2, q⟩ := bind_ok q
        obtain ⟨e3, e4, n, e5⟩ := toLocR_ok q
        subst e3 e4
        obtain ⟨I1, M1⟩ := hown c q0 h3
        obtain ⟨fI, fd, ps, kk1, C1, M1, F1, hr, hbd⟩ := M1.ex
        subst hop
        obtain ⟨n1, a, dx, gs, rfl, rfl, hp1, g1⟩ := ins_of R rx h1
        obtain ⟨n2, b, dy, hs, rfl, rfl, hp2, g2⟩ := ins_of R ry h2
        refine ⟨_, op_own M1 I1.op.sf F1 hr hbd, a, b, dx, dy, gs, hs, rfl, rfl, g1, g2, ?_⟩
        refine call_go (Ex := E0) R (.cons (.loc hp1) (.cons (.loc hp2) .nil)) e2 fun φ' H' v x R' r' => ?_
        subst e5
        refine ⟨?_, kk φ' H' v x R' r'⟩
        cases r' with
        | loc h => exact ⟨_, rfl⟩
      · cases q
    · cases q
  · cases q
/-- x == y, y in x .. -/
theorem cmpI_ok {op : CmpOp} {F : Fenv} {G : Glob} {d : Bool} {g : W → W → Sto → Res Bool} (hu : X.A.units < cLine) (hg : g = match op with
    | .Eq => goEqI F (ownI G "__eq__")
    | .In => goInI F (ownI G "__contains__") false
    | .NotIn => goInI F (ownI G "__contains__") true
    | _ => fun _ _ _ => .bad) (hown : ∀ m c q, ownI G m c = some q → IclK X c ∧ MtK X F c m q) (R : Rl X.K E σw S φ σ H) (rx : RX X.K E σw φ σ H false x v) (ry : RX X.K E σw φ σ H false y u)
    (q : g x y S = .ok d S') (kk : ∀ φ' H', Ext φ H φ' H' → Rl X.K E σw S' φ' σ H' → Q (.bl d) H') : opAny X (compareOp op) v u H Q := by
  subst hg
  cases op with
  | Eq =>
    dsimp only at q
    unfold goEqI at q
    split at q
    · rename_i c h1
      split at q
      · rename_i h2
        split at q
        · rename_i q0 h3
          obtain ⟨w', S2, e2, q⟩ := bind_ok q
          obtain ⟨e3, e4⟩ := toBlR_ok q
          subst e3 e4
          obtain ⟨I1, M1⟩ := hown _ c q0 h3
          obtain ⟨fI, fd, ps, kk1, C1, M1, F1, hr, hbd⟩ := M1.ex
          obtain ⟨n1, a, dx, gs, rfl, rfl, hp1, g1⟩ := ins_of R rx h1
          have ty : ∃ t, TyX X.K H u t ∧ PySem.W.notFirst X.K (He.ga X.K c) t = true := by
            rcases h2 with h2 | h2
            · obtain ⟨n2, b, dy, hs, rfl, rfl, hp2, g2⟩ := ins_of R ry h2
              exact ⟨_, tyx_ins I1.op I1.cl g2, by simp [PySem.W.notFirst]⟩
            · obtain ⟨t, h2⟩ := Option.isSome_iff_exists.mp h2
              obtain ⟨z1, z2⟩ := wty_of R ry h2
              exact ⟨_, z1, (I1.op.ty t z2).1⟩
          obtain ⟨t, ty, nf⟩ := ty
          refine ⟨_, eq_own hu M1 F1 hr hbd, a, dx, gs, t, rfl, g1, ty, nf, ?_⟩
          refine call_go (Ex := E0) R (.cons (.loc hp1) (.cons ry.fr .nil)) e2 fun φ' H' v x R' r' => ?_
          cases r' with
          | bl => exact ⟨⟨_, rfl⟩, kk φ' H' x R'⟩
        · cases q
      · cases q
    · cases q
  | In =>
    dsimp only at q
    unfold goInI at q
    split at q
    · rename_i c h1
      split at q
      · rename_i q0 h3
        obtain ⟨w', S2, e2, q⟩ := bind_ok q
        obtain ⟨d', S3, e6, q⟩ := bind_ok q
        obtain ⟨e3, e4⟩ := toBlR_ok e6
        subst e3 e4
        cases q
        obtain ⟨I1, M1⟩ := hown _ c q0 h3
        obtain ⟨fI, fd, ps, kk1, C1, M1, F1, hr, hbd⟩ := M1.ex
        obtain ⟨n1, a, dx, gs, rfl, rfl, hp1, g1⟩ := ins_of R ry h1
        refine ⟨_, in_own M1 F1 hr hbd, a, dx, gs, rfl, g1, ?_⟩
        refine call_go (Ex := E0) R (.cons (.loc hp1) (.cons rx.fr .nil)) e2 fun φ' H' v x R' r' => ?_
        cases r' with
        | bl => exact ⟨⟨_, rfl⟩, by have := kk φ' H' x R'; rw [Bool.bne_false] at this; exact this⟩
      · cases q
    · cases q
  | NotIn =>
    dsimp only at q
    unfold goInI at q
    split at q
    · rename_i c h1
      split at q
      · rename_i q0 h3
        obtain ⟨w', S2, e2, q⟩ := bind_ok q
        obtain ⟨d', S3, e6, q⟩ := bind_ok q
        obtain ⟨e3, e4⟩ := toBlR_ok e6
        subst e3 e4
        cases q
        obtain ⟨I1, M1⟩ := hown _ c q0 h3
        obtain ⟨fI, fd, ps, kk1, C1, M1, F1, hr, hbd⟩ := M1.ex
        obtain ⟨n1, a, dx, gs, rfl, rfl, hp1, g1⟩ := ins_of R ry h1
        refine ⟨_, nin_own M1 F1 hr hbd, a, dx, gs, rfl, g1, ?_⟩
        refine call_go (Ex := E0) R (.cons (.loc hp1) (.cons rx.fr .nil)) e2 fun φ' H' v x R' r' => ?_
        cases r' with
        | bl => exact ⟨_, rfl, by have := kk φ' H' x R'; rw [Bool.bne_true] at this; exact this⟩
      · cases q
    · cases q
  | _ => cases q
def goC (G : Glob) (F : Fenv) (op : CmpOp) : W → W → Sto → Res Bool := match op with
    | .Eq => goEqI F (ownI G "__eq__")
    | .In => goInI F (ownI G "__contains__") false
    | .NotIn => goInI F (ownI G "__contains__") true
    | _ => fun _ _ _ => .bad
theorem cmpI_run {G : Glob} {F : Fenv} {op : CmpOp} {d : Bool} (q : cmpI G F op ma mb σw S = .ok d S') : ∃ x S1 y S2, ma σw S = .ok x S1 ∧ mb σw S1 = .ok y S2 ∧ goC G F op x y S2 = .ok d S' := by
  unfold cmpI at q
  unfold goC
  cases op <;> dsimp only at q ⊢ <;> first
    | (cases q; done)
    | (obtain ⟨x, S1, e1, q⟩ := bind_ok q
       obtain ⟨y, S2, e2, q⟩ := bind_ok q
       exact ⟨x, S1, y, S2, e1, e2, q⟩)
theorem goOpI_new {F : Fenv} {own : Str → Option Str} {H0 : Hp} (q : goOpI F own x y S = .ok w S') (R : Rl X.K E σw S' φ σ H) (r : RF X.K φ (ZZ E σw φ σ) H w v) : New X.K E σw S' φ σ H0 H w v := by
  unfold goOpI at q
  split at q
  · split at q
    · split at q
      · obtain ⟨w', S2, e2, q⟩ := bind_ok q
        obtain ⟨e3, e4, n, e5⟩ := toLocR_ok q
        subst e3 e4
        subst e5
        exact ⟨R, r⟩
      · cases q
    · cases q
  · cases q
theorem pe_opI {op : Operator} {F : Fenv} {own : Str → Option Str} {m : Str} (hop : m = PySem.dunder op.info.2) (hown : ∀ c q, own c = some q → IclK X c ∧ MtK X F c m q) (ha : PE X a (rdE X.K false ma)) (hb : PE X b (rdE X.K false mb)) : PE X (.BinOp a op b pos) (rdN X.K (mOpI F own ma mb)) :=
  (pe_op opAny_ok ha hb).imp fun σ H Q ⟨E, σw, S, φ, R, w, S', q, k⟩ => by
    obtain ⟨x, S1, e1, q⟩ := bind_ok q
    obtain ⟨y, S2, e2, q⟩ := bind_ok q
    exact ⟨E, σw, S, φ, R, x, S1, e1, fun φ1 H1 v x1 R1 r1 => ⟨E, σw, S1, φ1, R1, y, S2, e2, fun φ2 H2 u x2 R2 r2 =>
      goOpI_ok hop hown R2 (r1.ext x2) r2 q fun φ' H' z x3 R3 r3 => k φ' H' z ((x1.trans x2).trans x3) (goOpI_new q R3 r3)⟩⟩
theorem pe_isiI {c : Str} {p0 p1 : Pos} (hc : X.calm = true) (hg : Gl X "isinstance") (hm : X.mg "isinstance" = none) (hgc : Gl X c) (I1 : IclK X c) (hs : isStar a = false) (ha : PE X a (rdE X.K true ma)) :
    PE X (.Call (.Name "isinstance" p0) [a, .Name c p1] [] pos) (rdE X.K br (mIsI c ma)) := by
  have h2 : PE X (.Name c p1) (tC (.ref (He.ga X.K c))) := pe_glob hgc I1.mg rfl I1.nd
  have hp : PA X [a, .Name c p1] (rdA X.K true (mCons ma (mCons (mC (.gl c)) mNil))) := pa_consop hs ha (pa_consop rfl (pe_c h2 fun _ _ _ => .gl c) pa_nilop)
  refine (pe_callB (id := "isinstance") callAny_ok hg hm (by decide +kernel) hp (by decide) (by decide) (star_cons hs) (by rfl)).imp fun σ H Q ⟨E, σw, S, φ, R, w, S', q, k⟩ => ?_
  obtain ⟨x, S1, e1, q⟩ := bind_ok q
  obtain ⟨q2, e3⟩ := olift_ok q
  subst e3
  refine ⟨E, σw, S, φ, R, [x, .gl c], S', by unfold mCons; rw [e1]; rfl, fun φ1 H1 us x1 R1 r1 => ?_⟩
  obtain ⟨v, v2, rfl, r2, r4⟩ := rxs_cons2 r1 rfl
  have e4 : v2 = .ref (He.ga X.K c) := by
    rcases r4 with r4 | ⟨_, i, a2, h1, _⟩
    · cases r4; rfl
    · obtain ⟨b, g, hb, _⟩ := R1.ow i _ h1
      rcases hb with ⟨_, _, z, _⟩ | ⟨_, _, z, _⟩ <;> cases z
  subst e4
  unfold wIsI at q2
  split at q2
  · rename_i c' h1
    split at q2
    · rename_i h5
      subst h5
      cases q2
      obtain ⟨n1, a1, dx, gs, rfl, rfl, hp1, g1⟩ := ins_of R1 r2 h1
      exact ⟨_, call_isi, .ref a1, .ref _, _, .ref _, true, rfl, .own _, tyx_ins I1.op I1.cl g1, by unfold PySem.W.kitOne; simp, k φ1 H1 _ x1 R1 (.inl (.bl _))⟩
    · cases q2
  · split at q2
    · rename_i h5
      cases q2
      obtain ⟨t, h5⟩ := Option.isSome_iff_exists.mp h5
      obtain ⟨z1, z2⟩ := wty_of R1 r2 h5
      exact ⟨_, call_isi, v, .ref _, _, .ref _, false, rfl, .own _, z1, (I1.op.ty t z2).2, k φ1 H1 _ x1 R1 (.inl (.bl _))⟩
    · cases q2
/-- C.m(..), a static method -/
theorem pe_smI {c m fq : Str} {F : Fenv} {p0 : Pos} (h : SmK X F c m fq) (hgc : Gl X c) (hok : methOk (.Name c p0) apos pos es = true) (hne : es ≠ []) (ha : PA X es (rdA X.K false la)) :
    PE X (.Call (.Attribute (.Name c p0) m apos) es [] pos) (rdE X.K br (mCall F fq la [])) := by
  obtain ⟨fI, fd, ps, kk, p, rest, h1, h2, h3, h4, h5, F1, hr, hb⟩ := h.ex
  have hp : PE X (.Name c p0) (tC (.ref (He.ga X.K c))) := pe_glob hgc h5 rfl h.nd
  simp only [methOk, callOk, Bool.and_eq_true, decide_eq_true_eq] at hok
  obtain ⟨⟨hb0, hline⟩, hs, hn⟩ := hok
  have hbase := base_ok (f := m) (env := X.env) hb0
  have ht := meth_ht (es := es) (pos := pos) (apos := apos) hbase hline hs hn
  cases es with
  | nil => exact absurd rfl hne
  | cons e es =>
    obtain ⟨z1, z2⟩ := noStar_cons hs
    refine ⟨fun pins s σ H Q I hq => ?_⟩
    obtain ⟨E, σw, S, φ, R, w, S', q, k⟩ := hq
    obtain ⟨ws, S1, e1, q⟩ := bind_ok q
    refine PySem.W.methodCall_KW (pl := _) (thn (hp.run pins s σ H (fun x H1 => x = .ref (He.ga X.K c) ∧ H1 = H) I ⟨rfl, rfl⟩) fun u s1 ⟨x, H1, I1, rx, ex, eh⟩ => ?_) ht
    subst ex eh
    obtain rfl : u = Value.ref (He.ga X.K c) := rx
    refine PySem.W.method_cls I1.kIn h1.ga ?_
    refine PySem.W.cls_bind I1.kIn h1.rd h2 ?_
    refine wpAny_call (PySem.W.sm_get (s := { s1 with toks := s1.toks + 1 }) I1.kIn h3 (PySem.W.handed_on rfl ?_))
    have I2 := I1.tok (s1.toks + 1)
    refine PySem.W.callWith_K (first := []) (h₀ := X.base) I.ok.mod.kin h4 (thn (ha.run pos pins _ σ H1 (fun vs H2 => spF X.K F fq (vs ++ []) H2 Q E0) I2 ⟨E, σw, S, φ, R, ws, S1, e1, fun φ1 H1 us x1 R1 r1 => ?_⟩) fun us s2 ⟨vs, H2, I2, r, q2⟩ => ⟨I2.kIn, ?_⟩) (star_cons z1) (star_any z2).1
    · exact call_go (Ex := E0) R1 (r1.fr.append .nil) q fun φ' H' v x R' r' => k φ' H' v (x1.trans x) R' (.inl r')
    · exact run_fn (us := us) (vs := vs) F1 hr hb .nil (E := E0) pass0 I2 r q2
theorem pe_cmpI {op : CmpOp} {G : Glob} {F : Fenv} (hu : X.A.units + 64 < cLine) (hm : behindInMarks op b = false) (hown : ∀ m c q, ownI G m c = some q → IclK X c ∧ MtK X F c m q) (ha : PE X a (rdE X.K false ma)) (hb : PE X b (rdE X.K false mb)) : PE X (.Compare a [op] [b] pos) (rdE X.K br (mVal (cmpI G F op ma mb))) :=
  (pe_cmpR opAny_ok ha hb hm).imp fun σ H Q ⟨E, σw, S, φ, R, w, S', q, k⟩ => by
    obtain ⟨d, S2, q, q2⟩ := bind_ok q
    cases q2
    obtain ⟨x, S1, y, S2, e1, e2, q⟩ := cmpI_run q
    exact ⟨E, σw, S, φ, R, x, S1, e1, fun φ1 H1 v x1 R1 r1 => ⟨E, σw, S1, φ1, R1, y, S2, e2, fun φ2 H2 u x2 R2 r2 =>
      cmpI_ok (g := goC G F op) (by omega) rfl hown R2 (r1.ext x2) r2 q fun φ' H' x3 R3 => k φ' H' _ ((x1.trans x2).trans x3) R3 (.inl (.bl _))⟩⟩
theorem pt_cmpI {op : CmpOp} {G : Glob} {F : Fenv} (hu : X.A.units + 64 < cLine) (hm : behindInMarks op b = false) (hown : ∀ m c q, ownI G m c = some q → IclK X c ∧ MtK X F c m q) (ha : PE X a (rdE X.K false ma)) (hb : PE X b (rdE X.K false mb)) : PT X (.Compare a [op] [b] pos) (rdT X.K (cmpI G F op ma mb)) :=
  (pt_cmpR opAny_ok ha hb hm).imp fun σ H Q ⟨E, σw, S, φ, R, w, S', q, k⟩ => by
    obtain ⟨x, S1, y, S2, e1, e2, q⟩ := cmpI_run q
    exact ⟨E, σw, S, φ, R, x, S1, e1, fun φ1 H1 v x1 R1 r1 => ⟨E, σw, S1, φ1, R1, y, S2, e2, fun φ2 H2 u x2 R2 r2 =>
      cmpI_ok (g := goC G F op) (by omega) rfl hown R2 (r1.ext x2) r2 q fun φ' H' x3 R3 => ⟨_, rfl, k φ' H' ((x1.trans x2).trans x3) R3⟩⟩⟩
end
end EV

namespace EV
open PySem PySem.Spec PyProof.Rows L2
/-! ### the setting of a def's text -/
structure ScOk (sc sc' : Scope) : Prop where
  loc : ∀ x, sc.names.lookup x = some .local → sc'.names.lookup x = some .local
  gl : ∀ x, sc.names.lookup x = some .globalImplicit → sc'.names.lookup x = some .globalImplicit
  cell : ∀ x, sc.names.lookup x = some .cell → sc'.names.lookup x = some .cell
  fre : ∀ x, sc.names.lookup x = some .free → sc'.names.lookup x = some .free ∨ sc'.names.lookup x = some .cell
theorem ScOk.refl {sc : Scope} : ScOk sc sc := ⟨fun _ h => h, fun _ h => h, fun _ h => h, fun _ h => .inl h⟩
theorem lookup_relab {env : PySem.Env} {k : NameKind} : ∀ {names : List (Str × NameKind)} {x : Str}, names.lookup x = some k →
    (names.map fun (n, k) => if (k == NameKind.free && env.scope.kind == .function && env.kindOf n == some .cell) then (n, NameKind.cell) else (n, k)).lookup x = some k ∨ (k = .free ∧ (names.map fun (n, k) => if (k == NameKind.free && env.scope.kind == .function && env.kindOf n == some .cell) then (n, NameKind.cell) else (n, k)).lookup x = some .cell)
  | [], _, h => by simp at h
  | (n, k') :: r, x, h => by
    have ih := @lookup_relab env k r x
    rw [List.map_cons]
    by_cases hc : (k' == NameKind.free && env.scope.kind == .function && env.kindOf n == some .cell) = true
    · have hk : k' = .free := by
        simp only [Bool.and_eq_true] at hc
        exact eq_of_beq hc.1.1
      simp only [hc, if_true]
      cases hx : x == n with
      | true =>
        simp only [List.lookup_cons, hx] at h ⊢
        cases h
        exact .inr ⟨hk, trivial⟩
      | false =>
        simp only [List.lookup_cons, hx] at h ⊢
        exact ih h
    · simp only [hc]
      cases hx : x == n with
      | true =>
        simp only [List.lookup_cons, hx] at h
        cases h
        exact .inl (by simp [List.lookup_cons, hx])
      | false =>
        simp only [List.lookup_cons, hx] at h
        simpa [List.lookup_cons, hx] using ih h
theorem ScOk.relabel {cs : Scope} {env : PySem.Env} : ScOk cs (relabel cs env) :=
  ⟨fun x h => (lookup_relab h).elim id fun z => (by cases z.1), fun x h => (lookup_relab h).elim id fun z => (by cases z.1), fun x h => (lookup_relab h).elim id fun z => z.2, fun x h => (lookup_relab h).elim .inl fun z => .inr z.2⟩
/-- a constant of the module, or a built-in class as a value -/
structure CstK (X : Cx) (x : Str) (w : W) : Prop where
  ex : ∃ (v : V) (u : Value), RelV v u ∧ (∀ φ Z H, RF X.K φ Z H w v) ∧ (X.mg x = some u ∨ (X.mg x = none ∧ bootBuiltins x = some u ∧ x ≠ "__name__"))
  nd : (x == ("__debug__" : Str)) = false
structure CxOk (G : Glob) (F : Fenv) (D : Dx) (sc : Scope) (X : Cx) : Prop where
  N : X.N = D.N
  nd : D.N.Nodup
  sk : ScOk sc X.env.scope
  kind : X.env.scope.kind = .function
  calm : X.calm = true
  hu : X.A.units + 64 < cLine
  own : PassesOwn (model X.prog X.w) X.A X.env X.xe
  nx : ∀ e s, ¬ X.xe e s
  fnc : ∀ x, sc.names.lookup x = some .cell → X.fn x = true
  fre : ∀ x, G.fre.contains x = true → X.mg x = none
  cst : ∀ x w, G.cst.lookup x = some w → CstK X x w
  fns : ∀ f i, G.fns.lookup f = some i → FnK X F f i
  cls : ∀ c k, G.cls.lookup c = some k → MkK X F c
  mts : ∀ c m q, G.mts.lookup (c, m) = some q → MtK X F c m q
  kwc : ∀ f ks np ord, G.kwc.lookup (f, ks) = some (np, ord) → KwK X F f ks np ord
  fld : ∀ c f, G.fld.contains (c, f) = true → Cls X.K (He.ga X.K c) ∧ NoAttr X.K (He.ga X.K c) f
  tbl : ∀ x t, G.tbl.lookup x = some t → TblK X.K X.w X.mg x t
  dts : ∀ x t, G.dts.lookup x = some t → DtsK X.K X.w X.mg x t
  icl : ∀ c, G.icl.contains c = true → IclK X c
  sms : ∀ c m q, G.sms.lookup (c, m) = some q → SmK X F c m q
section
variable {G : Glob} {F : Fenv} {D : Dx} {sc : Scope} {X : Cx} {br : Bool} {pos : Pos}
theorem CxOk.blk {cs : Scope} {own : List (Str × Nat)} (C : CxOk G F D sc X) (b : BlkOk X.N X.env.scope cs own) (s : Shared) (H : Hp) (A : Addr) (cl : List (Str × Addr)) (fp : List Addr) : CxOk G F D cs (X.blk s H cs (compEnvC cs cl A X.env) fp) where
  N := C.N
  nd := C.nd
  sk := ScOk.relabel
  kind := b.kind
  calm := C.calm
  hu := C.hu
  own := PassesOwn.never
  nx := fun _ _ h => h
  fnc := fun x h => by show (cs.names.lookup x == some .cell) = true; rw [h]; rfl
  fre := C.fre
  cst := fun x w h => ⟨(C.cst x w h).ex, (C.cst x w h).nd⟩
  fns := fun f i h => ⟨(C.fns f i h).ex, (C.fns f i h).nd⟩
  cls := fun c k h => ⟨(C.cls c k h).ex, (C.cls c k h).nd⟩
  mts := fun c m q h => ⟨(C.mts c m q h).ex⟩
  kwc := fun f ks np ord h => ⟨(C.kwc f ks np ord h).ex, (C.kwc f ks np ord h).nd⟩
  fld := C.fld
  tbl := fun x t h => ⟨(C.tbl x t h).ex, (C.tbl x t h).nd⟩
  dts := fun x t h => ⟨(C.dts x t h).ex, (C.dts x t h).nd⟩
  icl := fun c h => ⟨(C.icl c h).op, (C.icl c h).cl, (C.icl c h).mg, (C.icl c h).nd⟩
  sms := fun c m q h => ⟨(C.sms c m q h).ex, (C.sms c m q h).nd⟩
theorem CxOk.blkOk {cs : Scope} {own : List (Str × Nat)} (C : CxOk G F D sc X) (h : blkC D.N sc cs own = true) : BlkOk X.N X.env.scope cs own := by
  have b := blkOk_by h
  rw [C.N]
  refine ⟨b.kind, b.uniq, b.ix, fun y hy e => ?_, b.own⟩
  rcases b.free y hy e with z | z
  · exact .inl (C.sk.cell _ z)
  · exact (C.sk.fre _ z).symm
theorem isG_gl {x : Str} (C : CxOk G F D sc X) (h : isG sc x = true) : Gl X x := by
  unfold isG at h
  split at h
  · rename_i e; exact C.sk.gl _ e
  · cases h
theorem isLoc_vis {x : Str} (C : CxOk G F D sc X) (h : isLoc sc x = true) : Vis X.env.scope x ∧ (x == ("__debug__" : Str)) = false ∧ (x == ("__classdict__" : Str)) = false := by
  unfold isLoc okNm at h
  simp only [Bool.and_eq_true, Bool.not_eq_true'] at h
  obtain ⟨⟨h1, h2⟩, h⟩ := h
  refine ⟨?_, h1, h2⟩
  split at h
  · rename_i e; exact .inl (C.sk.loc _ e)
  · rename_i e; exact .inr (.inl (C.sk.cell _ e))
  · rename_i e; exact (C.sk.fre _ e).elim (fun z => .inr (.inr z)) fun z => .inr (.inl z)
  · cases h
theorem slot_ix {x : Str} {i : Nat} (C : CxOk G F D sc X) (h : slotOf D.N x = some i) : X.N[i]? = some x ∧ i = D.N.idxOf x := by
  unfold slotOf at h
  split at h
  · rename_i hl
    cases h
    rw [C.N]
    refine ⟨?_, rfl⟩
    rw [List.getElem?_eq_getElem hl]
    exact congrArg some (List.getElem_idxOf hl)
  · cases h
theorem name_tv {x : Str} {i : Nat} (C : CxOk G F D sc X) (h : isLoc sc x = true) (hs : slotOf D.N x = some i) : PE X (.Name x pos) (tVar i) := by
  obtain ⟨h1, h2, h3⟩ := isLoc_vis C h
  exact pe_var (slot_ix C hs).1 h1 h2 h3
theorem name_mv {x : Str} {i : Nat} (C : CxOk G F D sc X) (h : isLoc sc x = true) (hs : slotOf D.N x = some i) : PE X (.Name x pos) (rdE X.K false (mVar i)) := by
  obtain ⟨h1, h2, h3⟩ := isLoc_vis C h
  exact pe_varop (slot_ix C hs).1 h1 h2 h3
theorem name_mvB {x : Str} {i : Nat} (C : CxOk G F D sc X) (h : isLoc sc x = true) (hs : slotOf D.N x = some i) : PE X (.Name x pos) (rdE X.K true (mVarB i)) := by
  obtain ⟨h1, h2, h3⟩ := isLoc_vis C h
  exact pe_varopB (slot_ix C hs).1 h1 h2 h3
theorem name_ok {x : Str} (C : CxOk G F D sc X) : PE X (.Name x pos) (rdE X.K br (cName G D sc br x)) := by
  unfold cName
  split
  · rename_i hg
    split
    · rename_i w hw
      obtain ⟨⟨v, u, r, h1, h2⟩, h3⟩ := C.cst x w hw
      have hgl : Gl X x := C.sk.gl _ hg
      rcases h2 with h2 | ⟨h2, h4, h5⟩
      · exact pe_c (pe_glob hgl h2 r h3) h1
      · exact pe_c (pe_bltn hgl h2 h4 r h5 h3) h1
    · exact PE.no
  · split
    · rename_i hl
      split
      · rename_i i hi
        cases br with
        | true => exact name_mvB C hl hi
        | false => exact name_mv C hl hi
      · exact PE.no
    · exact PE.no
/-! ### targets -/
theorem tg_bd : ∀ (n : Nat) (e : Expr), BdOk ((tgNames n e).map fun x => D.N.idxOf x) (cTg D sc n e)
  | 0, e => bd_bad
  | n + 1, e => by
    unfold cTg tgNames
    split
    · rename_i x p
      have nm : ∀ i, slotOf D.N x = some i → BdOk ([x].map fun x => D.N.idxOf x) (bName i) := fun i h => by
        unfold slotOf at h
        split at h
        · cases h; exact bd_name
        · cases h
      split
      · rename_i i h1 h2; exact nm i h2
      · rename_i i h1 h2; exact nm i h2
      · exact bd_bad
    · rename_i es k p
      split
      · refine bd_tup fun g hg => ?_
        obtain ⟨e, he, rfl⟩ := List.mem_map.mp hg
        refine (tg_bd n e).mono fun i hi => ?_
        obtain ⟨x, hx, rfl⟩ := List.mem_map.mp hi
        exact List.mem_map.mpr ⟨x, List.mem_flatMap.mpr ⟨e, he, hx⟩, rfl⟩
      · exact bd_bad
    · exact bd_bad
theorem tgs_pg {gs : Expr → W → M Sls} {ow : Expr → List Nat} {own : List Nat} : ∀ {es : List Expr}, noStar es = true → (∀ e, e ∈ es → BdOk (ow e) (gs e) ∧ PG X e (rdG X.K (ow e) (gs e)) ∧ ∀ i, i ∈ ow e → i ∈ own) → PGs X es (rdGs X.K own (es.map gs))
  | [], _, _ => pgs_nilop
  | e :: es, hs, h => by
    obtain ⟨s1, s2⟩ := noStar_cons hs
    obtain ⟨h1, h2, h3⟩ := h e (List.mem_cons_self ..)
    exact pgs_consop s1 (rdG_mono h2 h3) (tgs_pg s2 fun e he => h e (List.mem_cons_of_mem _ he)) (h1.mono h3)
theorem tg_pg (C : CxOk G F D sc X) : ∀ (n : Nat) (e : Expr), PG X e (rdG X.K ((tgNames n e).map fun x => D.N.idxOf x) (cTg D sc n e))
  | 0, e => PG.no
  | n + 1, e => by
    unfold cTg tgNames
    split
    · rename_i x p
      have nm : ∀ i, slotOf D.N x = some i → Loc X.env.scope x → (X.fn x = true ∨ X.env.scope.names.lookup x = some .local) → PG X (.Name x p) (rdG X.K ([x].map fun x => D.N.idxOf x) (bName i)) := fun i h h1 h2 => by
        obtain ⟨h3, rfl⟩ := slot_ix C h
        exact pg_nameop (by rw [C.N]; exact C.nd) h3 h1 h2
      split
      · rename_i i h1 h2; exact nm i h2 (.inl (C.sk.loc _ h1)) (.inr (C.sk.loc _ h1))
      · rename_i i h1 h2; exact nm i h2 (.inr (C.sk.cell _ h1)) (.inl (C.fnc _ h1))
      · exact PG.no
    · rename_i es k p
      split
      · rename_i hs
        refine pg_tupop C.calm hs (by rw [List.length_map]) (tgs_pg (ow := fun e => (tgNames n e).map fun x => D.N.idxOf x) hs fun e he => ⟨tg_bd n e, tg_pg C n e, fun i hi => ?_⟩)
        obtain ⟨x, hx, rfl⟩ := List.mem_map.mp hi
        exact List.mem_map.mpr ⟨x, List.mem_flatMap.mpr ⟨e, he, hx⟩, rfl⟩
      · exact PG.no
    · exact PG.no
end
end EV

namespace EV
open PySem PySem.Spec PyProof.Rows L2
/-! ### expressions: the text's walk is sound -/
section
variable {X : Cx} {e : Expr} {m : M W} {br : Bool}
theorem _root_.L2.PTs.no {es : List Expr} : PTs X es (rdT X.K mBad) := ⟨fun _ _ _ _ _ _ ⟨_, _, _, _, _, _, _, q, _⟩ => by cases q⟩
theorem _root_.L2.PW.no : PW X e (rdT X.K mBad) := ⟨fun _ _ _ _ _ _ _ ⟨_, _, _, _, _, _, _, q, _⟩ => by cases q⟩
theorem pts_nilop : PTs X [] (rdT X.K mYes) := by
  obtain ⟨h⟩ := pts_nil (X := X)
  exact ⟨fun pins s σ H Q I ⟨E, σw, S, φ, R, w, S', q, k⟩ => h pins s σ H Q I (by cases q; exact k φ H .refl R)⟩
theorem mkN (h : PE X e (rdN X.K m)) : (isNew e = true → PE X e (rdN X.K m)) ∧ PE X e (rdE X.K br m) := ⟨fun _ => h, rdE_of_rdN h⟩
theorem mkE (h0 : isNew e = false) (h : PE X e (rdE X.K br m)) : (isNew e = true → PE X e (rdN X.K m)) ∧ PE X e (rdE X.K br m) := ⟨fun h1 => (by rw [h0] at h1; cases h1), h⟩
theorem mkB : (isNew e = true → PE X e (rdN X.K mBad)) ∧ PE X e (rdE X.K br mBad) := ⟨fun _ => .noN, .no⟩
end
theorem isStar_bad {G : Glob} {F : Fenv} {D : Dx} {sc : Scope} {a : Expr} {n : Nat} {m : Bool} (h : isStar a = true) : cE G F D n m sc a = mBad := by
  cases a <;> first | cases h | skip
  cases n with
  | zero => rfl
  | succ n =>
    unfold cE isOp opKd fzE shr isShr isNew lkE lkOf isLCm
    cases n <;> rfl
structure ExS (G : Glob) (F : Fenv) (D : Dx) (n : Nat) : Prop where
  E : ∀ {sc X br e}, CxOk G F D sc X → PE X e (rdE X.K br (cE G F D n br sc e))
  E1 : ∀ {sc X br e}, CxOk G F D sc X → (isNew e = true → PE X e (rdN X.K (cE1 G F D n br sc e))) ∧ PE X e (rdE X.K br (cE1 G F D n br sc e))
  O : ∀ {sc X br e}, CxOk G F D sc X → (isNew e = true → PE X e (rdN X.K (cO G F D n sc e))) ∧ PE X e (rdE X.K br (cO G F D n sc e))
  An : ∀ {sc X br es pos}, CxOk G F D sc X → PE X (.BoolOp .And es pos) (rdE X.K br (cAnd G F D n br sc es))
  Or : ∀ {sc X br es pos}, CxOk G F D sc X → PE X (.BoolOp .Or es pos) (rdE X.K br (cOr G F D n br sc es))
  Ps : ∀ {sc X pos ks vs}, CxOk G F D sc X → PPs X pos ks vs ((cPs G F D n sc ks vs).map fun p => (rdE X.K true p.1, rdE X.K false p.2))
  A : ∀ {sc X br es}, CxOk G F D sc X → PA X es (rdA X.K br (cA G F D n br sc es))
  J : ∀ {sc X es}, CxOk G F D sc X → EJ X es (cA G F D n true sc es)
  Ks : ∀ {sc X br kws}, CxOk G F D sc X → PK X kws (rdA X.K br (cA G F D n br sc (kws.map (·.value))))
  Ifs : ∀ {sc X es}, CxOk G F D sc X → PTs X es (rdT X.K (cIfs G F D n sc es))
  T : ∀ {sc X e}, CxOk G F D sc X → PT X e (rdT X.K (cT G F D n sc e))
  AnT : ∀ {sc X es pos}, CxOk G F D sc X → PW X (.BoolOp .And es pos) (rdT X.K (cAndT G F D n sc es))
  OrT : ∀ {sc X es pos}, CxOk G F D sc X → PW X (.BoolOp .Or es pos) (rdT X.K (cOrT G F D n sc es))
  It : ∀ {sc X tg it}, CxOk G F D sc X → itFits tg it = true → PI X tg it (rdI X.K (cIt G F D n sc it))
section
variable {G : Glob} {F : Fenv} {D : Dx}
theorem cA_nil {n : Nat} {br : Bool} {sc : Scope} : cA G F D n br sc [] = mNil := by cases n <;> rfl
theorem exs_zero : ExS G F D 0 where
  E := fun _ => by unfold cE; exact .no
  E1 := fun _ => by unfold cE1; exact mkB
  O := fun _ => by unfold cO; exact mkB
  An := fun _ => by unfold cAnd; exact .no
  Or := fun _ => by unfold cOr; exact .no
  Ps := fun _ => by unfold cPs; exact .no
  A := fun _ => by
    unfold cA
    split
    · exact pa_nilop
    · exact .no
  J := fun _ => by
    unfold cA
    split
    · exact .nil
    · exact .bad
  Ks := fun {_ _ _ kws} _ => by
    cases kws with
    | nil => exact pk_nilop
    | cons _ _ => exact .no
  Ifs := fun _ => by unfold cIfs; exact .no
  T := fun _ => by unfold cT; exact .no
  AnT := fun _ => by unfold cAndT; exact .no
  OrT := fun _ => by unfold cOrT; exact .no
  It := fun _ _ => by unfold cIt; exact .no
variable {sc : Scope} {X : Cx} {n : Nat} {br : Bool}
theorem cA_len {br : Bool} {sc : Scope} : ∀ {n : Nat} {es : List Expr} {σ : Sls} {S S' : Sto} {xs : List W}, cA G F D n br sc es σ S = .ok xs S' → xs.length = es.length
  | 0, [], σ, S, S', xs, h => by cases h; rfl
  | 0, _ :: _, σ, S, S', xs, h => by cases h
  | n + 1, [], σ, S, S', xs, h => by cases h; rfl
  | n + 1, e :: es, σ, S, S', xs, h => by
    unfold cA at h
    simp only at h
    split at h
    · cases h
    · obtain ⟨y, S1, e1, h⟩ := bind_ok h
      obtain ⟨ys, S2, e2, h⟩ := bind_ok h
      cases h
      rw [List.length_cons, List.length_cons, cA_len e2]
theorem e_succ (I : ExS G F D n) (C : CxOk G F D sc X) {e : Expr} : PE X e (rdE X.K br (cE G F D (n + 1) br sc e)) := by
  have base : PE X e (rdE X.K br (shr D e (lkE D e (cE1 G F D n br sc e)))) := by
    unfold shr
    split
    · rename_i h
      unfold isShr at h
      rw [Bool.and_eq_true] at h
      exact pe_toLoc (pe_lkN ((I.E1 C).1 h.1))
    · exact pe_lkE (I.E1 C).2
  unfold cE
  split
  · exact (I.O C).2
  unfold fzE
  split
  · exact base
  · split
    · exact pe_fz base
    · exact base
theorem ownI_ok (C : CxOk G F D sc X) {m c q : Str} (h : ownI G m c = some q) : IclK X c ∧ MtK X F c m q := by
  unfold ownI at h
  split at h
  · rename_i h1; exact ⟨C.icl c h1, C.mts c m q h⟩
  · cases h
theorem dun_ok {op : Operator} {m : Str} (h : dun op = some m) : m = PySem.dunder op.info.2 := by
  cases op <;> simp only [dun] at h <;> first | (cases h; done) | (cases h; decide +kernel)
theorem o_succ (I : ExS G F D n) (C : CxOk G F D sc X) {e : Expr} : (isNew e = true → PE X e (rdN X.K (cO G F D (n + 1) sc e))) ∧ PE X e (rdE X.K br (cO G F D (n + 1) sc e)) := by
  unfold cO
  split
  · split
    · rename_i h; exact mkN (pe_opI (dun_ok h) (fun c q hq => ownI_ok C hq) (I.E C) (I.E C))
    · exact mkB
  · split
    · exact mkB
    · rename_i h; exact mkE rfl (pe_cmpI C.hu (by simpa using h) (fun m c q hq => ownI_ok C hq) (I.E C) (I.E C))
  · split
    · rename_i h
      obtain ⟨h1, h2, h3, h4, h5, h6⟩ := h
      subst h1
      exact mkE rfl (pe_isiI C.calm (isG_gl C h2) (C.fre _ h4) (isG_gl C h3) (C.icl _ h5) h6 (I.E C))
    · exact mkB
  · split
    · rename_i fq h
      split
      · rename_i h1
        obtain ⟨h2, h3, h4⟩ := h1
        exact mkE rfl (pe_smI (C.sms _ _ _ h) (isG_gl C h2) h3 h4 (I.A C))
      · exact mkB
    · exact mkB
  · exact mkB
theorem opC_ok {e a b : Expr} {op : CmpOp} (h : opC D e = some (a, op, b)) : ∃ p, e = .Compare a [op] [b] p := by
  unfold opC at h
  split at h
  · split at h
    · cases h; exact ⟨_, rfl⟩
    · cases h
  · cases h
theorem call_succ (I : ExS G F D n) (C : CxOk G F D sc X) {f : Str} {p pos : Pos} {es : List Expr} : (isNew (.Call (.Name f p) es [] pos) = true → PE X (.Call (.Name f p) es [] pos) (rdN X.K (cE1 G F D (n + 1) br sc (.Call (.Name f p) es [] pos)))) ∧ PE X (.Call (.Name f p) es [] pos) (rdE X.K br (cE1 G F D (n + 1) br sc (.Call (.Name f p) es [] pos))) := by
  unfold cE1
  simp only
  split
  · rename_i h
    obtain ⟨hg, hc⟩ := h
    unfold callOk at hc
    rw [Bool.and_eq_true] at hc
    have hs := hc.1
    have gl := isG_gl C hg
    have blt : bfOf f ≠ .none → G.fre.contains f = true ∧ es ≠ [] → PE X (.Call (.Name f p) es [] pos) (rdN X.K (mBlt (bfOf f) (cA G F D n true sc es))) := fun hb h => by
      cases es with
      | nil => exact absurd rfl h.2
      | cons e es => exact pe_bltop C.calm gl (C.fre f h.1) hb hs (I.A C)
    have hnew : bfOf f = .none → isNew (.Call (.Name f p) es [] pos) = false := fun h => by
      unfold isNew
      refine decide_eq_false fun z => ?_
      have e1 : bfOf "list" = .list := by rfl
      have e2 : bfOf "sorted" = .sorted := by rfl
      rcases z with z | z <;> rw [z] at h
      · rw [e1] at h; cases h
      · rw [e2] at h; cases h
    cases hb : bfOf f with
    | none =>
      simp only
      cases hi : G.fns.lookup f with
      | some i =>
        simp only
        split
        · exact mkE (hnew hb) (pe_callop (C.fns f i hi) gl hs (I.A C) fun h => by rw [h]; exact cA_nil)
        · exact mkB
      | none =>
        cases hk : G.cls.lookup f with
        | some k =>
          simp only
          split
          · exact mkE (hnew hb) (pe_makeop (C.cls f k hk) gl hs (I.A C) fun h => by rw [h]; exact cA_nil)
          · exact mkB
        | none => exact mkB
    | _ =>
      rw [hb] at blt
      simp only
      split
      · rename_i h; exact mkN (blt (by intro z; cases z) h)
      · exact mkB
  · exact mkB
theorem lc_succ (I : ExS G F D n) (C : CxOk G F D sc X) {e tg it : Expr} {ifs : List Expr} {cs : Scope} {pos : Pos} (h : itFits tg it = true ∧ blkC D.N sc cs ((tgNames 9 tg).map fun x => (x, D.N.idxOf x)) = true) :
    PE X (.ListComp e [⟨tg, it, ifs, 0⟩] cs pos) (rdN X.K (mLc (cIt G F D n sc it) (cTg D cs 9 tg) (cIfs G F D n cs ifs) (cE G F D n false cs e) ((tgNames 9 tg).map fun x => D.N.idxOf x))) := by
  have b := C.blkOk h.2
  have hm : ((tgNames 9 tg).map fun x => (x, D.N.idxOf x)).map (·.2) = (tgNames 9 tg).map fun x => D.N.idxOf x := by rw [List.map_map]; rfl
  have hset : isSet it = false := by
    have := h.1
    unfold itFits at this
    rw [Bool.and_eq_true] at this
    simpa using this.1
  rw [← hm]
  exact pe_lcop C.calm (by rw [C.N]; exact C.nd) (I.It C h.1) b (by rw [hm]; exact tg_bd 9 tg) (fun s H A cl fp => by rw [hm]; exact tg_pg (C.blk b s H A cl fp) 9 tg) (fun s H A cl fp => I.Ifs (C.blk b s H A cl fp)) (fun s H A cl fp => I.E (C.blk b s H A cl fp)) hset
theorem dc_succ (I : ExS G F D n) (C : CxOk G F D sc X) {kx e tg it : Expr} {ifs : List Expr} {cs : Scope} {pos : Pos} (h : itFits tg it = true ∧ blkC D.N sc cs ((tgNames 9 tg).map fun x => (x, D.N.idxOf x)) = true) :
    PE X (.DictComp kx e [⟨tg, it, ifs, 0⟩] cs pos) (rdN X.K (mDc (cIt G F D n sc it) (cTg D cs 9 tg) (cIfs G F D n cs ifs) (cE G F D n true cs kx) (cE G F D n false cs e) ((tgNames 9 tg).map fun x => D.N.idxOf x))) := by
  have b := C.blkOk h.2
  have hm : ((tgNames 9 tg).map fun x => (x, D.N.idxOf x)).map (·.2) = (tgNames 9 tg).map fun x => D.N.idxOf x := by rw [List.map_map]; rfl
  have hset : isSet it = false := by
    have := h.1
    unfold itFits at this
    rw [Bool.and_eq_true] at this
    simpa using this.1
  rw [← hm]
  exact pe_dcop C.calm (by rw [C.N]; exact C.nd) (I.It C h.1) b (by rw [hm]; exact tg_bd 9 tg) (fun s H A cl fp => by rw [hm]; exact tg_pg (C.blk b s H A cl fp) 9 tg) (fun s H A cl fp => I.Ifs (C.blk b s H A cl fp)) (fun s H A cl fp => I.E (C.blk b s H A cl fp)) (fun s H A cl fp => I.E (C.blk b s H A cl fp)) hset
theorem lc2_succ (I : ExS G F D n) (C : CxOk G F D sc X) {e tg it tg1 it1 : Expr} {ifs ifs1 : List Expr} {cs : Scope} {pos : Pos} (h : itFits tg it = true ∧ itFits tg1 it1 = true ∧ blkC D.N sc cs ((tgNames 9 tg ++ tgNames 9 tg1).map fun x => (x, D.N.idxOf x)) = true) :
    PE X (.ListComp e [⟨tg, it, ifs, 0⟩, ⟨tg1, it1, ifs1, 0⟩] cs pos) (rdN X.K (mLc2 (cIt G F D n sc it) (cTg D cs 9 tg) (cIfs G F D n cs ifs) (cIt G F D n cs it1) (cTg D cs 9 tg1) (cIfs G F D n cs ifs1) (cE G F D n false cs e) ((tgNames 9 tg ++ tgNames 9 tg1).map fun x => D.N.idxOf x) ((tgNames 9 tg1).map fun x => D.N.idxOf x))) := by
  have b := C.blkOk h.2.2
  have hm : ((tgNames 9 tg ++ tgNames 9 tg1).map fun x => (x, D.N.idxOf x)).map (·.2) = (tgNames 9 tg ++ tgNames 9 tg1).map fun x => D.N.idxOf x := by rw [List.map_map]; rfl
  have fs : ∀ {t i}, itFits t i = true → isSet i = false := fun {t i} h => by
    unfold itFits at h
    rw [Bool.and_eq_true] at h
    simpa using h.1
  have m1 : ∀ i, i ∈ (tgNames 9 tg).map (fun x => D.N.idxOf x) → i ∈ (tgNames 9 tg ++ tgNames 9 tg1).map fun x => D.N.idxOf x := fun i hi => by
    rw [List.map_append]; exact List.mem_append_left _ hi
  have m2 : ∀ i, i ∈ (tgNames 9 tg1).map (fun x => D.N.idxOf x) → i ∈ (tgNames 9 tg ++ tgNames 9 tg1).map fun x => D.N.idxOf x := fun i hi => by
    rw [List.map_append]; exact List.mem_append_right _ hi
  rw [← hm]
  exact pe_lcop2 C.calm (by rw [C.N]; exact C.nd) (I.It C h.1) b (fun i hi => by rw [hm]; exact m2 i hi) (by rw [hm]; exact (tg_bd 9 tg).mono m1) (tg_bd 9 tg1) (fun s H A cl fp => by rw [hm]; exact rdG_mono (tg_pg (C.blk b s H A cl fp) 9 tg) m1) (fun s H A cl fp => I.Ifs (C.blk b s H A cl fp)) (fun s H A cl fp => I.It (C.blk b s H A cl fp) h.2.1) (fun s H A cl fp => tg_pg (C.blk b s H A cl fp) 9 tg1) (fun s H A cl fp => I.Ifs (C.blk b s H A cl fp)) (fun s H A cl fp => I.E (C.blk b s H A cl fp)) (fs h.1) (fs h.2.1)
theorem gdts_ok {b : Expr} {t : List (Str × W)} (h : gdts G sc b = some t) : ∃ x p, b = .Name x p ∧ isG sc x = true ∧ G.dts.lookup x = some t := by
  unfold gdts at h
  split at h
  · split at h
    · rename_i h1; exact ⟨_, _, rfl, h1, h⟩
    · cases h
  · cases h
theorem inOp_marks {op : CmpOp} {ng : Bool} {x : Str} {p : Pos} (h : inOp op = some ng) : behindInMarks op (.Name x p) = false := by
  cases op <;> first | rfl | cases h
theorem bfOf_max {m : Str} (h : bfOf m = .max) : m = "max" := by
  unfold bfOf at h
  by_cases q : m = ("len" : Str)
  · rw [if_pos q] at h; cases h
  rw [if_neg q] at h
  clear q
  by_cases q : m = ("int" : Str)
  · rw [if_pos q] at h; cases h
  rw [if_neg q] at h
  clear q
  by_cases q : m = ("isinstance" : Str)
  · rw [if_pos q] at h; cases h
  rw [if_neg q] at h
  clear q
  by_cases q : m = ("tuple" : Str)
  · rw [if_pos q] at h; cases h
  rw [if_neg q] at h
  clear q
  by_cases q : m = ("list" : Str)
  · rw [if_pos q] at h; cases h
  rw [if_neg q] at h
  clear q
  by_cases q : m = ("min" : Str)
  · rw [if_pos q] at h; cases h
  rw [if_neg q] at h
  clear q
  by_cases q : m = ("max" : Str)
  · exact q
  rw [if_neg q] at h
  clear q
  by_cases q : m = ("sum" : Str)
  · rw [if_pos q] at h; cases h
  rw [if_neg q] at h
  clear q
  by_cases q : m = ("str" : Str)
  · rw [if_pos q] at h; cases h
  rw [if_neg q] at h
  clear q
  by_cases q : m = ("abs" : Str)
  · rw [if_pos q] at h; cases h
  rw [if_neg q] at h
  clear q
  by_cases q : m = ("bool" : Str)
  · rw [if_pos q] at h; cases h
  rw [if_neg q] at h
  clear q
  by_cases q : m = ("all" : Str)
  · rw [if_pos q] at h; cases h
  rw [if_neg q] at h
  clear q
  by_cases q : m = ("any" : Str)
  · rw [if_pos q] at h; cases h
  rw [if_neg q] at h
  clear q
  by_cases q : m = ("sorted" : Str)
  · rw [if_pos q] at h; cases h
  rw [if_neg q] at h
  clear q
  cases h
theorem smOf_rstrip {m : Str} (h : smOf m = some .rstrip) : m = "rstrip" := by
  unfold smOf at h
  repeat' split at h
  all_goals first | assumption | (cases h; done)
theorem smOf_ljust {m : Str} (h : smOf m = some .ljust) : m = "ljust" := by
  unfold smOf at h
  repeat' split at h
  all_goals first | assumption | (cases h; done)
theorem e1_succ (I : ExS G F D n) (C : CxOk G F D sc X) {e : Expr} : (isNew e = true → PE X e (rdN X.K (cE1 G F D (n + 1) br sc e))) ∧ PE X e (rdE X.K br (cE1 G F D (n + 1) br sc e)) := by
  by_cases hcall : ∃ f p es pos, e = .Call (.Name f p) es [] pos
  · obtain ⟨f, p, es, pos, rfl⟩ := hcall
    exact call_succ I C
  unfold cE1
  split
  · exact mkE rfl (name_ok C)
  · split
    · exact mkE rfl (pe_c pe_non fun _ _ _ => .non)
    · exact mkE rfl (pe_c pe_bl fun _ _ _ => .bl _)
    · exact mkE rfl (pe_c pe_int fun _ _ _ => .int _)
    · exact mkE rfl (pe_c pe_str fun _ _ _ => .str _)
    · exact mkB
  · exact mkN (pe_bin (I.E C) (I.E C))
  · exact mkE rfl (pe_notop (I.E C))
  · exact mkE rfl (pe_unop (I.E C))
  · exact mkE rfl (I.An C)
  · exact mkE rfl (I.Or C)
  · rename_i a op b p
    split
    · rename_i t ng hg hop
      obtain ⟨x, p0, rfl, h1, h2⟩ := gdts_ok hg
      exact mkE rfl (pe_tinop (C.dts x t h2) (isG_gl C h1) hop (inOp_marks hop) (I.E C))
    · split
      · exact mkB
      · rename_i h; exact mkE rfl (pe_cmpop C.hu (by simpa using h) (I.E C) (I.E C))
  · split
    · exact mkB
    · rename_i h; exact mkE rfl (pe_chainop C.hu (by simpa using h) (I.E C) (I.E C) (I.E C))
  · exact mkE rfl (pe_ifop (I.T C) (I.E C) (I.E C))
  · exact mkE rfl (pe_tupop (I.A C))
  · exact mkN (pe_lstop (I.A C))
  · exact mkN pe_dnew
  · split
    · rename_i h; exact mkN (pe_dictop h (I.Ps C))
    · exact mkB
  · exact mkN (pe_slop (I.E C) (fun _ _ => I.E C) fun _ _ => I.E C)
  · rename_i a i p _
    split
    · exact mkB
    · rename_i h
      have hs : ∀ lo hi st p, i ≠ .Slice lo hi st p := fun lo hi st p z => by subst z; exact h rfl
      split
      · rename_i t hg
        obtain ⟨x, p0, rfl, h1, h2⟩ := gdts_ok hg
        exact mkE (by cases i <;> first | rfl | exact absurd rfl (hs _ _ _ _)) (pe_tsubop (C.dts x t h2) (isG_gl C h1) hs (I.E C))
      · exact mkE (by cases i <;> first | rfl | exact absurd rfl (hs _ _ _ _)) (pe_ixop C.hu hs (I.E C) (I.E C))
  · split
    · exact mkB
    · rename_i h; exact mkE rfl (pe_fldop (by simpa using h) (fun c hc => C.fld c _ hc) (I.E C))
  · exact absurd ⟨_, _, _, _, rfl⟩ hcall
  · rename_i f p es kw kws q
    split
    · rename_i np ord hb hk
      split
      · rename_i h
        obtain ⟨h1, h2, h3, h4⟩ := h
        unfold callOk at h2
        rw [Bool.and_eq_true] at h2
        have hnew : isNew (.Call (.Name f p) es (kw :: kws) q) = false := by
          unfold isNew
          refine decide_eq_false fun z => ?_
          have e1 : bfOf "list" = .list := by rfl
          have e2 : bfOf "sorted" = .sorted := by rfl
          rcases z with z | z <;> rw [z] at hb
          · rw [e1] at hb; cases hb
          · rw [e2] at hb; cases hb
        exact mkE hnew (pe_callKop (C.kwc _ _ _ _ hk) (isG_gl C h1) h2.1 h4 h3 (I.A C) (I.Ks C) (fun _ _ _ _ e => cA_len e) fun _ _ _ _ e => by rw [cA_len e, List.length_map])
      · exact mkB
    · rename_i hb
      split
      · split
        · rename_i h
          obtain ⟨h1, h2, h3, h4⟩ := h
          obtain ⟨karg, kval, kpos⟩ := kw
          have h4 : karg = some ("default" : Str) := h4
          subst h4
          have hf : f = "max" := bfOf_max hb
          subst hf
          exact mkE (show decide (("max" : Str) = "list" ∨ ("max" : Str) = "sorted") = false by decide +kernel) (pe_maxDop C.calm (isG_gl C h1) (C.fre _ h2) h3 (I.E C) (I.E C))
        · exact mkB
      · exact mkB
    · exact mkB
  · rename_i x p0 m p a q
    split
    · rename_i k hk
      split
      · exact mkB
      · rename_i h; exact mkE rfl (pe_smop hk (by simpa using h) (I.E C) (I.E C))
    · split
      · rename_i ws hg
        split
        · exact mkB
        · rename_i h
          unfold gtup at hg
          split at hg
          · rename_i h2
            split at hg
            · rename_i ws' hc
              cases hg
              obtain ⟨⟨v, u, r, h1, h3⟩, h4⟩ := C.cst x _ hc
              have hgl : Gl X x := isG_gl C h2.1
              rcases h3 with h3 | ⟨h3, h5, h6⟩
              · exact mkE rfl (pe_tixop (pe_glob hgl h3 r h4) h1 h2.2 (by simpa using h) (I.E C))
              · exact mkE rfl (pe_tixop (pe_bltn hgl h3 h5 r h6 h4) h1 h2.2 (by simpa using h) (I.E C))
            · cases hg
          · cases hg
      · split
        · exact mkB
        · rename_i h; exact mkE rfl (pe_methop C.hu (fun c q hq => C.mts c _ q hq) (by simpa using h) (I.E C) (I.A C) fun h => by cases h)
  · rename_i x p0 m p a b q
    split
    · rename_i t hg
      split
      · exact mkB
      · rename_i h
        unfold gtbl at hg
        split at hg
        · rename_i h2
          exact mkE rfl (pe_tgetop (C.tbl x t hg) (isG_gl C h2.1) h2.2 (by simpa using h) (I.E C) (I.E C))
        · cases hg
    · split
      · rename_i hk
        split
        · exact mkB
        · rename_i h
          have hm := smOf_ljust hk
          subst hm
          exact mkE rfl (pe_justop (by simpa using h) (I.E C) (I.E C) (I.E C))
      · split
        · exact mkB
        · rename_i h; exact mkE rfl (pe_methop C.hu (fun c q hq => C.mts c _ q hq) (by simpa using h) (I.E C) (I.A C) fun h => by cases h)
  · split
    · split
      · exact mkB
      · rename_i h; exact mkE rfl (pe_smop (by assumption) (by simpa using h) (I.E C) (I.E C))
    · have hm := smOf_rstrip (by assumption)
      split
      · exact mkB
      · rename_i h
        subst hm
        exact mkE rfl (pe_stripop (by simpa using h) (I.E C))
    · have hm := smOf_ljust (by assumption)
      split
      · exact mkB
      · rename_i h
        subst hm
        exact mkE rfl (pe_justop (by simpa using h) (I.E C) (I.E C) (I.E C))
    · split
      · exact mkB
      · rename_i h; exact mkE rfl (pe_methop C.hu (fun c q hq => C.mts c _ q hq) (by simpa using h) (I.E C) (I.A C) fun h => by rw [h]; exact cA_nil)
  · exact mkE rfl ((pe_joined1 (I.E C)))
  · rename_i es p hne
    split
    · exact mkB
    · rename_i h
      cases es with
      | nil => exact absurd rfl h
      | cons a es =>
        cases es with
        | nil => exact absurd rfl (hne a)
        | cons b es => exact mkE rfl (pe_jsop (I.J C))
  · split
    · rename_i h; subst h; exact mkE rfl (pe_fmtop (I.E C))
    · exact mkB
  · split
    · rename_i h; exact mkN (lc2_succ I C h)
    · exact mkB
  · split
    · rename_i h; exact mkN (lc_succ I C h)
    · exact mkB
  · split
    · rename_i h; exact mkN (dc_succ I C h)
    · exact mkB
  · exact mkB
theorem t_succ (I : ExS G F D n) (C : CxOk G F D sc X) {e : Expr} : PT X e (rdT X.K (cT G F D (n + 1) sc e)) := by
  unfold cT
  split
  · rename_i a op b h
    obtain ⟨p, rfl⟩ := opC_ok h
    split
    · exact .no
    · rename_i h; exact pt_cmpI C.hu (by simpa using h) (fun m c q hq => ownI_ok C hq) (I.E C) (I.E C)
  split
  · exact (I.AnT C).pt
  · exact (I.OrT C).pt
  · exact pt_notop (I.T C)
  · rename_i a op b p
    split
    · rename_i t ng hg hop
      obtain ⟨x, p0, rfl, h1, h2⟩ := gdts_ok hg
      exact pt_tinop (C.dts x t h2) (isG_gl C h1) hop (inOp_marks hop) (I.E C)
    · split
      · exact .no
      · rename_i h; exact pt_cmpop C.hu (by simpa using h) (I.E C) (I.E C)
  · split
    · exact .no
    · rename_i h; exact pt_chainop C.hu (by simpa using h) (I.E C) (I.E C) (I.E C)
  · exact .no
  · exact .no
  · rename_i h1 h2 h3 h4 h5 h6 h7
    refine pt_tru (I.E C) ?_
    cases e with
    | UnaryOp op a p => cases op <;> first | (intro _; rfl) | exact (h3 _ _ rfl).elim
    | BoolOp op a p => cases op <;> first | exact (h1 _ _ rfl).elim | exact (h2 _ _ rfl).elim
    | IfExp _ _ _ _ => exact (h7 _ _ _ _ rfl).elim
    | Compare _ _ _ _ => exact (h6 _ _ _ _ rfl).elim
    | _ => intro _; rfl
theorem it_succ (I : ExS G F D n) (C : CxOk G F D sc X) {tg it : Expr} (hf : itFits tg it = true) : PI X tg it (rdI X.K (cIt G F D (n + 1) sc it)) := by
  have hns : ∀ {a : Expr} {m : Bool}, isStar a = true → cE G F D n m sc a = mBad := fun {a m} h => by
    cases a <;> first | cases h | skip
    cases n with
    | zero => rfl
    | succ n =>
      unfold cE isOp opKd fzE shr isShr isNew lkE lkOf isLCm
      cases n <;> rfl
  unfold cIt
  split
  · rename_i f p a q
    split
    · rename_i h
      have gl := isG_gl C h.1
      have hm := C.fre f h.2
      split
      · rename_i hr
        subst hr
        cases hs : isStar a with
        | false => exact pi_rng1op gl hm hs (I.E C)
        | true => rw [hns hs]; exact ⟨fun _ _ _ _ _ _ ⟨_, _, _, _, _, _, _, q, _⟩ => by cases q⟩
      · split
        · rename_i he
          subst he
          cases hs : isStar a with
          | false =>
            have : isTup tg = true := by
              unfold itFits at hf
              simpa [isSet] using hf
            cases tg <;> first | (cases this; done) | exact pi_enumop gl hm hs (I.E C)
          | true => rw [hns hs]; exact ⟨fun _ _ _ _ _ _ ⟨_, _, _, _, _, _, _, q, _⟩ => by cases q⟩
        · split
          · rename_i hr
            subst hr
            split
            · exact ⟨fun _ _ _ _ _ _ ⟨_, _, _, _, _, _, _, q, _⟩ => by cases q⟩
            · rename_i hs; exact pi_revop gl hm (by simpa using hs) (I.E C)
          · exact pi_itop (I.E C)
    · exact pi_itop (I.E C)
  · rename_i f p a b q
    split
    · rename_i h
      have gl := isG_gl C h.1
      have hm := C.fre f h.2.1
      have hr := h.2.2
      subst hr
      cases hs : isStar a with
      | true => rw [hns hs]; exact ⟨fun _ _ _ _ _ _ ⟨_, _, _, _, _, _, _, q, _⟩ => by cases q⟩
      | false =>
        cases hs2 : isStar b with
        | true =>
          rw [hns hs2]
          exact ⟨fun _ _ _ _ _ _ ⟨_, _, _, _, _, _, _, q, _⟩ => by
            obtain ⟨_, _, _, q⟩ := bind_ok q
            cases q⟩
        | false => exact pi_rng2op gl hm hs hs2 (I.E C) (I.E C)
    · split
      · rename_i h
        obtain ⟨h1, h2, h3, h4⟩ := h
        have gl := isG_gl C h1
        have hm := C.fre f h2
        subst h3
        have : isTup tg = true := by
          unfold itFits at hf
          simpa [isSet] using hf
        obtain ⟨s1, h5⟩ := noStar_cons h4
        obtain ⟨s2, _⟩ := noStar_cons h5
        cases tg <;> first | (cases this; done) | exact pi_zipop gl hm s1 s2 (I.E C) (I.E C)
      · exact pi_itop (I.E C)
  · rename_i f p a b c q
    split
    · rename_i h
      obtain ⟨h1, h2, h3, h4⟩ := h
      have gl := isG_gl C h1
      have hm := C.fre f h2
      subst h3
      exact pi_rng3op gl hm h4 (I.E C) (I.E C) (I.E C)
    · exact pi_itop (I.E C)
  · exact pi_itop (I.E C)
theorem exs_succ (I : ExS G F D n) : ExS G F D (n + 1) where
  E := fun C => e_succ I C
  E1 := fun C => e1_succ I C
  O := fun C => o_succ I C
  An := fun C => by
    unfold cAnd
    split
    · exact .no
    · exact pe_one (I.E C)
    · exact pe_andop (I.E C) (I.An C)
  Or := fun C => by
    unfold cOr
    split
    · exact .no
    · exact pe_one (I.E C)
    · exact pe_orop (I.E C) (I.Or C)
  Ps := fun C => by
    unfold cPs
    split
    · exact pps_nil
    · exact pps_cons (I.E C) (I.E C) (I.Ps C)
    · exact .no
  A := fun C => by
    unfold cA
    split
    · exact pa_nilop
    · split
      · exact .no
      · rename_i h; exact pa_consop (by simpa using h) (I.E C) (I.A C)
  J := fun C => by
    unfold cA
    split
    · exact .nil
    · split
      · exact .bad
      · exact .cons (I.E C) (I.J C)
  Ks := fun {_ _ _ kws} C => by
    cases kws with
    | nil => exact pk_nilop
    | cons kw kws =>
      obtain ⟨nm, v, kp⟩ := kw
      rw [List.map_cons]
      unfold cA
      simp only
      split
      · exact .no
      · exact pk_consop (I.E C) (I.Ks C)
  Ifs := fun C => by
    unfold cIfs
    split
    · exact pts_nilop
    · exact pts_one (I.T C)
    · exact .no
  T := fun C => t_succ I C
  AnT := fun C => by
    unfold cAndT
    split
    · exact .no
    · exact pw_and1 (I.T C)
    · exact pw_andop (I.T C) (I.AnT C)
  OrT := fun C => by
    unfold cOrT
    split
    · exact .no
    · exact pw_or1 (I.T C)
    · exact pw_orop (I.T C) (I.OrT C)
  It := fun C h => it_succ I C h
theorem exs : ∀ n, ExS G F D n
  | 0 => exs_zero
  | n + 1 => exs_succ (exs n)
end
end EV

namespace EV
open PySem PySem.Spec PyProof.Rows L2
/-! ### statements: the text's walk is sound -/
section
variable {G : Glob} {F : Fenv} {D : Dx} {sc : Scope} {X : Cx} {n : Nat} {f : M Fl} {st : Stmt} {e tg : Expr} {pos : Pos}
theorem ps_keep (h : PS X st (rdS X.K f)) : PS X st (rdS X.K (cKeep D e f)) := by
  unfold cKeep
  split
  · exact h
  · exact ps_frzop h
theorem ps_keeps {es : List Expr} (h : PS X st (rdS X.K f)) : PS X st (rdS X.K (cKeeps D es f)) := by
  unfold cKeeps
  split
  · exact h
  · exact ps_frzop h
theorem sw_lc {gs : List Comprehension} {cs : Scope} {q p : Pos} {y : Str} {l : Nat} (hk : X.env.scope.kind = .function) (hsc : X.env.scope = sc) : swapsWith (.ListComp e gs cs q) (some (.Name y p)) l X.env = pure (lcSw sc y p cs q) := by
  have hb : X.env.blockKind = .function := by unfold Env.blockKind; rw [hk]; rfl
  have ky : X.env.kindOf y = sc.names.lookup y := by rw [← hsc]; rfl
  unfold swapsWith lcSw
  simp only [hb, ky, Expr.pos]
  rfl
theorem par_side {x y : Str} {p p' q q' : Pos} {a b : Expr} {k k' : Nat} {env : PySem.Env} (hk : env.scope.kind = .function) (hx : env.scope.names.lookup x = some .local) (hy : env.scope.names.lookup y = some .local) (hne : x ≠ y) (h : parOk p p' [a, b] = true) :
    swappedStores [.Tuple [.Name x p, .Name y p'] k q] (.Tuple [a, b] k' q') env = pure (some [x, y]) := by
  unfold parOk at h
  simp only [Bool.and_eq_true, decide_eq_true_eq, Bool.not_eq_true'] at h
  obtain ⟨⟨⟨h1, h2⟩, h3⟩, h4⟩ := h
  have hb : env.blockKind = .function := by unfold Env.blockKind; rw [hk]; rfl
  have kx : env.kindOf x = some .local := hx
  have ky : env.kindOf y = some .local := hy
  obtain ⟨s1, s2⟩ := noStar_cons h2
  obtain ⟨s2, _⟩ := noStar_cons s2
  have hst : ([a, b].any fun | .Starred .. => true | _ => false) = false := by
    cases a <;> first | (cases s1; done) | (cases b <;> first | rfl | cases s2)
  have hed : [x, y].eraseDups.length = 2 := by
    have : (y == x) = false := beq_false_of_ne (Ne.symm hne)
    simp [List.eraseDups_cons, this]
  unfold swappedStores
  simp only [hst, h3, h4, hb, List.filterMap, kx, ky, List.head?, Expr.pos, Option.map, Option.getD, h1]
  simp [hed]
  intro h
  rcases h with h | h
  · cases a <;> first | (cases s1; done) | cases h
  · cases b <;> first | (cases s2; done) | cases h
structure NmOk (sc : Scope) (D : Dx) (X : Cx) (y : Str) (j : Nat) : Prop where
  nd : X.N.Nodup
  ix : X.N[j]? = some y
  loc : Loc X.env.scope y
  fn : X.fn y = true ∨ X.env.scope.names.lookup y = some .local
theorem nm_ok (C : CxOk G F D sc X) {y : Str} {j : Nat} {k : NameKind} (hk : k = .local ∨ k = .cell) (h : sc.names.lookup y = some k) (hs : slotOf D.N y = some j) : NmOk sc D X y j := by
  refine ⟨by rw [C.N]; exact C.nd, (slot_ix C hs).1, ?_, ?_⟩
  · rcases hk with rfl | rfl
    · exact .inl (C.sk.loc _ h)
    · exact .inr (C.sk.cell _ h)
  · rcases hk with rfl | rfl
    · exact .inr (C.sk.loc _ h)
    · exact .inl (C.fnc _ h)
theorem cE_new (C : CxOk G F D sc X) {br : Bool} (h : isNew e = true) (hs : isShr D e = false) : PE X e (rdN X.K (cE G F D n br sc e)) := by
  cases n with
  | zero => unfold cE; exact .noN
  | succ n =>
    unfold cE
    split
    · exact ((exs n).O (br := br) C).1 h
    unfold fzE shr
    rw [hs, if_pos (by rw [h]; simp)]
    exact pe_lkN (((exs n).E1 C).1 h)
theorem ps_noN {st : Stmt} {j : Nat} : PS X st (tAsg (rdN X.K mBad) (gName j)) := ⟨fun _ _ _ _ _ _ ⟨_, _, _, _, _, _, _, q, _⟩ => by cases q⟩
theorem lc_core (C : CxOk G F D sc X) (hsc : X.env.scope = sc) {gs : List Comprehension} {cs : Scope} {q p : Pos} {y : Str} {j : Nat} (N : NmOk sc D X y j) (hw : lcSw sc y p cs q = true) (hl : (gs.length != 1) = false) : PS X (.Assign [.Name y p] (.ListComp e gs cs q) pos) (tAsg (rdN X.K (cE1 G F D n false sc (.ListComp e gs cs q))) (gName j)) := by
  cases n with
  | zero => exact ps_noN
  | succ n =>
    by_cases hg : ∃ tg it ifs, gs = [⟨tg, it, ifs, 0⟩]
    · obtain ⟨tg, it, ifs, rfl⟩ := hg
      show PS X _ (tAsg (rdN X.K (if itFits tg it = true ∧ blkC D.N sc cs ((tgNames 9 tg).map fun x => (x, D.N.idxOf x)) = true then mLc (cIt G F D n sc it) (cTg D cs 9 tg) (cIfs G F D n cs ifs) (cE G F D n false cs e) ((tgNames 9 tg).map fun x => D.N.idxOf x) else mBad)) (gName j))
      split
      · rename_i h
        have I := exs (G := G) (F := F) (D := D) n
        have b := C.blkOk h.2
        have hm : ((tgNames 9 tg).map fun x => (x, D.N.idxOf x)).map (·.2) = (tgNames 9 tg).map fun x => D.N.idxOf x := by rw [List.map_map]; rfl
        have hset : isSet it = false := by
          have := h.1
          unfold itFits at this
          rw [Bool.and_eq_true] at this
          simpa using this.1
        have hyl : X.env.scope.names.lookup y = some .local := by
          unfold lcSw at hw
          simp only [Bool.and_eq_true] at hw
          rw [hsc]
          exact eq_of_beq hw.1.1
        rw [← hm]
        exact ps_setLcop C.calm N.nd N.ix hyl (by rw [sw_lc C.kind hsc, hw]) (I.It C h.1) b (by rw [hm]; exact tg_bd 9 tg) (fun s H A cl fp => by rw [hm]; exact tg_pg (C.blk b s H A cl fp) 9 tg) (fun s H A cl fp => I.Ifs (C.blk b s H A cl fp)) (fun s H A cl fp => I.E (C.blk b s H A cl fp)) hset
      · exact ps_noN
    · have hb : cE1 G F D (n + 1) false sc (.ListComp e gs cs q) = mBad := by
        rcases gs with _ | ⟨⟨tg, it, ifs, k⟩, _ | ⟨g2, gr⟩⟩
        · rfl
        · cases k with
          | ofNat k => cases k with
            | zero => exact absurd ⟨_, _, _, rfl⟩ hg
            | succ k => rfl
          | negSucc k => rfl
        · exfalso
          simp at hl
      rw [hb]
      exact ps_noN
theorem lc_set (C : CxOk G F D sc X) (hsc : X.env.scope = sc) {gs : List Comprehension} {cs : Scope} {q p : Pos} {y : Str} {j : Nat} (N : NmOk sc D X y j) (hs : isShr D (.ListComp e gs cs q) = false) (hlk : (lcSw sc y p cs q && (gs.length != 1)) = false) : PS X (.Assign [.Name y p] (.ListComp e gs cs q) pos) (rdS X.K (sSetF j (cE G F D n false sc (.ListComp e gs cs q)))) := by
  cases hw : lcSw sc y p cs q with
  | false => exact ps_setFop (ps_set N.nd N.ix N.loc (cE_new C rfl hs) (by rw [sw_lc C.kind hsc, hw]) N.fn)
  | true =>
    cases n with
    | zero => exact PS.no
    | succ n =>
      unfold cE shr
      rw [if_neg (show ¬ isOp D (.ListComp e gs cs q) = true from Bool.false_ne_true)]
      rw [hs, show ∀ m, fzE D (.ListComp e gs cs q) m = m from fun m => rfl]
      simp only [Bool.false_eq_true, if_false]
      rw [hw, Bool.true_and] at hlk
      exact ps_setFop (ps_lkN (lc_core C hsc N hw hlk))
theorem lc_setS (C : CxOk G F D sc X) (hsc : X.env.scope = sc) {gs : List Comprehension} {cs : Scope} {q p : Pos} {y : Str} {j : Nat} (N : NmOk sc D X y j) (hs : isShr D (.ListComp e gs cs q) = true) (hlk : (lcSw sc y p cs q && (gs.length != 1)) = false) : PS X (.Assign [.Name y p] (.ListComp e gs cs q) pos) (rdS X.K (sSet j (cE G F D n false sc (.ListComp e gs cs q)))) := by
  cases hw : lcSw sc y p cs q with
  | false => exact ps_setop (fun he => ps_set N.nd N.ix N.loc he (by rw [sw_lc C.kind hsc, hw]) N.fn) ((exs n).E C)
  | true =>
    cases n with
    | zero => exact PS.no
    | succ n =>
      unfold cE shr
      rw [if_neg (show ¬ isOp D (.ListComp e gs cs q) = true from Bool.false_ne_true)]
      rw [hs, show ∀ m, fzE D (.ListComp e gs cs q) m = m from fun m => rfl]
      simp only [if_true]
      rw [hw, Bool.true_and] at hlk
      exact ps_setSop (ps_lkN (lc_core C hsc N hw hlk))
theorem sw_dc {kx : Expr} {gs : List Comprehension} {cs : Scope} {q p : Pos} {y : Str} {l : Nat} (hk : X.env.scope.kind = .function) (hsc : X.env.scope = sc) : swapsWith (.DictComp kx e gs cs q) (some (.Name y p)) l X.env = pure (lcSw sc y p cs q) := by
  have hb : X.env.blockKind = .function := by unfold Env.blockKind; rw [hk]; rfl
  have ky : X.env.kindOf y = sc.names.lookup y := by rw [← hsc]; rfl
  unfold swapsWith lcSw
  simp only [hb, ky, Expr.pos]
  rfl
theorem dc_set (C : CxOk G F D sc X) (hsc : X.env.scope = sc) {kx : Expr} {gs : List Comprehension} {cs : Scope} {q p : Pos} {y : Str} {j : Nat} (N : NmOk sc D X y j) (hs : isShr D (.DictComp kx e gs cs q) = false) (hl : (gs.length != 1) = false) : PS X (.Assign [.Name y p] (.DictComp kx e gs cs q) pos) (rdS X.K (sSetF j (cE G F D n false sc (.DictComp kx e gs cs q)))) := by
  cases hw : lcSw sc y p cs q with
  | false => exact ps_setFop (ps_set N.nd N.ix N.loc (cE_new C rfl hs) (by rw [sw_dc C.kind hsc, hw]) N.fn)
  | true =>
    cases n with
    | zero => exact PS.no
    | succ n =>
      have hno : ∀ m, lkE D (.DictComp kx e gs cs q) m = m := fun m => rfl
      unfold cE shr
      rw [if_neg (show ¬ isOp D (.DictComp kx e gs cs q) = true from Bool.false_ne_true)]
      rw [hs, show ∀ m, fzE D (.DictComp kx e gs cs q) m = m from fun m => rfl]
      simp only [Bool.false_eq_true, if_false]
      rw [hno]
      cases n with
      | zero => exact PS.no
      | succ n =>
        by_cases hg : ∃ tg it ifs, gs = [⟨tg, it, ifs, 0⟩]
        · obtain ⟨tg, it, ifs, rfl⟩ := hg
          show PS X _ (rdS X.K (sSetF j (if itFits tg it = true ∧ blkC D.N sc cs ((tgNames 9 tg).map fun x => (x, D.N.idxOf x)) = true then mDc (cIt G F D n sc it) (cTg D cs 9 tg) (cIfs G F D n cs ifs) (cE G F D n true cs kx) (cE G F D n false cs e) ((tgNames 9 tg).map fun x => D.N.idxOf x) else mBad)))
          split
          · rename_i h
            have I := exs (G := G) (F := F) (D := D) n
            have b := C.blkOk h.2
            have hm : ((tgNames 9 tg).map fun x => (x, D.N.idxOf x)).map (·.2) = (tgNames 9 tg).map fun x => D.N.idxOf x := by rw [List.map_map]; rfl
            have hset : isSet it = false := by
              have := h.1
              unfold itFits at this
              rw [Bool.and_eq_true] at this
              simpa using this.1
            have hyl : X.env.scope.names.lookup y = some .local := by
              unfold lcSw at hw
              simp only [Bool.and_eq_true] at hw
              rw [hsc]
              exact eq_of_beq hw.1.1
            refine ps_setFop ?_
            rw [← hm]
            exact ps_setDcop C.calm N.nd N.ix hyl (by rw [sw_dc C.kind hsc, hw]) (I.It C h.1) b (by rw [hm]; exact tg_bd 9 tg) (fun s H A cl fp => by rw [hm]; exact tg_pg (C.blk b s H A cl fp) 9 tg) (fun s H A cl fp => I.Ifs (C.blk b s H A cl fp)) (fun s H A cl fp => I.E (C.blk b s H A cl fp)) (fun s H A cl fp => I.E (C.blk b s H A cl fp)) hset
          · exact PS.no
        · have hb : cE1 G F D (n + 1) false sc (.DictComp kx e gs cs q) = mBad := by
            rcases gs with _ | ⟨⟨tg, it, ifs, k⟩, _ | ⟨g2, gr⟩⟩
            · rfl
            · cases k with
              | ofNat k => cases k with
                | zero => exact absurd ⟨_, _, _, rfl⟩ hg
                | succ k => rfl
              | negSucc k => rfl
            · exfalso
              simp at hl
          show PS X _ (rdS X.K (sSetF j (cE1 G F D (n + 1) false sc (.DictComp kx e gs cs q))))
          rw [hb]
          exact PS.no
theorem set_any (C : CxOk G F D sc X) {p : Pos} {y : Str} {j : Nat} (N : NmOk sc D X y j) (h1 : isSDC e = false) (h2 : isLCm e = false) : PS X (.Assign [.Name y p] e pos) (rdS X.K (if isNew e && !isShr D e then sSetF j (cE G F D n false sc e) else sSet j (cE G F D n false sc e))) := by
  have hsw : swapsWith e (some (.Name y p)) pos.line X.env = pure false := by cases e <;> first | rfl | (cases h1; done) | (cases h2; done)
  split
  · rename_i h
    simp only [Bool.and_eq_true, Bool.not_eq_true'] at h
    exact ps_setFop (ps_set N.nd N.ix N.loc (cE_new C h.1 h.2) hsw N.fn)
  · exact ps_setop (fun he => ps_set N.nd N.ix N.loc he hsw N.fn) ((exs n).E C)
theorem mt_items {m : Str} (h : mtOf m = .items) : m = "items" := by
  unfold mtOf at h
  repeat' split at h
  all_goals first | (cases h; done) | assumption
theorem itFits_set {it : Expr} (h : itFits tg it = true) : isSet it = false := by
  unfold itFits at h
  rw [Bool.and_eq_true] at h
  simpa using h.1
structure StS (G : Glob) (F : Fenv) (D : Dx) (n : Nat) : Prop where
  S : ∀ {sc X s}, CxOk G F D sc X → X.env.scope = sc → PS X s (rdS X.K (cS G F D sc n s))
  Ss : ∀ {sc X ss}, CxOk G F D sc X → X.env.scope = sc → PSs X ss (rdS X.K (cSs G F D sc n ss))
theorem s_succ (J : StS G F D n) (C : CxOk G F D sc X) (hsc : X.env.scope = sc) {s : Stmt} : PS X s (rdS X.K (cS G F D sc (n + 1) s)) := by
  have I := exs (G := G) (F := F) (D := D) n
  unfold cS
  split
  · exact ps_nextop ps_pass
  · exact ps_brkop
  · exact ps_cntop
  · exact ps_nextop ps_doc
  · rename_i x p m q es r _
    split
    · rename_i i h1 h2
      split
      · exact .no
      · rename_i h
        exact ps_keeps (ps_mutop ⟨rfl, rfl⟩ (pe_mutop C.hu (fun c q hq => C.mts c _ q hq) (by simpa using h) (name_tv C h1 h2) (name_mv C h1 h2) (I.A C) fun h => by rw [h]; exact cA_nil))
    · exact ps_keep (ps_dropop ⟨rfl, rfl⟩ (I.E C))
  · split
    · exact .no
    · rename_i h
      simp only [Bool.or_eq_true, not_or, Bool.not_eq_true] at h
      exact ps_keep (ps_dropop h (I.E C))
  · exact ps_retNop
  · exact ps_keep (ps_retop (I.E C))
  · rename_i y p e q
    split
    · rename_i k j h1 h2
      split
      · rename_i hk
        have N := nm_ok C hk h1 h2
        split
        · rename_i x p' m q' es r
          split
          · rename_i i h3 h4 h5
            split
            · exact .no
            · rename_i h
              exact ps_keeps (ps_mutYop (fun he => ps_set N.nd N.ix N.loc he rfl N.fn) (pe_mutop C.hu (fun c q hq => C.mts c _ q hq) (by simpa using h) (name_tv C h3 h4) (name_mv C h3 h4) (I.A C) fun h => by rw [h]; exact cA_nil))
          · exact ps_keep (ps_setop (fun he => ps_set N.nd N.ix N.loc he rfl N.fn) (I.E C))
        · rename_i e gs cs q'
          refine ps_keep ?_
          split
          · rename_i hs
            split
            · exact .no
            · rename_i hlk
              exact lc_setS C hsc N hs (by simpa using hlk)
          · rename_i hs
            split
            · exact .no
            · rename_i hlk
              exact lc_set C hsc N (by simpa using hs) (by simpa using hlk)
        · split
          · exact .no
          · rename_i h
            simp only [Bool.or_eq_true, not_or, Bool.not_eq_true] at h
            exact ps_keep (dc_set C hsc N h.1 h.2)
        · rename_i hx1 hx2 hx3
          split
          · exact .no
          · rename_i h
            exact ps_keep (set_any C N (by simpa using h) (by cases e <;> first | rfl | exact (hx2 _ _ _ _ rfl).elim))
      · exact .no
    · exact .no
  · rename_i x p y p' k q a b k' q' r
    split
    · rename_i i j h1 h2 h3 h4
      split
      · exact .no
      · rename_i h
        rw [not_or] at h
        obtain ⟨hij, hp⟩ := h
        have hp : parOk p p' [a, b] = true := by simpa using hp
        have hne : x ≠ y := fun z => by subst z; rw [h2] at h4; cases h4; exact hij rfl
        have N1 := nm_ok C (.inl rfl) h1 h2
        have N2 := nm_ok C (.inl rfl) h3 h4
        have hst : noStar [a, b] = true := by
          unfold parOk at hp
          simp only [Bool.and_eq_true] at hp
          exact hp.1.1.2
        obtain ⟨s1, s2⟩ := noStar_cons hst
        obtain ⟨s2, _⟩ := noStar_cons s2
        exact ps_keeps (ps_parop (fun ha => ps_par C.calm N1.nd N1.ix N2.ix hij (C.sk.loc _ h1) (C.sk.loc _ h3) ha (par_side C.kind (C.sk.loc _ h1) (C.sk.loc _ h3) hne hp)) s1 s2 (I.E C) (I.E C))
    · exact .no
  · rename_i es k p e q _
    split
    · exact .no
    · rename_i h
      simp only [Bool.or_eq_true, not_or, Bool.not_eq_true] at h
      obtain ⟨⟨h1, h2⟩, h3⟩ := h
      exact ps_keep (ps_asgop (fun he hg => ps_asg he hg (by cases e <;> first | rfl | (cases h1; done) | (cases h2; done) | (cases h3; done)) (by cases e <;> first | rfl | (cases h1; done) | (cases h2; done) | (cases h3; done))) (tg_bd 9 _) (I.E C) (tg_pg C 9 _))
  · rename_i x p i q e r
    split
    · exact .no
    · rename_i h
      simp only [Bool.or_eq_true, not_or, Bool.not_eq_true] at h
      obtain ⟨⟨h1, h2⟩, h3⟩ := h
      split
      · rename_i j h4 h5
        exact ps_keep (ps_putop C.hu h1 h2 h3 (name_tv C h4 h5) (I.E C) (I.E C) (I.E C))
      · exact .no
  · rename_i o i q e r _
    split
    · exact .no
    · rename_i h
      simp only [Bool.or_eq_true, not_or, Bool.not_eq_true] at h
      obtain ⟨⟨h1, h2⟩, h3⟩ := h
      exact ps_keeps (ps_putS C.hu h1 h2 h3 (I.E C) (I.E C) (I.E C))
  · rename_i o f q e r
    split
    · exact .no
    · rename_i h
      simp only [Bool.or_eq_true, not_or, Bool.not_eq_true] at h
      exact ps_keep (ps_fldop h.1 h.2 (fun c hc => C.fld c _ hc) (I.E C) (I.E C))
  · rename_i x p op e q
    split
    · rename_i i h1 h2
      have N := nm_ok C (.inl rfl) h1 h2
      exact ps_keep (ps_augop (fun he ho => ps_aug N.nd N.ix N.loc he ho N.fn) (I.E C))
    · rename_i i h1 h2
      have N := nm_ok C (.inr rfl) h1 h2
      exact ps_keep (ps_augop (fun he ho => ps_aug N.nd N.ix N.loc he ho N.fn) (I.E C))
    · exact .no
  · exact ps_keep (ps_ifop (I.T C) (J.Ss C hsc) (J.Ss C hsc))
  · rename_i tg o m p q body _
    split
    · rename_i hm
      have hm := mt_items hm
      subst hm
      split
      · exact .no
      · rename_i h
        have h : (isTup tg && methOk o p q []) = true := by simpa using h
        rw [Bool.and_eq_true] at h
        obtain ⟨ht, hok⟩ := h
        simp only [methOk, Bool.and_eq_true] at hok
        cases tg <;> first
          | (cases ht; done)
          | exact ps_forIop (ps_forop C.own C.calm (tg_bd 9 _) (pi_itemsop hok.1.1 hok.1.2 (I.E C)) (tg_pg C 9 _) (J.Ss C hsc) rfl)
    · exact ps_keep (ps_forop C.own C.calm (tg_bd 9 _) (I.It C rfl) (tg_pg C 9 _) (J.Ss C hsc) rfl)
  · rename_i tg it body _ _
    split
    · exact .no
    · rename_i h
      have h : itFits tg it = true := by simpa using h
      exact ps_keep (ps_forop C.own C.calm (tg_bd 9 _) (I.It C h) (tg_pg C 9 _) (J.Ss C hsc) (itFits_set h))
  · exact ps_keep (ps_whop C.own (I.T C) (J.Ss C hsc))
  · exact ps_try_never C.nx (J.Ss C hsc) pss_nil
  · exact .no
theorem sts : ∀ n, StS G F D n
  | 0 => ⟨fun _ _ => by unfold cS; exact .no, fun _ _ => by unfold cSs; exact .no⟩
  | n + 1 => ⟨fun C hsc => s_succ (sts n) C hsc, fun C hsc => by
    unfold cSs
    split
    · exact pss_nilop
    · exact pss_oneop ((sts n).S C hsc)
    · exact pss_consop ((sts n).S C hsc) ((sts n).Ss C hsc)⟩
end
end EV

namespace EV
open PySem PySem.Spec PyProof.Rows L2
/-! ### defs, and the program -/
section
variable {K : PySem.W.Frag} {φ : List Addr} {Z Zo : Addr → Prop} {H : Hp} {S S' : Sto} {ws : List W} {vs : List V} {w : W} {b : M Fl} {N : List Str}
theorem start_w (i : Nat) (w : W) (h : (ws.map Sl.fr ++ List.replicate (N.length - ws.length) Sl.emp)[i]? = some (.ow w)) : False := by
  by_cases hi : i < (ws.map Sl.fr).length
  · rw [List.getElem?_append_left hi, List.getElem?_map] at h
    obtain ⟨y, _, h⟩ := Option.map_eq_some_iff.mp h
    cases h
  · rw [List.getElem?_append_right (by omega)] at h
    have := List.mem_of_getElem? h
    rw [List.mem_replicate] at this
    cases this.2
theorem start_rl (st : StOk K S φ (fun a => Zo a ∨ a ∈ φ) H) (h1 : ∀ a, a ∈ φ → ¬ Zo a) (h2 : ∀ a, Zo a → H a ≠ none) (r : RFs K φ (fun a => Zo a ∨ a ∈ φ) H ws vs) :
    Rl K ⟨φ, H, Zo⟩ (ws.map Sl.fr ++ List.replicate (N.length - ws.length) Sl.emp) S φ (L2.start N vs) H := by
  have z : ∀ {σ : L2.St} a, ZZ ⟨φ, H, Zo⟩ (ws.map Sl.fr ++ List.replicate (N.length - ws.length) Sl.emp) φ σ a → (Zo a ∨ a ∈ φ) := fun {σ} a h => by
    rcases h with h | h | ⟨i, w, h, _⟩
    · exact .inl h
    · exact .inr h
    · exact (start_w i w h).elim
  have L : ∀ {σ : L2.St}, Later φ (fun a => Zo a ∨ a ∈ φ) H φ (ZZ ⟨φ, H, Zo⟩ (ws.map Sl.fr ++ List.replicate (N.length - ws.length) Sl.emp) φ σ) H := fun {σ} => .less fun a h => z (σ := σ) a h
  refine ⟨st.mono L fun _ _ _ h => h, ?_, fun i w h => ?_, fun i w h => (start_w i w h).elim, fun i _ w _ _ h => (start_w i w h).elim, h1, h2, fun _ _ h => h, fun _ _ _ h => h, fun a h => .inl h, fun _ _ _ h => h⟩
  · unfold L2.start
    simp [r.len]
  · unfold L2.start
    by_cases hi : i < (ws.map Sl.fr).length
    · rw [List.getElem?_append_left hi, List.getElem?_map] at h
      obtain ⟨y, hy, h⟩ := Option.map_eq_some_iff.mp h
      cases h
      obtain ⟨v, hv, rv⟩ := r.get hy
      refine ⟨v, ?_, rv.mono L⟩
      rw [List.getElem?_append_left (by rw [List.length_map, ← r.len]; simpa using hi), List.getElem?_map, hv]
      rfl
    · rw [List.getElem?_append_right (by omega)] at h
      have := List.mem_of_getElem? h
      rw [List.mem_replicate] at this
      cases this.2
theorem body_ok {Q : VK} (st : StOk K S φ (fun a => Zo a ∨ a ∈ φ) H) (h1 : ∀ a, a ∈ φ → ¬ Zo a) (h2 : ∀ a, Zo a → H a ≠ none) (r : RFs K φ (fun a => Zo a ∨ a ∈ φ) H ws vs)
    (q : runB b N ws S = .ok w S') (k : ∀ φ' H' v, Ext φ H φ' H' → StOk K S' φ' (fun a => Zo a ∨ a ∈ φ') H' → RF K φ' (fun a => Zo a ∨ a ∈ φ') H' w v → Q v H') : rdS K b { nx := fun _ H' => Q .non H', rt := Q } (L2.start N vs) H := by
  refine ⟨⟨φ, H, Zo⟩, _, S, φ, start_rl (N := N) st h1 h2 r, ?_⟩
  unfold runB at q
  obtain ⟨fl, S1, e1, q⟩ := bind_ok q
  rw [e1]
  cases fl with
  | nx s =>
    cases q
    exact fun φ' σ' H' L R => (fun ⟨a, b, c⟩ => k φ' H' _ c a b) (ret_ok R .non)
  | rt w' =>
    cases q
    exact fun φ' H' v L ⟨a, b, c⟩ => k φ' H' v c a b
  | bk s => cases q
  | ct s => cases q
end
theorem fn_eq {G : Glob} {P : List (Str × DefI)} {d : Nat} {f : Str} {ws : List W} {S : Sto} {i : DefI} (e : P.lookup f = some i) : Fn G P (d + 1) f ws S = if ws.length = i.np then runB (cSs G (Fn G P d) i.dx i.sc 300 i.body) i.dx.N ws S else .bad := by
  conv => lhs; unfold Fn
  rw [e]
/-- all items -/
def Alls {α : Type} (P : α → Prop) : List α → Prop
  | [] => True
  | a :: l => P a ∧ Alls P l
theorem alls_nil {α : Type} {P : α → Prop} : Alls P [] := trivial
theorem alls_cons {α : Type} {P : α → Prop} {a : α} {l : List α} (h : P a) (t : Alls P l) : Alls P (a :: l) := ⟨h, t⟩
theorem Alls.mem {α : Type} {P : α → Prop} : ∀ {l : List α} {a : α}, Alls P l → a ∈ l → P a
  | b :: l, a, h, m => by
    rcases List.mem_cons.mp m with rfl | m
    · exact h.1
    · exact Alls.mem h.2 m
theorem lookup_mem {α β : Type} [BEq α] [LawfulBEq α] {k : α} {v : β} : ∀ {l : List (α × β)}, l.lookup k = some v → (k, v) ∈ l
  | [], h => by cases h
  | (a, b) :: l, h => by
    rw [List.lookup_cons] at h
    cases e : k == a with
    | true => rw [e] at h; cases h; rw [eq_of_beq e]; exact List.mem_cons_self ..
    | false => rw [e] at h; exact List.mem_cons_of_mem _ (lookup_mem h)
/-- where a def stands: its address, its object, its parameters -/
structure DefAt where
  ad : Addr
  fd : FuncData
  ps : List Str
/-- the def j of the table -/
structure DfK (K : PySem.W.Frag) (i : DefI) (d : DefAt) : Prop where
  ex : ∃ (x qual : Str) (params : Arguments) (kws : List (Str × V)), FunD K x qual params i.body i.sc [] kws d.ad d.fd
  sc : FnScope i.dx.N d.ps i.sc
  np : d.ps.length = i.np
def Dfs (K : PySem.W.Frag) : List (Str × DefI) → List DefAt → Prop
  | [], [] => True
  | p :: l, d :: ds => DfK K p.2 d ∧ Dfs K l ds
  | _, _ => False
theorem dfs_nil {K : PySem.W.Frag} : Dfs K [] [] := trivial
theorem dfs_cons {K : PySem.W.Frag} {p : Str × DefI} {l : List (Str × DefI)} {d : DefAt} {ds : List DefAt} (h : DfK K p.2 d) (t : Dfs K l ds) : Dfs K (p :: l) (d :: ds) := ⟨h, t⟩
theorem Dfs.get {K : PySem.W.Frag} : ∀ {l : List (Str × DefI)} {ds : List DefAt} {j : Nat} {p : Str × DefI} {d : DefAt}, Dfs K l ds → l[j]? = some p → ds[j]? = some d → DfK K p.2 d
  | [], _, _, _, _, _, e, _ => by simp at e
  | _ :: _, [], _, _, _, h, _, _ => h.elim
  | q :: l, c :: ds, 0, p, d, h, e, f => by simp at e f; subst e f; exact h.1
  | q :: l, c :: ds, j + 1, p, d, h, e, f => Dfs.get h.2 (by simpa using e) (by simpa using f)
theorem lookup_ix {α β : Type} [BEq α] [LawfulBEq α] : ∀ {l : List (α × β)} {j : Nat} {p : α × β}, (l.map (·.1)).Nodup → l[j]? = some p → l.lookup p.1 = some p.2
  | [], _, _, _, e => by simp at e
  | (a, b) :: l, 0, p, _, e => by simp at e; subst e; simp [List.lookup]
  | (a, b) :: l, j + 1, p, h, e => by
    rw [List.map_cons, List.nodup_cons] at h
    have e : l[j]? = some p := by simpa using e
    have hne : p.1 ≠ a := fun z => h.1 (by rw [← z]; exact List.mem_map.mpr ⟨p, List.mem_of_getElem? e, rfl⟩)
    rw [List.lookup_cons, beq_false_of_ne hne]
    exact lookup_ix h.2 e
structure ProgOk (K : PySem.W.Frag) (mg : Str → Option Value) (w : World) (G : Glob) (Pl : List (Str × DefI)) (ds : List DefAt) : Prop where
  df : Dfs K Pl ds
  nd : (Pl.map (·.1)).Nodup
  fre : Alls (fun (x : Str) => mg x = none) G.fre
  cst : Alls (fun (p : Str × W) => ∃ (v : V) (u : Value), RelV v u ∧ (∀ φ Z H, RF K φ Z H p.2 v) ∧ (mg p.1 = some u ∨ (mg p.1 = none ∧ bootBuiltins p.1 = some u ∧ p.1 ≠ "__name__")) ∧ (p.1 == ("__debug__" : Str)) = false) G.cst
  fns : Alls (fun (p : Str × FnI) => ∃ (j : Nat) (i : DefI) (d : DefAt), Pl[j]? = some (p.1, i) ∧ ds[j]? = some d ∧ mg p.1 = some (.ref d.ad) ∧ PySem.W.keepIn K (.ref d.ad) = true ∧ (p.1 == ("__debug__" : Str)) = false ∧
    ∃ (us : List Value) (dvs : List V), Binds K d.fd d.ps us ∧ Vals dvs us ∧ ∀ φ Z H, RFs K φ Z H (p.2.kw.map (·.2)) dvs) G.fns
  cls : Alls (fun (p : Str × Nat) => ∃ (j : Nat) (i : DefI) (d : DefAt), Pl[j]? = some (p.1 ++ ".__init__", i) ∧ ds[j]? = some d ∧ Mk K (He.ga K p.1) d.ad ∧ mg p.1 = some (.ref (He.ga K p.1)) ∧ (p.1 == ("__debug__" : Str)) = false ∧ Binds K d.fd d.ps []) G.cls
  mts : Alls (fun (p : (Str × Str) × Str) => ∃ (j : Nat) (i : DefI) (d : DefAt), Pl[j]? = some (p.2, i) ∧ ds[j]? = some d ∧ Cls K (He.ga K p.1.1) ∧ Meth K (He.ga K p.1.1) p.1.2 d.ad ∧ Binds K d.fd d.ps []) G.mts
  kwc : Alls (fun (p : (Str × List (Option Str)) × Nat × List (Nat ⊕ W)) => ∃ (j : Nat) (i : DefI) (d : DefAt), Pl[j]? = some (p.1.1, i) ∧ ds[j]? = some d ∧ mg p.1.1 = some (.ref d.ad) ∧ PySem.W.keepIn K (.ref d.ad) = true ∧ (p.1.1 == ("__debug__" : Str)) = false ∧
    ∃ (kn : List Str) (g : List Value → List Value → List Value) (gV : List V → List V → List V), p.1.2 = kn.map some ∧ KBn K d.fd d.ps p.2.1 kn g gV ∧ ∀ φ Z H ws vs us zs, RFs K φ Z H ws vs → RFs K φ Z H us zs → us.length = kn.length → RFs K φ Z H (ws ++ p.2.2.map (kwSel us)) (gV vs zs)) G.kwc
  fld : Alls (fun (p : Str × Str) => Cls K (He.ga K p.1) ∧ NoAttr K (He.ga K p.1) p.2) G.fld
  tbl : Alls (fun (p : Str × List (Str × W) × List Str) => TblK K w mg p.1 p.2) G.tbl
  dts : Alls (fun (p : Str × List (Str × W)) => DtsK K w mg p.1 p.2) G.dts
  icl : Alls (fun (c : Str) => OpK K (He.ga K c) ∧ Cls K (He.ga K c) ∧ mg c = some (.ref (He.ga K c)) ∧ (c == ("__debug__" : Str)) = false) G.icl
  sms : Alls (fun (p : (Str × Str) × Str) => ∃ (j : Nat) (i : DefI) (d : DefAt), Pl[j]? = some (p.2, i) ∧ ds[j]? = some d ∧ (∃ (q : Addr) (rest : List Value), ClX.CRead K (He.ga K p.1.1) (.type "type") ∧ PySem.W.findCls K (.ref (He.ga K p.1.1)) (.type "type") p.1.2 = some (.get (.builtin "staticmethod.__get__") (.ref q) .none (.ref (He.ga K p.1.1))) ∧
    PySem.W.recIn K q "staticmethod" = some (.ref d.ad :: rest)) ∧ PySem.W.keepIn K (.ref d.ad) = true ∧ mg p.1.1 = some (.ref (He.ga K p.1.1)) ∧ (p.1.1 == ("__debug__" : Str)) = false ∧ Binds K d.fd d.ps []) G.sms
section
variable {P : Program} {w : World} {K : PySem.W.Frag} {mg : Str → Option Value} {base : Heap} {G : Glob} {Pl : List (Str × DefI)} {ds : List DefAt}
theorem fn_all (O : ProgOk K mg w G Pl ds) : ∀ (d : Nat) (j : Nat) (p : Str × DefI) (da : DefAt), Pl[j]? = some p → ds[j]? = some da → FnOk P w K mg base CX0 (2 * d + 1) da.ad da.fd da.ps (spF K (Fn G Pl d) p.1)
  | 0, j, p, da, h1, h2 => by
    obtain ⟨⟨x, qual, params, kws, F⟩, sc, np⟩ := O.df.get h1 h2
    exact F.ok (k := 0) sc (fun vs H Q E ⟨_, _, _, _, _, _, _, _, _, _, q, _⟩ => by cases q) fun cdv A outer s H vs Q E hr ⟨_, _, _, _, _, _, _, _, _, _, q, _⟩ => by cases q
  | d + 1, j, p, da, h1, h2 => by
    obtain ⟨⟨x, qual, params, kws, F⟩, sc, np⟩ := O.df.get h1 h2
    have lk := lookup_ix O.nd h1
    have un : ∀ {ws S w S'}, Fn G Pl (d + 1) p.1 ws S = .ok w S' → ws.length = p.2.np ∧ runB (cSs G (Fn G Pl d) p.2.dx p.2.sc 300 p.2.body) p.2.dx.N ws S = .ok w S' := fun {ws S w S'} q => by
      unfold Fn at q
      rw [lk] at q
      simp only at q
      split at q
      · rename_i h; exact ⟨h, q⟩
      · cases q
    refine F.ok (k := 2 * d + 2) sc (fun vs H Q E ⟨S, φ, Zo, ws, _, _, _, r, w, S', q, _⟩ => by rw [← r.len, np]; exact (un q).1) fun cdv A outer s H vs Q E hr ⟨S, φ, Zo, ws, st, z1, z2, r, w', S', q, k⟩ => ?_
    refine ⟨rdS K (cSs G (Fn G Pl d) p.2.dx p.2.sc 300 p.2.body), PSs.nox ?_, body_ok st z1 z2 r (un q).2 k⟩
    refine (sts 300).Ss (X := (cxOf CX0 P w K mg base p.2.dx.N qual p.2.sc da.ad cdv A outer s H E).nox) ?_ rfl
    exact {
      N := rfl
      nd := sc.nd
      sk := ScOk.refl
      kind := sc.kind
      calm := rfl
      hu := hr.units
      own := PassesOwn.never
      nx := fun _ _ h => h
      fnc := fun _ _ => rfl
      fre := fun x h => O.fre.mem (List.contains_iff_mem.mp h)
      cst := fun x w h => by
        obtain ⟨v, u, h1, h2, h3, h4⟩ := O.cst.mem (lookup_mem h)
        exact ⟨⟨v, u, h1, h2, h3⟩, h4⟩
      fns := fun f i h => by
        obtain ⟨j', i', d', h1, h2, h3, h4, h5, us, dvs, h6, h7, h8⟩ := O.fns.mem (lookup_mem h)
        exact ⟨⟨d'.ad, d'.fd, d'.ps, 2 * d + 1, us, dvs, fn_all O d j' _ d' h1 h2, hr.mono (by omega), h3, h4, h6, h7, h8⟩, h5⟩
      cls := fun c k h => by
        obtain ⟨j', i', d', h1, h2, h3, h4, h5, h6⟩ := O.cls.mem (lookup_mem h)
        exact ⟨⟨d'.ad, d'.fd, d'.ps, 2 * d + 1, h3, fn_all O d j' _ d' h1 h2, hr.mono (by omega), h4, h6⟩, h5⟩
      mts := fun c m q h => by
        obtain ⟨j', i', d', h1, h2, h3, h4, h5⟩ := O.mts.mem (lookup_mem h)
        exact ⟨⟨d'.ad, d'.fd, d'.ps, 2 * d + 1, h3, h4, fn_all O d j' _ d' h1 h2, hr.mono (by omega), h5⟩⟩
      kwc := fun f ks np ord h => by
        obtain ⟨j', i', d', h1, h2, h3, h4, h5, kn, g, gV, h6, h7, h8⟩ := O.kwc.mem (lookup_mem h)
        exact ⟨⟨d'.ad, d'.fd, d'.ps, 2 * d + 1, kn, g, gV, fn_all O d j' _ d' h1 h2, hr.mono (by omega), h3, h4, h6, h7, h8⟩, h5⟩
      fld := fun c f h => O.fld.mem (List.contains_iff_mem.mp h)
      tbl := fun x t h => ⟨(O.tbl.mem (lookup_mem h)).ex, (O.tbl.mem (lookup_mem h)).nd⟩
      dts := fun x t h => ⟨(O.dts.mem (lookup_mem h)).ex, (O.dts.mem (lookup_mem h)).nd⟩
      icl := fun c h => by
        obtain ⟨h1, h2, h3, h4⟩ := O.icl.mem (List.contains_iff_mem.mp h)
        exact ⟨h1, h2, h3, h4⟩
      sms := fun c m q h => by
        obtain ⟨j', i', d', h1, h2, ⟨p, rest, h3, h4, h5⟩, h6, h7, h8, h9⟩ := O.sms.mem (lookup_mem h)
        exact ⟨⟨d'.ad, d'.fd, d'.ps, 2 * d + 1, p, rest, h3, h4, h5, h6, h7, fn_all O d j' _ d' h1 h2, hr.mono (by omega), h9⟩, h8⟩ }
/-- a table's values -/
def dvW : He.Dv → Option W
  | .non => some .non
  | .bl b => some (.bl b)
  | .int i => some (.int i)
  | .str s => some (.str s)
  | _ => none
theorem dvW_rf {x : He.Dv} {w : W} (h : dvW x = some w) : ∀ φ Z H, RF K φ Z H w (x.v K) := fun φ Z H => by
  cases x <;> simp only [dvW] at h <;> cases h
  · exact .non
  · exact .bl _
  · exact .int _
  · exact .str _
theorem tbl_vals {a : Addr} {l : List (Str × He.Dv)} {kvs : List (Str × W)} (h : He.valsB K a l = true) (e : kvs.map (fun q => (q.1, some q.2)) = l.map fun q => (q.1, dvW q.2)) :
    ∀ s y, (s, y) ∈ kvs → ∃ u v, PySem.W.nsIn K a s = some (some u) ∧ RelV v u ∧ ∀ φ Z H, RF K φ Z H y v := fun s y m => by
  have m1 : (s, some y) ∈ l.map fun q => (q.1, dvW q.2) := by
    rw [← e]
    exact List.mem_map.mpr ⟨(s, y), m, rfl⟩
  obtain ⟨q, hq, e1⟩ := List.mem_map.mp m1
  simp only [Prod.mk.injEq] at e1
  obtain ⟨u, hu, r⟩ := He.valsB_ok h hq
  exact ⟨u, q.2.v K, by rw [← e1.1]; exact hu, r, dvW_rf e1.2⟩
theorem tbl_nos {a : Addr} {l : List Str} (h : (l.all fun s => He.eqO (PySem.W.nsIn K a s) (some none)) = true) : ∀ s, s ∈ l → PySem.W.nsIn K a s = some none := fun s m => He.eqO_ok (List.all_eq_true.mp h s m)
/-- all keys of a dict of the top are among these -/
def keysB (K : PySem.W.Frag) (a : Addr) (ks : List Str) : Bool := match K.lookup a with
  | some ⟨_, _, .dict es _, _⟩ => es.toList.all fun e => match e.key with
    | .str x _ => ks.contains x
    | _ => false
  | _ => false
theorem keysB_no {a : Addr} {ks : List Str} {s : Str} (h : keysB K a ks = true) (hs : ks.contains s = false) : PySem.W.nsIn K a s = some none := by
  unfold keysB at h
  unfold PySem.W.nsIn
  split at h
  · rename_i es _ _ hl
    rw [List.all_eq_true] at h
    have h1 : es.toList.find? (·.key.isStr s) = none := List.find?_eq_none.mpr fun e he z => by
      have := h e he
      split at this
      · rename_i x t hx
        rw [hx] at z
        have z : (x == s) = true := z
        rw [beq_iff_eq] at z
        subst z
        rw [this] at hs; cases hs
      · cases this
    have h2 : es.toList.any (·.refKey) = false := by
      rw [List.any_eq_false]
      intro e he
      have := h e he
      split at this
      · rename_i x t hx
        simp [DictEntry.refKey, hx]
      · cases this
    rw [hl]
    simp only [h1, h2]
    rfl
  · cases h
theorem dts_no {s : Str} : ∀ {kvs : List (Str × W)}, kvs.lookup s = none → (kvs.map (·.1)).contains s = false
  | [], _ => rfl
  | (a, b) :: l, h => by
    rw [List.lookup_cons] at h
    rw [List.map_cons, List.contains_cons]
    cases e : s == a with
    | true => rw [e] at h; cases h
    | false => rw [e] at h; rw [Bool.false_or]; exact dts_no h
theorem dts_ok {w : World} {mg : Str → Option Value} {x : Str} {a : Addr} {es : Array DictEntry} {n : Nat} {l : List (Str × He.Dv)} {kvs : List (Str × W)} (D : KDict K w a es n) (hm : mg x = some (.ref a)) (h1 : He.valsB K a l = true) (e : kvs.map (fun q => (q.1, some q.2)) = l.map fun q => (q.1, dvW q.2))
    (h2 : keysB K a (kvs.map (·.1)) = true) (nd : (x == ("__debug__" : Str)) = false) : DtsK K w mg x kvs :=
  ⟨⟨a, es, n, D, hm, fun s y h => tbl_vals h1 e s y (tbl_mem h), fun s h => keysB_no h2 (dts_no h)⟩, nd⟩
/-- a tuple of the top has no dict -/
def tupD (K : PySem.W.Frag) (a : Addr) : Bool := match K.lookup a with
  | some ⟨_, none, _, _⟩ => true
  | _ => false
theorem tup_rf {a : Addr} {vs : List V} {ws : List W} (h : ∀ H, SqT K H a vs) (hd : tupD K a = true) (r : ∀ φ Z H, RFs K φ Z H ws vs) : ∀ φ Z H, RF K φ Z H (.tup ws) (.ref a) := fun φ Z H => by
  refine .tup (.inr ?_) (r φ Z H)
  rcases h (fun _ => none) with (h | ⟨o, h⟩) | ⟨o, its, n, h1, h2, h3⟩
  · cases h
  · cases h
  · refine ⟨o, its, n, h1, h2, ?_, h3⟩
    unfold tupD at hd
    rw [h1] at hd
    obtain ⟨c, d, dt, sl⟩ := o
    cases d with
    | none => rfl
    | some d => cases hd
/-- the law's own promise -/
theorem law_sp {H : Hp} {a : Addr} {ns : List Int} {F : Fenv} {f : Str} (hO : Only H) (hS : SqL K H a (ns.map V.int)) {S' : Sto} (h : F f [.scr (ns.map W.int)] [] = .ok (.bl true) S') : spF K F f [.ref a] H (fun v _ => v = .bl true) fun _ _ _ => False := by
  refine ⟨[], [], fun _ => False, [.scr (ns.map W.int)], ⟨rfl, List.nodup_nil, fun n ob a h => by simp at h⟩, fun _ _ h => h, fun _ h => h.elim, .cons (.scr (sqz_of hO hS (by simp)) ?_) .nil, _, _, h, fun φ' H' v _ _ r => ?_⟩
  · clear h hS
    induction ns with
    | nil => exact .nil
    | cons n ns ih => exact .cons (.int n) ih
  · cases r; rfl
end
end EV

namespace R
open PySem PySem.Spec PyProof.Rows L2
/-! ### the head's hook: facts, defs, tables with text keys, one more Bool -/
/-- a def that stands at a known address (a static method's) -/
def fnWA (K : PySem.W.Frag) (a : Addr) : He.FnW := match K.lookup a with
  | some ⟨_, _, .func fd, _⟩ => some (fd.name, fd.qualname, fd.params, fd.body, fd.scope, fd.globals, fd.closure, fd.builtins)
  | _ => none
def okA (K : PySem.W.Frag) (d : He.DefD) (a : Addr) : Bool := PySem.W.keepIn K (.ref a) && (match K.lookup a with
  | some ⟨_, _, .func fd, _⟩ => PySem.W.codeIn K fd.code d.qual && (He.dflB K fd.defaults (d.dvs K) && He.kwdB K fd.kwdefaults (d.kws K))
  | _ => false)
theorem funD_at {K : PySem.W.Frag} {d : He.DefD} {a : Addr} (e : fnWA K a = d.val) (c : okA K d a = true) : ∃ fd, FunD K d.name d.qual d.params d.body d.scope (d.dvs K) (d.kws K) a fd := by
  obtain ⟨kp, c2⟩ := He.ba c
  unfold fnWA at e
  cases q : K.lookup a with
  | none =>
    rw [q] at c2
    cases c2
  | some o =>
    obtain ⟨oc, od, dt, osl⟩ := o
    rw [q] at c2 e
    cases dt with
    | func fd =>
      obtain ⟨n1, n2, n3, n4, n5, n6, n7, n8, n9, n10, n11, n12, n13, n14, n15⟩ := fd
      have e2 : (some (n1, n2, n3, n4, n5, n6, n7, n15) : He.FnW) = some (d.name, d.qual, d.params, .stmts d.body, d.scope, mainGlobals, [], builtinsNs) := e
      simp only [Option.some.injEq, Prod.mk.injEq] at e2
      obtain ⟨h1, h2, h3, h4, h5, h6, h7, h8⟩ := e2
      subst h1 h2 h3 h4 h5 h6 h7 h8
      have c3 : (PySem.W.codeIn K n13 d.qual && (He.dflB K n8 (d.dvs K) && He.kwdB K n9 (d.kws K))) = true := c2
      obtain ⟨k1, k2⟩ := He.ba c3
      obtain ⟨k3, k4⟩ := He.ba k2
      exact ⟨_, ⟨oc, od, n8, n9, n10, n11, n12, n13, n14, osl, rfl, q, k1, He.dflB_ok k3, He.kwdB_ok k4⟩, kp⟩
    | _ => cases c2
/-- static methods: class, name, def -/
abbrev SmD : Type := Str × Str × He.DefD
def smA (K : PySem.W.Frag) (c m : Str) : Addr := He5.wf K (He.ga K c) "staticmethod" m
def smO (K : PySem.W.Frag) (sm : List SmD) : List He.FnW := sm.map fun q => fnWA K (smA K q.1 q.2.1)
def smV (sm : List SmD) : List He.FnW := sm.map fun q => q.2.2.val
theorem sm_at {K : PySem.W.Frag} {sm : List SmD} (h : smO K sm = smV sm) (i : Nat) {q : SmD} (e : sm[i]? = some q := by rfl) : fnWA K (smA K q.1 q.2.1) = q.2.2.val := by
  have e2 : (smO K sm)[i]? = (smV sm)[i]? := by rw [h]
  unfold smO smV at e2
  rw [List.getElem?_map, List.getElem?_map, e] at e2
  exact Option.some.inj e2
/-- what a static method's class must have -/
def smB (K : PySem.W.Frag) (c m : Str) (d : He.DefD) : Bool := He5.wrapB K (He.ga K c) "staticmethod" "staticmethod.__get__" m && (PySem.W.readsIn K (He.ga K c) (.type "type") && (He.eqO (PySem.W.specialIn K (.ref (He.ga K c)) "__getattribute__") (some (some (.builtin "type.__getattribute__"))) && okA K d (smA K c m)))
open He in
def obsRG (n : Nat) (fa : List Fa) (fn : List DefD) (ts : List Tab) (xb : PySem.W.Frag → Bool) (sm : List SmD) (g : Addr → Option Obj) : (AlT × Bool) × List FnW := ((obsT fa fn ts (frG g (PySem.cStatics :: asD g n)), xb (frG g (PySem.cStatics :: asD g n))), smO (frG g (PySem.cStatics :: asD g n)) sm)
open He in
def hookR (n : Nat) (fa : List Fa) (fn : List DefD) (ts : List Tab) (xb : PySem.W.Frag → Bool) (sm : List SmD) : PySem.W.Hook where
  α := (AlT × Bool) × List FnW
  obs := fun s => obsRG n fa fn ts xb sm s.heap.get?
  val := fun w => ((valT fn ts w, true), smV sm)
  says := fun w h => ∃ K : PySem.W.Frag, K.In h ∧ SaysT fa fn ts w K ∧ xb K = true ∧ smO K sm = smV sm
  of := fun _ _ e => ⟨_, frG_in, congrArg (fun z : (AlT × Bool) × List FnW => z.1.1) e, congrArg (fun z : (AlT × Bool) × List FnW => z.1.2) e, congrArg Prod.snd e⟩
  keeps := fun _ _ _ ⟨K, hK, c⟩ k => ⟨K, PySem.W.Frag.In.keeps hK k, c⟩
theorem obsRG_eq {n : Nat} {fa : List He.Fa} {fn : List He.DefD} {ts : List He.Tab} {xb : PySem.W.Frag → Bool} {sm : List SmD} {g : Addr → Option Obj} {s : Shared} (h : ∀ a, g a = s.heap.get? a) : obsRG n fa fn ts xb sm g = (hookR n fa fn ts xb sm).obs s := by
  have e : g = s.heap.get? := funext h
  rw [e] <;> rfl
/-! ### keywords -/
/-- one value, as a list -/
def seg {α : Type} (i : Nat) (xs : List α) : List α := (xs.drop i).take 1
theorem vals_seg {i : Nat} {vs : List V} {us : List Value} (h : Vals vs us) : Vals (seg i vs) (seg i us) := EV.Vals.take1 (h.drop i)
theorem rf_seg {K : PySem.W.Frag} {φ : List Addr} {Z : Addr → Prop} {H : Hp} {i : Nat} {ws : List EV.W} {vs : List V} (h : EV.RFs K φ Z H ws vs) (hi : i < ws.length) : EV.RFs K φ Z H [ws.getD i .non] (seg i vs) := by
  have e : [ws.getD i .non] = (ws.drop i).take 1 := by
    rw [List.getD_eq_getElem?_getD, List.getElem?_eq_getElem hi, ← List.getElem_cons_drop hi]
    rfl
  rw [e]
  exact (h.drop i).take 1
end R

namespace EV
open PySem PySem.Spec PyProof.Rows L2
/-- text literals differ as their letters do -/
theorem str_lit {a b : String} : ((Str.ofString a) = (Str.ofString b)) = (a = b) := by
  apply propext
  constructor
  · intro h
    rw [Str.ofString_eq_toList, Str.ofString_eq_toList] at h
    have h := congrArg Str.cps h
    have h : (a.toList.map Char.toNat) = (b.toList.map Char.toNat) := by simpa using h
    have inj : ∀ (l m : List Char), l.map Char.toNat = m.map Char.toNat → l = m := by
      intro l
      induction l with
      | nil => intro m h; cases m with
        | nil => rfl
        | cons _ _ => simp at h
      | cons c l ih => intro m h; cases m with
        | nil => simp at h
        | cons d m =>
          simp only [List.map_cons, List.cons.injEq] at h
          obtain ⟨h1, h2⟩ := h
          have : c = d := by
            apply Char.ext
            apply UInt32.toNat_inj.mp
            exact h1
          rw [this, ih m h2]
    exact String.toList_inj.mp (inj _ _ h)
  · intro h; rw [h]
/-! ### the steps, with continuations that have names (simp does not look into them before their time) -/
section
variable {α β : Type} {a b c : M W} {la lb : M (List W)} {ta tb : M Bool} {f g : M Fl} {σ σ1 : Sls} {S S1 : Sto} {x y w v : W} {ws xs : List W} {F : Fenv} {nm : Str} {i n : Nat}
theorem r_ok {x : α} {k : α → Sto → Res β} : (Res.ok x S).bind k = k x S := rfl
theorem r_some {x : α} : olift (some x) S = .ok x S := rfl
def varK (S : Sto) : Option Sl → Res W
  | some (.fr w) => .ok w S
  | _ => .bad
theorem r_var : mVar i σ S = varK S (σ[i]?) := by unfold mVar varK; rfl
theorem r_varK : varK S (some (.fr w)) = .ok w S := rfl
def varBK (S : Sto) : Option Sl → Res W
  | some (.fr w) => .ok w S
  | some (.ow w) => .ok w S
  | _ => .bad
theorem r_varB : mVarB i σ S = varBK S (σ[i]?) := by unfold mVarB varBK; rfl
theorem r_varBf : varBK S (some (.fr w)) = .ok w S := rfl
theorem r_varBo : varBK S (some (.ow w)) = .ok w S := rfl
theorem r_c : mC w σ S = .ok w S := rfl
def binG (op : Operator) (x : W) : W → Sto → Res W := fun y S2 => olift (wbin op (vw S2 x) (vw S2 y)) S2
def binF (op : Operator) (b : M W) (σ : Sls) : W → Sto → Res W := fun x S1 => (b σ S1).bind (binG op x)
theorem r_bin {op : Operator} : mBin op a b σ S = (a σ S).bind (binF op b σ) := rfl
theorem r_binF {op : Operator} : binF op b σ x S = (b σ S).bind (binG op x) := rfl
theorem r_binG {op : Operator} : binG op x y S = olift (wbin op (vw S x) (vw S y)) S := rfl
def unF (op : UnaryOp) : W → Sto → Res W := fun x S1 => olift (wun op x) S1
theorem r_un {op : UnaryOp} : mUn op a σ S = (a σ S).bind (unF op) := rfl
theorem r_unF {op : UnaryOp} : unF op x S = olift (wun op x) S := rfl
def cmpG (op : CmpOp) (x : W) : W → Sto → Res W := fun y S2 => olift ((wcmp op (vw S2 x) (vw S2 y)).map .bl) S2
def cmpF (op : CmpOp) (b : M W) (σ : Sls) : W → Sto → Res W := fun x S1 => (b σ S1).bind (cmpG op x)
theorem r_cmp {op : CmpOp} : mCmp op a b σ S = (a σ S).bind (cmpF op b σ) := rfl
theorem r_cmpF {op : CmpOp} : cmpF op b σ x S = (b σ S).bind (cmpG op x) := rfl
theorem r_cmpG {op : CmpOp} : cmpG op x y S = olift ((wcmp op (vw S x) (vw S y)).map .bl) S := rfl
def cmtG (op : CmpOp) (x : W) : W → Sto → Res Bool := fun y S2 => olift (wcmp op (vw S2 x) (vw S2 y)) S2
def cmtF (op : CmpOp) (b : M W) (σ : Sls) : W → Sto → Res Bool := fun x S1 => (b σ S1).bind (cmtG op x)
theorem r_cmt {op : CmpOp} : mCmpT op a b σ S = (a σ S).bind (cmtF op b σ) := rfl
theorem r_cmtF {op : CmpOp} : cmtF op b σ x S = (b σ S).bind (cmtG op x) := rfl
theorem r_cmtG {op : CmpOp} : cmtG op x y S = olift (wcmp op (vw S x) (vw S y)) S := rfl
def truF : W → Sto → Res Bool := fun x S1 => olift (wtru (vw S1 x)) S1
theorem r_tru : mTru a σ S = (a σ S).bind truF := rfl
theorem r_truF : truF x S = olift (wtru (vw S x)) S := rfl
def notF : Bool → Sto → Res Bool := fun b S1 => .ok (!b) S1
theorem r_not : mNotT ta σ S = (ta σ S).bind notF := rfl
theorem r_notF {b : Bool} : notF b S = .ok (!b) S := rfl
def andF (b : M Bool) (σ : Sls) : Bool → Sto → Res Bool := fun x S1 => if x then b σ S1 else .ok false S1
theorem r_and : mAnd ta tb σ S = (ta σ S).bind (andF tb σ) := rfl
theorem r_andT : andF tb σ true S = tb σ S := rfl
theorem r_andN : andF tb σ false S = .ok false S := rfl
def orF (b : M Bool) (σ : Sls) : Bool → Sto → Res Bool := fun x S1 => if x then .ok true S1 else b σ S1
theorem r_or : mOr ta tb σ S = (ta σ S).bind (orF tb σ) := rfl
theorem r_orT : orF tb σ true S = .ok true S := rfl
theorem r_orN : orF tb σ false S = tb σ S := rfl
def valF : Bool → Sto → Res W := fun b S1 => .ok (.bl b) S1
theorem r_val : mVal ta σ S = (ta σ S).bind valF := rfl
theorem r_valF {b : Bool} : valF b S = .ok (.bl b) S := rfl
def avG (b : M W) (σ : Sls) (x : W) (S1 : Sto) : Option Bool → Res W
  | some true => b σ S1
  | some false => .ok x S1
  | none => .bad
def avF (b : M W) (σ : Sls) : W → Sto → Res W := fun x S1 => avG b σ x S1 (wtru (vw S1 x))
theorem r_av : mAndV a b σ S = (a σ S).bind (avF b σ) := by
  unfold mAndV avF avG; rfl
theorem r_avF : avF b σ x S = avG b σ x S (wtru (vw S x)) := rfl
theorem r_avT : avG b σ x S (some true) = b σ S := rfl
theorem r_avN : avG b σ x S (some false) = .ok x S := rfl
def ovG (b : M W) (σ : Sls) (x : W) (S1 : Sto) : Option Bool → Res W
  | some true => .ok x S1
  | some false => b σ S1
  | none => .bad
def ovF (b : M W) (σ : Sls) : W → Sto → Res W := fun x S1 => ovG b σ x S1 (wtru (vw S1 x))
theorem r_ov : mOrV a b σ S = (a σ S).bind (ovF b σ) := by
  unfold mOrV ovF ovG; rfl
theorem r_ovF : ovF b σ x S = ovG b σ x S (wtru (vw S x)) := rfl
theorem r_ovT : ovG b σ x S (some true) = .ok x S := rfl
theorem r_ovN : ovG b σ x S (some false) = b σ S := rfl
def ifF (a b : M W) (σ : Sls) : Bool → Sto → Res W := fun x S1 => if x then a σ S1 else b σ S1
theorem r_ife : mIfE ta a b σ S = (ta σ S).bind (ifF a b σ) := rfl
theorem r_ifT : ifF a b σ true S = a σ S := rfl
theorem r_ifN : ifF a b σ false S = b σ S := rfl
theorem r_nil : mNil σ S = .ok [] S := rfl
def consG (x : W) : List W → Sto → Res (List W) := fun xs S2 => .ok (x :: xs) S2
def consF (b : M (List W)) (σ : Sls) : W → Sto → Res (List W) := fun x S1 => (b σ S1).bind (consG x)
theorem r_cons : mCons a lb σ S = (a σ S).bind (consF lb σ) := rfl
theorem r_consF : consF lb σ x S = (lb σ S).bind (consG x) := rfl
theorem r_consG : consG x xs S = .ok (x :: xs) S := rfl
def tupF : List W → Sto → Res W := fun xs S1 => if xs.length ≤ LIM then .ok (.tup xs) S1 else .bad
theorem r_tup : mTup la σ S = (la σ S).bind tupF := rfl
theorem r_tupF : tupF xs S = if xs.length ≤ LIM then .ok (.tup xs) S else .bad := rfl
def lstF : List W → Sto → Res W := fun xs S1 => if xs.length ≤ LIM then .ok (.lst xs) S1 else .bad
theorem r_lst : mLst la σ S = (la σ S).bind lstF := rfl
theorem r_lstF : lstF xs S = if xs.length ≤ LIM then .ok (.lst xs) S else .bad := rfl
def locF : W → Sto → Res W := fun w S1 => match w with
  | .lst xs => .ok (.loc S1.length) (S1 ++ [.lst xs])
  | .dct kvs => .ok (.loc S1.length) (S1 ++ [.dct kvs])
  | _ => .bad
theorem r_loc : mToLoc a σ S = (a σ S).bind locF := rfl
theorem r_locL : locF (.lst xs) S = .ok (.loc S.length) (S ++ [.lst xs]) := rfl
theorem r_locD {kvs : List (Key × W)} : locF (.dct kvs) S = .ok (.loc S.length) (S ++ [.dct kvs]) := rfl
theorem r_newd : mNewD σ S = .ok (.dct []) S := rfl
def ixG (x : W) : W → Sto → Res W := fun i S2 => olift (wix (vwz S2 x) i) S2
def ixF (b : M W) (σ : Sls) : W → Sto → Res W := fun x S1 => (b σ S1).bind (ixG x)
theorem r_ix : mIx a b σ S = (a σ S).bind (ixF b σ) := rfl
theorem r_ixF : ixF b σ x S = (b σ S).bind (ixG x) := rfl
theorem r_ixG : ixG x y S = olift (wix (vwz S x) y) S := rfl
def fldG (fn : Str) (ok : Str → Bool) (S1 : Sto) : Option Ob → Res W
  | some (.ins c fs) => if ok c then olift (fs.lookup fn) S1 else .bad
  | _ => .bad
def fldF (fn : Str) (ok : Str → Bool) : W → Sto → Res W := fun x S1 => match x with
  | .loc n => fldG fn ok S1 (S1[n]?)
  | _ => .bad
theorem r_fld {ok : Str → Bool} : mFld a nm ok σ S = (a σ S).bind (fldF nm ok) := by
  unfold mFld fldF fldG; rfl
theorem r_fldF {ok : Str → Bool} : fldF nm ok (.loc n) S = fldG nm ok S (S[n]?) := rfl
theorem r_fldG {ok : Str → Bool} {c : Str} {fs : List (Str × W)} : fldG nm ok S (some (.ins c fs)) = if ok c then olift (fs.lookup nm) S else .bad := rfl
def bltF (bf : Bf) : List W → Sto → Res W := fun xs S1 => olift (wblt bf (xs.map (vwz S1))) S1
theorem r_blt {bf : Bf} : mBlt bf la σ S = (la σ S).bind (bltF bf) := rfl
theorem r_bltF {bf : Bf} : bltF bf xs S = olift (wblt bf (xs.map (vwz S))) S := rfl
def callF (F : Fenv) (fn : Str) (more : List W) : List W → Sto → Res W := fun xs S1 => F fn (xs ++ more) S1
theorem r_call {more : List W} : mCall F nm la more σ S = (la σ S).bind (callF F nm more) := rfl
theorem r_callF {more : List W} : callF F nm more xs S = F nm (xs ++ more) S := rfl
def ckG (F : Fenv) (fn : Str) (ord : List (Nat ⊕ W)) (xs : List W) : List W → Sto → Res W := fun us S2 => F fn (xs ++ ord.map (kwSel us)) S2
def ckF (F : Fenv) (fn : Str) (k : M (List W)) (ord : List (Nat ⊕ W)) (σ : Sls) : List W → Sto → Res W := fun xs S1 => (k σ S1).bind (ckG F fn ord xs)
theorem r_callK {ord : List (Nat ⊕ W)} : mCallK F nm la lb ord σ S = (la σ S).bind (ckF F nm lb ord σ) := rfl
theorem r_ckF {ord : List (Nat ⊕ W)} : ckF F nm lb ord σ xs S = (lb σ S).bind (ckG F nm ord xs) := rfl
theorem r_ckG {ord : List (Nat ⊕ W)} : ckG F nm ord xs ws S = F nm (xs ++ ord.map (kwSel ws)) S := rfl
def makG (l : Nat) : W → Sto → Res W := fun w S2 => match w with
  | .non => .ok (.loc l) S2
  | _ => .bad
def makF (F : Fenv) (c ini : Str) : List W → Sto → Res W := fun xs S1 => (F ini (.loc S1.length :: xs) (S1 ++ [.ins c []])).bind (makG S1.length)
theorem r_make {ini : Str} : mMake F nm ini la σ S = (la σ S).bind (makF F nm ini) := rfl
theorem r_makF {ini : Str} : makF F nm ini xs S = (F ini (.loc S.length :: xs) (S ++ [.ins nm []])).bind (makG S.length) := rfl
theorem r_makG {l : Nat} : makG l .non S = .ok (.loc l) S := rfl
def smG (k : Sm) (x : W) : W → Sto → Res W := fun y S2 => olift (wSm k x y) S2
def smF (k : Sm) (b : M W) (σ : Sls) : W → Sto → Res W := fun x S1 => (b σ S1).bind (smG k x)
theorem r_sm {k : Sm} : mSm k a b σ S = (a σ S).bind (smF k b σ) := rfl
theorem r_smF {k : Sm} : smF k b σ x S = (b σ S).bind (smG k x) := rfl
theorem r_smG {k : Sm} : smG k x y S = olift (wSm k x y) S := rfl
def stripF : W → Sto → Res W := fun x S1 => olift (wStrip x) S1
theorem r_strip : mStrip a σ S = (a σ S).bind stripF := rfl
theorem r_stripF : stripF x S = olift (wStrip x) S := rfl
def justH (x y : W) : W → Sto → Res W := fun z S3 => olift (wJust x y z) S3
def justG (c : M W) (σ : Sls) (x : W) : W → Sto → Res W := fun y S2 => (c σ S2).bind (justH x y)
def justF (b c : M W) (σ : Sls) : W → Sto → Res W := fun x S1 => (b σ S1).bind (justG c σ x)
theorem r_just : mJust a b c σ S = (a σ S).bind (justF b c σ) := rfl
theorem r_justF : justF b c σ x S = (b σ S).bind (justG c σ x) := rfl
theorem r_justG : justG c σ x y S = (c σ S).bind (justH x y) := rfl
theorem r_justH : justH x y w S = olift (wJust x y w) S := rfl
def fmtF : W → Sto → Res W := fun x S1 => olift (wFmt x) S1
theorem r_fmt : mFmt a σ S = (a σ S).bind fmtF := rfl
theorem r_fmtF : fmtF x S = olift (wFmt x) S := rfl
def jsF : List W → Sto → Res W := fun xs S1 => olift ((wJs Str.empty xs).map .str) S1
theorem r_js : mJs la σ S = (la σ S).bind jsF := rfl
theorem r_jsF : jsF xs S = olift ((wJs Str.empty xs).map .str) S := rfl
def maxDG (x : W) : W → Sto → Res W := fun y S2 => olift (wMaxD (vwz S2 x) y) S2
def maxDF (b : M W) (σ : Sls) : W → Sto → Res W := fun x S1 => (b σ S1).bind (maxDG x)
theorem r_maxD : mMaxD a b σ S = (a σ S).bind (maxDF b σ) := rfl
theorem r_maxDF : maxDF b σ x S = (b σ S).bind (maxDG x) := rfl
theorem r_maxDG : maxDG x y S = olift (wMaxD (vwz S x) y) S := rfl
def fzG (S1 : Sto) (n : Nat) : Option Ob → Res W
  | some (.lst xs) => .ok (.loc n) (S1.set n (.frz xs))
  | _ => .ok (.loc n) S1
def fzF : W → Sto → Res W := fun x S1 => match x with
  | .loc n => fzG S1 n (S1[n]?)
  | x => .ok x S1
theorem r_fz : mFz a σ S = (a σ S).bind fzF := by
  unfold mFz fzF fzG
  congr 1
  funext x S1
  cases x <;> rfl
theorem r_fzF : fzF (.loc n) S = fzG S n (S[n]?) := rfl
theorem r_fzL {xs : List W} : fzF (.lst xs) S = .ok (.lst xs) S := rfl
theorem r_fzG {xs : List W} : fzG S n (some (.lst xs)) = .ok (.loc n) (S.set n (.frz xs)) := rfl
def metF (F : Fenv) (own : Str → Option Str) (m : Mt) (fn : Str) (a : M (List W)) (σ : Sls) : W → Sto → Res W := fun w S1 => goMeth F own m fn w (a σ) S1
theorem r_meth {own : Str → Option Str} {m : Mt} : mMeth F own m nm a la σ S = (a σ S).bind (metF F own m nm la σ) := rfl
theorem r_metF {own : Str → Option Str} {m : Mt} : metF F own m nm la σ x S = goMeth F own m nm x (la σ) S := rfl
/-! ### statements -/
def seqF (b : M Fl) : Fl → Sto → Res Fl := fun fl S1 => match fl with
  | .nx σ1 => b σ1 S1
  | fl => .ok fl S1
theorem r_seq : sSeq f g σ S = (f σ S).bind (seqF g) := rfl
theorem r_seqN : seqF g (.nx σ) S = g σ S := rfl
theorem r_seqR : seqF g (.rt w) S = .ok (.rt w) S := rfl
theorem r_seqB : seqF g (.bk σ) S = .ok (.bk σ) S := rfl
theorem r_seqC : seqF g (.ct σ) S = .ok (.ct σ) S := rfl
theorem r_next : sNext σ S = .ok (.nx σ) S := rfl
theorem r_brk : sBrk σ S = .ok (.bk σ) S := rfl
theorem r_cnt : sCnt σ S = .ok (.ct σ) S := rfl
def dropF (σ : Sls) : W → Sto → Res Fl := fun _ S1 => .ok (.nx σ) S1
theorem r_drop : sDrop a σ S = (a σ S).bind (dropF σ) := rfl
theorem r_dropF : dropF σ x S = .ok (.nx σ) S := rfl
def retF : W → Sto → Res Fl := fun w S1 => .ok (.rt w) S1
theorem r_ret : sRet a σ S = (a σ S).bind retF := rfl
theorem r_retF : retF w S = .ok (.rt w) S := rfl
theorem r_retN : sRetN σ S = .ok (.rt .non) S := rfl
def setOF (i : Nat) (σ : Sls) : W → Sto → Res Fl := fun w S1 => .ok (.nx (σ.set i (mkOwn w))) S1
theorem r_setO : sSetF i a σ S = (a σ S).bind (setOF i σ) := rfl
theorem r_setOF : setOF i σ w S = .ok (.nx (σ.set i (mkOwn w))) S := rfl
def setK (i : Nat) (σ : Sls) : W → Sto → Res Fl := fun w S1 => .ok (.nx (σ.set i (.fr w))) S1
theorem r_set : sSet i a σ S = (a σ S).bind (setK i σ) := rfl
theorem r_setK : setK i σ w S = .ok (.nx (σ.set i (.fr w))) S := rfl
def asgG : Sls → Sto → Res Fl := fun σ1 S2 => .ok (.nx σ1) S2
def asgF (bd : W → M Sls) (σ : Sls) : W → Sto → Res Fl := fun w S1 => (bd w σ S1).bind asgG
theorem r_asg {bd : W → M Sls} : sAsg a bd σ S = (a σ S).bind (asgF bd σ) := rfl
theorem r_asgF {bd : W → M Sls} : asgF bd σ w S = (bd w σ S).bind asgG := rfl
theorem r_asgG : asgG σ S = .ok (.nx σ) S := rfl
def sifF (f g : M Fl) (σ : Sls) : Bool → Sto → Res Fl := fun x S1 => if x then f σ S1 else g σ S1
theorem r_if : sIf ta f g σ S = (ta σ S).bind (sifF f g σ) := rfl
theorem r_sifT : sifF f g σ true S = f σ S := rfl
theorem r_sifN : sifF f g σ false S = g σ S := rfl
def forF (bd : W → M Sls) (body : M Fl) (σ : Sls) : List W → Sto → Res Fl := fun ws S1 => forL bd body ws σ S1
theorem r_for {bd : W → M Sls} : sFor la bd f σ S = (la σ S).bind (forF bd f σ) := rfl
theorem r_forF {bd : W → M Sls} : forF bd f σ ws S = forL bd f ws σ S := rfl
def forH (bd : W → M Sls) (body : M Fl) (ws : List W) : Fl → Sto → Res Fl := fun fl S2 => match fl with
  | .nx σ2 => forL bd body ws σ2 S2
  | .ct σ2 => forL bd body ws σ2 S2
  | .bk σ2 => .ok (.nx σ2) S2
  | .rt w => .ok (.rt w) S2
def forG (bd : W → M Sls) (body : M Fl) (ws : List W) : Sls → Sto → Res Fl := fun σ1 S1 => (body σ1 S1).bind (forH bd body ws)
theorem r_forN {bd : W → M Sls} : forL bd f [] σ S = .ok (.nx σ) S := rfl
theorem r_forC {bd : W → M Sls} : forL bd f (w :: ws) σ S = (bd w σ S).bind (forG bd f ws) := by
  unfold forG forH; rfl
theorem r_forG {bd : W → M Sls} : forG bd f ws σ S = (f σ S).bind (forH bd f ws) := rfl
theorem r_forHn {bd : W → M Sls} : forH bd f ws (.nx σ) S = forL bd f ws σ S := rfl
theorem r_forHc {bd : W → M Sls} : forH bd f ws (.ct σ) S = forL bd f ws σ S := rfl
theorem r_forHb {bd : W → M Sls} : forH bd f ws (.bk σ) S = .ok (.nx σ) S := rfl
theorem r_forHr {bd : W → M Sls} : forH bd f ws (.rt w) S = .ok (.rt w) S := rfl
theorem r_bname : bName i w σ S = .ok (σ.set i (.fr w)) S := rfl
def rng1F : W → Sto → Res (List W) := fun x S1 => match x with
  | .int j => if in62 j then .ok (rngW 0 j.toNat) S1 else .bad
  | _ => .bad
theorem r_rng1 : mRng1 a σ S = (a σ S).bind rng1F := by unfold rng1F; rfl
theorem r_rng1F {j : Int} (h : in62 j) : rng1F (.int j) S = .ok (rngW 0 j.toNat) S := if_pos h
def itF : W → Sto → Res (List W) := fun x S1 => match x with
  | .lst xs => .ok xs S1
  | .tup xs => .ok xs S1
  | .scr xs => .ok xs S1
  | .str s => .ok (s.cps.toList.map fun c => .str ⟨#[c]⟩) S1
  | .loc n => match S1[n]? with
    | some (.frz xs) => .ok xs S1
    | _ => .bad
  | _ => .bad
theorem r_it : mIt a σ S = (a σ S).bind itF := by unfold itF; rfl
theorem r_itL : itF (.lst xs) S = .ok xs S := rfl
theorem r_itT : itF (.tup xs) S = .ok xs S := rfl
def runF : Fl → Sto → Res W := fun fl S1 => match fl with
  | .nx _ => .ok .non S1
  | .rt w => .ok w S1
  | _ => .bad
theorem r_run {N : List Str} : runB f N ws S = (f (ws.map Sl.fr ++ List.replicate (N.length - ws.length) .emp) S).bind runF := by unfold runF; rfl
theorem r_runN : runF (.nx σ) S = .ok .non S := rfl
theorem r_runR : runF (.rt w) S = .ok w S := rfl
theorem r_frz {is : List Nat} : sFrz is f σ S = f (frz σ is) S := rfl
/-! ### more statements -/
def parG (i j : Nat) (σ : Sls) (x : W) : W → Sto → Res Fl := fun y S2 => .ok (.nx ((σ.set i (.fr x)).set j (.fr y))) S2
def parF (i j : Nat) (b : M W) (σ : Sls) : W → Sto → Res Fl := fun x S1 => (b σ S1).bind (parG i j σ x)
theorem r_par {j : Nat} : sPar i j a b σ S = (a σ S).bind (parF i j b σ) := rfl
theorem r_parF {j : Nat} : parF i j b σ x S = (b σ S).bind (parG i j σ x) := rfl
theorem r_parG {j : Nat} : parG i j σ x y S = .ok (.nx ((σ.set i (.fr x)).set j (.fr y))) S := rfl
def poH (n : Nat) (xs : List W) (σ : Sls) (v : W) (S : Sto) : Option Nat → Res Fl
  | some j => .ok (.nx (σ.set n (.ow (.lst (xs.set j v))))) S
  | none => .bad
def poD (n : Nat) (kvs : List (Key × W)) (σ : Sls) (v : W) (S : Sto) : Option Key → Res Fl
  | some k => if kvs.length < LIM then .ok (.nx (σ.set n (.ow (.dct (dput kvs k v))))) S else .bad
  | none => .bad
def poG (n : Nat) (w : W) (σ : Sls) (v : W) : W → Sto → Res Fl := fun i S2 => match w with
  | .lst xs => match i with
    | .int k => poH n xs σ v S2 (ixN xs.length k)
    | _ => .bad
  | .dct kvs => poD n kvs σ v S2 (wkey i)
  | _ => .bad
def poF (n : Nat) (w : W) (ix : M W) (σ : Sls) : W → Sto → Res Fl := fun v S1 => (ix σ S1).bind (poG n w σ v)
theorem r_po : putOwn n w a b σ S = (b σ S).bind (poF n w a σ) := by unfold putOwn poF poG poH poD; rfl
theorem r_poF : poF n w a σ v S = (a σ S).bind (poG n w σ v) := rfl
theorem r_poGl {k : Int} : poG n (.lst xs) σ v (.int k) S = poH n xs σ v S (ixN xs.length k) := rfl
theorem r_poGd {kvs : List (Key × W)} : poG n (.dct kvs) σ v x S = poD n kvs σ v S (wkey x) := rfl
theorem r_poH {j : Nat} : poH n xs σ v S (some j) = .ok (.nx (σ.set n (.ow (.lst (xs.set j v))))) S := rfl
theorem r_poD {kvs : List (Key × W)} {k : Key} : poD n kvs σ v S (some k) = if kvs.length < LIM then .ok (.nx (σ.set n (.ow (.dct (dput kvs k v))))) S else .bad := rfl
def psL (σ : Sls) (v : W) (n : Nat) (xs : List W) (S : Sto) : Option Nat → Res Fl
  | some j => .ok (.nx σ) (S.set n (.lst (xs.set j v)))
  | none => .bad
def psD (σ : Sls) (v : W) (n : Nat) (kvs : List (Key × W)) (S : Sto) : Option Key → Res Fl
  | some k => if kvs.length < LIM then .ok (.nx σ) (S.set n (.dct (dput kvs k v))) else .bad
  | none => .bad
def psI (σ : Sls) (v : W) (n : Nat) (i : W) (S : Sto) : Option Ob → Res Fl
  | some (.lst xs) => match i with
    | .int k => psL σ v n xs S (ixN xs.length k)
    | _ => .bad
  | some (.dct kvs) => psD σ v n kvs S (wkey i)
  | _ => .bad
def psH (σ : Sls) (v x : W) : W → Sto → Res Fl := fun i S3 => match x with
  | .loc n => psI σ v n i S3 (S3[n]?)
  | _ => .bad
def psG (ix : M W) (σ : Sls) (v : W) : W → Sto → Res Fl := fun x S2 => (ix σ S2).bind (psH σ v x)
def psF (ob ix : M W) (σ : Sls) : W → Sto → Res Fl := fun v S1 => (ob σ S1).bind (psG ix σ v)
theorem r_ps : sPutS a b c σ S = (c σ S).bind (psF a b σ) := by unfold sPutS psF psG psH psI psL psD; rfl
theorem r_psF : psF a b σ v S = (a σ S).bind (psG b σ v) := rfl
theorem r_psG : psG a σ v x S = (a σ S).bind (psH σ v x) := rfl
theorem r_psH : psH σ v (.loc n) x S = psI σ v n x S (S[n]?) := rfl
theorem r_psIl {k : Int} : psI σ v n (.int k) S (some (.lst xs)) = psL σ v n xs S (ixN xs.length k) := rfl
theorem r_psId {kvs : List (Key × W)} : psI σ v n x S (some (.dct kvs)) = psD σ v n kvs S (wkey x) := rfl
theorem r_psL {j : Nat} : psL σ v n xs S (some j) = .ok (.nx σ) (S.set n (.lst (xs.set j v))) := rfl
theorem r_psD {kvs : List (Key × W)} {k : Key} : psD σ v n kvs S (some k) = if kvs.length < LIM then .ok (.nx σ) (S.set n (.dct (dput kvs k v))) else .bad := rfl
def putK (n : Nat) (ob ix e : M W) (σ : Sls) (S : Sto) : Option Sl → Res Fl
  | some (.ow w) => putOwn n w ix e σ S
  | _ => sPutS ob ix e σ S
theorem r_put : sPut n a b c σ S = putK n a b c σ S (σ[n]?) := by unfold sPut putK; rfl
theorem r_putO : putK n a b c σ S (some (.ow w)) = putOwn n w b c σ S := rfl
theorem r_putF : putK n a b c σ S (some (.fr w)) = sPutS a b c σ S := rfl
def sfH (v : W) (fn : Str) (ok : Str → Bool) (σ : Sls) (n : Nat) (S : Sto) : Option Ob → Res Fl
  | some (.ins c fs) => if ok c ∧ fs.length < 1000 then .ok (.nx σ) (S.set n (.ins c (fput fn v fs))) else .bad
  | _ => .bad
def sfG (v : W) (fn : Str) (ok : Str → Bool) (σ : Sls) : W → Sto → Res Fl := fun x S2 => match x with
  | .loc n => sfH v fn ok σ n S2 (S2[n]?)
  | _ => .bad
def sfF (o : M W) (fn : Str) (ok : Str → Bool) (σ : Sls) : W → Sto → Res Fl := fun v S1 => (o σ S1).bind (sfG v fn ok σ)
theorem r_sf {ok : Str → Bool} : sFldM a b nm ok σ S = (b σ S).bind (sfF a nm ok σ) := by unfold sFldM sfF sfG sfH; rfl
theorem r_sfF {ok : Str → Bool} : sfF a nm ok σ v S = (a σ S).bind (sfG v nm ok σ) := rfl
theorem r_sfG {ok : Str → Bool} : sfG v nm ok σ (.loc n) S = sfH v nm ok σ n S (S[n]?) := rfl
theorem r_sfH {ok : Str → Bool} {cn : Str} {fs : List (Str × W)} : sfH v nm ok σ n S (some (.ins cn fs)) = if ok cn ∧ fs.length < 1000 then .ok (.nx σ) (S.set n (.ins cn (fput nm v fs))) else .bad := rfl
def mutF : W × Sls → Sto → Res Fl := fun r S1 => .ok (.nx r.2) S1
theorem r_mut {e : M (W × Sls)} : sMut e σ S = (e σ S).bind mutF := rfl
theorem r_mutF {r : W × Sls} : mutF r S = .ok (.nx r.2) S := rfl
def mutYF (k : Nat) : W × Sls → Sto → Res Fl := fun r S1 => .ok (.nx (r.2.set k (.fr r.1))) S1
theorem r_mutY {k : Nat} {e : M (W × Sls)} : sMutY k e σ S = (e σ S).bind (mutYF k) := rfl
theorem r_mutYF {k : Nat} {r : W × Sls} : mutYF k r S = .ok (.nx (r.2.set k (.fr r.1))) S := rfl
theorem r_btup {gs : List (W → M Sls)} (h : ws.length = gs.length) : bTup gs (.tup ws) σ S = bAll gs ws σ S := by
  show (if ws.length = gs.length then bAll gs ws else mBad) σ S = _
  rw [if_pos h]
theorem r_bnil : bAll [] [] σ S = .ok σ S := rfl
def bAllF (gs : List (W → M Sls)) (ws : List W) : Sls → Sto → Res Sls := fun σ1 S1 => bAll gs ws σ1 S1
theorem r_bcons {bd : W → M Sls} {gs : List (W → M Sls)} : bAll (bd :: gs) (w :: ws) σ S = (bd w σ S).bind (bAllF gs ws) := rfl
theorem r_bAllF {gs : List (W → M Sls)} : bAllF gs ws σ S = bAll gs ws σ S := rfl
theorem r_lkC {γ : Type} {x y : Str} {v : γ} {l : List (Str × γ)} : List.lookup x ((y, v) :: l) = if x = y then some v else List.lookup x l := by
  rw [List.lookup_cons]
  by_cases h : x = y
  · subst h; simp
  · rw [if_neg h, beq_false_of_ne h]
theorem r_beq {a b : String} : (Str.ofString a == Str.ofString b) = (a == b) := by
  by_cases h : a = b
  · subst h; simp
  · rw [beq_false_of_ne (fun e => h (Eq.mp str_lit e)), beq_false_of_ne h]
/-! ### slices, comprehensions -/
def slH (x : W) (l : Option Int) : Option Int → Sto → Res W := fun h S3 => olift (wsl (vw S3 x) l h) S3
def slG (x : W) (hi : Option (M W)) (σ : Sls) : Option Int → Sto → Res W := fun l S2 => (mPart hi σ S2).bind (slH x l)
def slF (lo hi : Option (M W)) (σ : Sls) : W → Sto → Res W := fun x S1 => (mPart lo σ S1).bind (slG x hi σ)
theorem r_sl {lo hi : Option (M W)} : mSl a lo hi σ S = (a σ S).bind (slF lo hi σ) := rfl
theorem r_slF {lo hi : Option (M W)} : slF lo hi σ x S = (mPart lo σ S).bind (slG x hi σ) := rfl
theorem r_slG {hi : Option (M W)} {l : Option Int} : slG x hi σ l S = (mPart hi σ S).bind (slH x l) := rfl
theorem r_slH {l h : Option Int} : slH x l h S = olift (wsl (vw S x) l h) S := rfl
def partF : W → Sto → Res (Option Int) := fun x S1 => match x with
  | .int i => .ok (some i) S1
  | _ => .bad
theorem r_partN : mPart none σ S = .ok none S := rfl
theorem r_partS : mPart (some a) σ S = (a σ S).bind partF := by unfold mPart partF; rfl
theorem r_partF {i : Int} : partF (.int i) S = .ok (some i) S := rfl
def lcH : List W → Sto → Res W := fun vs S2 => .ok (.lst vs) S2
def notOw : Option Sl → Bool
  | some (.ow _) => false
  | _ => true
def lcF (bd : W → M Sls) (t : M Bool) (e : M W) (own : List Nat) (σ : Sls) : List W → Sto → Res W := fun ws S1 => if ws.length ≤ LIM ∧ (own.all fun i => notOw (σ[i]?)) = true then (lcL bd t e (wwipe σ own) ws S1).bind lcH else .bad
theorem r_lc {it : M (List W)} {bd : W → M Sls} {t : M Bool} {e : M W} {own : List Nat} : mLc it bd t e own σ S = (it σ S).bind (lcF bd t e own σ) := by unfold mLc lcF lcH notOw; rfl
theorem r_lcF {bd : W → M Sls} {t : M Bool} {e : M W} {own : List Nat} : lcF bd t e own σ ws S = if ws.length ≤ LIM ∧ (own.all fun i => notOw (σ[i]?)) = true then (lcL bd t e (wwipe σ own) ws S).bind lcH else .bad := rfl
theorem r_lcH : lcH ws S = .ok (.lst ws) S := rfl
theorem r_notOwE : notOw (some .emp) = true := rfl
theorem r_notOwF : notOw (some (.fr w)) = true := rfl
theorem r_lcN {bd : W → M Sls} {t : M Bool} {e : M W} : lcL bd t e σ [] S = .ok [] S := rfl
theorem q_lcC {bd : W → M Sls} {t : M Bool} {e : M W} : lcL bd t e σ (w :: ws) S = (bd w σ S).bind fun σ1 S1 => (t σ1 S1).bind fun b S2 => if b then (e σ1 S2).bind fun v S3 => (lcL bd t e σ ws S3).bind fun vs S4 => .ok (v :: vs) S4 else lcL bd t e σ ws S2 := rfl
def lc2H : List W → Sto → Res W := fun vs S2 => if vs.length ≤ LIM then .ok (.lst vs) S2 else .bad
def lc2F (bd : W → M Sls) (t : M Bool) (it1 : M (List W)) (bd1 : W → M Sls) (t1 : M Bool) (e : M W) (own own1 : List Nat) (σ : Sls) : List W → Sto → Res W := fun ws S1 => if noOw σ own = true then (lc2L bd t it1 bd1 t1 e own1 (wwipe σ own) ws S1).bind lc2H else .bad
theorem q_lc2 {it it1 : M (List W)} {bd bd1 : W → M Sls} {t t1 : M Bool} {e : M W} {own own1 : List Nat} : mLc2 it bd t it1 bd1 t1 e own own1 σ S = (it σ S).bind (lc2F bd t it1 bd1 t1 e own own1 σ) := rfl
theorem q_lc2F {it1 : M (List W)} {bd bd1 : W → M Sls} {t t1 : M Bool} {e : M W} {own own1 : List Nat} : lc2F bd t it1 bd1 t1 e own own1 σ ws S = if noOw σ own = true then (lc2L bd t it1 bd1 t1 e own1 (wwipe σ own) ws S).bind lc2H else .bad := rfl
theorem q_lc2H : lc2H ws S = if ws.length ≤ LIM then .ok (.lst ws) S else .bad := rfl
theorem q_lc2N {it1 : M (List W)} {bd bd1 : W → M Sls} {t t1 : M Bool} {e : M W} {own1 : List Nat} : lc2L bd t it1 bd1 t1 e own1 σ [] S = .ok [] S := rfl
theorem q_lc2C {it1 : M (List W)} {bd bd1 : W → M Sls} {t t1 : M Bool} {e : M W} {own1 : List Nat} : lc2L bd t it1 bd1 t1 e own1 σ (w :: ws) S = (bd w σ S).bind fun σ1 S1 => (t σ1 S1).bind fun b S2 => if b then (if noOw σ1 own1 = true then (it1 σ1 S2).bind fun us S3 => (lcL bd1 t1 e (wwipe σ1 own1) us S3).bind fun vs S4 => (lc2L bd t it1 bd1 t1 e own1 σ ws S4).bind fun vs2 S5 => .ok (vs ++ vs2) S5 else .bad) else lc2L bd t it1 bd1 t1 e own1 σ ws S2 := rfl
theorem r_weqII {i j : Int} : weq (.int i) (.int j) = some (decide (i = j)) := by unfold weq; rfl
theorem r_weqSS {i j : Str} : weq (.str i) (.str j) = some (decide (i = j)) := by unfold weq; rfl
theorem r_weqBB {i j : Bool} : weq (.bl i) (.bl j) = some (decide (i = j)) := by unfold weq; rfl
theorem r_weqIS {i : Int} {j : Str} : weq (.int i) (.str j) = some false := by unfold weq; rfl
theorem r_weqSI {i : Str} {j : Int} : weq (.str i) (.int j) = some false := by unfold weq; rfl
end
/-! ### own classes -/
section
variable {a b : M W} {σ : Sls} {S : Sto} {x y : W} {F : Fenv}
def isIF (c : Str) : W → Sto → Res W := fun x S1 => olift (wIsI S1 c x) S1
theorem r_isI {c : Str} : mIsI c a σ S = (a σ S).bind (isIF c) := rfl
theorem r_isIF {c : Str} : isIF c x S = olift (wIsI S c x) S := rfl
def opIG (F : Fenv) (own : Str → Option Str) (x : W) : W → Sto → Res W := fun y S2 => goOpI F own x y S2
def opIF (F : Fenv) (own : Str → Option Str) (b : M W) (σ : Sls) : W → Sto → Res W := fun x S1 => (b σ S1).bind (opIG F own x)
theorem r_opI {own : Str → Option Str} : mOpI F own a b σ S = (a σ S).bind (opIF F own b σ) := rfl
theorem r_opIF {own : Str → Option Str} : opIF F own b σ x S = (b σ S).bind (opIG F own x) := rfl
theorem r_opIG {own : Str → Option Str} : opIG F own x y S = goOpI F own x y S := rfl
def eqIG (F : Fenv) (own : Str → Option Str) (x : W) : W → Sto → Res Bool := fun y S2 => goEqI F own x y S2
def eqIF (F : Fenv) (own : Str → Option Str) (b : M W) (σ : Sls) : W → Sto → Res Bool := fun x S1 => (b σ S1).bind (eqIG F own x)
theorem r_eqI {own : Str → Option Str} : mEqI F own a b σ S = (a σ S).bind (eqIF F own b σ) := rfl
theorem r_eqIF {own : Str → Option Str} : eqIF F own b σ x S = (b σ S).bind (eqIG F own x) := rfl
theorem r_eqIG {own : Str → Option Str} : eqIG F own x y S = goEqI F own x y S := rfl
def inIG (F : Fenv) (own : Str → Option Str) (neg : Bool) (x : W) : W → Sto → Res Bool := fun y S2 => goInI F own neg x y S2
def inIF (F : Fenv) (own : Str → Option Str) (neg : Bool) (b : M W) (σ : Sls) : W → Sto → Res Bool := fun x S1 => (b σ S1).bind (inIG F own neg x)
theorem r_inI {own : Str → Option Str} {neg : Bool} : mInI F own neg a b σ S = (a σ S).bind (inIF F own neg b σ) := rfl
theorem r_inIF {own : Str → Option Str} {neg : Bool} : inIF F own neg b σ x S = (b σ S).bind (inIG F own neg x) := rfl
theorem r_inIG {own : Str → Option Str} {neg : Bool} : inIG F own neg x y S = goInI F own neg x y S := rfl
end
end EV

namespace R
open PySem PySem.Spec PyProof.Rows L2
def topS (i : Nat) : Stmt := PySem.Challenge.pw_rungstead_k64_stretches.main.body.getD i (.Pass ⟨0, 0, 0, 0⟩)
def gG : EV.Glob := { cst := [("LEAST", .int (-999999)), ("GREATEST", .int 999999), ("int", .ty "int"), ("str", .ty "str"), ("bool", .ty "bool"), ("list", .ty "list"), ("tuple", .ty "tuple")] ,  fre := ["range", "len", "min", "max", "isinstance", "int", "abs", "list", "str", "tuple", "bool"] ,  fns := [("clamp", { np := 1 }), ("saturate", { np := 2 }), ("_law_bag", { np := 2 }), ("_law_take", { np := 2 }), ("_law_pick", { np := 2 }), ("_law_same", { np := 2 }), ("_law_end", { np := 1 }), ("_law_span", { np := 1 }), ("_law_some", { np := 2 }), ("_law_outcome", { np := 4 }), ("_law_outcomes", { np := 4 }), ("_law_made", { np := 4 }), ("_law_stands", { np := 2 }), ("_law_beside", { np := 4 }), ("_law_holds", { np := 4 }), ("_law_alike", { np := 4 }), ("law", { np := 1 })] ,  cls := [("Stretch", 2)] ,  mts := [(("Stretch", "__eq__"), "Stretch.__eq__"), (("Stretch", "__contains__"), "Stretch.__contains__"), (("Stretch", "__add__"), "Stretch.__add__"), (("Stretch", "__sub__"), "Stretch.__sub__"), (("Stretch", "__mul__"), "Stretch.__mul__"), (("Stretch", "__or__"), "Stretch.__or__"), (("Stretch", "least"), "Stretch.least"), (("Stretch", "greatest"), "Stretch.greatest"), (("Stretch", "within"), "Stretch.within"), (("Stretch", "is_point"), "Stretch.is_point"), (("Stretch", "saturated"), "Stretch.saturated"), (("Stretch", "pair"), "Stretch.pair")] ,  kwc := [] ,  fld := [("Stretch", "low"), ("Stretch", "high")],  icl := ["Stretch"],  sms := [(("Stretch", "point"), "Stretch.point")] }
abbrev s_clamp : Stmt := topS 3
def x_clamp : EV.Dx := { N := ["n"] }
abbrev s_saturate : Stmt := topS 4
def x_saturate : EV.Dx := { N := ["n", "top"] }
abbrev s_Stretchu_initu : Stmt := inClass (topS 6) 0
def x_Stretchu_initu : EV.Dx := { N := ["self", "low", "high"] }
abbrev s_Stretch_point : Stmt := inClass (topS 6) 1
def x_Stretch_point : EV.Dx := { N := ["n"] }
abbrev s_Stretchu_equ : Stmt := inClass (topS 6) 2
def x_Stretchu_equ : EV.Dx := { N := ["self", "other"], ops := [(28, 15, 41)] }
abbrev s_Stretchu_containsu : Stmt := inClass (topS 6) 3
def x_Stretchu_containsu : EV.Dx := { N := ["self", "n"] }
abbrev s_Stretchu_addu : Stmt := inClass (topS 6) 4
def x_Stretchu_addu : EV.Dx := { N := ["self", "other"] }
abbrev s_Stretchu_subu : Stmt := inClass (topS 6) 5
def x_Stretchu_subu : EV.Dx := { N := ["self", "other"] }
abbrev s_Stretchu_mulu : Stmt := inClass (topS 6) 6
def x_Stretchu_mulu : EV.Dx := { N := ["self", "other", "products"] }
abbrev s_Stretchu_oru : Stmt := inClass (topS 6) 7
def x_Stretchu_oru : EV.Dx := { N := ["self", "other"] }
abbrev s_Stretch_least : Stmt := inClass (topS 6) 8
def x_Stretch_least : EV.Dx := { N := ["self", "other"] }
abbrev s_Stretch_greatest : Stmt := inClass (topS 6) 9
def x_Stretch_greatest : EV.Dx := { N := ["self", "other"] }
abbrev s_Stretch_within : Stmt := inClass (topS 6) 10
def x_Stretch_within : EV.Dx := { N := ["self", "other"] }
abbrev s_Stretch_is_point : Stmt := inClass (topS 6) 11
def x_Stretch_is_point : EV.Dx := { N := ["self"] }
abbrev s_Stretch_saturated : Stmt := inClass (topS 6) 12
def x_Stretch_saturated : EV.Dx := { N := ["self", "top"] }
abbrev s_Stretch_pair : Stmt := inClass (topS 6) 13
def x_Stretch_pair : EV.Dx := { N := ["self"] }
abbrev s_lw_bag : Stmt := topS 8
def x_lw_bag : EV.Dx := { N := ["script", "at", "cell"], locs := [(72, 11, 24), (71, 15, 39)] }
abbrev s_lw_take : Stmt := topS 9
def x_lw_take : EV.Dx := { N := ["bag", "many", "digit", "one", "two", "three"] }
abbrev s_lw_pick : Stmt := topS 10
def x_lw_pick : EV.Dx := { N := ["bag", "menu"] }
abbrev s_lw_same : Stmt := topS 11
def x_lw_same : EV.Dx := { N := ["got", "due", "k"] }
abbrev s_lw_end : Stmt := topS 12
def x_lw_end : EV.Dx := { N := ["bag", "way"] }
abbrev s_lw_span : Stmt := topS 13
def x_lw_span : EV.Dx := { N := ["bag", "one", "two"] }
abbrev s_lw_some : Stmt := topS 14
def x_lw_some : EV.Dx := { N := ["bag", "span", "wide", "k"] }
abbrev s_lw_outcome : Stmt := topS 15
def x_lw_outcome : EV.Dx := { N := ["name", "x", "y", "n"] }
abbrev s_lw_outcomes : Stmt := topS 16
def x_lw_outcomes : EV.Dx := { N := ["name", "xs", "ys", "n", "rows", "x", "y"] }
abbrev s_lw_made : Stmt := topS 17
def x_lw_made : EV.Dx := { N := ["name", "one", "two", "n"], ops := [(152, 11, 27), (139, 15, 24), (141, 15, 24), (143, 15, 24), (145, 15, 24)] }
abbrev s_lw_stands : Stmt := topS 18
def x_lw_stands : EV.Dx := { N := ["thing", "span", "told"], ops := [(154, 11, 37)] }
abbrev s_lw_beside : Stmt := topS 19
def x_lw_beside : EV.Dx := { N := ["one", "two", "a", "b", "inside"], ops := [(160, 60, 70)] }
abbrev s_lw_holds : Stmt := topS 20
def x_lw_holds : EV.Dx := { N := ["thing", "span", "rows", "n", "x"], ops := [(163, 11, 25), (165, 7, 27), (165, 31, 51), (167, 12, 22)] }
abbrev s_lw_alike : Stmt := topS 21
def x_lw_alike : EV.Dx := { N := ["things", "spans", "new", "due", "k", "thing"], ops := [(173, 25, 37)] }
abbrev s_law : Stmt := topS 22
def x_law : EV.Dx := { N := ["script", "bag", "spans", "things", "turn", "j", "k", "name", "n", "rows", "due", "new", "span"], locs := [(178, 12, 66), (179, 13, 58)], lck := [((179, 13, 58), 2)] }
def gP0 : List (Str × EV.DefI) := [("clamp", ⟨x_clamp, defScope s_clamp, defBody s_clamp, 1⟩), ("saturate", ⟨x_saturate, defScope s_saturate, defBody s_saturate, 2⟩), ("Stretch.__init__", ⟨x_Stretchu_initu, defScope s_Stretchu_initu, defBody s_Stretchu_initu, 3⟩), ("Stretch.point", ⟨x_Stretch_point, defScope s_Stretch_point, defBody s_Stretch_point, 1⟩), ("Stretch.__eq__", ⟨x_Stretchu_equ, defScope s_Stretchu_equ, defBody s_Stretchu_equ, 2⟩), ("Stretch.__contains__", ⟨x_Stretchu_containsu, defScope s_Stretchu_containsu, defBody s_Stretchu_containsu, 2⟩), ("Stretch.__add__", ⟨x_Stretchu_addu, defScope s_Stretchu_addu, defBody s_Stretchu_addu, 2⟩), ("Stretch.__sub__", ⟨x_Stretchu_subu, defScope s_Stretchu_subu, defBody s_Stretchu_subu, 2⟩), ("Stretch.__mul__", ⟨x_Stretchu_mulu, defScope s_Stretchu_mulu, defBody s_Stretchu_mulu, 2⟩), ("Stretch.__or__", ⟨x_Stretchu_oru, defScope s_Stretchu_oru, defBody s_Stretchu_oru, 2⟩), ("Stretch.least", ⟨x_Stretch_least, defScope s_Stretch_least, defBody s_Stretch_least, 2⟩), ("Stretch.greatest", ⟨x_Stretch_greatest, defScope s_Stretch_greatest, defBody s_Stretch_greatest, 2⟩), ("Stretch.within", ⟨x_Stretch_within, defScope s_Stretch_within, defBody s_Stretch_within, 2⟩), ("Stretch.is_point", ⟨x_Stretch_is_point, defScope s_Stretch_is_point, defBody s_Stretch_is_point, 1⟩), ("Stretch.saturated", ⟨x_Stretch_saturated, defScope s_Stretch_saturated, defBody s_Stretch_saturated, 2⟩), ("Stretch.pair", ⟨x_Stretch_pair, defScope s_Stretch_pair, defBody s_Stretch_pair, 1⟩), ("_law_bag", ⟨x_lw_bag, defScope s_lw_bag, defBody s_lw_bag, 2⟩), ("_law_take", ⟨x_lw_take, defScope s_lw_take, defBody s_lw_take, 2⟩), ("_law_pick", ⟨x_lw_pick, defScope s_lw_pick, defBody s_lw_pick, 2⟩), ("_law_same", ⟨x_lw_same, defScope s_lw_same, defBody s_lw_same, 2⟩), ("_law_end", ⟨x_lw_end, defScope s_lw_end, defBody s_lw_end, 1⟩), ("_law_span", ⟨x_lw_span, defScope s_lw_span, defBody s_lw_span, 1⟩), ("_law_some", ⟨x_lw_some, defScope s_lw_some, defBody s_lw_some, 2⟩), ("_law_outcome", ⟨x_lw_outcome, defScope s_lw_outcome, defBody s_lw_outcome, 4⟩), ("_law_outcomes", ⟨x_lw_outcomes, defScope s_lw_outcomes, defBody s_lw_outcomes, 4⟩), ("_law_made", ⟨x_lw_made, defScope s_lw_made, defBody s_lw_made, 4⟩), ("_law_stands", ⟨x_lw_stands, defScope s_lw_stands, defBody s_lw_stands, 2⟩), ("_law_beside", ⟨x_lw_beside, defScope s_lw_beside, defBody s_lw_beside, 4⟩), ("_law_holds", ⟨x_lw_holds, defScope s_lw_holds, defBody s_lw_holds, 4⟩), ("_law_alike", ⟨x_lw_alike, defScope s_lw_alike, defBody s_lw_alike, 4⟩)]
def gP1 : List (Str × EV.DefI) := [("law", ⟨x_law, defScope s_law, defBody s_law, 1⟩)]
def gP : List (Str × EV.DefI) := gP0 ++ gP1
theorem sc_clamp : FnScope x_clamp.N ["n"] (defScope s_clamp) := ⟨rfl, rfl, rfl, by decide +kernel, rfl, by decide +kernel, by decide +kernel⟩
abbrev d_clamp : He.DefD := ⟨("clamp", none), "clamp", "clamp", defArgs s_clamp, defBody s_clamp, defScope s_clamp, [], []⟩
theorem sc_saturate : FnScope x_saturate.N ["n", "top"] (defScope s_saturate) := ⟨rfl, rfl, rfl, by decide +kernel, rfl, by decide +kernel, by decide +kernel⟩
abbrev d_saturate : He.DefD := ⟨("saturate", none), "saturate", "saturate", defArgs s_saturate, defBody s_saturate, defScope s_saturate, [], []⟩
theorem sc_Stretchu_initu : FnScope x_Stretchu_initu.N ["self", "low", "high"] (defScope s_Stretchu_initu) := ⟨rfl, rfl, rfl, by decide +kernel, rfl, by decide +kernel, by decide +kernel⟩
abbrev d_Stretchu_initu : He.DefD := ⟨("Stretch", some "__init__"), "__init__", "Stretch.__init__", defArgs s_Stretchu_initu, defBody s_Stretchu_initu, defScope s_Stretchu_initu, [], []⟩
theorem sc_Stretch_point : FnScope x_Stretch_point.N ["n"] (defScope s_Stretch_point) := ⟨rfl, rfl, rfl, by decide +kernel, rfl, by decide +kernel, by decide +kernel⟩
abbrev d_Stretch_point : He.DefD := ⟨("Stretch", some "point"), "point", "Stretch.point", defArgs s_Stretch_point, defBody s_Stretch_point, defScope s_Stretch_point, [], []⟩
theorem sc_Stretchu_equ : FnScope x_Stretchu_equ.N ["self", "other"] (defScope s_Stretchu_equ) := ⟨rfl, rfl, rfl, by decide +kernel, rfl, by decide +kernel, by decide +kernel⟩
abbrev d_Stretchu_equ : He.DefD := ⟨("Stretch", some "__eq__"), "__eq__", "Stretch.__eq__", defArgs s_Stretchu_equ, defBody s_Stretchu_equ, defScope s_Stretchu_equ, [], []⟩
theorem sc_Stretchu_containsu : FnScope x_Stretchu_containsu.N ["self", "n"] (defScope s_Stretchu_containsu) := ⟨rfl, rfl, rfl, by decide +kernel, rfl, by decide +kernel, by decide +kernel⟩
abbrev d_Stretchu_containsu : He.DefD := ⟨("Stretch", some "__contains__"), "__contains__", "Stretch.__contains__", defArgs s_Stretchu_containsu, defBody s_Stretchu_containsu, defScope s_Stretchu_containsu, [], []⟩
theorem sc_Stretchu_addu : FnScope x_Stretchu_addu.N ["self", "other"] (defScope s_Stretchu_addu) := ⟨rfl, rfl, rfl, by decide +kernel, rfl, by decide +kernel, by decide +kernel⟩
abbrev d_Stretchu_addu : He.DefD := ⟨("Stretch", some "__add__"), "__add__", "Stretch.__add__", defArgs s_Stretchu_addu, defBody s_Stretchu_addu, defScope s_Stretchu_addu, [], []⟩
theorem sc_Stretchu_subu : FnScope x_Stretchu_subu.N ["self", "other"] (defScope s_Stretchu_subu) := ⟨rfl, rfl, rfl, by decide +kernel, rfl, by decide +kernel, by decide +kernel⟩
abbrev d_Stretchu_subu : He.DefD := ⟨("Stretch", some "__sub__"), "__sub__", "Stretch.__sub__", defArgs s_Stretchu_subu, defBody s_Stretchu_subu, defScope s_Stretchu_subu, [], []⟩
theorem sc_Stretchu_mulu : FnScope x_Stretchu_mulu.N ["self", "other"] (defScope s_Stretchu_mulu) := ⟨rfl, rfl, rfl, by decide +kernel, rfl, by decide +kernel, by decide +kernel⟩
abbrev d_Stretchu_mulu : He.DefD := ⟨("Stretch", some "__mul__"), "__mul__", "Stretch.__mul__", defArgs s_Stretchu_mulu, defBody s_Stretchu_mulu, defScope s_Stretchu_mulu, [], []⟩
theorem sc_Stretchu_oru : FnScope x_Stretchu_oru.N ["self", "other"] (defScope s_Stretchu_oru) := ⟨rfl, rfl, rfl, by decide +kernel, rfl, by decide +kernel, by decide +kernel⟩
abbrev d_Stretchu_oru : He.DefD := ⟨("Stretch", some "__or__"), "__or__", "Stretch.__or__", defArgs s_Stretchu_oru, defBody s_Stretchu_oru, defScope s_Stretchu_oru, [], []⟩
theorem sc_Stretch_least : FnScope x_Stretch_least.N ["self", "other"] (defScope s_Stretch_least) := ⟨rfl, rfl, rfl, by decide +kernel, rfl, by decide +kernel, by decide +kernel⟩
abbrev d_Stretch_least : He.DefD := ⟨("Stretch", some "least"), "least", "Stretch.least", defArgs s_Stretch_least, defBody s_Stretch_least, defScope s_Stretch_least, [], []⟩
theorem sc_Stretch_greatest : FnScope x_Stretch_greatest.N ["self", "other"] (defScope s_Stretch_greatest) := ⟨rfl, rfl, rfl, by decide +kernel, rfl, by decide +kernel, by decide +kernel⟩
abbrev d_Stretch_greatest : He.DefD := ⟨("Stretch", some "greatest"), "greatest", "Stretch.greatest", defArgs s_Stretch_greatest, defBody s_Stretch_greatest, defScope s_Stretch_greatest, [], []⟩
theorem sc_Stretch_within : FnScope x_Stretch_within.N ["self", "other"] (defScope s_Stretch_within) := ⟨rfl, rfl, rfl, by decide +kernel, rfl, by decide +kernel, by decide +kernel⟩
abbrev d_Stretch_within : He.DefD := ⟨("Stretch", some "within"), "within", "Stretch.within", defArgs s_Stretch_within, defBody s_Stretch_within, defScope s_Stretch_within, [], []⟩
theorem sc_Stretch_is_point : FnScope x_Stretch_is_point.N ["self"] (defScope s_Stretch_is_point) := ⟨rfl, rfl, rfl, by decide +kernel, rfl, by decide +kernel, by decide +kernel⟩
abbrev d_Stretch_is_point : He.DefD := ⟨("Stretch", some "is_point"), "is_point", "Stretch.is_point", defArgs s_Stretch_is_point, defBody s_Stretch_is_point, defScope s_Stretch_is_point, [], []⟩
theorem sc_Stretch_saturated : FnScope x_Stretch_saturated.N ["self", "top"] (defScope s_Stretch_saturated) := ⟨rfl, rfl, rfl, by decide +kernel, rfl, by decide +kernel, by decide +kernel⟩
abbrev d_Stretch_saturated : He.DefD := ⟨("Stretch", some "saturated"), "saturated", "Stretch.saturated", defArgs s_Stretch_saturated, defBody s_Stretch_saturated, defScope s_Stretch_saturated, [], []⟩
theorem sc_Stretch_pair : FnScope x_Stretch_pair.N ["self"] (defScope s_Stretch_pair) := ⟨rfl, rfl, rfl, by decide +kernel, rfl, by decide +kernel, by decide +kernel⟩
abbrev d_Stretch_pair : He.DefD := ⟨("Stretch", some "pair"), "pair", "Stretch.pair", defArgs s_Stretch_pair, defBody s_Stretch_pair, defScope s_Stretch_pair, [], []⟩
theorem sc_lw_bag : FnScope x_lw_bag.N ["script", "at"] (defScope s_lw_bag) := ⟨rfl, rfl, rfl, by decide +kernel, rfl, by decide +kernel, by decide +kernel⟩
abbrev d_lw_bag : He.DefD := ⟨("_law_bag", none), "_law_bag", "_law_bag", defArgs s_lw_bag, defBody s_lw_bag, defScope s_lw_bag, [], []⟩
theorem sc_lw_take : FnScope x_lw_take.N ["bag", "many"] (defScope s_lw_take) := ⟨rfl, rfl, rfl, by decide +kernel, rfl, by decide +kernel, by decide +kernel⟩
abbrev d_lw_take : He.DefD := ⟨("_law_take", none), "_law_take", "_law_take", defArgs s_lw_take, defBody s_lw_take, defScope s_lw_take, [], []⟩
theorem sc_lw_pick : FnScope x_lw_pick.N ["bag", "menu"] (defScope s_lw_pick) := ⟨rfl, rfl, rfl, by decide +kernel, rfl, by decide +kernel, by decide +kernel⟩
abbrev d_lw_pick : He.DefD := ⟨("_law_pick", none), "_law_pick", "_law_pick", defArgs s_lw_pick, defBody s_lw_pick, defScope s_lw_pick, [], []⟩
theorem sc_lw_same : FnScope x_lw_same.N ["got", "due"] (defScope s_lw_same) := ⟨rfl, rfl, rfl, by decide +kernel, rfl, by decide +kernel, by decide +kernel⟩
abbrev d_lw_same : He.DefD := ⟨("_law_same", none), "_law_same", "_law_same", defArgs s_lw_same, defBody s_lw_same, defScope s_lw_same, [], []⟩
theorem sc_lw_end : FnScope x_lw_end.N ["bag"] (defScope s_lw_end) := ⟨rfl, rfl, rfl, by decide +kernel, rfl, by decide +kernel, by decide +kernel⟩
abbrev d_lw_end : He.DefD := ⟨("_law_end", none), "_law_end", "_law_end", defArgs s_lw_end, defBody s_lw_end, defScope s_lw_end, [], []⟩
theorem sc_lw_span : FnScope x_lw_span.N ["bag"] (defScope s_lw_span) := ⟨rfl, rfl, rfl, by decide +kernel, rfl, by decide +kernel, by decide +kernel⟩
abbrev d_lw_span : He.DefD := ⟨("_law_span", none), "_law_span", "_law_span", defArgs s_lw_span, defBody s_lw_span, defScope s_lw_span, [], []⟩
theorem sc_lw_some : FnScope x_lw_some.N ["bag", "span"] (defScope s_lw_some) := ⟨rfl, rfl, rfl, by decide +kernel, rfl, by decide +kernel, by decide +kernel⟩
abbrev d_lw_some : He.DefD := ⟨("_law_some", none), "_law_some", "_law_some", defArgs s_lw_some, defBody s_lw_some, defScope s_lw_some, [], []⟩
theorem sc_lw_outcome : FnScope x_lw_outcome.N ["name", "x", "y", "n"] (defScope s_lw_outcome) := ⟨rfl, rfl, rfl, by decide +kernel, rfl, by decide +kernel, by decide +kernel⟩
abbrev d_lw_outcome : He.DefD := ⟨("_law_outcome", none), "_law_outcome", "_law_outcome", defArgs s_lw_outcome, defBody s_lw_outcome, defScope s_lw_outcome, [], []⟩
theorem sc_lw_outcomes : FnScope x_lw_outcomes.N ["name", "xs", "ys", "n"] (defScope s_lw_outcomes) := ⟨rfl, rfl, rfl, by decide +kernel, rfl, by decide +kernel, by decide +kernel⟩
abbrev d_lw_outcomes : He.DefD := ⟨("_law_outcomes", none), "_law_outcomes", "_law_outcomes", defArgs s_lw_outcomes, defBody s_lw_outcomes, defScope s_lw_outcomes, [], []⟩
theorem sc_lw_made : FnScope x_lw_made.N ["name", "one", "two", "n"] (defScope s_lw_made) := ⟨rfl, rfl, rfl, by decide +kernel, rfl, by decide +kernel, by decide +kernel⟩
abbrev d_lw_made : He.DefD := ⟨("_law_made", none), "_law_made", "_law_made", defArgs s_lw_made, defBody s_lw_made, defScope s_lw_made, [], []⟩
theorem sc_lw_stands : FnScope x_lw_stands.N ["thing", "span"] (defScope s_lw_stands) := ⟨rfl, rfl, rfl, by decide +kernel, rfl, by decide +kernel, by decide +kernel⟩
abbrev d_lw_stands : He.DefD := ⟨("_law_stands", none), "_law_stands", "_law_stands", defArgs s_lw_stands, defBody s_lw_stands, defScope s_lw_stands, [], []⟩
theorem sc_lw_beside : FnScope x_lw_beside.N ["one", "two", "a", "b"] (defScope s_lw_beside) := ⟨rfl, rfl, rfl, by decide +kernel, rfl, by decide +kernel, by decide +kernel⟩
abbrev d_lw_beside : He.DefD := ⟨("_law_beside", none), "_law_beside", "_law_beside", defArgs s_lw_beside, defBody s_lw_beside, defScope s_lw_beside, [], []⟩
theorem sc_lw_holds : FnScope x_lw_holds.N ["thing", "span", "rows", "n"] (defScope s_lw_holds) := ⟨rfl, rfl, rfl, by decide +kernel, rfl, by decide +kernel, by decide +kernel⟩
abbrev d_lw_holds : He.DefD := ⟨("_law_holds", none), "_law_holds", "_law_holds", defArgs s_lw_holds, defBody s_lw_holds, defScope s_lw_holds, [], []⟩
theorem sc_lw_alike : FnScope x_lw_alike.N ["things", "spans", "new", "due"] (defScope s_lw_alike) := ⟨rfl, rfl, rfl, by decide +kernel, rfl, by decide +kernel, by decide +kernel⟩
abbrev d_lw_alike : He.DefD := ⟨("_law_alike", none), "_law_alike", "_law_alike", defArgs s_lw_alike, defBody s_lw_alike, defScope s_lw_alike, [], []⟩
theorem sc_law : FnScope x_law.N ["script"] (defScope s_law) := ⟨rfl, rfl, rfl, by decide +kernel, rfl, by decide +kernel, by decide +kernel⟩
abbrev d_law : He.DefD := ⟨("law", none), "law", "law", defArgs s_law, defBody s_law, defScope s_law, [], []⟩
def fn : List He.DefD := [d_clamp, d_saturate, d_Stretchu_initu, d_Stretchu_equ, d_Stretchu_containsu, d_Stretchu_addu, d_Stretchu_subu, d_Stretchu_mulu, d_Stretchu_oru, d_Stretch_least, d_Stretch_greatest, d_Stretch_within, d_Stretch_is_point, d_Stretch_saturated, d_Stretch_pair, d_lw_bag, d_lw_take, d_lw_pick, d_lw_same, d_lw_end, d_lw_span, d_lw_some, d_lw_outcome, d_lw_outcomes, d_lw_made, d_lw_stands, d_lw_beside, d_lw_holds, d_lw_alike, d_law]
def sm : List SmD := [("Stretch", "point", d_Stretch_point)]
def fa0 : List He.Fa := [.free "range", .free "len", .free "min", .free "max", .free "isinstance", .free "int", .free "abs", .free "list", .free "str", .free "tuple", .free "bool", .int "LEAST" (-999999), .int "GREATEST" 999999, .glo "clamp", .glo "saturate", .glo "_law_bag", .glo "_law_take", .glo "_law_pick", .glo "_law_same", .glo "_law_end", .glo "_law_span", .glo "_law_some", .glo "_law_outcome", .glo "_law_outcomes", .glo "_law_made", .glo "_law_stands", .glo "_law_beside", .glo "_law_holds", .glo "_law_alike", .glo "law"]
def fa1 : List He.Fa := [.mkr "Stretch", .glo "Stretch", .cls "Stretch", .meth "Stretch" "__eq__", .meth "Stretch" "__contains__", .meth "Stretch" "__add__", .meth "Stretch" "__sub__", .meth "Stretch" "__mul__", .meth "Stretch" "__or__", .meth "Stretch" "least", .meth "Stretch" "greatest", .meth "Stretch" "within", .meth "Stretch" "is_point", .meth "Stretch" "saturated", .meth "Stretch" "pair", .noat "Stretch" "low", .noat "Stretch" "high"]
def fa : List He.Fa := fa0 ++ fa1
def ts : List He.Tab := []
def xb0 (K : PySem.W.Frag) : Bool := EV.opB K (He.ga K "Stretch")
def xb1 (K : PySem.W.Frag) : Bool := smB K "Stretch" "point" d_Stretch_point
def xb (K : PySem.W.Frag) : Bool := xb0 K && (xb1 K && (true))
/-- what the top has left -/
structure Tx (K : PySem.W.Frag) (mg : Str → Option Value) (w : World) : Prop where
  ex : ∃ h : Heap, K.In h ∧ h.Ns mainGlobals mg
  c : He.SaysD fa fn K
  x : xb K = true
  s : smO K sm = smV sm
section
variable {K : PySem.W.Frag} {mg : Str → Option Value} {w : World}
theorem xq0 (T : Tx K mg w) : xb0 K = true := (Bool.and_eq_true_iff.mp T.x).1
theorem xq1 (T : Tx K mg w) : xb1 K = true := (Bool.and_eq_true_iff.mp (Bool.and_eq_true_iff.mp T.x).2).1
noncomputable def fd_clamp (T : Tx K mg w) : FuncData := (T.c.def_ 0 (d := d_clamp) rfl).choose
theorem F_clamp (T : Tx K mg w) : FunD K "clamp" "clamp" (defArgs s_clamp) (defBody s_clamp) (defScope s_clamp) [] [] (He.fAd K d_clamp.at_) (fd_clamp T) := (T.c.def_ 0 (d := d_clamp) rfl).choose_spec
theorem B_clamp (T : Tx K mg w) : Binds K (fd_clamp T) ["n"] [] := (F_clamp T).bindsN fun _ _ _ _ _ _ us hl => match us, hl with | [_], _ => rfl
noncomputable def fd_saturate (T : Tx K mg w) : FuncData := (T.c.def_ 1 (d := d_saturate) rfl).choose
theorem F_saturate (T : Tx K mg w) : FunD K "saturate" "saturate" (defArgs s_saturate) (defBody s_saturate) (defScope s_saturate) [] [] (He.fAd K d_saturate.at_) (fd_saturate T) := (T.c.def_ 1 (d := d_saturate) rfl).choose_spec
theorem B_saturate (T : Tx K mg w) : Binds K (fd_saturate T) ["n", "top"] [] := (F_saturate T).bindsN fun _ _ _ _ _ _ us hl => match us, hl with | [_, _], _ => rfl
noncomputable def fd_Stretchu_initu (T : Tx K mg w) : FuncData := (T.c.def_ 2 (d := d_Stretchu_initu) rfl).choose
theorem F_Stretchu_initu (T : Tx K mg w) : FunD K "__init__" "Stretch.__init__" (defArgs s_Stretchu_initu) (defBody s_Stretchu_initu) (defScope s_Stretchu_initu) [] [] (He.fAd K d_Stretchu_initu.at_) (fd_Stretchu_initu T) := (T.c.def_ 2 (d := d_Stretchu_initu) rfl).choose_spec
theorem B_Stretchu_initu (T : Tx K mg w) : Binds K (fd_Stretchu_initu T) ["self", "low", "high"] [] := (F_Stretchu_initu T).bindsN fun _ _ _ _ _ _ us hl => match us, hl with | [_, _, _], _ => rfl
theorem FD_Stretch_point (T : Tx K mg w) : ∃ fd, FunD K d_Stretch_point.name d_Stretch_point.qual d_Stretch_point.params d_Stretch_point.body d_Stretch_point.scope (d_Stretch_point.dvs K) (d_Stretch_point.kws K) (smA K "Stretch" "point") fd := funD_at (sm_at T.s 0 rfl) (He.ba (He.ba (He.ba (xq1 T)).2).2).2
noncomputable def fd_Stretch_point (T : Tx K mg w) : FuncData := (FD_Stretch_point T).choose
theorem F_Stretch_point (T : Tx K mg w) : FunD K "point" "Stretch.point" (defArgs s_Stretch_point) (defBody s_Stretch_point) (defScope s_Stretch_point) [] [] (smA K "Stretch" "point") (fd_Stretch_point T) := (FD_Stretch_point T).choose_spec
theorem B_Stretch_point (T : Tx K mg w) : Binds K (fd_Stretch_point T) ["n"] [] := (F_Stretch_point T).bindsN fun _ _ _ _ _ _ us hl => match us, hl with | [_], _ => rfl
noncomputable def fd_Stretchu_equ (T : Tx K mg w) : FuncData := (T.c.def_ 3 (d := d_Stretchu_equ) rfl).choose
theorem F_Stretchu_equ (T : Tx K mg w) : FunD K "__eq__" "Stretch.__eq__" (defArgs s_Stretchu_equ) (defBody s_Stretchu_equ) (defScope s_Stretchu_equ) [] [] (He.fAd K d_Stretchu_equ.at_) (fd_Stretchu_equ T) := (T.c.def_ 3 (d := d_Stretchu_equ) rfl).choose_spec
theorem B_Stretchu_equ (T : Tx K mg w) : Binds K (fd_Stretchu_equ T) ["self", "other"] [] := (F_Stretchu_equ T).bindsN fun _ _ _ _ _ _ us hl => match us, hl with | [_, _], _ => rfl
noncomputable def fd_Stretchu_containsu (T : Tx K mg w) : FuncData := (T.c.def_ 4 (d := d_Stretchu_containsu) rfl).choose
theorem F_Stretchu_containsu (T : Tx K mg w) : FunD K "__contains__" "Stretch.__contains__" (defArgs s_Stretchu_containsu) (defBody s_Stretchu_containsu) (defScope s_Stretchu_containsu) [] [] (He.fAd K d_Stretchu_containsu.at_) (fd_Stretchu_containsu T) := (T.c.def_ 4 (d := d_Stretchu_containsu) rfl).choose_spec
theorem B_Stretchu_containsu (T : Tx K mg w) : Binds K (fd_Stretchu_containsu T) ["self", "n"] [] := (F_Stretchu_containsu T).bindsN fun _ _ _ _ _ _ us hl => match us, hl with | [_, _], _ => rfl
noncomputable def fd_Stretchu_addu (T : Tx K mg w) : FuncData := (T.c.def_ 5 (d := d_Stretchu_addu) rfl).choose
theorem F_Stretchu_addu (T : Tx K mg w) : FunD K "__add__" "Stretch.__add__" (defArgs s_Stretchu_addu) (defBody s_Stretchu_addu) (defScope s_Stretchu_addu) [] [] (He.fAd K d_Stretchu_addu.at_) (fd_Stretchu_addu T) := (T.c.def_ 5 (d := d_Stretchu_addu) rfl).choose_spec
theorem B_Stretchu_addu (T : Tx K mg w) : Binds K (fd_Stretchu_addu T) ["self", "other"] [] := (F_Stretchu_addu T).bindsN fun _ _ _ _ _ _ us hl => match us, hl with | [_, _], _ => rfl
noncomputable def fd_Stretchu_subu (T : Tx K mg w) : FuncData := (T.c.def_ 6 (d := d_Stretchu_subu) rfl).choose
theorem F_Stretchu_subu (T : Tx K mg w) : FunD K "__sub__" "Stretch.__sub__" (defArgs s_Stretchu_subu) (defBody s_Stretchu_subu) (defScope s_Stretchu_subu) [] [] (He.fAd K d_Stretchu_subu.at_) (fd_Stretchu_subu T) := (T.c.def_ 6 (d := d_Stretchu_subu) rfl).choose_spec
theorem B_Stretchu_subu (T : Tx K mg w) : Binds K (fd_Stretchu_subu T) ["self", "other"] [] := (F_Stretchu_subu T).bindsN fun _ _ _ _ _ _ us hl => match us, hl with | [_, _], _ => rfl
noncomputable def fd_Stretchu_mulu (T : Tx K mg w) : FuncData := (T.c.def_ 7 (d := d_Stretchu_mulu) rfl).choose
theorem F_Stretchu_mulu (T : Tx K mg w) : FunD K "__mul__" "Stretch.__mul__" (defArgs s_Stretchu_mulu) (defBody s_Stretchu_mulu) (defScope s_Stretchu_mulu) [] [] (He.fAd K d_Stretchu_mulu.at_) (fd_Stretchu_mulu T) := (T.c.def_ 7 (d := d_Stretchu_mulu) rfl).choose_spec
theorem B_Stretchu_mulu (T : Tx K mg w) : Binds K (fd_Stretchu_mulu T) ["self", "other"] [] := (F_Stretchu_mulu T).bindsN fun _ _ _ _ _ _ us hl => match us, hl with | [_, _], _ => rfl
noncomputable def fd_Stretchu_oru (T : Tx K mg w) : FuncData := (T.c.def_ 8 (d := d_Stretchu_oru) rfl).choose
theorem F_Stretchu_oru (T : Tx K mg w) : FunD K "__or__" "Stretch.__or__" (defArgs s_Stretchu_oru) (defBody s_Stretchu_oru) (defScope s_Stretchu_oru) [] [] (He.fAd K d_Stretchu_oru.at_) (fd_Stretchu_oru T) := (T.c.def_ 8 (d := d_Stretchu_oru) rfl).choose_spec
theorem B_Stretchu_oru (T : Tx K mg w) : Binds K (fd_Stretchu_oru T) ["self", "other"] [] := (F_Stretchu_oru T).bindsN fun _ _ _ _ _ _ us hl => match us, hl with | [_, _], _ => rfl
noncomputable def fd_Stretch_least (T : Tx K mg w) : FuncData := (T.c.def_ 9 (d := d_Stretch_least) rfl).choose
theorem F_Stretch_least (T : Tx K mg w) : FunD K "least" "Stretch.least" (defArgs s_Stretch_least) (defBody s_Stretch_least) (defScope s_Stretch_least) [] [] (He.fAd K d_Stretch_least.at_) (fd_Stretch_least T) := (T.c.def_ 9 (d := d_Stretch_least) rfl).choose_spec
theorem B_Stretch_least (T : Tx K mg w) : Binds K (fd_Stretch_least T) ["self", "other"] [] := (F_Stretch_least T).bindsN fun _ _ _ _ _ _ us hl => match us, hl with | [_, _], _ => rfl
noncomputable def fd_Stretch_greatest (T : Tx K mg w) : FuncData := (T.c.def_ 10 (d := d_Stretch_greatest) rfl).choose
theorem F_Stretch_greatest (T : Tx K mg w) : FunD K "greatest" "Stretch.greatest" (defArgs s_Stretch_greatest) (defBody s_Stretch_greatest) (defScope s_Stretch_greatest) [] [] (He.fAd K d_Stretch_greatest.at_) (fd_Stretch_greatest T) := (T.c.def_ 10 (d := d_Stretch_greatest) rfl).choose_spec
theorem B_Stretch_greatest (T : Tx K mg w) : Binds K (fd_Stretch_greatest T) ["self", "other"] [] := (F_Stretch_greatest T).bindsN fun _ _ _ _ _ _ us hl => match us, hl with | [_, _], _ => rfl
noncomputable def fd_Stretch_within (T : Tx K mg w) : FuncData := (T.c.def_ 11 (d := d_Stretch_within) rfl).choose
theorem F_Stretch_within (T : Tx K mg w) : FunD K "within" "Stretch.within" (defArgs s_Stretch_within) (defBody s_Stretch_within) (defScope s_Stretch_within) [] [] (He.fAd K d_Stretch_within.at_) (fd_Stretch_within T) := (T.c.def_ 11 (d := d_Stretch_within) rfl).choose_spec
theorem B_Stretch_within (T : Tx K mg w) : Binds K (fd_Stretch_within T) ["self", "other"] [] := (F_Stretch_within T).bindsN fun _ _ _ _ _ _ us hl => match us, hl with | [_, _], _ => rfl
noncomputable def fd_Stretch_is_point (T : Tx K mg w) : FuncData := (T.c.def_ 12 (d := d_Stretch_is_point) rfl).choose
theorem F_Stretch_is_point (T : Tx K mg w) : FunD K "is_point" "Stretch.is_point" (defArgs s_Stretch_is_point) (defBody s_Stretch_is_point) (defScope s_Stretch_is_point) [] [] (He.fAd K d_Stretch_is_point.at_) (fd_Stretch_is_point T) := (T.c.def_ 12 (d := d_Stretch_is_point) rfl).choose_spec
theorem B_Stretch_is_point (T : Tx K mg w) : Binds K (fd_Stretch_is_point T) ["self"] [] := (F_Stretch_is_point T).bindsN fun _ _ _ _ _ _ us hl => match us, hl with | [_], _ => rfl
noncomputable def fd_Stretch_saturated (T : Tx K mg w) : FuncData := (T.c.def_ 13 (d := d_Stretch_saturated) rfl).choose
theorem F_Stretch_saturated (T : Tx K mg w) : FunD K "saturated" "Stretch.saturated" (defArgs s_Stretch_saturated) (defBody s_Stretch_saturated) (defScope s_Stretch_saturated) [] [] (He.fAd K d_Stretch_saturated.at_) (fd_Stretch_saturated T) := (T.c.def_ 13 (d := d_Stretch_saturated) rfl).choose_spec
theorem B_Stretch_saturated (T : Tx K mg w) : Binds K (fd_Stretch_saturated T) ["self", "top"] [] := (F_Stretch_saturated T).bindsN fun _ _ _ _ _ _ us hl => match us, hl with | [_, _], _ => rfl
noncomputable def fd_Stretch_pair (T : Tx K mg w) : FuncData := (T.c.def_ 14 (d := d_Stretch_pair) rfl).choose
theorem F_Stretch_pair (T : Tx K mg w) : FunD K "pair" "Stretch.pair" (defArgs s_Stretch_pair) (defBody s_Stretch_pair) (defScope s_Stretch_pair) [] [] (He.fAd K d_Stretch_pair.at_) (fd_Stretch_pair T) := (T.c.def_ 14 (d := d_Stretch_pair) rfl).choose_spec
theorem B_Stretch_pair (T : Tx K mg w) : Binds K (fd_Stretch_pair T) ["self"] [] := (F_Stretch_pair T).bindsN fun _ _ _ _ _ _ us hl => match us, hl with | [_], _ => rfl
noncomputable def fd_lw_bag (T : Tx K mg w) : FuncData := (T.c.def_ 15 (d := d_lw_bag) rfl).choose
theorem F_lw_bag (T : Tx K mg w) : FunD K "_law_bag" "_law_bag" (defArgs s_lw_bag) (defBody s_lw_bag) (defScope s_lw_bag) [] [] (He.fAd K d_lw_bag.at_) (fd_lw_bag T) := (T.c.def_ 15 (d := d_lw_bag) rfl).choose_spec
theorem B_lw_bag (T : Tx K mg w) : Binds K (fd_lw_bag T) ["script", "at"] [] := (F_lw_bag T).bindsN fun _ _ _ _ _ _ us hl => match us, hl with | [_, _], _ => rfl
noncomputable def fd_lw_take (T : Tx K mg w) : FuncData := (T.c.def_ 16 (d := d_lw_take) rfl).choose
theorem F_lw_take (T : Tx K mg w) : FunD K "_law_take" "_law_take" (defArgs s_lw_take) (defBody s_lw_take) (defScope s_lw_take) [] [] (He.fAd K d_lw_take.at_) (fd_lw_take T) := (T.c.def_ 16 (d := d_lw_take) rfl).choose_spec
theorem B_lw_take (T : Tx K mg w) : Binds K (fd_lw_take T) ["bag", "many"] [] := (F_lw_take T).bindsN fun _ _ _ _ _ _ us hl => match us, hl with | [_, _], _ => rfl
noncomputable def fd_lw_pick (T : Tx K mg w) : FuncData := (T.c.def_ 17 (d := d_lw_pick) rfl).choose
theorem F_lw_pick (T : Tx K mg w) : FunD K "_law_pick" "_law_pick" (defArgs s_lw_pick) (defBody s_lw_pick) (defScope s_lw_pick) [] [] (He.fAd K d_lw_pick.at_) (fd_lw_pick T) := (T.c.def_ 17 (d := d_lw_pick) rfl).choose_spec
theorem B_lw_pick (T : Tx K mg w) : Binds K (fd_lw_pick T) ["bag", "menu"] [] := (F_lw_pick T).bindsN fun _ _ _ _ _ _ us hl => match us, hl with | [_, _], _ => rfl
noncomputable def fd_lw_same (T : Tx K mg w) : FuncData := (T.c.def_ 18 (d := d_lw_same) rfl).choose
theorem F_lw_same (T : Tx K mg w) : FunD K "_law_same" "_law_same" (defArgs s_lw_same) (defBody s_lw_same) (defScope s_lw_same) [] [] (He.fAd K d_lw_same.at_) (fd_lw_same T) := (T.c.def_ 18 (d := d_lw_same) rfl).choose_spec
theorem B_lw_same (T : Tx K mg w) : Binds K (fd_lw_same T) ["got", "due"] [] := (F_lw_same T).bindsN fun _ _ _ _ _ _ us hl => match us, hl with | [_, _], _ => rfl
noncomputable def fd_lw_end (T : Tx K mg w) : FuncData := (T.c.def_ 19 (d := d_lw_end) rfl).choose
theorem F_lw_end (T : Tx K mg w) : FunD K "_law_end" "_law_end" (defArgs s_lw_end) (defBody s_lw_end) (defScope s_lw_end) [] [] (He.fAd K d_lw_end.at_) (fd_lw_end T) := (T.c.def_ 19 (d := d_lw_end) rfl).choose_spec
theorem B_lw_end (T : Tx K mg w) : Binds K (fd_lw_end T) ["bag"] [] := (F_lw_end T).bindsN fun _ _ _ _ _ _ us hl => match us, hl with | [_], _ => rfl
noncomputable def fd_lw_span (T : Tx K mg w) : FuncData := (T.c.def_ 20 (d := d_lw_span) rfl).choose
theorem F_lw_span (T : Tx K mg w) : FunD K "_law_span" "_law_span" (defArgs s_lw_span) (defBody s_lw_span) (defScope s_lw_span) [] [] (He.fAd K d_lw_span.at_) (fd_lw_span T) := (T.c.def_ 20 (d := d_lw_span) rfl).choose_spec
theorem B_lw_span (T : Tx K mg w) : Binds K (fd_lw_span T) ["bag"] [] := (F_lw_span T).bindsN fun _ _ _ _ _ _ us hl => match us, hl with | [_], _ => rfl
noncomputable def fd_lw_some (T : Tx K mg w) : FuncData := (T.c.def_ 21 (d := d_lw_some) rfl).choose
theorem F_lw_some (T : Tx K mg w) : FunD K "_law_some" "_law_some" (defArgs s_lw_some) (defBody s_lw_some) (defScope s_lw_some) [] [] (He.fAd K d_lw_some.at_) (fd_lw_some T) := (T.c.def_ 21 (d := d_lw_some) rfl).choose_spec
theorem B_lw_some (T : Tx K mg w) : Binds K (fd_lw_some T) ["bag", "span"] [] := (F_lw_some T).bindsN fun _ _ _ _ _ _ us hl => match us, hl with | [_, _], _ => rfl
noncomputable def fd_lw_outcome (T : Tx K mg w) : FuncData := (T.c.def_ 22 (d := d_lw_outcome) rfl).choose
theorem F_lw_outcome (T : Tx K mg w) : FunD K "_law_outcome" "_law_outcome" (defArgs s_lw_outcome) (defBody s_lw_outcome) (defScope s_lw_outcome) [] [] (He.fAd K d_lw_outcome.at_) (fd_lw_outcome T) := (T.c.def_ 22 (d := d_lw_outcome) rfl).choose_spec
theorem B_lw_outcome (T : Tx K mg w) : Binds K (fd_lw_outcome T) ["name", "x", "y", "n"] [] := (F_lw_outcome T).bindsN fun _ _ _ _ _ _ us hl => match us, hl with | [_, _, _, _], _ => rfl
noncomputable def fd_lw_outcomes (T : Tx K mg w) : FuncData := (T.c.def_ 23 (d := d_lw_outcomes) rfl).choose
theorem F_lw_outcomes (T : Tx K mg w) : FunD K "_law_outcomes" "_law_outcomes" (defArgs s_lw_outcomes) (defBody s_lw_outcomes) (defScope s_lw_outcomes) [] [] (He.fAd K d_lw_outcomes.at_) (fd_lw_outcomes T) := (T.c.def_ 23 (d := d_lw_outcomes) rfl).choose_spec
theorem B_lw_outcomes (T : Tx K mg w) : Binds K (fd_lw_outcomes T) ["name", "xs", "ys", "n"] [] := (F_lw_outcomes T).bindsN fun _ _ _ _ _ _ us hl => match us, hl with | [_, _, _, _], _ => rfl
noncomputable def fd_lw_made (T : Tx K mg w) : FuncData := (T.c.def_ 24 (d := d_lw_made) rfl).choose
theorem F_lw_made (T : Tx K mg w) : FunD K "_law_made" "_law_made" (defArgs s_lw_made) (defBody s_lw_made) (defScope s_lw_made) [] [] (He.fAd K d_lw_made.at_) (fd_lw_made T) := (T.c.def_ 24 (d := d_lw_made) rfl).choose_spec
theorem B_lw_made (T : Tx K mg w) : Binds K (fd_lw_made T) ["name", "one", "two", "n"] [] := (F_lw_made T).bindsN fun _ _ _ _ _ _ us hl => match us, hl with | [_, _, _, _], _ => rfl
noncomputable def fd_lw_stands (T : Tx K mg w) : FuncData := (T.c.def_ 25 (d := d_lw_stands) rfl).choose
theorem F_lw_stands (T : Tx K mg w) : FunD K "_law_stands" "_law_stands" (defArgs s_lw_stands) (defBody s_lw_stands) (defScope s_lw_stands) [] [] (He.fAd K d_lw_stands.at_) (fd_lw_stands T) := (T.c.def_ 25 (d := d_lw_stands) rfl).choose_spec
theorem B_lw_stands (T : Tx K mg w) : Binds K (fd_lw_stands T) ["thing", "span"] [] := (F_lw_stands T).bindsN fun _ _ _ _ _ _ us hl => match us, hl with | [_, _], _ => rfl
noncomputable def fd_lw_beside (T : Tx K mg w) : FuncData := (T.c.def_ 26 (d := d_lw_beside) rfl).choose
theorem F_lw_beside (T : Tx K mg w) : FunD K "_law_beside" "_law_beside" (defArgs s_lw_beside) (defBody s_lw_beside) (defScope s_lw_beside) [] [] (He.fAd K d_lw_beside.at_) (fd_lw_beside T) := (T.c.def_ 26 (d := d_lw_beside) rfl).choose_spec
theorem B_lw_beside (T : Tx K mg w) : Binds K (fd_lw_beside T) ["one", "two", "a", "b"] [] := (F_lw_beside T).bindsN fun _ _ _ _ _ _ us hl => match us, hl with | [_, _, _, _], _ => rfl
noncomputable def fd_lw_holds (T : Tx K mg w) : FuncData := (T.c.def_ 27 (d := d_lw_holds) rfl).choose
theorem F_lw_holds (T : Tx K mg w) : FunD K "_law_holds" "_law_holds" (defArgs s_lw_holds) (defBody s_lw_holds) (defScope s_lw_holds) [] [] (He.fAd K d_lw_holds.at_) (fd_lw_holds T) := (T.c.def_ 27 (d := d_lw_holds) rfl).choose_spec
theorem B_lw_holds (T : Tx K mg w) : Binds K (fd_lw_holds T) ["thing", "span", "rows", "n"] [] := (F_lw_holds T).bindsN fun _ _ _ _ _ _ us hl => match us, hl with | [_, _, _, _], _ => rfl
noncomputable def fd_lw_alike (T : Tx K mg w) : FuncData := (T.c.def_ 28 (d := d_lw_alike) rfl).choose
theorem F_lw_alike (T : Tx K mg w) : FunD K "_law_alike" "_law_alike" (defArgs s_lw_alike) (defBody s_lw_alike) (defScope s_lw_alike) [] [] (He.fAd K d_lw_alike.at_) (fd_lw_alike T) := (T.c.def_ 28 (d := d_lw_alike) rfl).choose_spec
theorem B_lw_alike (T : Tx K mg w) : Binds K (fd_lw_alike T) ["things", "spans", "new", "due"] [] := (F_lw_alike T).bindsN fun _ _ _ _ _ _ us hl => match us, hl with | [_, _, _, _], _ => rfl
noncomputable def fd_law (T : Tx K mg w) : FuncData := (T.c.def_ 29 (d := d_law) rfl).choose
theorem F_law (T : Tx K mg w) : FunD K "law" "law" (defArgs s_law) (defBody s_law) (defScope s_law) [] [] (He.fAd K d_law.at_) (fd_law T) := (T.c.def_ 29 (d := d_law) rfl).choose_spec
theorem B_law (T : Tx K mg w) : Binds K (fd_law T) ["script"] [] := (F_law T).bindsN fun _ _ _ _ _ _ us hl => match us, hl with | [_], _ => rfl
noncomputable def gD0 (T : Tx K mg w) : List EV.DefAt := [⟨He.fAd K d_clamp.at_, fd_clamp T, ["n"]⟩, ⟨He.fAd K d_saturate.at_, fd_saturate T, ["n", "top"]⟩, ⟨He.fAd K d_Stretchu_initu.at_, fd_Stretchu_initu T, ["self", "low", "high"]⟩, ⟨smA K "Stretch" "point", fd_Stretch_point T, ["n"]⟩, ⟨He.fAd K d_Stretchu_equ.at_, fd_Stretchu_equ T, ["self", "other"]⟩, ⟨He.fAd K d_Stretchu_containsu.at_, fd_Stretchu_containsu T, ["self", "n"]⟩, ⟨He.fAd K d_Stretchu_addu.at_, fd_Stretchu_addu T, ["self", "other"]⟩, ⟨He.fAd K d_Stretchu_subu.at_, fd_Stretchu_subu T, ["self", "other"]⟩, ⟨He.fAd K d_Stretchu_mulu.at_, fd_Stretchu_mulu T, ["self", "other"]⟩, ⟨He.fAd K d_Stretchu_oru.at_, fd_Stretchu_oru T, ["self", "other"]⟩, ⟨He.fAd K d_Stretch_least.at_, fd_Stretch_least T, ["self", "other"]⟩, ⟨He.fAd K d_Stretch_greatest.at_, fd_Stretch_greatest T, ["self", "other"]⟩, ⟨He.fAd K d_Stretch_within.at_, fd_Stretch_within T, ["self", "other"]⟩, ⟨He.fAd K d_Stretch_is_point.at_, fd_Stretch_is_point T, ["self"]⟩, ⟨He.fAd K d_Stretch_saturated.at_, fd_Stretch_saturated T, ["self", "top"]⟩, ⟨He.fAd K d_Stretch_pair.at_, fd_Stretch_pair T, ["self"]⟩, ⟨He.fAd K d_lw_bag.at_, fd_lw_bag T, ["script", "at"]⟩, ⟨He.fAd K d_lw_take.at_, fd_lw_take T, ["bag", "many"]⟩, ⟨He.fAd K d_lw_pick.at_, fd_lw_pick T, ["bag", "menu"]⟩, ⟨He.fAd K d_lw_same.at_, fd_lw_same T, ["got", "due"]⟩, ⟨He.fAd K d_lw_end.at_, fd_lw_end T, ["bag"]⟩, ⟨He.fAd K d_lw_span.at_, fd_lw_span T, ["bag"]⟩, ⟨He.fAd K d_lw_some.at_, fd_lw_some T, ["bag", "span"]⟩, ⟨He.fAd K d_lw_outcome.at_, fd_lw_outcome T, ["name", "x", "y", "n"]⟩, ⟨He.fAd K d_lw_outcomes.at_, fd_lw_outcomes T, ["name", "xs", "ys", "n"]⟩, ⟨He.fAd K d_lw_made.at_, fd_lw_made T, ["name", "one", "two", "n"]⟩, ⟨He.fAd K d_lw_stands.at_, fd_lw_stands T, ["thing", "span"]⟩, ⟨He.fAd K d_lw_beside.at_, fd_lw_beside T, ["one", "two", "a", "b"]⟩, ⟨He.fAd K d_lw_holds.at_, fd_lw_holds T, ["thing", "span", "rows", "n"]⟩, ⟨He.fAd K d_lw_alike.at_, fd_lw_alike T, ["things", "spans", "new", "due"]⟩]
noncomputable def gD1 (T : Tx K mg w) : List EV.DefAt := [⟨He.fAd K d_law.at_, fd_law T, ["script"]⟩]
noncomputable def gD (T : Tx K mg w) : List EV.DefAt := gD0 T ++ gD1 T
theorem o_df (T : Tx K mg w) : EV.Dfs K gP (gD T) := EV.dfs_cons (⟨⟨_, _, _, _, F_clamp T⟩, sc_clamp, rfl⟩)
  (EV.dfs_cons (⟨⟨_, _, _, _, F_saturate T⟩, sc_saturate, rfl⟩)
  (EV.dfs_cons (⟨⟨_, _, _, _, F_Stretchu_initu T⟩, sc_Stretchu_initu, rfl⟩)
  (EV.dfs_cons (⟨⟨_, _, _, _, F_Stretch_point T⟩, sc_Stretch_point, rfl⟩)
  (EV.dfs_cons (⟨⟨_, _, _, _, F_Stretchu_equ T⟩, sc_Stretchu_equ, rfl⟩)
  (EV.dfs_cons (⟨⟨_, _, _, _, F_Stretchu_containsu T⟩, sc_Stretchu_containsu, rfl⟩)
  (EV.dfs_cons (⟨⟨_, _, _, _, F_Stretchu_addu T⟩, sc_Stretchu_addu, rfl⟩)
  (EV.dfs_cons (⟨⟨_, _, _, _, F_Stretchu_subu T⟩, sc_Stretchu_subu, rfl⟩)
  (EV.dfs_cons (⟨⟨_, _, _, _, F_Stretchu_mulu T⟩, sc_Stretchu_mulu, rfl⟩)
  (EV.dfs_cons (⟨⟨_, _, _, _, F_Stretchu_oru T⟩, sc_Stretchu_oru, rfl⟩)
  (EV.dfs_cons (⟨⟨_, _, _, _, F_Stretch_least T⟩, sc_Stretch_least, rfl⟩)
  (EV.dfs_cons (⟨⟨_, _, _, _, F_Stretch_greatest T⟩, sc_Stretch_greatest, rfl⟩)
  (EV.dfs_cons (⟨⟨_, _, _, _, F_Stretch_within T⟩, sc_Stretch_within, rfl⟩)
  (EV.dfs_cons (⟨⟨_, _, _, _, F_Stretch_is_point T⟩, sc_Stretch_is_point, rfl⟩)
  (EV.dfs_cons (⟨⟨_, _, _, _, F_Stretch_saturated T⟩, sc_Stretch_saturated, rfl⟩)
  (EV.dfs_cons (⟨⟨_, _, _, _, F_Stretch_pair T⟩, sc_Stretch_pair, rfl⟩)
  (EV.dfs_cons (⟨⟨_, _, _, _, F_lw_bag T⟩, sc_lw_bag, rfl⟩)
  (EV.dfs_cons (⟨⟨_, _, _, _, F_lw_take T⟩, sc_lw_take, rfl⟩)
  (EV.dfs_cons (⟨⟨_, _, _, _, F_lw_pick T⟩, sc_lw_pick, rfl⟩)
  (EV.dfs_cons (⟨⟨_, _, _, _, F_lw_same T⟩, sc_lw_same, rfl⟩)
  (EV.dfs_cons (⟨⟨_, _, _, _, F_lw_end T⟩, sc_lw_end, rfl⟩)
  (EV.dfs_cons (⟨⟨_, _, _, _, F_lw_span T⟩, sc_lw_span, rfl⟩)
  (EV.dfs_cons (⟨⟨_, _, _, _, F_lw_some T⟩, sc_lw_some, rfl⟩)
  (EV.dfs_cons (⟨⟨_, _, _, _, F_lw_outcome T⟩, sc_lw_outcome, rfl⟩)
  (EV.dfs_cons (⟨⟨_, _, _, _, F_lw_outcomes T⟩, sc_lw_outcomes, rfl⟩)
  (EV.dfs_cons (⟨⟨_, _, _, _, F_lw_made T⟩, sc_lw_made, rfl⟩)
  (EV.dfs_cons (⟨⟨_, _, _, _, F_lw_stands T⟩, sc_lw_stands, rfl⟩)
  (EV.dfs_cons (⟨⟨_, _, _, _, F_lw_beside T⟩, sc_lw_beside, rfl⟩)
  (EV.dfs_cons (⟨⟨_, _, _, _, F_lw_holds T⟩, sc_lw_holds, rfl⟩)
  (EV.dfs_cons (⟨⟨_, _, _, _, F_lw_alike T⟩, sc_lw_alike, rfl⟩)
  (EV.dfs_cons (⟨⟨_, _, _, _, F_law T⟩, sc_law, rfl⟩)
  (EV.dfs_nil)))))))))))))))))))))))))))))))
theorem o_nd : (gP.map (·.1)).Nodup := by decide +kernel
theorem o_fre (T : Tx K mg w) : EV.Alls (fun (x : Str) => mg x = none) gG.fre := EV.alls_cons (T.ex.elim fun _ e => He.free_ok e.1 e.2 (T.c.fact 0 rfl))
  (EV.alls_cons (T.ex.elim fun _ e => He.free_ok e.1 e.2 (T.c.fact 1 rfl))
  (EV.alls_cons (T.ex.elim fun _ e => He.free_ok e.1 e.2 (T.c.fact 2 rfl))
  (EV.alls_cons (T.ex.elim fun _ e => He.free_ok e.1 e.2 (T.c.fact 3 rfl))
  (EV.alls_cons (T.ex.elim fun _ e => He.free_ok e.1 e.2 (T.c.fact 4 rfl))
  (EV.alls_cons (T.ex.elim fun _ e => He.free_ok e.1 e.2 (T.c.fact 5 rfl))
  (EV.alls_cons (T.ex.elim fun _ e => He.free_ok e.1 e.2 (T.c.fact 6 rfl))
  (EV.alls_cons (T.ex.elim fun _ e => He.free_ok e.1 e.2 (T.c.fact 7 rfl))
  (EV.alls_cons (T.ex.elim fun _ e => He.free_ok e.1 e.2 (T.c.fact 8 rfl))
  (EV.alls_cons (T.ex.elim fun _ e => He.free_ok e.1 e.2 (T.c.fact 9 rfl))
  (EV.alls_cons (T.ex.elim fun _ e => He.free_ok e.1 e.2 (T.c.fact 10 rfl))
  (EV.alls_nil)))))))))))
theorem o_cst (T : Tx K mg w) : EV.Alls (fun (p : Str × EV.W) => ∃ (v : V) (u : Value), RelV v u ∧ (∀ φ Z H, EV.RF K φ Z H p.2 v) ∧ (mg p.1 = some u ∨ (mg p.1 = none ∧ bootBuiltins p.1 = some u ∧ p.1 ≠ "__name__")) ∧ (p.1 == ("__debug__" : Str)) = false) gG.cst := EV.alls_cons ((T.ex.elim fun _ e => He.int_ok e.1 e.2 (T.c.fact 11 rfl)).elim fun t h => ⟨.int (-999999), .int (-999999) t, ⟨t, rfl⟩, fun _ _ _ => .int _, .inl h, by decide⟩)
  (EV.alls_cons ((T.ex.elim fun _ e => He.int_ok e.1 e.2 (T.c.fact 12 rfl)).elim fun t h => ⟨.int 999999, .int 999999 t, ⟨t, rfl⟩, fun _ _ _ => .int _, .inl h, by decide⟩)
  (EV.alls_cons (⟨.ty "int", .type "int", rfl, fun _ _ _ => .ty _, .inr ⟨T.ex.elim fun _ e => He.free_ok e.1 e.2 (T.c.fact 5 rfl), rfl, by decide⟩, by decide⟩)
  (EV.alls_cons (⟨.ty "str", .type "str", rfl, fun _ _ _ => .ty _, .inr ⟨T.ex.elim fun _ e => He.free_ok e.1 e.2 (T.c.fact 8 rfl), rfl, by decide⟩, by decide⟩)
  (EV.alls_cons (⟨.ty "bool", .type "bool", rfl, fun _ _ _ => .ty _, .inr ⟨T.ex.elim fun _ e => He.free_ok e.1 e.2 (T.c.fact 10 rfl), rfl, by decide⟩, by decide⟩)
  (EV.alls_cons (⟨.ty "list", .type "list", rfl, fun _ _ _ => .ty _, .inr ⟨T.ex.elim fun _ e => He.free_ok e.1 e.2 (T.c.fact 7 rfl), rfl, by decide⟩, by decide⟩)
  (EV.alls_cons (⟨.ty "tuple", .type "tuple", rfl, fun _ _ _ => .ty _, .inr ⟨T.ex.elim fun _ e => He.free_ok e.1 e.2 (T.c.fact 9 rfl), rfl, by decide⟩, by decide⟩)
  (EV.alls_nil)))))))
theorem o_fns (T : Tx K mg w) : EV.Alls (fun (p : Str × EV.FnI) => ∃ (j : Nat) (i : EV.DefI) (d : EV.DefAt), gP[j]? = some (p.1, i) ∧ (gD T)[j]? = some d ∧ mg p.1 = some (.ref d.ad) ∧ PySem.W.keepIn K (.ref d.ad) = true ∧ (p.1 == ("__debug__" : Str)) = false ∧ ∃ (us : List Value) (dvs : List V), Binds K d.fd d.ps us ∧ Vals dvs us ∧ ∀ φ Z H, EV.RFs K φ Z H (p.2.kw.map (·.2)) dvs) gG.fns := EV.alls_cons (⟨0, _, _, rfl, rfl, T.ex.elim fun _ e => He.glo_ok e.1 e.2 (T.c.fact 13 rfl), (F_clamp T).kp, by decide, ⟨[], [], B_clamp T, .nil, fun _ _ _ => .nil⟩⟩)
  (EV.alls_cons (⟨1, _, _, rfl, rfl, T.ex.elim fun _ e => He.glo_ok e.1 e.2 (T.c.fact 14 rfl), (F_saturate T).kp, by decide, ⟨[], [], B_saturate T, .nil, fun _ _ _ => .nil⟩⟩)
  (EV.alls_cons (⟨16, _, _, rfl, rfl, T.ex.elim fun _ e => He.glo_ok e.1 e.2 (T.c.fact 15 rfl), (F_lw_bag T).kp, by decide, ⟨[], [], B_lw_bag T, .nil, fun _ _ _ => .nil⟩⟩)
  (EV.alls_cons (⟨17, _, _, rfl, rfl, T.ex.elim fun _ e => He.glo_ok e.1 e.2 (T.c.fact 16 rfl), (F_lw_take T).kp, by decide, ⟨[], [], B_lw_take T, .nil, fun _ _ _ => .nil⟩⟩)
  (EV.alls_cons (⟨18, _, _, rfl, rfl, T.ex.elim fun _ e => He.glo_ok e.1 e.2 (T.c.fact 17 rfl), (F_lw_pick T).kp, by decide, ⟨[], [], B_lw_pick T, .nil, fun _ _ _ => .nil⟩⟩)
  (EV.alls_cons (⟨19, _, _, rfl, rfl, T.ex.elim fun _ e => He.glo_ok e.1 e.2 (T.c.fact 18 rfl), (F_lw_same T).kp, by decide, ⟨[], [], B_lw_same T, .nil, fun _ _ _ => .nil⟩⟩)
  (EV.alls_cons (⟨20, _, _, rfl, rfl, T.ex.elim fun _ e => He.glo_ok e.1 e.2 (T.c.fact 19 rfl), (F_lw_end T).kp, by decide, ⟨[], [], B_lw_end T, .nil, fun _ _ _ => .nil⟩⟩)
  (EV.alls_cons (⟨21, _, _, rfl, rfl, T.ex.elim fun _ e => He.glo_ok e.1 e.2 (T.c.fact 20 rfl), (F_lw_span T).kp, by decide, ⟨[], [], B_lw_span T, .nil, fun _ _ _ => .nil⟩⟩)
  (EV.alls_cons (⟨22, _, _, rfl, rfl, T.ex.elim fun _ e => He.glo_ok e.1 e.2 (T.c.fact 21 rfl), (F_lw_some T).kp, by decide, ⟨[], [], B_lw_some T, .nil, fun _ _ _ => .nil⟩⟩)
  (EV.alls_cons (⟨23, _, _, rfl, rfl, T.ex.elim fun _ e => He.glo_ok e.1 e.2 (T.c.fact 22 rfl), (F_lw_outcome T).kp, by decide, ⟨[], [], B_lw_outcome T, .nil, fun _ _ _ => .nil⟩⟩)
  (EV.alls_cons (⟨24, _, _, rfl, rfl, T.ex.elim fun _ e => He.glo_ok e.1 e.2 (T.c.fact 23 rfl), (F_lw_outcomes T).kp, by decide, ⟨[], [], B_lw_outcomes T, .nil, fun _ _ _ => .nil⟩⟩)
  (EV.alls_cons (⟨25, _, _, rfl, rfl, T.ex.elim fun _ e => He.glo_ok e.1 e.2 (T.c.fact 24 rfl), (F_lw_made T).kp, by decide, ⟨[], [], B_lw_made T, .nil, fun _ _ _ => .nil⟩⟩)
  (EV.alls_cons (⟨26, _, _, rfl, rfl, T.ex.elim fun _ e => He.glo_ok e.1 e.2 (T.c.fact 25 rfl), (F_lw_stands T).kp, by decide, ⟨[], [], B_lw_stands T, .nil, fun _ _ _ => .nil⟩⟩)
  (EV.alls_cons (⟨27, _, _, rfl, rfl, T.ex.elim fun _ e => He.glo_ok e.1 e.2 (T.c.fact 26 rfl), (F_lw_beside T).kp, by decide, ⟨[], [], B_lw_beside T, .nil, fun _ _ _ => .nil⟩⟩)
  (EV.alls_cons (⟨28, _, _, rfl, rfl, T.ex.elim fun _ e => He.glo_ok e.1 e.2 (T.c.fact 27 rfl), (F_lw_holds T).kp, by decide, ⟨[], [], B_lw_holds T, .nil, fun _ _ _ => .nil⟩⟩)
  (EV.alls_cons (⟨29, _, _, rfl, rfl, T.ex.elim fun _ e => He.glo_ok e.1 e.2 (T.c.fact 28 rfl), (F_lw_alike T).kp, by decide, ⟨[], [], B_lw_alike T, .nil, fun _ _ _ => .nil⟩⟩)
  (EV.alls_cons (⟨30, _, _, rfl, rfl, T.ex.elim fun _ e => He.glo_ok e.1 e.2 (T.c.fact 29 rfl), (F_law T).kp, by decide, ⟨[], [], B_law T, .nil, fun _ _ _ => .nil⟩⟩)
  (EV.alls_nil)))))))))))))))))
theorem o_cls (T : Tx K mg w) : EV.Alls (fun (p : Str × Nat) => ∃ (j : Nat) (i : EV.DefI) (d : EV.DefAt), gP[j]? = some (p.1 ++ ".__init__", i) ∧ (gD T)[j]? = some d ∧ Mk K (He.ga K p.1) d.ad ∧ mg p.1 = some (.ref (He.ga K p.1)) ∧ (p.1 == ("__debug__" : Str)) = false ∧ Binds K d.fd d.ps []) gG.cls := EV.alls_cons (⟨2, _, _, rfl, rfl, He.mkr_ok (T.c.fact 30 rfl), T.ex.elim fun _ e => He.glo_ok e.1 e.2 (T.c.fact 31 rfl), by decide, B_Stretchu_initu T⟩)
  (EV.alls_nil)
theorem o_mts (T : Tx K mg w) : EV.Alls (fun (p : (Str × Str) × Str) => ∃ (j : Nat) (i : EV.DefI) (d : EV.DefAt), gP[j]? = some (p.2, i) ∧ (gD T)[j]? = some d ∧ Cls K (He.ga K p.1.1) ∧ Meth K (He.ga K p.1.1) p.1.2 d.ad ∧ Binds K d.fd d.ps []) gG.mts := EV.alls_cons (⟨4, _, _, rfl, rfl, He.cls_ok (T.c.fact 32 rfl), He.meth_ok (T.c.fact 33 rfl), B_Stretchu_equ T⟩)
  (EV.alls_cons (⟨5, _, _, rfl, rfl, He.cls_ok (T.c.fact 32 rfl), He.meth_ok (T.c.fact 34 rfl), B_Stretchu_containsu T⟩)
  (EV.alls_cons (⟨6, _, _, rfl, rfl, He.cls_ok (T.c.fact 32 rfl), He.meth_ok (T.c.fact 35 rfl), B_Stretchu_addu T⟩)
  (EV.alls_cons (⟨7, _, _, rfl, rfl, He.cls_ok (T.c.fact 32 rfl), He.meth_ok (T.c.fact 36 rfl), B_Stretchu_subu T⟩)
  (EV.alls_cons (⟨8, _, _, rfl, rfl, He.cls_ok (T.c.fact 32 rfl), He.meth_ok (T.c.fact 37 rfl), B_Stretchu_mulu T⟩)
  (EV.alls_cons (⟨9, _, _, rfl, rfl, He.cls_ok (T.c.fact 32 rfl), He.meth_ok (T.c.fact 38 rfl), B_Stretchu_oru T⟩)
  (EV.alls_cons (⟨10, _, _, rfl, rfl, He.cls_ok (T.c.fact 32 rfl), He.meth_ok (T.c.fact 39 rfl), B_Stretch_least T⟩)
  (EV.alls_cons (⟨11, _, _, rfl, rfl, He.cls_ok (T.c.fact 32 rfl), He.meth_ok (T.c.fact 40 rfl), B_Stretch_greatest T⟩)
  (EV.alls_cons (⟨12, _, _, rfl, rfl, He.cls_ok (T.c.fact 32 rfl), He.meth_ok (T.c.fact 41 rfl), B_Stretch_within T⟩)
  (EV.alls_cons (⟨13, _, _, rfl, rfl, He.cls_ok (T.c.fact 32 rfl), He.meth_ok (T.c.fact 42 rfl), B_Stretch_is_point T⟩)
  (EV.alls_cons (⟨14, _, _, rfl, rfl, He.cls_ok (T.c.fact 32 rfl), He.meth_ok (T.c.fact 43 rfl), B_Stretch_saturated T⟩)
  (EV.alls_cons (⟨15, _, _, rfl, rfl, He.cls_ok (T.c.fact 32 rfl), He.meth_ok (T.c.fact 44 rfl), B_Stretch_pair T⟩)
  (EV.alls_nil))))))))))))
theorem o_kwc (T : Tx K mg w) : EV.Alls (fun (p : (Str × List (Option Str)) × Nat × List (Nat ⊕ EV.W)) => ∃ (j : Nat) (i : EV.DefI) (d : EV.DefAt), gP[j]? = some (p.1.1, i) ∧ (gD T)[j]? = some d ∧ mg p.1.1 = some (.ref d.ad) ∧ PySem.W.keepIn K (.ref d.ad) = true ∧ (p.1.1 == ("__debug__" : Str)) = false ∧ ∃ (kn : List Str) (g : List Value → List Value → List Value) (gV : List V → List V → List V), p.1.2 = kn.map some ∧ KBn K d.fd d.ps p.2.1 kn g gV ∧ ∀ φ Z H ws vs us zs, EV.RFs K φ Z H ws vs → EV.RFs K φ Z H us zs → us.length = kn.length → EV.RFs K φ Z H (ws ++ p.2.2.map (EV.kwSel us)) (gV vs zs)) gG.kwc := EV.alls_nil
theorem o_fld (T : Tx K mg w) : EV.Alls (fun (p : Str × Str) => Cls K (He.ga K p.1) ∧ NoAttr K (He.ga K p.1) p.2) gG.fld := EV.alls_cons (⟨He.cls_ok (T.c.fact 32 rfl), He.noat_ok (T.c.fact 45 rfl)⟩)
  (EV.alls_cons (⟨He.cls_ok (T.c.fact 32 rfl), He.noat_ok (T.c.fact 46 rfl)⟩)
  (EV.alls_nil))
theorem o_tbl (T : Tx K mg w) : EV.Alls (fun (p : Str × List (Str × EV.W) × List Str) => EV.TblK K w mg p.1 p.2) gG.tbl := EV.alls_nil
theorem o_dts (T : Tx K mg w) : EV.Alls (fun (p : Str × List (Str × EV.W)) => EV.DtsK K w mg p.1 p.2) gG.dts := EV.alls_nil
theorem o_icl (T : Tx K mg w) : EV.Alls (fun (c : Str) => EV.OpK K (He.ga K c) ∧ Cls K (He.ga K c) ∧ mg c = some (.ref (He.ga K c)) ∧ (c == ("__debug__" : Str)) = false) gG.icl := EV.alls_cons (⟨EV.opB_ok (xq0 T), He.cls_ok (T.c.fact 32 rfl), T.ex.elim fun _ e => He.glo_ok e.1 e.2 (T.c.fact 31 rfl), by decide⟩)
  (EV.alls_nil)
theorem o_sms (T : Tx K mg w) : EV.Alls (fun (p : (Str × Str) × Str) => ∃ (j : Nat) (i : EV.DefI) (d : EV.DefAt), gP[j]? = some (p.2, i) ∧ (gD T)[j]? = some d ∧ (∃ (q : Addr) (rest : List Value), ClX.CRead K (He.ga K p.1.1) (.type "type") ∧ PySem.W.findCls K (.ref (He.ga K p.1.1)) (.type "type") p.1.2 = some (.get (.builtin "staticmethod.__get__") (.ref q) .none (.ref (He.ga K p.1.1))) ∧ PySem.W.recIn K q "staticmethod" = some (.ref d.ad :: rest)) ∧ PySem.W.keepIn K (.ref d.ad) = true ∧ mg p.1.1 = some (.ref (He.ga K p.1.1)) ∧ (p.1.1 == ("__debug__" : Str)) = false ∧ Binds K d.fd d.ps []) gG.sms := EV.alls_cons (⟨3, _, _, rfl, rfl, ⟨_, (He5.wrapB_ok (He.ba (xq1 T)).1).2.choose, ⟨(He.ba (He.ba (xq1 T)).2).1, He.eqO_ok (He.ba (He.ba (He.ba (xq1 T)).2).2).1⟩, (He5.wrapB_ok (He.ba (xq1 T)).1).1, (He5.wrapB_ok (He.ba (xq1 T)).1).2.choose_spec⟩, (F_Stretch_point T).kp, T.ex.elim fun _ e => He.glo_ok e.1 e.2 (T.c.fact 31 rfl), by decide, B_Stretch_point T⟩)
  (EV.alls_nil)
theorem good (T : Tx K mg w) : EV.ProgOk K mg w gG gP (gD T) := ⟨o_df T, o_nd, o_fre T, o_cst T, o_fns T, o_cls T, o_mts T, o_kwc T, o_fld T, o_tbl T, o_dts T, o_icl T, o_sms T⟩
end
def nm0 : List Str := ["GREATEST", "LEAST", "clamp", "saturate", "Stretch", "_law_bag", "_law_take", "_law_pick", "_law_same", "_law_end", "_law_span", "_law_some", "_law_outcome", "_law_outcomes", "_law_made", "_law_stands", "_law_beside", "_law_holds", "_law_alike"]
def nms : List Str := nm0
def obR (s : PySem.W.SharedT) : (He.AlT × Bool) × List He.FnW := obsRG 6 fa fn ts xb sm (HandSHeadRun.getT s)
abbrev hk : PySem.W.Hook := hookR 6 fa fn ts xb sm
theorem obR_eq (s : PySem.W.SharedT) : obR s = hk.obs s.abs := obsRG_eq (HandSHeadRun.getT_eq s)
abbrev RR : PySem.W.OpenRow := PySem.W.OpenLaw.row PySem.Challenge.rw_rungstead_k64_stretches
theorem run (w : World) : HandSHeadRun.RunEq RR (PySem.W.view RR.prog [22]) hk obR 4000 nms w :=
  PySem.W.byRow2 "special-get-raises" (P := fun w => HandSHeadRun.RunEq RR (PySem.W.view RR.prog [22]) hk obR 4000 nms w) (fun w => by intro os; kernel_rfl) (fun w => by intro os; kernel_rfl) w
abbrev sp_law (K : PySem.W.Frag) : Sp := EV.spF K (EV.Fn gG gP 60) "law"
theorem facts {P : Program} {w : World} {K : PySem.W.Frag} {h : Heap} {mg : Str → Option Value} {f : Addr} (X : K.In h) (G : h.Ns mainGlobals mg) (hfa : mg ("law" : Str) = some (.ref f)) (c : He.SaysT fa fn ts w K) (hx : xb K = true) (hsm : smO K sm = smV sm) :
    ∃ fd : FuncData, (∀ (s : Shared) (v : Value), BindsTo s fd ⟨[v], []⟩ [("script", v)]) ∧ ∀ base : Heap, K.In base → base.Ns mainGlobals mg → FnOk P w K mg base CX0 121 f fd ["script"] (sp_law K) := by
  have T : Tx K mg w := ⟨⟨h, X, G⟩, c.d, hx, hsm⟩
  have e := hfa.symm.trans (T.ex.elim fun _ e => He.glo_ok e.1 e.2 (T.c.fact 29 rfl))
  cases e
  have b := FunD.bindsA (ps := ["script"]) (F_law T) fun _ _ _ _ _ _ us hl => match us, hl with | [_], _ => rfl
  exact ⟨fd_law T, fun s v => b s [v] rfl, fun base _ _ => EV.fn_all (good T) 60 30 ("law", ⟨x_law, defScope s_law, defBody s_law, 1⟩) ⟨He.fAd K d_law.at_, fd_law T, ["script"]⟩ rfl rfl⟩
end R
section
open PySem PySem.W PySem.Calls PyProof.Rows
set_option maxHeartbeats 0
theorem R.headT (law_pure : ∀ (ns : List Int), ns.length ≤ 63 → ∃ S', EV.Fn R.gG R.gP 60 "law" [.scr (ns.map EV.W.int)] [] = .ok (.bl true) S') : PySem.Challenge.rw_rungstead_k64_stretches.Holds := by
  w_on; o_law
  refine HandSHeadRun.head_any (r := OpenLaw.row PySem.Challenge.rw_rungstead_k64_stretches) (q := view (OpenLaw.row PySem.Challenge.rw_rungstead_k64_stretches).prog [22]) (H := R.hk) (ob := R.obR) (M := 4000) (loose := R.nms) (d := HandSHeadRun.topDef (OpenLaw.row PySem.Challenge.rw_rungstead_k64_stretches).prog 22) (kwd := []) R.obR_eq
    (by kernel_rfl) (fun s => by kernel_rfl) R.run (by kernel_rfl) (by kernel_rfl) (by kernel_rfl) (by rfl) (by first | assumption | decide +kernel) (by decide +kernel) ⟨rfl, rfl, rfl, rfl, rfl, by decide +kernel⟩ ?hw ?hc
  case hw => w_witness2
  case hc =>
    refine L2.walk_ofE (l := PySem.Challenge.rw_rungstead_k64_stretches) (n := 63) (k := 121) (x := "script") (CX := L2.CX0) rfl (by decide) (by kernel_rfl) ⟨rfl, by decide, by decide⟩ ?F (fun _ _ _ _ z => z)
    intro w mg fa h Y G hmg0
    obtain ⟨K, KX, c, hx, hsm⟩ := Y
    have hmg : mg ("law" : PySem.Str) = some (.ref fa) := by
      have e : (HandSHeadRun.topDef (OpenLaw.row PySem.Challenge.rw_rungstead_k64_stretches).prog 22).name = ("law" : PySem.Str) := by kernel_rfl
      rw [← e]
      exact hmg0
    obtain ⟨fd, hb, hF⟩ := R.facts (P := (PySem.Challenge.rw_rungstead_k64_stretches).prog) (w := w) KX G hmg c hx hsm
    exact ⟨K, fd, R.sp_law K, KX, hb, fun H a ns hl hO hS => (law_pure ns hl).elim fun S' e => EV.law_sp hO hS e, hF⟩
end
set_option Elab.async false
set_option linter.all false
set_option maxRecDepth 100000
set_option maxHeartbeats 4000000
namespace R
open PySem PySem.Spec PyProof.Rows L2
def m_clamp (F : EV.Fenv) : EV.M EV.Fl := (EV.sSeq (EV.sIf (EV.mCmpT .Lt (EV.mVarB 0) (EV.mC (.int (-999999)))) (EV.sRet (EV.mC (.int (-999999)))) EV.sNext)
  (EV.sSeq (EV.sIf (EV.mCmpT .Gt (EV.mVarB 0) (EV.mC (.int 999999))) (EV.sRet (EV.mC (.int 999999))) EV.sNext)
  (EV.sFrz [0] (EV.sRet (EV.mVar 0)))))
theorem me_clamp (F : EV.Fenv) : EV.cSs gG F x_clamp (defScope s_clamp) 300 (defBody s_clamp) = m_clamp F := by kernel_rfl
theorem fe_clamp (d : Nat) (ws : List EV.W) (S : EV.Sto) : EV.Fn gG gP (d + 1) "clamp" ws S = if ws.length = 1 then EV.runB (m_clamp (EV.Fn gG gP d)) [("n" : Str)] ws S else .bad := by
  have e : gP.lookup ("clamp" : Str) = some (⟨x_clamp, defScope s_clamp, defBody s_clamp, 1⟩ : EV.DefI) := by kernel_rfl
  rw [EV.fn_eq e]
  show (if ws.length = 1 then EV.runB (EV.cSs gG (EV.Fn gG gP d) x_clamp (defScope s_clamp) 300 (defBody s_clamp)) [("n" : Str)] ws S else .bad) = _
  rw [me_clamp]
def m_saturate (F : EV.Fenv) : EV.M EV.Fl := (EV.sSeq (EV.sIf (EV.mCmpT .Lt (EV.mVarB 0) (EV.mC (.int 0))) (EV.sRet (EV.mC (.int 0))) EV.sNext)
  (EV.sSeq (EV.sIf (EV.mCmpT .Gt (EV.mVarB 0) (EV.mVarB 1)) (EV.sFrz [1] (EV.sRet (EV.mVar 1))) EV.sNext)
  (EV.sFrz [0] (EV.sRet (EV.mVar 0)))))
theorem me_saturate (F : EV.Fenv) : EV.cSs gG F x_saturate (defScope s_saturate) 300 (defBody s_saturate) = m_saturate F := by kernel_rfl
theorem fe_saturate (d : Nat) (ws : List EV.W) (S : EV.Sto) : EV.Fn gG gP (d + 1) "saturate" ws S = if ws.length = 2 then EV.runB (m_saturate (EV.Fn gG gP d)) [("n" : Str), ("top" : Str)] ws S else .bad := by
  have e : gP.lookup ("saturate" : Str) = some (⟨x_saturate, defScope s_saturate, defBody s_saturate, 2⟩ : EV.DefI) := by kernel_rfl
  rw [EV.fn_eq e]
  show (if ws.length = 2 then EV.runB (EV.cSs gG (EV.Fn gG gP d) x_saturate (defScope s_saturate) 300 (defBody s_saturate)) [("n" : Str), ("top" : Str)] ws S else .bad) = _
  rw [me_saturate]
def m_Stretchu_initu (F : EV.Fenv) : EV.M EV.Fl := (EV.sSeq (EV.sFrz [1] (EV.sFldM (EV.mVarB 0) (EV.mVar 1) "low" fun c => gG.fld.contains (c, ("low" : Str))))
  (EV.sFrz [2] (EV.sFldM (EV.mVarB 0) (EV.mVar 2) "high" fun c => gG.fld.contains (c, ("high" : Str)))))
theorem me_Stretchu_initu (F : EV.Fenv) : EV.cSs gG F x_Stretchu_initu (defScope s_Stretchu_initu) 300 (defBody s_Stretchu_initu) = m_Stretchu_initu F := by kernel_rfl
theorem fe_Stretchu_initu (d : Nat) (ws : List EV.W) (S : EV.Sto) : EV.Fn gG gP (d + 1) "Stretch.__init__" ws S = if ws.length = 3 then EV.runB (m_Stretchu_initu (EV.Fn gG gP d)) [("self" : Str), ("low" : Str), ("high" : Str)] ws S else .bad := by
  have e : gP.lookup ("Stretch.__init__" : Str) = some (⟨x_Stretchu_initu, defScope s_Stretchu_initu, defBody s_Stretchu_initu, 3⟩ : EV.DefI) := by kernel_rfl
  rw [EV.fn_eq e]
  show (if ws.length = 3 then EV.runB (EV.cSs gG (EV.Fn gG gP d) x_Stretchu_initu (defScope s_Stretchu_initu) 300 (defBody s_Stretchu_initu)) [("self" : Str), ("low" : Str), ("high" : Str)] ws S else .bad) = _
  rw [me_Stretchu_initu]
def m_Stretch_point (F : EV.Fenv) : EV.M EV.Fl := (EV.sFrz [0, 0] (EV.sRet (EV.mMake F "Stretch" ("Stretch" ++ ".__init__") (EV.mCons (EV.mVar 0) (EV.mCons (EV.mVar 0) EV.mNil)))))
theorem me_Stretch_point (F : EV.Fenv) : EV.cSs gG F x_Stretch_point (defScope s_Stretch_point) 300 (defBody s_Stretch_point) = m_Stretch_point F := by kernel_rfl
theorem fe_Stretch_point (d : Nat) (ws : List EV.W) (S : EV.Sto) : EV.Fn gG gP (d + 1) "Stretch.point" ws S = if ws.length = 1 then EV.runB (m_Stretch_point (EV.Fn gG gP d)) [("n" : Str)] ws S else .bad := by
  have e : gP.lookup ("Stretch.point" : Str) = some (⟨x_Stretch_point, defScope s_Stretch_point, defBody s_Stretch_point, 1⟩ : EV.DefI) := by kernel_rfl
  rw [EV.fn_eq e]
  show (if ws.length = 1 then EV.runB (EV.cSs gG (EV.Fn gG gP d) x_Stretch_point (defScope s_Stretch_point) 300 (defBody s_Stretch_point)) [("n" : Str)] ws S else .bad) = _
  rw [me_Stretch_point]
def m_Stretchu_equ (F : EV.Fenv) : EV.M EV.Fl := (EV.sRet (EV.mAndV (EV.mIsI "Stretch" (EV.mVarB 1)) (EV.mAndV (EV.mCmp .Eq (EV.mFld (EV.mVarB 0) "low" fun c => gG.fld.contains (c, ("low" : Str))) (EV.mFld (EV.mVarB 1) "low" fun c => gG.fld.contains (c, ("low" : Str)))) (EV.mCmp .Eq (EV.mFld (EV.mVarB 0) "high" fun c => gG.fld.contains (c, ("high" : Str))) (EV.mFld (EV.mVarB 1) "high" fun c => gG.fld.contains (c, ("high" : Str)))))))
theorem me_Stretchu_equ (F : EV.Fenv) : EV.cSs gG F x_Stretchu_equ (defScope s_Stretchu_equ) 300 (defBody s_Stretchu_equ) = m_Stretchu_equ F := by kernel_rfl
theorem fe_Stretchu_equ (d : Nat) (ws : List EV.W) (S : EV.Sto) : EV.Fn gG gP (d + 1) "Stretch.__eq__" ws S = if ws.length = 2 then EV.runB (m_Stretchu_equ (EV.Fn gG gP d)) [("self" : Str), ("other" : Str)] ws S else .bad := by
  have e : gP.lookup ("Stretch.__eq__" : Str) = some (⟨x_Stretchu_equ, defScope s_Stretchu_equ, defBody s_Stretchu_equ, 2⟩ : EV.DefI) := by kernel_rfl
  rw [EV.fn_eq e]
  show (if ws.length = 2 then EV.runB (EV.cSs gG (EV.Fn gG gP d) x_Stretchu_equ (defScope s_Stretchu_equ) 300 (defBody s_Stretchu_equ)) [("self" : Str), ("other" : Str)] ws S else .bad) = _
  rw [me_Stretchu_equ]
def m_Stretchu_containsu (F : EV.Fenv) : EV.M EV.Fl := (EV.sRet (EV.mVal (EV.mChain .LtE .LtE (EV.mFld (EV.mVarB 0) "low" fun c => gG.fld.contains (c, ("low" : Str))) (EV.mVarB 1) (EV.mFld (EV.mVarB 0) "high" fun c => gG.fld.contains (c, ("high" : Str))))))
theorem me_Stretchu_containsu (F : EV.Fenv) : EV.cSs gG F x_Stretchu_containsu (defScope s_Stretchu_containsu) 300 (defBody s_Stretchu_containsu) = m_Stretchu_containsu F := by kernel_rfl
theorem fe_Stretchu_containsu (d : Nat) (ws : List EV.W) (S : EV.Sto) : EV.Fn gG gP (d + 1) "Stretch.__contains__" ws S = if ws.length = 2 then EV.runB (m_Stretchu_containsu (EV.Fn gG gP d)) [("self" : Str), ("n" : Str)] ws S else .bad := by
  have e : gP.lookup ("Stretch.__contains__" : Str) = some (⟨x_Stretchu_containsu, defScope s_Stretchu_containsu, defBody s_Stretchu_containsu, 2⟩ : EV.DefI) := by kernel_rfl
  rw [EV.fn_eq e]
  show (if ws.length = 2 then EV.runB (EV.cSs gG (EV.Fn gG gP d) x_Stretchu_containsu (defScope s_Stretchu_containsu) 300 (defBody s_Stretchu_containsu)) [("self" : Str), ("n" : Str)] ws S else .bad) = _
  rw [me_Stretchu_containsu]
def m_Stretchu_addu (F : EV.Fenv) : EV.M EV.Fl := (EV.sRet (EV.mMake F "Stretch" ("Stretch" ++ ".__init__") (EV.mCons (EV.mCall F "clamp" (EV.mCons (EV.mBin .Add (EV.mFld (EV.mVarB 0) "low" fun c => gG.fld.contains (c, ("low" : Str))) (EV.mFld (EV.mVarB 1) "low" fun c => gG.fld.contains (c, ("low" : Str)))) EV.mNil) []) (EV.mCons (EV.mCall F "clamp" (EV.mCons (EV.mBin .Add (EV.mFld (EV.mVarB 0) "high" fun c => gG.fld.contains (c, ("high" : Str))) (EV.mFld (EV.mVarB 1) "high" fun c => gG.fld.contains (c, ("high" : Str)))) EV.mNil) []) EV.mNil))))
theorem me_Stretchu_addu (F : EV.Fenv) : EV.cSs gG F x_Stretchu_addu (defScope s_Stretchu_addu) 300 (defBody s_Stretchu_addu) = m_Stretchu_addu F := by kernel_rfl
theorem fe_Stretchu_addu (d : Nat) (ws : List EV.W) (S : EV.Sto) : EV.Fn gG gP (d + 1) "Stretch.__add__" ws S = if ws.length = 2 then EV.runB (m_Stretchu_addu (EV.Fn gG gP d)) [("self" : Str), ("other" : Str)] ws S else .bad := by
  have e : gP.lookup ("Stretch.__add__" : Str) = some (⟨x_Stretchu_addu, defScope s_Stretchu_addu, defBody s_Stretchu_addu, 2⟩ : EV.DefI) := by kernel_rfl
  rw [EV.fn_eq e]
  show (if ws.length = 2 then EV.runB (EV.cSs gG (EV.Fn gG gP d) x_Stretchu_addu (defScope s_Stretchu_addu) 300 (defBody s_Stretchu_addu)) [("self" : Str), ("other" : Str)] ws S else .bad) = _
  rw [me_Stretchu_addu]
def m_Stretchu_subu (F : EV.Fenv) : EV.M EV.Fl := (EV.sRet (EV.mMake F "Stretch" ("Stretch" ++ ".__init__") (EV.mCons (EV.mCall F "clamp" (EV.mCons (EV.mBin .Sub (EV.mFld (EV.mVarB 0) "low" fun c => gG.fld.contains (c, ("low" : Str))) (EV.mFld (EV.mVarB 1) "high" fun c => gG.fld.contains (c, ("high" : Str)))) EV.mNil) []) (EV.mCons (EV.mCall F "clamp" (EV.mCons (EV.mBin .Sub (EV.mFld (EV.mVarB 0) "high" fun c => gG.fld.contains (c, ("high" : Str))) (EV.mFld (EV.mVarB 1) "low" fun c => gG.fld.contains (c, ("low" : Str)))) EV.mNil) []) EV.mNil))))
theorem me_Stretchu_subu (F : EV.Fenv) : EV.cSs gG F x_Stretchu_subu (defScope s_Stretchu_subu) 300 (defBody s_Stretchu_subu) = m_Stretchu_subu F := by kernel_rfl
theorem fe_Stretchu_subu (d : Nat) (ws : List EV.W) (S : EV.Sto) : EV.Fn gG gP (d + 1) "Stretch.__sub__" ws S = if ws.length = 2 then EV.runB (m_Stretchu_subu (EV.Fn gG gP d)) [("self" : Str), ("other" : Str)] ws S else .bad := by
  have e : gP.lookup ("Stretch.__sub__" : Str) = some (⟨x_Stretchu_subu, defScope s_Stretchu_subu, defBody s_Stretchu_subu, 2⟩ : EV.DefI) := by kernel_rfl
  rw [EV.fn_eq e]
  show (if ws.length = 2 then EV.runB (EV.cSs gG (EV.Fn gG gP d) x_Stretchu_subu (defScope s_Stretchu_subu) 300 (defBody s_Stretchu_subu)) [("self" : Str), ("other" : Str)] ws S else .bad) = _
  rw [me_Stretchu_subu]
def m_Stretchu_mulu (F : EV.Fenv) : EV.M EV.Fl := (EV.sSeq (EV.sSetF 2 (EV.mLst (EV.mCons (EV.mBin .Mult (EV.mFld (EV.mVarB 0) "low" fun c => gG.fld.contains (c, ("low" : Str))) (EV.mFld (EV.mVarB 1) "low" fun c => gG.fld.contains (c, ("low" : Str)))) (EV.mCons (EV.mBin .Mult (EV.mFld (EV.mVarB 0) "low" fun c => gG.fld.contains (c, ("low" : Str))) (EV.mFld (EV.mVarB 1) "high" fun c => gG.fld.contains (c, ("high" : Str)))) (EV.mCons (EV.mBin .Mult (EV.mFld (EV.mVarB 0) "high" fun c => gG.fld.contains (c, ("high" : Str))) (EV.mFld (EV.mVarB 1) "low" fun c => gG.fld.contains (c, ("low" : Str)))) (EV.mCons (EV.mBin .Mult (EV.mFld (EV.mVarB 0) "high" fun c => gG.fld.contains (c, ("high" : Str))) (EV.mFld (EV.mVarB 1) "high" fun c => gG.fld.contains (c, ("high" : Str)))) EV.mNil))))))
  (EV.sRet (EV.mMake F "Stretch" ("Stretch" ++ ".__init__") (EV.mCons (EV.mCall F "clamp" (EV.mCons (EV.mBlt .min (EV.mCons (EV.mVarB 2) EV.mNil)) EV.mNil) []) (EV.mCons (EV.mCall F "clamp" (EV.mCons (EV.mBlt .max (EV.mCons (EV.mVarB 2) EV.mNil)) EV.mNil) []) EV.mNil)))))
theorem me_Stretchu_mulu (F : EV.Fenv) : EV.cSs gG F x_Stretchu_mulu (defScope s_Stretchu_mulu) 300 (defBody s_Stretchu_mulu) = m_Stretchu_mulu F := by kernel_rfl
theorem fe_Stretchu_mulu (d : Nat) (ws : List EV.W) (S : EV.Sto) : EV.Fn gG gP (d + 1) "Stretch.__mul__" ws S = if ws.length = 2 then EV.runB (m_Stretchu_mulu (EV.Fn gG gP d)) [("self" : Str), ("other" : Str), ("products" : Str)] ws S else .bad := by
  have e : gP.lookup ("Stretch.__mul__" : Str) = some (⟨x_Stretchu_mulu, defScope s_Stretchu_mulu, defBody s_Stretchu_mulu, 2⟩ : EV.DefI) := by kernel_rfl
  rw [EV.fn_eq e]
  show (if ws.length = 2 then EV.runB (EV.cSs gG (EV.Fn gG gP d) x_Stretchu_mulu (defScope s_Stretchu_mulu) 300 (defBody s_Stretchu_mulu)) [("self" : Str), ("other" : Str), ("products" : Str)] ws S else .bad) = _
  rw [me_Stretchu_mulu]
def m_Stretchu_oru (F : EV.Fenv) : EV.M EV.Fl := (EV.sRet (EV.mMake F "Stretch" ("Stretch" ++ ".__init__") (EV.mCons (EV.mBlt .min (EV.mCons (EV.mFld (EV.mVarB 0) "low" fun c => gG.fld.contains (c, ("low" : Str))) (EV.mCons (EV.mFld (EV.mVarB 1) "low" fun c => gG.fld.contains (c, ("low" : Str))) EV.mNil))) (EV.mCons (EV.mBlt .max (EV.mCons (EV.mFld (EV.mVarB 0) "high" fun c => gG.fld.contains (c, ("high" : Str))) (EV.mCons (EV.mFld (EV.mVarB 1) "high" fun c => gG.fld.contains (c, ("high" : Str))) EV.mNil))) EV.mNil))))
theorem me_Stretchu_oru (F : EV.Fenv) : EV.cSs gG F x_Stretchu_oru (defScope s_Stretchu_oru) 300 (defBody s_Stretchu_oru) = m_Stretchu_oru F := by kernel_rfl
theorem fe_Stretchu_oru (d : Nat) (ws : List EV.W) (S : EV.Sto) : EV.Fn gG gP (d + 1) "Stretch.__or__" ws S = if ws.length = 2 then EV.runB (m_Stretchu_oru (EV.Fn gG gP d)) [("self" : Str), ("other" : Str)] ws S else .bad := by
  have e : gP.lookup ("Stretch.__or__" : Str) = some (⟨x_Stretchu_oru, defScope s_Stretchu_oru, defBody s_Stretchu_oru, 2⟩ : EV.DefI) := by kernel_rfl
  rw [EV.fn_eq e]
  show (if ws.length = 2 then EV.runB (EV.cSs gG (EV.Fn gG gP d) x_Stretchu_oru (defScope s_Stretchu_oru) 300 (defBody s_Stretchu_oru)) [("self" : Str), ("other" : Str)] ws S else .bad) = _
  rw [me_Stretchu_oru]
def m_Stretch_least (F : EV.Fenv) : EV.M EV.Fl := (EV.sRet (EV.mMake F "Stretch" ("Stretch" ++ ".__init__") (EV.mCons (EV.mBlt .min (EV.mCons (EV.mFld (EV.mVarB 0) "low" fun c => gG.fld.contains (c, ("low" : Str))) (EV.mCons (EV.mFld (EV.mVarB 1) "low" fun c => gG.fld.contains (c, ("low" : Str))) EV.mNil))) (EV.mCons (EV.mBlt .min (EV.mCons (EV.mFld (EV.mVarB 0) "high" fun c => gG.fld.contains (c, ("high" : Str))) (EV.mCons (EV.mFld (EV.mVarB 1) "high" fun c => gG.fld.contains (c, ("high" : Str))) EV.mNil))) EV.mNil))))
theorem me_Stretch_least (F : EV.Fenv) : EV.cSs gG F x_Stretch_least (defScope s_Stretch_least) 300 (defBody s_Stretch_least) = m_Stretch_least F := by kernel_rfl
theorem fe_Stretch_least (d : Nat) (ws : List EV.W) (S : EV.Sto) : EV.Fn gG gP (d + 1) "Stretch.least" ws S = if ws.length = 2 then EV.runB (m_Stretch_least (EV.Fn gG gP d)) [("self" : Str), ("other" : Str)] ws S else .bad := by
  have e : gP.lookup ("Stretch.least" : Str) = some (⟨x_Stretch_least, defScope s_Stretch_least, defBody s_Stretch_least, 2⟩ : EV.DefI) := by kernel_rfl
  rw [EV.fn_eq e]
  show (if ws.length = 2 then EV.runB (EV.cSs gG (EV.Fn gG gP d) x_Stretch_least (defScope s_Stretch_least) 300 (defBody s_Stretch_least)) [("self" : Str), ("other" : Str)] ws S else .bad) = _
  rw [me_Stretch_least]
def m_Stretch_greatest (F : EV.Fenv) : EV.M EV.Fl := (EV.sRet (EV.mMake F "Stretch" ("Stretch" ++ ".__init__") (EV.mCons (EV.mBlt .max (EV.mCons (EV.mFld (EV.mVarB 0) "low" fun c => gG.fld.contains (c, ("low" : Str))) (EV.mCons (EV.mFld (EV.mVarB 1) "low" fun c => gG.fld.contains (c, ("low" : Str))) EV.mNil))) (EV.mCons (EV.mBlt .max (EV.mCons (EV.mFld (EV.mVarB 0) "high" fun c => gG.fld.contains (c, ("high" : Str))) (EV.mCons (EV.mFld (EV.mVarB 1) "high" fun c => gG.fld.contains (c, ("high" : Str))) EV.mNil))) EV.mNil))))
theorem me_Stretch_greatest (F : EV.Fenv) : EV.cSs gG F x_Stretch_greatest (defScope s_Stretch_greatest) 300 (defBody s_Stretch_greatest) = m_Stretch_greatest F := by kernel_rfl
theorem fe_Stretch_greatest (d : Nat) (ws : List EV.W) (S : EV.Sto) : EV.Fn gG gP (d + 1) "Stretch.greatest" ws S = if ws.length = 2 then EV.runB (m_Stretch_greatest (EV.Fn gG gP d)) [("self" : Str), ("other" : Str)] ws S else .bad := by
  have e : gP.lookup ("Stretch.greatest" : Str) = some (⟨x_Stretch_greatest, defScope s_Stretch_greatest, defBody s_Stretch_greatest, 2⟩ : EV.DefI) := by kernel_rfl
  rw [EV.fn_eq e]
  show (if ws.length = 2 then EV.runB (EV.cSs gG (EV.Fn gG gP d) x_Stretch_greatest (defScope s_Stretch_greatest) 300 (defBody s_Stretch_greatest)) [("self" : Str), ("other" : Str)] ws S else .bad) = _
  rw [me_Stretch_greatest]
def m_Stretch_within (F : EV.Fenv) : EV.M EV.Fl := (EV.sRet (EV.mAndV (EV.mCmp .LtE (EV.mFld (EV.mVarB 1) "low" fun c => gG.fld.contains (c, ("low" : Str))) (EV.mFld (EV.mVarB 0) "low" fun c => gG.fld.contains (c, ("low" : Str)))) (EV.mCmp .LtE (EV.mFld (EV.mVarB 0) "high" fun c => gG.fld.contains (c, ("high" : Str))) (EV.mFld (EV.mVarB 1) "high" fun c => gG.fld.contains (c, ("high" : Str))))))
theorem me_Stretch_within (F : EV.Fenv) : EV.cSs gG F x_Stretch_within (defScope s_Stretch_within) 300 (defBody s_Stretch_within) = m_Stretch_within F := by kernel_rfl
theorem fe_Stretch_within (d : Nat) (ws : List EV.W) (S : EV.Sto) : EV.Fn gG gP (d + 1) "Stretch.within" ws S = if ws.length = 2 then EV.runB (m_Stretch_within (EV.Fn gG gP d)) [("self" : Str), ("other" : Str)] ws S else .bad := by
  have e : gP.lookup ("Stretch.within" : Str) = some (⟨x_Stretch_within, defScope s_Stretch_within, defBody s_Stretch_within, 2⟩ : EV.DefI) := by kernel_rfl
  rw [EV.fn_eq e]
  show (if ws.length = 2 then EV.runB (EV.cSs gG (EV.Fn gG gP d) x_Stretch_within (defScope s_Stretch_within) 300 (defBody s_Stretch_within)) [("self" : Str), ("other" : Str)] ws S else .bad) = _
  rw [me_Stretch_within]
def m_Stretch_is_point (F : EV.Fenv) : EV.M EV.Fl := (EV.sRet (EV.mCmp .Eq (EV.mFld (EV.mVarB 0) "low" fun c => gG.fld.contains (c, ("low" : Str))) (EV.mFld (EV.mVarB 0) "high" fun c => gG.fld.contains (c, ("high" : Str)))))
theorem me_Stretch_is_point (F : EV.Fenv) : EV.cSs gG F x_Stretch_is_point (defScope s_Stretch_is_point) 300 (defBody s_Stretch_is_point) = m_Stretch_is_point F := by kernel_rfl
theorem fe_Stretch_is_point (d : Nat) (ws : List EV.W) (S : EV.Sto) : EV.Fn gG gP (d + 1) "Stretch.is_point" ws S = if ws.length = 1 then EV.runB (m_Stretch_is_point (EV.Fn gG gP d)) [("self" : Str)] ws S else .bad := by
  have e : gP.lookup ("Stretch.is_point" : Str) = some (⟨x_Stretch_is_point, defScope s_Stretch_is_point, defBody s_Stretch_is_point, 1⟩ : EV.DefI) := by kernel_rfl
  rw [EV.fn_eq e]
  show (if ws.length = 1 then EV.runB (EV.cSs gG (EV.Fn gG gP d) x_Stretch_is_point (defScope s_Stretch_is_point) 300 (defBody s_Stretch_is_point)) [("self" : Str)] ws S else .bad) = _
  rw [me_Stretch_is_point]
def m_Stretch_saturated (F : EV.Fenv) : EV.M EV.Fl := (EV.sFrz [1, 1] (EV.sRet (EV.mMake F "Stretch" ("Stretch" ++ ".__init__") (EV.mCons (EV.mCall F "saturate" (EV.mCons (EV.mFld (EV.mVarB 0) "low" fun c => gG.fld.contains (c, ("low" : Str))) (EV.mCons (EV.mVar 1) EV.mNil)) []) (EV.mCons (EV.mCall F "saturate" (EV.mCons (EV.mFld (EV.mVarB 0) "high" fun c => gG.fld.contains (c, ("high" : Str))) (EV.mCons (EV.mVar 1) EV.mNil)) []) EV.mNil)))))
theorem me_Stretch_saturated (F : EV.Fenv) : EV.cSs gG F x_Stretch_saturated (defScope s_Stretch_saturated) 300 (defBody s_Stretch_saturated) = m_Stretch_saturated F := by kernel_rfl
theorem fe_Stretch_saturated (d : Nat) (ws : List EV.W) (S : EV.Sto) : EV.Fn gG gP (d + 1) "Stretch.saturated" ws S = if ws.length = 2 then EV.runB (m_Stretch_saturated (EV.Fn gG gP d)) [("self" : Str), ("top" : Str)] ws S else .bad := by
  have e : gP.lookup ("Stretch.saturated" : Str) = some (⟨x_Stretch_saturated, defScope s_Stretch_saturated, defBody s_Stretch_saturated, 2⟩ : EV.DefI) := by kernel_rfl
  rw [EV.fn_eq e]
  show (if ws.length = 2 then EV.runB (EV.cSs gG (EV.Fn gG gP d) x_Stretch_saturated (defScope s_Stretch_saturated) 300 (defBody s_Stretch_saturated)) [("self" : Str), ("top" : Str)] ws S else .bad) = _
  rw [me_Stretch_saturated]
def m_Stretch_pair (F : EV.Fenv) : EV.M EV.Fl := (EV.sRet (EV.mTup (EV.mCons (EV.mFld (EV.mVarB 0) "low" fun c => gG.fld.contains (c, ("low" : Str))) (EV.mCons (EV.mFld (EV.mVarB 0) "high" fun c => gG.fld.contains (c, ("high" : Str))) EV.mNil))))
theorem me_Stretch_pair (F : EV.Fenv) : EV.cSs gG F x_Stretch_pair (defScope s_Stretch_pair) 300 (defBody s_Stretch_pair) = m_Stretch_pair F := by kernel_rfl
theorem fe_Stretch_pair (d : Nat) (ws : List EV.W) (S : EV.Sto) : EV.Fn gG gP (d + 1) "Stretch.pair" ws S = if ws.length = 1 then EV.runB (m_Stretch_pair (EV.Fn gG gP d)) [("self" : Str)] ws S else .bad := by
  have e : gP.lookup ("Stretch.pair" : Str) = some (⟨x_Stretch_pair, defScope s_Stretch_pair, defBody s_Stretch_pair, 1⟩ : EV.DefI) := by kernel_rfl
  rw [EV.fn_eq e]
  show (if ws.length = 1 then EV.runB (EV.cSs gG (EV.Fn gG gP d) x_Stretch_pair (defScope s_Stretch_pair) 300 (defBody s_Stretch_pair)) [("self" : Str)] ws S else .bad) = _
  rw [me_Stretch_pair]
def m_lw_bag (F : EV.Fenv) : EV.M EV.Fl := (EV.sSeq (EV.sSet 2 (EV.mC (.int 0)))
  (EV.sSeq (EV.sIf (EV.mCmpT .Lt (EV.mVarB 1) (EV.mBlt .len (EV.mCons (EV.mVarB 0) EV.mNil))) (EV.sSet 2 (EV.mIx (EV.mVarB 0) (EV.mVarB 1))) EV.sNext)
  (EV.sSeq (EV.sIf (EV.mCmpT .Lt (EV.mVarB 2) (EV.mC (.int 0))) (EV.sSetF 2 (EV.mBin .Sub (EV.mC (.int 1)) (EV.mBin .Mult (EV.mC (.int 2)) (EV.mVarB 2)))) EV.sNext)
  (EV.sSeq (EV.sIf (EV.mCmpT .GtE (EV.mVarB 2) (EV.mBin .Pow (EV.mC (.int 10)) (EV.mC (.int 18)))) (EV.sFrz [1] (EV.sRet (EV.mToLoc (EV.mLst (EV.mCons (EV.mBin .Sub (EV.mVarB 2) (EV.mBin .Pow (EV.mC (.int 10)) (EV.mC (.int 18)))) (EV.mCons (EV.mVar 1) (EV.mCons (EV.mC (.int 1)) EV.mNil))))))) EV.sNext)
  (EV.sFrz [2, 1] (EV.sRet (EV.mToLoc (EV.mLst (EV.mCons (EV.mVar 2) (EV.mCons (EV.mVar 1) (EV.mCons (EV.mC (.int 0)) EV.mNil)))))))))))
theorem me_lw_bag (F : EV.Fenv) : EV.cSs gG F x_lw_bag (defScope s_lw_bag) 300 (defBody s_lw_bag) = m_lw_bag F := by kernel_rfl
theorem fe_lw_bag (d : Nat) (ws : List EV.W) (S : EV.Sto) : EV.Fn gG gP (d + 1) "_law_bag" ws S = if ws.length = 2 then EV.runB (m_lw_bag (EV.Fn gG gP d)) [("script" : Str), ("at" : Str), ("cell" : Str)] ws S else .bad := by
  have e : gP.lookup ("_law_bag" : Str) = some (⟨x_lw_bag, defScope s_lw_bag, defBody s_lw_bag, 2⟩ : EV.DefI) := by kernel_rfl
  rw [EV.fn_eq e]
  show (if ws.length = 2 then EV.runB (EV.cSs gG (EV.Fn gG gP d) x_lw_bag (defScope s_lw_bag) 300 (defBody s_lw_bag)) [("script" : Str), ("at" : Str), ("cell" : Str)] ws S else .bad) = _
  rw [me_lw_bag]
def m_lw_take (F : EV.Fenv) : EV.M EV.Fl := (EV.sSeq (EV.sIf (EV.mAnd (EV.mCmpT .Eq (EV.mIx (EV.mVarB 0) (EV.mC (.int 2))) (EV.mC (.int 1))) (EV.mCmpT .Gt (EV.mIx (EV.mVarB 0) (EV.mC (.int 0))) (EV.mC (.int 1)))) (EV.sSeq (EV.sSetF 2 (EV.mBin .Mod (EV.mBlt .int (EV.mCons (EV.mIx (EV.mVarB 0) (EV.mC (.int 0))) EV.mNil)) (EV.mVarB 1)))
  (EV.sSeq (EV.sPut 0 (EV.mVarB 0) (EV.mC (.int 0)) (EV.mBin .FloorDiv (EV.mIx (EV.mVarB 0) (EV.mC (.int 0))) (EV.mVarB 1)))
  (EV.sFrz [2] (EV.sRet (EV.mVar 2))))) EV.sNext)
  (EV.sSeq (EV.sPut 0 (EV.mVarB 0) (EV.mC (.int 1)) (EV.mBin .Add (EV.mIx (EV.mVarB 0) (EV.mC (.int 1))) (EV.mC (.int 1))))
  (EV.sSeq (EV.sSetF 3 (EV.mBin .Mod (EV.mBlt .int (EV.mCons (EV.mBin .Add (EV.mBin .Add (EV.mBin .Mult (EV.mIx (EV.mVarB 0) (EV.mC (.int 0))) (EV.mC (.int 48271))) (EV.mBin .Mult (EV.mIx (EV.mVarB 0) (EV.mC (.int 1))) (EV.mC (.int 69621)))) (EV.mC (.int 12345))) EV.mNil)) (EV.mC (.int 2147483647))))
  (EV.sSeq (EV.sSetF 4 (EV.mBin .Mod (EV.mBlt .int (EV.mCons (EV.mBin .Add (EV.mBin .Mult (EV.mVarB 3) (EV.mVarB 3)) (EV.mBin .Mult (EV.mIx (EV.mVarB 0) (EV.mC (.int 1))) (EV.mC (.int 40692)))) EV.mNil)) (EV.mC (.int 2147483399))))
  (EV.sSeq (EV.sSetF 5 (EV.mBin .Mod (EV.mBlt .int (EV.mCons (EV.mBin .Add (EV.mBin .Mult (EV.mVarB 4) (EV.mVarB 4)) (EV.mVarB 3)) EV.mNil)) (EV.mC (.int 1000000007))))
  (EV.sRet (EV.mBin .Mod (EV.mBlt .int (EV.mCons (EV.mBin .FloorDiv (EV.mVarB 5) (EV.mC (.int 7))) EV.mNil)) (EV.mVarB 1))))))))
theorem me_lw_take (F : EV.Fenv) : EV.cSs gG F x_lw_take (defScope s_lw_take) 300 (defBody s_lw_take) = m_lw_take F := by kernel_rfl
theorem fe_lw_take (d : Nat) (ws : List EV.W) (S : EV.Sto) : EV.Fn gG gP (d + 1) "_law_take" ws S = if ws.length = 2 then EV.runB (m_lw_take (EV.Fn gG gP d)) [("bag" : Str), ("many" : Str), ("digit" : Str), ("one" : Str), ("two" : Str), ("three" : Str)] ws S else .bad := by
  have e : gP.lookup ("_law_take" : Str) = some (⟨x_lw_take, defScope s_lw_take, defBody s_lw_take, 2⟩ : EV.DefI) := by kernel_rfl
  rw [EV.fn_eq e]
  show (if ws.length = 2 then EV.runB (EV.cSs gG (EV.Fn gG gP d) x_lw_take (defScope s_lw_take) 300 (defBody s_lw_take)) [("bag" : Str), ("many" : Str), ("digit" : Str), ("one" : Str), ("two" : Str), ("three" : Str)] ws S else .bad) = _
  rw [me_lw_take]
def m_lw_pick (F : EV.Fenv) : EV.M EV.Fl := (EV.sFrz [0] (EV.sRet (EV.mIx (EV.mVarB 1) (EV.mCall F "_law_take" (EV.mCons (EV.mVar 0) (EV.mCons (EV.mBlt .len (EV.mCons (EV.mVarB 1) EV.mNil)) EV.mNil)) []))))
theorem me_lw_pick (F : EV.Fenv) : EV.cSs gG F x_lw_pick (defScope s_lw_pick) 300 (defBody s_lw_pick) = m_lw_pick F := by kernel_rfl
theorem fe_lw_pick (d : Nat) (ws : List EV.W) (S : EV.Sto) : EV.Fn gG gP (d + 1) "_law_pick" ws S = if ws.length = 2 then EV.runB (m_lw_pick (EV.Fn gG gP d)) [("bag" : Str), ("menu" : Str)] ws S else .bad := by
  have e : gP.lookup ("_law_pick" : Str) = some (⟨x_lw_pick, defScope s_lw_pick, defBody s_lw_pick, 2⟩ : EV.DefI) := by kernel_rfl
  rw [EV.fn_eq e]
  show (if ws.length = 2 then EV.runB (EV.cSs gG (EV.Fn gG gP d) x_lw_pick (defScope s_lw_pick) 300 (defBody s_lw_pick)) [("bag" : Str), ("menu" : Str)] ws S else .bad) = _
  rw [me_lw_pick]
def m_lw_same (F : EV.Fenv) : EV.M EV.Fl := (EV.sSeq (EV.sIf (EV.mOr (EV.mTru (EV.mBlt .isinstance (EV.mCons (EV.mVarB 1) (EV.mCons (EV.mC (.ty "tuple")) EV.mNil)))) (EV.mTru (EV.mBlt .isinstance (EV.mCons (EV.mVarB 1) (EV.mCons (EV.mC (.ty "list")) EV.mNil))))) (EV.sSeq (EV.sIf (EV.mOr (EV.mCmpT .NotEq (EV.mBlt .isinstance (EV.mCons (EV.mVarB 1) (EV.mCons (EV.mC (.ty "tuple")) EV.mNil))) (EV.mBlt .isinstance (EV.mCons (EV.mVarB 0) (EV.mCons (EV.mC (.ty "tuple")) EV.mNil)))) (EV.mCmpT .NotEq (EV.mBlt .isinstance (EV.mCons (EV.mVarB 1) (EV.mCons (EV.mC (.ty "list")) EV.mNil))) (EV.mBlt .isinstance (EV.mCons (EV.mVarB 0) (EV.mCons (EV.mC (.ty "list")) EV.mNil))))) (EV.sRet (EV.mC (.bl false))) EV.sNext)
  (EV.sSeq (EV.sIf (EV.mCmpT .NotEq (EV.mBlt .len (EV.mCons (EV.mVarB 0) EV.mNil)) (EV.mBlt .len (EV.mCons (EV.mVarB 1) EV.mNil))) (EV.sRet (EV.mC (.bl false))) EV.sNext)
  (EV.sSeq (EV.sFor (EV.mRng1 (EV.mBlt .len (EV.mCons (EV.mVarB 1) EV.mNil))) (EV.bName 2) (EV.sIf (EV.mNotT (EV.mTru (EV.mCall F "_law_same" (EV.mCons (EV.mIx (EV.mVarB 0) (EV.mVarB 2)) (EV.mCons (EV.mIx (EV.mVarB 1) (EV.mVarB 2)) EV.mNil)) []))) (EV.sRet (EV.mC (.bl false))) EV.sNext))
  (EV.sRet (EV.mC (.bl true)))))) EV.sNext)
  (EV.sSeq (EV.sIf (EV.mOr (EV.mTru (EV.mBlt .isinstance (EV.mCons (EV.mVarB 1) (EV.mCons (EV.mC (.ty "bool")) EV.mNil)))) (EV.mTru (EV.mBlt .isinstance (EV.mCons (EV.mVarB 0) (EV.mCons (EV.mC (.ty "bool")) EV.mNil))))) (EV.sRet (EV.mAndV (EV.mBlt .isinstance (EV.mCons (EV.mVarB 1) (EV.mCons (EV.mC (.ty "bool")) EV.mNil))) (EV.mAndV (EV.mBlt .isinstance (EV.mCons (EV.mVarB 0) (EV.mCons (EV.mC (.ty "bool")) EV.mNil))) (EV.mCmp .Eq (EV.mVarB 0) (EV.mVarB 1))))) EV.sNext)
  (EV.sSeq (EV.sIf (EV.mTru (EV.mBlt .isinstance (EV.mCons (EV.mVarB 1) (EV.mCons (EV.mC (.ty "int")) EV.mNil)))) (EV.sRet (EV.mAndV (EV.mBlt .isinstance (EV.mCons (EV.mVarB 0) (EV.mCons (EV.mC (.ty "int")) EV.mNil))) (EV.mCmp .Eq (EV.mVarB 0) (EV.mVarB 1)))) EV.sNext)
  (EV.sSeq (EV.sIf (EV.mTru (EV.mBlt .isinstance (EV.mCons (EV.mVarB 1) (EV.mCons (EV.mC (.ty "str")) EV.mNil)))) (EV.sRet (EV.mAndV (EV.mBlt .isinstance (EV.mCons (EV.mVarB 0) (EV.mCons (EV.mC (.ty "str")) EV.mNil))) (EV.mCmp .Eq (EV.mVarB 0) (EV.mVarB 1)))) EV.sNext)
  (EV.sRet (EV.mAndV (EV.mCmp .Is (EV.mVarB 0) (EV.mC (.non))) (EV.mCmp .Is (EV.mVarB 1) (EV.mC (.non)))))))))
theorem me_lw_same (F : EV.Fenv) : EV.cSs gG F x_lw_same (defScope s_lw_same) 300 (defBody s_lw_same) = m_lw_same F := by kernel_rfl
theorem fe_lw_same (d : Nat) (ws : List EV.W) (S : EV.Sto) : EV.Fn gG gP (d + 1) "_law_same" ws S = if ws.length = 2 then EV.runB (m_lw_same (EV.Fn gG gP d)) [("got" : Str), ("due" : Str), ("k" : Str)] ws S else .bad := by
  have e : gP.lookup ("_law_same" : Str) = some (⟨x_lw_same, defScope s_lw_same, defBody s_lw_same, 2⟩ : EV.DefI) := by kernel_rfl
  rw [EV.fn_eq e]
  show (if ws.length = 2 then EV.runB (EV.cSs gG (EV.Fn gG gP d) x_lw_same (defScope s_lw_same) 300 (defBody s_lw_same)) [("got" : Str), ("due" : Str), ("k" : Str)] ws S else .bad) = _
  rw [me_lw_same]
def m_lw_end (F : EV.Fenv) : EV.M EV.Fl := (EV.sSeq (EV.sFrz [0] (EV.sSet 1 (EV.mCall F "_law_take" (EV.mCons (EV.mVar 0) (EV.mCons (EV.mC (.int 7)) EV.mNil)) [])))
  (EV.sSeq (EV.sIf (EV.mCmpT .Lt (EV.mVarB 1) (EV.mC (.int 4))) (EV.sFrz [0] (EV.sRet (EV.mBin .Sub (EV.mCall F "_law_take" (EV.mCons (EV.mVar 0) (EV.mCons (EV.mC (.int 13)) EV.mNil)) []) (EV.mC (.int 6))))) EV.sNext)
  (EV.sSeq (EV.sIf (EV.mCmpT .Eq (EV.mVarB 1) (EV.mC (.int 4))) (EV.sFrz [0, 0] (EV.sRet (EV.mBin .Sub (EV.mBin .Add (EV.mCall F "_law_pick" (EV.mCons (EV.mVar 0) (EV.mCons (EV.mLst (EV.mCons (EV.mC (.int 0)) (EV.mCons (EV.mC (.int 999999)) (EV.mCons (EV.mUn .USub (EV.mC (.int 999999))) EV.mNil)))) EV.mNil)) []) (EV.mCall F "_law_take" (EV.mCons (EV.mVar 0) (EV.mCons (EV.mC (.int 5)) EV.mNil)) [])) (EV.mC (.int 2))))) EV.sNext)
  (EV.sSeq (EV.sIf (EV.mCmpT .Eq (EV.mVarB 1) (EV.mC (.int 5))) (EV.sFrz [0] (EV.sRet (EV.mBin .Sub (EV.mCall F "_law_take" (EV.mCons (EV.mVar 0) (EV.mCons (EV.mC (.int 2000003)) EV.mNil)) []) (EV.mC (.int 1000001))))) EV.sNext)
  (EV.sFrz [0, 0] (EV.sRet (EV.mBin .Mult (EV.mCall F "_law_pick" (EV.mCons (EV.mVar 0) (EV.mCons (EV.mLst (EV.mCons (EV.mC (.int 1)) (EV.mCons (EV.mUn .USub (EV.mC (.int 1))) EV.mNil))) EV.mNil)) []) (EV.mCall F "_law_take" (EV.mCons (EV.mVar 0) (EV.mCons (EV.mBin .Pow (EV.mC (.int 10)) (EV.mC (.int 40))) EV.mNil)) []))))))))
theorem me_lw_end (F : EV.Fenv) : EV.cSs gG F x_lw_end (defScope s_lw_end) 300 (defBody s_lw_end) = m_lw_end F := by kernel_rfl
theorem fe_lw_end (d : Nat) (ws : List EV.W) (S : EV.Sto) : EV.Fn gG gP (d + 1) "_law_end" ws S = if ws.length = 1 then EV.runB (m_lw_end (EV.Fn gG gP d)) [("bag" : Str), ("way" : Str)] ws S else .bad := by
  have e : gP.lookup ("_law_end" : Str) = some (⟨x_lw_end, defScope s_lw_end, defBody s_lw_end, 1⟩ : EV.DefI) := by kernel_rfl
  rw [EV.fn_eq e]
  show (if ws.length = 1 then EV.runB (EV.cSs gG (EV.Fn gG gP d) x_lw_end (defScope s_lw_end) 300 (defBody s_lw_end)) [("bag" : Str), ("way" : Str)] ws S else .bad) = _
  rw [me_lw_end]
def m_lw_span (F : EV.Fenv) : EV.M EV.Fl := (EV.sSeq (EV.sFrz [0] (EV.sSet 1 (EV.mCall F "_law_end" (EV.mCons (EV.mVar 0) EV.mNil) [])))
  (EV.sSeq (EV.sFrz [1] (EV.sSet 2 (EV.mVar 1)))
  (EV.sSeq (EV.sFrz [0] (EV.sIf (EV.mCmpT .Gt (EV.mCall F "_law_take" (EV.mCons (EV.mVar 0) (EV.mCons (EV.mC (.int 4)) EV.mNil)) []) (EV.mC (.int 0))) (EV.sFrz [0] (EV.sSet 2 (EV.mCall F "_law_end" (EV.mCons (EV.mVar 0) EV.mNil) []))) EV.sNext))
  (EV.sRet (EV.mTup (EV.mCons (EV.mBlt .min (EV.mCons (EV.mVarB 1) (EV.mCons (EV.mVarB 2) EV.mNil))) (EV.mCons (EV.mBlt .max (EV.mCons (EV.mVarB 1) (EV.mCons (EV.mVarB 2) EV.mNil))) EV.mNil)))))))
theorem me_lw_span (F : EV.Fenv) : EV.cSs gG F x_lw_span (defScope s_lw_span) 300 (defBody s_lw_span) = m_lw_span F := by kernel_rfl
theorem fe_lw_span (d : Nat) (ws : List EV.W) (S : EV.Sto) : EV.Fn gG gP (d + 1) "_law_span" ws S = if ws.length = 1 then EV.runB (m_lw_span (EV.Fn gG gP d)) [("bag" : Str), ("one" : Str), ("two" : Str)] ws S else .bad := by
  have e : gP.lookup ("_law_span" : Str) = some (⟨x_lw_span, defScope s_lw_span, defBody s_lw_span, 1⟩ : EV.DefI) := by kernel_rfl
  rw [EV.fn_eq e]
  show (if ws.length = 1 then EV.runB (EV.cSs gG (EV.Fn gG gP d) x_lw_span (defScope s_lw_span) 300 (defBody s_lw_span)) [("bag" : Str), ("one" : Str), ("two" : Str)] ws S else .bad) = _
  rw [me_lw_span]
def m_lw_some (F : EV.Fenv) : EV.M EV.Fl := (EV.sSeq (EV.sSetF 2 (EV.mBin .Add (EV.mBin .Sub (EV.mIx (EV.mVarB 1) (EV.mC (.int 1))) (EV.mIx (EV.mVarB 1) (EV.mC (.int 0)))) (EV.mC (.int 1))))
  (EV.sSeq (EV.sIf (EV.mCmpT .LtE (EV.mVarB 2) (EV.mC (.int 6))) (EV.sFrz [2] (EV.sRet (EV.mLc (EV.mRng1 (EV.mVarB 2)) (EV.bName 3) EV.mYes (EV.mBin .Add (EV.mIx (EV.mVarB 1) (EV.mC (.int 0))) (EV.mVarB 3)) [3]))) EV.sNext)
  (EV.sFrz [0, 2] (EV.sRet (EV.mLst (EV.mCons (EV.mIx (EV.mVarB 1) (EV.mC (.int 0))) (EV.mCons (EV.mBin .Add (EV.mIx (EV.mVarB 1) (EV.mC (.int 0))) (EV.mC (.int 1))) (EV.mCons (EV.mBin .Add (EV.mIx (EV.mVarB 1) (EV.mC (.int 0))) (EV.mCall F "_law_take" (EV.mCons (EV.mVar 0) (EV.mCons (EV.mVar 2) EV.mNil)) [])) (EV.mCons (EV.mBin .Sub (EV.mIx (EV.mVarB 1) (EV.mC (.int 1))) (EV.mC (.int 1))) (EV.mCons (EV.mIx (EV.mVarB 1) (EV.mC (.int 1))) EV.mNil))))))))))
theorem me_lw_some (F : EV.Fenv) : EV.cSs gG F x_lw_some (defScope s_lw_some) 300 (defBody s_lw_some) = m_lw_some F := by kernel_rfl
theorem fe_lw_some (d : Nat) (ws : List EV.W) (S : EV.Sto) : EV.Fn gG gP (d + 1) "_law_some" ws S = if ws.length = 2 then EV.runB (m_lw_some (EV.Fn gG gP d)) [("bag" : Str), ("span" : Str), ("wide" : Str), ("k" : Str)] ws S else .bad := by
  have e : gP.lookup ("_law_some" : Str) = some (⟨x_lw_some, defScope s_lw_some, defBody s_lw_some, 2⟩ : EV.DefI) := by kernel_rfl
  rw [EV.fn_eq e]
  show (if ws.length = 2 then EV.runB (EV.cSs gG (EV.Fn gG gP d) x_lw_some (defScope s_lw_some) 300 (defBody s_lw_some)) [("bag" : Str), ("span" : Str), ("wide" : Str), ("k" : Str)] ws S else .bad) = _
  rw [me_lw_some]
def m_lw_outcome (F : EV.Fenv) : EV.M EV.Fl := (EV.sSeq (EV.sIf (EV.mCmpT .Eq (EV.mVarB 0) (EV.mC (.str "point"))) (EV.sFrz [3] (EV.sRet (EV.mVar 3))) EV.sNext)
  (EV.sSeq (EV.sIf (EV.mCmpT .Eq (EV.mVarB 0) (EV.mC (.str "saturated"))) (EV.sRet (EV.mBlt .max (EV.mCons (EV.mC (.int 0)) (EV.mCons (EV.mBlt .min (EV.mCons (EV.mBlt .abs (EV.mCons (EV.mVarB 3) EV.mNil)) (EV.mCons (EV.mVarB 1) EV.mNil))) EV.mNil)))) EV.sNext)
  (EV.sSeq (EV.sIf (EV.mCmpT .In (EV.mVarB 0) (EV.mTup (EV.mCons (EV.mC (.str "least")) (EV.mCons (EV.mC (.str "greatest")) EV.mNil)))) (EV.sRet (EV.mIx (EV.mDict [((EV.mC (.str "least")), (EV.mBlt .min (EV.mCons (EV.mVarB 1) (EV.mCons (EV.mVarB 2) EV.mNil)))), ((EV.mC (.str "greatest")), (EV.mBlt .max (EV.mCons (EV.mVarB 1) (EV.mCons (EV.mVarB 2) EV.mNil))))]) (EV.mVarB 0))) EV.sNext)
  (EV.sRet (EV.mBlt .max (EV.mCons (EV.mUn .USub (EV.mC (.int 999999))) (EV.mCons (EV.mBlt .min (EV.mCons (EV.mC (.int 999999)) (EV.mCons (EV.mIx (EV.mDict [((EV.mC (.str "add")), (EV.mBin .Add (EV.mVarB 1) (EV.mVarB 2))), ((EV.mC (.str "sub")), (EV.mBin .Sub (EV.mVarB 1) (EV.mVarB 2))), ((EV.mC (.str "mul")), (EV.mBin .Mult (EV.mVarB 1) (EV.mVarB 2)))]) (EV.mVarB 0)) EV.mNil))) EV.mNil)))))))
theorem me_lw_outcome (F : EV.Fenv) : EV.cSs gG F x_lw_outcome (defScope s_lw_outcome) 300 (defBody s_lw_outcome) = m_lw_outcome F := by kernel_rfl
theorem fe_lw_outcome (d : Nat) (ws : List EV.W) (S : EV.Sto) : EV.Fn gG gP (d + 1) "_law_outcome" ws S = if ws.length = 4 then EV.runB (m_lw_outcome (EV.Fn gG gP d)) [("name" : Str), ("x" : Str), ("y" : Str), ("n" : Str)] ws S else .bad := by
  have e : gP.lookup ("_law_outcome" : Str) = some (⟨x_lw_outcome, defScope s_lw_outcome, defBody s_lw_outcome, 4⟩ : EV.DefI) := by kernel_rfl
  rw [EV.fn_eq e]
  show (if ws.length = 4 then EV.runB (EV.cSs gG (EV.Fn gG gP d) x_lw_outcome (defScope s_lw_outcome) 300 (defBody s_lw_outcome)) [("name" : Str), ("x" : Str), ("y" : Str), ("n" : Str)] ws S else .bad) = _
  rw [me_lw_outcome]
def m_lw_outcomes (F : EV.Fenv) : EV.M EV.Fl := (EV.sSeq (EV.sIf (EV.mCmpT .Eq (EV.mVarB 0) (EV.mC (.str "hull"))) (EV.sRet (EV.mBin .Add (EV.mVarB 1) (EV.mVarB 2))) EV.sNext)
  (EV.sSeq (EV.sSetF 4 (EV.mLst EV.mNil))
  (EV.sSeq (EV.sFrz [1] (EV.sFor (EV.mIt (EV.mVar 1)) (EV.bName 5) (EV.sFrz [0, 5, 6, 3, 2] (EV.sMut (EV.mutE F (fun c => gG.mts.lookup (c, ("extend" : Str))) .extend "extend" 4 (EV.mCons (EV.mLc (EV.mIt (EV.mVar 2)) (EV.bName 6) EV.mYes (EV.mCall F "_law_outcome" (EV.mCons (EV.mVar 0) (EV.mCons (EV.mVar 5) (EV.mCons (EV.mVar 6) (EV.mCons (EV.mVar 3) EV.mNil)))) []) [6]) EV.mNil))))))
  (EV.sFrz [4] (EV.sRet (EV.mVar 4))))))
theorem me_lw_outcomes (F : EV.Fenv) : EV.cSs gG F x_lw_outcomes (defScope s_lw_outcomes) 300 (defBody s_lw_outcomes) = m_lw_outcomes F := by kernel_rfl
theorem fe_lw_outcomes (d : Nat) (ws : List EV.W) (S : EV.Sto) : EV.Fn gG gP (d + 1) "_law_outcomes" ws S = if ws.length = 4 then EV.runB (m_lw_outcomes (EV.Fn gG gP d)) [("name" : Str), ("xs" : Str), ("ys" : Str), ("n" : Str), ("rows" : Str), ("x" : Str), ("y" : Str)] ws S else .bad := by
  have e : gP.lookup ("_law_outcomes" : Str) = some (⟨x_lw_outcomes, defScope s_lw_outcomes, defBody s_lw_outcomes, 4⟩ : EV.DefI) := by kernel_rfl
  rw [EV.fn_eq e]
  show (if ws.length = 4 then EV.runB (EV.cSs gG (EV.Fn gG gP d) x_lw_outcomes (defScope s_lw_outcomes) 300 (defBody s_lw_outcomes)) [("name" : Str), ("xs" : Str), ("ys" : Str), ("n" : Str), ("rows" : Str), ("x" : Str), ("y" : Str)] ws S else .bad) = _
  rw [me_lw_outcomes]
def m_lw_made (F : EV.Fenv) : EV.M EV.Fl := (EV.sSeq (EV.sIf (EV.mCmpT .Eq (EV.mVarB 0) (EV.mC (.str "add"))) (EV.sRet (EV.mOpI F (EV.ownI gG ("__add__" : Str)) (EV.mVar 1) (EV.mVar 2))) EV.sNext)
  (EV.sSeq (EV.sIf (EV.mCmpT .Eq (EV.mVarB 0) (EV.mC (.str "sub"))) (EV.sRet (EV.mOpI F (EV.ownI gG ("__sub__" : Str)) (EV.mVar 1) (EV.mVar 2))) EV.sNext)
  (EV.sSeq (EV.sIf (EV.mCmpT .Eq (EV.mVarB 0) (EV.mC (.str "mul"))) (EV.sRet (EV.mOpI F (EV.ownI gG ("__mul__" : Str)) (EV.mVar 1) (EV.mVar 2))) EV.sNext)
  (EV.sSeq (EV.sIf (EV.mCmpT .Eq (EV.mVarB 0) (EV.mC (.str "hull"))) (EV.sRet (EV.mOpI F (EV.ownI gG ("__or__" : Str)) (EV.mVar 1) (EV.mVar 2))) EV.sNext)
  (EV.sSeq (EV.sIf (EV.mCmpT .Eq (EV.mVarB 0) (EV.mC (.str "least"))) (EV.sFrz [2] (EV.sRet (EV.mMeth F (fun c => gG.mts.lookup (c, ("least" : Str))) .other "least" (EV.mVarB 1) (EV.mCons (EV.mVar 2) EV.mNil)))) EV.sNext)
  (EV.sSeq (EV.sIf (EV.mCmpT .Eq (EV.mVarB 0) (EV.mC (.str "greatest"))) (EV.sFrz [2] (EV.sRet (EV.mMeth F (fun c => gG.mts.lookup (c, ("greatest" : Str))) .other "greatest" (EV.mVarB 1) (EV.mCons (EV.mVar 2) EV.mNil)))) EV.sNext)
  (EV.sSeq (EV.sIf (EV.mCmpT .Eq (EV.mVarB 0) (EV.mC (.str "saturated"))) (EV.sRet (EV.mMeth F (fun c => gG.mts.lookup (c, ("saturated" : Str))) .other "saturated" (EV.mVarB 1) (EV.mCons (EV.mBlt .abs (EV.mCons (EV.mVarB 3) EV.mNil)) EV.mNil))) EV.sNext)
  (EV.sFrz [3] (EV.sRet (EV.mCall F "Stretch.point" (EV.mCons (EV.mVar 3) EV.mNil) []))))))))))
theorem me_lw_made (F : EV.Fenv) : EV.cSs gG F x_lw_made (defScope s_lw_made) 300 (defBody s_lw_made) = m_lw_made F := by kernel_rfl
theorem fe_lw_made (d : Nat) (ws : List EV.W) (S : EV.Sto) : EV.Fn gG gP (d + 1) "_law_made" ws S = if ws.length = 4 then EV.runB (m_lw_made (EV.Fn gG gP d)) [("name" : Str), ("one" : Str), ("two" : Str), ("n" : Str)] ws S else .bad := by
  have e : gP.lookup ("_law_made" : Str) = some (⟨x_lw_made, defScope s_lw_made, defBody s_lw_made, 4⟩ : EV.DefI) := by kernel_rfl
  rw [EV.fn_eq e]
  show (if ws.length = 4 then EV.runB (EV.cSs gG (EV.Fn gG gP d) x_lw_made (defScope s_lw_made) 300 (defBody s_lw_made)) [("name" : Str), ("one" : Str), ("two" : Str), ("n" : Str)] ws S else .bad) = _
  rw [me_lw_made]
def m_lw_stands (F : EV.Fenv) : EV.M EV.Fl := (EV.sSeq (EV.sIf (EV.mNotT (EV.mTru (EV.mIsI "Stretch" (EV.mVarB 0)))) (EV.sRet (EV.mC (.bl false))) EV.sNext)
  (EV.sSeq (EV.sSet 2 (EV.mTup (EV.mCons (EV.mFld (EV.mVarB 0) "low" fun c => gG.fld.contains (c, ("low" : Str))) (EV.mCons (EV.mFld (EV.mVarB 0) "high" fun c => gG.fld.contains (c, ("high" : Str))) (EV.mCons (EV.mMeth F (fun c => gG.mts.lookup (c, ("pair" : Str))) .other "pair" (EV.mVarB 0) EV.mNil) (EV.mCons (EV.mMeth F (fun c => gG.mts.lookup (c, ("is_point" : Str))) .other "is_point" (EV.mVarB 0) EV.mNil) EV.mNil))))))
  (EV.sFrz [2, 1] (EV.sRet (EV.mCall F "_law_same" (EV.mCons (EV.mVar 2) (EV.mCons (EV.mTup (EV.mCons (EV.mIx (EV.mVarB 1) (EV.mC (.int 0))) (EV.mCons (EV.mIx (EV.mVarB 1) (EV.mC (.int 1))) (EV.mCons (EV.mVar 1) (EV.mCons (EV.mCmp .Eq (EV.mIx (EV.mVarB 1) (EV.mC (.int 0))) (EV.mIx (EV.mVarB 1) (EV.mC (.int 1)))) EV.mNil))))) EV.mNil)) [])))))
theorem me_lw_stands (F : EV.Fenv) : EV.cSs gG F x_lw_stands (defScope s_lw_stands) 300 (defBody s_lw_stands) = m_lw_stands F := by kernel_rfl
theorem fe_lw_stands (d : Nat) (ws : List EV.W) (S : EV.Sto) : EV.Fn gG gP (d + 1) "_law_stands" ws S = if ws.length = 2 then EV.runB (m_lw_stands (EV.Fn gG gP d)) [("thing" : Str), ("span" : Str), ("told" : Str)] ws S else .bad := by
  have e : gP.lookup ("_law_stands" : Str) = some (⟨x_lw_stands, defScope s_lw_stands, defBody s_lw_stands, 2⟩ : EV.DefI) := by kernel_rfl
  rw [EV.fn_eq e]
  show (if ws.length = 2 then EV.runB (EV.cSs gG (EV.Fn gG gP d) x_lw_stands (defScope s_lw_stands) 300 (defBody s_lw_stands)) [("thing" : Str), ("span" : Str), ("told" : Str)] ws S else .bad) = _
  rw [me_lw_stands]
def m_lw_beside (F : EV.Fenv) : EV.M EV.Fl := (EV.sSeq (EV.sSet 4 (EV.mAndV (EV.mCmp .LtE (EV.mIx (EV.mVarB 3) (EV.mC (.int 0))) (EV.mIx (EV.mVarB 2) (EV.mC (.int 0)))) (EV.mCmp .LtE (EV.mIx (EV.mVarB 2) (EV.mC (.int 1))) (EV.mIx (EV.mVarB 3) (EV.mC (.int 1))))))
  (EV.sFrz [1, 4] (EV.sRet (EV.mAndV (EV.mCall F "_law_same" (EV.mCons (EV.mMeth F (fun c => gG.mts.lookup (c, ("within" : Str))) .other "within" (EV.mVarB 0) (EV.mCons (EV.mVar 1) EV.mNil)) (EV.mCons (EV.mVar 4) EV.mNil)) []) (EV.mCall F "_law_same" (EV.mCons (EV.mVal (EV.mEqI F (EV.ownI gG ("__eq__" : Str)) (EV.mVar 0) (EV.mVar 1))) (EV.mCons (EV.mCmp .Eq (EV.mVarB 2) (EV.mVarB 3)) EV.mNil)) [])))))
theorem me_lw_beside (F : EV.Fenv) : EV.cSs gG F x_lw_beside (defScope s_lw_beside) 300 (defBody s_lw_beside) = m_lw_beside F := by kernel_rfl
theorem fe_lw_beside (d : Nat) (ws : List EV.W) (S : EV.Sto) : EV.Fn gG gP (d + 1) "_law_beside" ws S = if ws.length = 4 then EV.runB (m_lw_beside (EV.Fn gG gP d)) [("one" : Str), ("two" : Str), ("a" : Str), ("b" : Str), ("inside" : Str)] ws S else .bad := by
  have e : gP.lookup ("_law_beside" : Str) = some (⟨x_lw_beside, defScope s_lw_beside, defBody s_lw_beside, 4⟩ : EV.DefI) := by kernel_rfl
  rw [EV.fn_eq e]
  show (if ws.length = 4 then EV.runB (EV.cSs gG (EV.Fn gG gP d) x_lw_beside (defScope s_lw_beside) 300 (defBody s_lw_beside)) [("one" : Str), ("two" : Str), ("a" : Str), ("b" : Str), ("inside" : Str)] ws S else .bad) = _
  rw [me_lw_beside]
def m_lw_holds (F : EV.Fenv) : EV.M EV.Fl := (EV.sSeq (EV.sFrz [2] (EV.sFor (EV.mIt (EV.mVar 2)) (EV.bName 4) (EV.sIf (EV.mInI F (EV.ownI gG ("__contains__" : Str)) true (EV.mVar 4) (EV.mVar 0)) (EV.sRet (EV.mC (.bl false))) EV.sNext)))
  (EV.sSeq (EV.sIf (EV.mOr (EV.mInI F (EV.ownI gG ("__contains__" : Str)) false (EV.mBin .Sub (EV.mIx (EV.mVarB 1) (EV.mC (.int 0))) (EV.mC (.int 1))) (EV.mVar 0)) (EV.mInI F (EV.ownI gG ("__contains__" : Str)) false (EV.mBin .Add (EV.mIx (EV.mVarB 1) (EV.mC (.int 1))) (EV.mC (.int 1))) (EV.mVar 0))) (EV.sRet (EV.mC (.bl false))) EV.sNext)
  (EV.sRet (EV.mCmp .Eq (EV.mVal (EV.mInI F (EV.ownI gG ("__contains__" : Str)) false (EV.mVar 3) (EV.mVar 0))) (EV.mAndV (EV.mCmp .LtE (EV.mIx (EV.mVarB 1) (EV.mC (.int 0))) (EV.mVarB 3)) (EV.mCmp .LtE (EV.mVarB 3) (EV.mIx (EV.mVarB 1) (EV.mC (.int 1)))))))))
theorem me_lw_holds (F : EV.Fenv) : EV.cSs gG F x_lw_holds (defScope s_lw_holds) 300 (defBody s_lw_holds) = m_lw_holds F := by kernel_rfl
theorem fe_lw_holds (d : Nat) (ws : List EV.W) (S : EV.Sto) : EV.Fn gG gP (d + 1) "_law_holds" ws S = if ws.length = 4 then EV.runB (m_lw_holds (EV.Fn gG gP d)) [("thing" : Str), ("span" : Str), ("rows" : Str), ("n" : Str), ("x" : Str)] ws S else .bad := by
  have e : gP.lookup ("_law_holds" : Str) = some (⟨x_lw_holds, defScope s_lw_holds, defBody s_lw_holds, 4⟩ : EV.DefI) := by kernel_rfl
  rw [EV.fn_eq e]
  show (if ws.length = 4 then EV.runB (EV.cSs gG (EV.Fn gG gP d) x_lw_holds (defScope s_lw_holds) 300 (defBody s_lw_holds)) [("thing" : Str), ("span" : Str), ("rows" : Str), ("n" : Str), ("x" : Str)] ws S else .bad) = _
  rw [me_lw_holds]
def m_lw_alike (F : EV.Fenv) : EV.M EV.Fl := (EV.sSeq (EV.sFor (EV.mRng1 (EV.mBlt .len (EV.mCons (EV.mVarB 0) EV.mNil))) (EV.bName 4) (EV.sFrz [2, 3, 2, 3] (EV.sIf (EV.mOr (EV.mNotT (EV.mTru (EV.mCall F "_law_beside" (EV.mCons (EV.mVar 2) (EV.mCons (EV.mIx (EV.mVarB 0) (EV.mVarB 4)) (EV.mCons (EV.mVar 3) (EV.mCons (EV.mIx (EV.mVarB 1) (EV.mVarB 4)) EV.mNil)))) []))) (EV.mNotT (EV.mTru (EV.mCall F "_law_beside" (EV.mCons (EV.mIx (EV.mVarB 0) (EV.mVarB 4)) (EV.mCons (EV.mVar 2) (EV.mCons (EV.mIx (EV.mVarB 1) (EV.mVarB 4)) (EV.mCons (EV.mVar 3) EV.mNil)))) [])))) (EV.sRet (EV.mC (.bl false))) EV.sNext)))
  (EV.sSeq (EV.sFrz [3] (EV.sFor (EV.mIt (EV.mLst (EV.mCons (EV.mVar 3) (EV.mCons (EV.mBlt .list (EV.mCons (EV.mVarB 3) EV.mNil)) (EV.mCons (EV.mIx (EV.mVarB 3) (EV.mC (.int 0))) (EV.mCons (EV.mC (.str "")) (EV.mCons (EV.mC (.non)) EV.mNil))))))) (EV.bName 5) (EV.sIf (EV.mNotT (EV.mTru (EV.mCall F "_law_same" (EV.mCons (EV.mVal (EV.mEqI F (EV.ownI gG ("__eq__" : Str)) (EV.mVar 2) (EV.mVar 5))) (EV.mCons (EV.mC (.bl false)) EV.mNil)) []))) (EV.sRet (EV.mC (.bl false))) EV.sNext)))
  (EV.sRet (EV.mC (.bl true)))))
theorem me_lw_alike (F : EV.Fenv) : EV.cSs gG F x_lw_alike (defScope s_lw_alike) 300 (defBody s_lw_alike) = m_lw_alike F := by kernel_rfl
theorem fe_lw_alike (d : Nat) (ws : List EV.W) (S : EV.Sto) : EV.Fn gG gP (d + 1) "_law_alike" ws S = if ws.length = 4 then EV.runB (m_lw_alike (EV.Fn gG gP d)) [("things" : Str), ("spans" : Str), ("new" : Str), ("due" : Str), ("k" : Str), ("thing" : Str)] ws S else .bad := by
  have e : gP.lookup ("_law_alike" : Str) = some (⟨x_lw_alike, defScope s_lw_alike, defBody s_lw_alike, 4⟩ : EV.DefI) := by kernel_rfl
  rw [EV.fn_eq e]
  show (if ws.length = 4 then EV.runB (EV.cSs gG (EV.Fn gG gP d) x_lw_alike (defScope s_lw_alike) 300 (defBody s_lw_alike)) [("things" : Str), ("spans" : Str), ("new" : Str), ("due" : Str), ("k" : Str), ("thing" : Str)] ws S else .bad) = _
  rw [me_lw_alike]
def m_law (F : EV.Fenv) : EV.M EV.Fl := (EV.sSeq (EV.sFrz [0] (EV.sSet 1 (EV.mCall F "_law_bag" (EV.mCons (EV.mVar 0) (EV.mCons (EV.mC (.int 0)) EV.mNil)) [])))
  (EV.sSeq (EV.sFrz [1, 1] (EV.sSet 2 (EV.mToLoc (EV.mLc (EV.mRng1 (EV.mBin .Add (EV.mC (.int 2)) (EV.mCall F "_law_take" (EV.mCons (EV.mVar 1) (EV.mCons (EV.mC (.int 3)) EV.mNil)) []))) (EV.bName 6) EV.mYes (EV.mCall F "_law_span" (EV.mCons (EV.mVar 1) EV.mNil) []) [6]))))
  (EV.sSeq (EV.sFrz [2] (EV.sSet 3 (EV.mToLoc (EV.mLockE 2 (EV.mLc (EV.mIt (EV.mVar 2)) (EV.bName 12) EV.mYes (EV.mMake F "Stretch" ("Stretch" ++ ".__init__") (EV.mCons (EV.mIx (EV.mVarB 12) (EV.mC (.int 0))) (EV.mCons (EV.mIx (EV.mVarB 12) (EV.mC (.int 1))) EV.mNil))) [12])))))
  (EV.sSeq (EV.sFrz [0] (EV.sSet 1 (EV.mCall F "_law_bag" (EV.mCons (EV.mVar 0) (EV.mCons (EV.mC (.int 1)) EV.mNil)) [])))
  (EV.sSeq (EV.sFrz [1] (EV.sFor (EV.mRng1 (EV.mBin .Add (EV.mC (.int 1)) (EV.mCall F "_law_take" (EV.mCons (EV.mVar 1) (EV.mCons (EV.mC (.int 12)) EV.mNil)) []))) (EV.bName 4) (EV.sSeq (EV.sFrz [1] (EV.sSet 5 (EV.mCall F "_law_take" (EV.mCons (EV.mVar 1) (EV.mCons (EV.mBlt .len (EV.mCons (EV.mVarB 2) EV.mNil)) EV.mNil)) [])))
  (EV.sSeq (EV.sFrz [5] (EV.sSet 6 (EV.mVar 5)))
  (EV.sSeq (EV.sFrz [1] (EV.sIf (EV.mCmpT .Gt (EV.mCall F "_law_take" (EV.mCons (EV.mVar 1) (EV.mCons (EV.mC (.int 3)) EV.mNil)) []) (EV.mC (.int 0))) (EV.sFrz [1] (EV.sSet 6 (EV.mCall F "_law_take" (EV.mCons (EV.mVar 1) (EV.mCons (EV.mBlt .len (EV.mCons (EV.mVarB 2) EV.mNil)) EV.mNil)) []))) EV.sNext))
  (EV.sSeq (EV.sFrz [1] (EV.sSet 7 (EV.mCall F "_law_pick" (EV.mCons (EV.mVar 1) (EV.mCons (EV.mLst (EV.mCons (EV.mC (.str "mul")) (EV.mCons (EV.mC (.str "add")) (EV.mCons (EV.mC (.str "sub")) (EV.mCons (EV.mC (.str "hull")) (EV.mCons (EV.mC (.str "least")) (EV.mCons (EV.mC (.str "greatest")) (EV.mCons (EV.mC (.str "saturated")) (EV.mCons (EV.mC (.str "point")) EV.mNil))))))))) EV.mNil)) [])))
  (EV.sSeq (EV.sFrz [1] (EV.sSet 8 (EV.mCall F "_law_end" (EV.mCons (EV.mVar 1) EV.mNil) [])))
  (EV.sSeq (EV.sFrz [7, 1, 1, 8] (EV.sSet 9 (EV.mCall F "_law_outcomes" (EV.mCons (EV.mVar 7) (EV.mCons (EV.mCall F "_law_some" (EV.mCons (EV.mVar 1) (EV.mCons (EV.mIx (EV.mVarB 2) (EV.mVarB 5)) EV.mNil)) []) (EV.mCons (EV.mCall F "_law_some" (EV.mCons (EV.mVar 1) (EV.mCons (EV.mIx (EV.mVarB 2) (EV.mVarB 6)) EV.mNil)) []) (EV.mCons (EV.mVar 8) EV.mNil)))) [])))
  (EV.sSeq (EV.sSet 10 (EV.mTup (EV.mCons (EV.mBlt .min (EV.mCons (EV.mVarB 9) EV.mNil)) (EV.mCons (EV.mBlt .max (EV.mCons (EV.mVarB 9) EV.mNil)) EV.mNil))))
  (EV.sSeq (EV.sFrz [7, 8] (EV.sSet 11 (EV.mCall F "_law_made" (EV.mCons (EV.mVar 7) (EV.mCons (EV.mIx (EV.mVarB 3) (EV.mVarB 5)) (EV.mCons (EV.mIx (EV.mVarB 3) (EV.mVarB 6)) (EV.mCons (EV.mVar 8) EV.mNil)))) [])))
  (EV.sSeq (EV.sFrz [11, 10, 11, 10, 9, 8] (EV.sIf (EV.mOr (EV.mNotT (EV.mTru (EV.mCall F "_law_stands" (EV.mCons (EV.mVar 11) (EV.mCons (EV.mVar 10) EV.mNil)) []))) (EV.mNotT (EV.mTru (EV.mCall F "_law_holds" (EV.mCons (EV.mVar 11) (EV.mCons (EV.mVar 10) (EV.mCons (EV.mVar 9) (EV.mCons (EV.mVar 8) EV.mNil)))) [])))) (EV.sRet (EV.mC (.bl false))) EV.sNext))
  (EV.sSeq (EV.sFrz [3, 2, 11, 10] (EV.sIf (EV.mNotT (EV.mTru (EV.mCall F "_law_alike" (EV.mCons (EV.mVar 3) (EV.mCons (EV.mVar 2) (EV.mCons (EV.mVar 11) (EV.mCons (EV.mVar 10) EV.mNil)))) []))) (EV.sRet (EV.mC (.bl false))) EV.sNext))
  (EV.sSeq (EV.sFrz [10] (EV.sMut (EV.mutE F (fun c => gG.mts.lookup (c, ("append" : Str))) .append "append" 2 (EV.mCons (EV.mVar 10) EV.mNil))))
  (EV.sFrz [11] (EV.sMut (EV.mutE F (fun c => gG.mts.lookup (c, ("append" : Str))) .append "append" 3 (EV.mCons (EV.mVar 11) EV.mNil)))))))))))))))))
  (EV.sSeq (EV.sFor (EV.mRng1 (EV.mBlt .len (EV.mCons (EV.mVarB 2) EV.mNil))) (EV.bName 6) (EV.sIf (EV.mNotT (EV.mTru (EV.mCall F "_law_stands" (EV.mCons (EV.mIx (EV.mVarB 3) (EV.mVarB 6)) (EV.mCons (EV.mIx (EV.mVarB 2) (EV.mVarB 6)) EV.mNil)) []))) (EV.sRet (EV.mC (.bl false))) EV.sNext))
  (EV.sRet (EV.mC (.bl true)))))))))
theorem me_law (F : EV.Fenv) : EV.cSs gG F x_law (defScope s_law) 300 (defBody s_law) = m_law F := by kernel_rfl
theorem fe_law (d : Nat) (ws : List EV.W) (S : EV.Sto) : EV.Fn gG gP (d + 1) "law" ws S = if ws.length = 1 then EV.runB (m_law (EV.Fn gG gP d)) [("script" : Str), ("bag" : Str), ("spans" : Str), ("things" : Str), ("turn" : Str), ("j" : Str), ("k" : Str), ("name" : Str), ("n" : Str), ("rows" : Str), ("due" : Str), ("new" : Str), ("span" : Str)] ws S else .bad := by
  have e : gP.lookup ("law" : Str) = some (⟨x_law, defScope s_law, defBody s_law, 1⟩ : EV.DefI) := by kernel_rfl
  rw [EV.fn_eq e]
  show (if ws.length = 1 then EV.runB (EV.cSs gG (EV.Fn gG gP d) x_law (defScope s_law) 300 (defBody s_law)) [("script" : Str), ("bag" : Str), ("spans" : Str), ("things" : Str), ("turn" : Str), ("j" : Str), ("k" : Str), ("name" : Str), ("n" : Str), ("rows" : Str), ("due" : Str), ("new" : Str), ("span" : Str)] ws S else .bad) = _
  rw [me_law]
theorem fo0 : (("Stretch" : Str), ("low" : Str)) ∈ gG.fld := List.contains_iff_mem.mp (by kernel_rfl)
theorem fo1 : (("Stretch" : Str), ("high" : Str)) ∈ gG.fld := List.contains_iff_mem.mp (by kernel_rfl)
theorem mo0 : gG.mts.lookup (("Stretch" : Str), ("__eq__" : Str)) = some ("Stretch.__eq__" : Str) := by kernel_rfl
theorem mo1 : gG.mts.lookup (("Stretch" : Str), ("__contains__" : Str)) = some ("Stretch.__contains__" : Str) := by kernel_rfl
theorem mo2 : gG.mts.lookup (("Stretch" : Str), ("__add__" : Str)) = some ("Stretch.__add__" : Str) := by kernel_rfl
theorem mo3 : gG.mts.lookup (("Stretch" : Str), ("__sub__" : Str)) = some ("Stretch.__sub__" : Str) := by kernel_rfl
theorem mo4 : gG.mts.lookup (("Stretch" : Str), ("__mul__" : Str)) = some ("Stretch.__mul__" : Str) := by kernel_rfl
theorem mo5 : gG.mts.lookup (("Stretch" : Str), ("__or__" : Str)) = some ("Stretch.__or__" : Str) := by kernel_rfl
theorem mo6 : gG.mts.lookup (("Stretch" : Str), ("least" : Str)) = some ("Stretch.least" : Str) := by kernel_rfl
theorem mo7 : gG.mts.lookup (("Stretch" : Str), ("greatest" : Str)) = some ("Stretch.greatest" : Str) := by kernel_rfl
theorem mo8 : gG.mts.lookup (("Stretch" : Str), ("within" : Str)) = some ("Stretch.within" : Str) := by kernel_rfl
theorem mo9 : gG.mts.lookup (("Stretch" : Str), ("is_point" : Str)) = some ("Stretch.is_point" : Str) := by kernel_rfl
theorem mo10 : gG.mts.lookup (("Stretch" : Str), ("saturated" : Str)) = some ("Stretch.saturated" : Str) := by kernel_rfl
theorem mo11 : gG.mts.lookup (("Stretch" : Str), ("pair" : Str)) = some ("Stretch.pair" : Str) := by kernel_rfl
theorem oi0 : EV.ownI gG ("__eq__" : Str) ("Stretch" : Str) = some ("Stretch.__eq__" : Str) := by kernel_rfl
theorem oi1 : EV.ownI gG ("__contains__" : Str) ("Stretch" : Str) = some ("Stretch.__contains__" : Str) := by kernel_rfl
theorem oi2 : EV.ownI gG ("__add__" : Str) ("Stretch" : Str) = some ("Stretch.__add__" : Str) := by kernel_rfl
theorem oi3 : EV.ownI gG ("__sub__" : Str) ("Stretch" : Str) = some ("Stretch.__sub__" : Str) := by kernel_rfl
theorem oi4 : EV.ownI gG ("__mul__" : Str) ("Stretch" : Str) = some ("Stretch.__mul__" : Str) := by kernel_rfl
theorem oi5 : EV.ownI gG ("__or__" : Str) ("Stretch" : Str) = some ("Stretch.__or__" : Str) := by kernel_rfl
--@CFG {"share": {"law": ["spans", "things"]}, "ops": {"_law_made": ["one + two", "one - two", "one * two", "one | two"], "_law_beside": ["one == two"], "_law_holds": ["x not in thing", "span[0] - 1 in thing", "span[1] + 1 in thing", "n in thing"], "_law_alike": ["new == thing"]}}
/-- the rules of the walk, all in one -/
def evr := And.intro @EV.r_ok (And.intro @EV.r_some (And.intro @EV.r_var (And.intro @EV.r_varK (And.intro @EV.r_varB (And.intro @EV.r_varBf (And.intro @EV.r_varBo (And.intro @EV.r_c (And.intro @EV.r_bin (And.intro @EV.r_binF (And.intro @EV.r_binG (And.intro @EV.r_un (And.intro @EV.r_unF (And.intro @EV.r_cmp (And.intro @EV.r_cmpF (And.intro @EV.r_cmpG (And.intro @EV.r_cmt (And.intro @EV.r_cmtF (And.intro @EV.r_cmtG (And.intro @EV.r_tru (And.intro @EV.r_truF (And.intro @EV.r_not (And.intro @EV.r_notF (And.intro @EV.r_and (And.intro @EV.r_andT (And.intro @EV.r_andN (And.intro @EV.r_or (And.intro @EV.r_orT (And.intro @EV.r_orN (And.intro @EV.r_val (And.intro @EV.r_valF (And.intro @EV.r_av (And.intro @EV.r_avF (And.intro @EV.r_avT (And.intro @EV.r_avN (And.intro @EV.r_ov (And.intro @EV.r_ovF (And.intro @EV.r_ovT (And.intro @EV.r_ovN (And.intro @EV.r_ife (And.intro @EV.r_ifT (And.intro @EV.r_ifN (And.intro @EV.r_nil (And.intro @EV.r_cons (And.intro @EV.r_consF (And.intro @EV.r_consG (And.intro @EV.r_tup (And.intro @EV.r_tupF (And.intro @EV.r_lst (And.intro @EV.r_lstF (And.intro @EV.r_loc (And.intro @EV.r_locL (And.intro @EV.r_locD (And.intro @EV.r_newd (And.intro @EV.r_ix (And.intro @EV.r_ixF (And.intro @EV.r_ixG (And.intro @EV.r_fld (And.intro @EV.r_fldF (And.intro @EV.r_fldG (And.intro @EV.r_blt (And.intro @EV.r_bltF (And.intro @EV.r_call (And.intro @EV.r_callF (And.intro @EV.r_callK (And.intro @EV.r_ckF (And.intro @EV.r_ckG (And.intro @EV.r_make (And.intro @EV.r_makF (And.intro @EV.r_makG (And.intro @EV.r_sm (And.intro @EV.r_smF (And.intro @EV.r_smG (And.intro @EV.r_strip (And.intro @EV.r_stripF (And.intro @EV.r_just (And.intro @EV.r_justF (And.intro @EV.r_justG (And.intro @EV.r_justH (And.intro @EV.r_fmt (And.intro @EV.r_fmtF (And.intro @EV.r_js (And.intro @EV.r_jsF (And.intro @EV.r_maxD (And.intro @EV.r_maxDF (And.intro @EV.r_maxDG (And.intro @EV.r_fz (And.intro @EV.r_fzF (And.intro @EV.r_fzL (And.intro @EV.r_fzG (And.intro @EV.r_meth (And.intro @EV.r_metF (And.intro @EV.r_seq (And.intro @EV.r_seqN (And.intro @EV.r_seqR (And.intro @EV.r_seqB (And.intro @EV.r_seqC (And.intro @EV.r_next (And.intro @EV.r_brk (And.intro @EV.r_cnt (And.intro @EV.r_drop (And.intro @EV.r_dropF (And.intro @EV.r_ret (And.intro @EV.r_retF (And.intro @EV.r_retN (And.intro @EV.r_setO (And.intro @EV.r_setOF (And.intro @EV.r_set (And.intro @EV.r_setK (And.intro @EV.r_asg (And.intro @EV.r_asgF (And.intro @EV.r_asgG (And.intro @EV.r_if (And.intro @EV.r_sifT (And.intro @EV.r_sifN (And.intro @EV.r_forF (And.intro @EV.r_forN (And.intro @EV.r_forC (And.intro @EV.r_forG (And.intro @EV.r_forHn (And.intro @EV.r_forHc (And.intro @EV.r_forHb (And.intro @EV.r_forHr (And.intro @EV.r_bname (And.intro @EV.r_rng1F (And.intro @EV.r_it (And.intro @EV.r_itL (And.intro @EV.r_itT (And.intro @EV.r_run (And.intro @EV.r_runN (And.intro @EV.r_runR (And.intro @EV.r_frz (And.intro @EV.r_par (And.intro @EV.r_parF (And.intro @EV.r_parG (And.intro @EV.r_po (And.intro @EV.r_poF (And.intro @EV.r_poGl (And.intro @EV.r_poGd (And.intro @EV.r_poH (And.intro @EV.r_poD (And.intro @EV.r_ps (And.intro @EV.r_psF (And.intro @EV.r_psG (And.intro @EV.r_psH (And.intro @EV.r_psIl (And.intro @EV.r_psId (And.intro @EV.r_psL (And.intro @EV.r_psD (And.intro @EV.r_put (And.intro @EV.r_putO (And.intro @EV.r_putF (And.intro @EV.r_sf (And.intro @EV.r_sfF (And.intro @EV.r_sfG (And.intro @EV.r_sfH (And.intro @EV.r_mut (And.intro @EV.r_mutF (And.intro @EV.r_mutY (And.intro @EV.r_mutYF (And.intro @EV.r_btup (And.intro @EV.r_bnil (And.intro @EV.r_bcons (And.intro @EV.r_bAllF (And.intro @EV.r_lkC (And.intro @EV.r_beq (And.intro @EV.r_sl (And.intro @EV.r_slF (And.intro @EV.r_slG (And.intro @EV.r_slH (And.intro @EV.r_partN (And.intro @EV.r_partS (And.intro @EV.r_partF (And.intro @EV.r_lc (And.intro @EV.r_lcF (And.intro @EV.r_lcH (And.intro @EV.r_notOwE (And.intro @EV.r_notOwF (And.intro @EV.r_lcN (And.intro @EV.r_weqII (And.intro @EV.r_weqSS (And.intro @EV.r_weqBB (And.intro @EV.r_weqIS (And.intro @EV.r_weqSI (And.intro @EV.r_isI (And.intro @EV.r_isIF (And.intro @EV.r_opI (And.intro @EV.r_opIF (And.intro @EV.r_opIG (And.intro @EV.r_eqI (And.intro @EV.r_eqIF (And.intro @EV.r_eqIG (And.intro @EV.r_inI (And.intro @EV.r_inIF (@EV.r_inIG))))))))))))))))))))))))))))))))))))))))))))))))))))))))))))))))))))))))))))))))))))))))))))))))))))))))))))))))))))))))))))))))))))))))))))))))))))))))))))))))))))))))))))))))))))))))))))))))))
/-! ### the pure machine -/
inductive Bop where
  | add | sub | mul | min | max | lt | le | eq | ne | ge | gt
  deriving DecidableEq
inductive Ins where
  | num (n : Int) | get (c : Nat) | put (c : Nat) | pace | pick (k : Nat) | dup | drop | bit | nott | bin (b : Bop) | hop (k : Nat) | hopno (k : Nat) | call (s b : Nat) | beat (n : Int) | back
  deriving DecidableEq
def clampZ (n : Int) : Int := if n < -999999 then -999999 else if 999999 < n then 999999 else n
def satZ (n top : Int) : Int := if n < 0 then 0 else if top < n then top else n
def Bop.val (b : Bop) (x y : Int) : Int := match b with
  | .add => clampZ (x + y)
  | .sub => clampZ (x - y)
  | .mul => clampZ (x * y)
  | .min => if x < y then x else y
  | .max => if y < x then x else y
  | .lt => if x < y then 1 else 0
  | .le => if x ≤ y then 1 else 0
  | .eq => if x = y then 1 else 0
  | .ne => if x = y then 0 else 1
  | .ge => if y ≤ x then 1 else 0
  | .gt => if y < x then 1 else 0
abbrev Tab := List (Int × Bool)
structure Fr where
  tb : Tab
  rest : List Ins
  base : Nat
  st : List Int
structure Mc where
  mem : List Int
  pend : List (Nat × Int)
  tally : Int
  done : Nat
  frs : List Fr
def pget (p : List (Nat × Int)) (k : Nat) : Option Int := (p.find? fun kv => decide (kv.1 = k)).map (·.2)
def pput (p : List (Nat × Int)) (k : Nat) (v : Int) : List (Nat × Int) := if p.any fun kv => decide (kv.1 = k) then p.map fun kv => if kv.1 = k then (kv.1, v) else kv else p ++ [(k, v)]
def vat (M : Mc) (p : Nat) : Option Int := match pget M.pend p with
  | some v => some v
  | none => M.mem[p]?
def setAll (mem : List Int) : List (Nat × Int) → List Int
  | [] => mem
  | kv :: r => setAll (mem.set kv.1 kv.2) r
def big (x : Int) : Bool := decide (-18446744073709551616 < x ∧ x < 18446744073709551616)
/-- the top frame's entries after an instruction that computes -/
def comp (tb : Tab) (pace : Int) (M : Mc) (base : Nat) : Ins → List Int → Option (List Int)
  | .num n, st => some (n :: st)
  | .get c, st => (vat M (base + c)).map (· :: st)
  | .pace, st => some (pace :: st)
  | .pick k, st => (st.reverse[k]?).map (· :: st)
  | .dup, x :: st => some (x :: x :: st)
  | .bit, x :: st => some ((if 1 ≤ x then 1 else 0) :: st)
  | .nott, x :: st => some ((if 1 ≤ x then 0 else 1) :: st)
  | .bin b, y :: x :: st => if big x then some (b.val x y :: st) else none
  | _, _ => none
def step (tabs : List Tab) (segs : List (Nat × List Ins)) (pace : Int) (M : Mc) : Option Mc := match M.frs with
  | [] => none
  | f :: r => match f.rest with
    | [] => none
    | i :: rest => match i with
      | .hop k => some { M with done := M.done + 1, frs := { f with rest := rest.drop k } :: r }
      | .hopno k => match f.st with
        | x :: st => some { M with done := M.done + 1, frs := { f with rest := if x < 1 then rest.drop k else rest, st := st } :: r }
        | [] => none
      | .drop => match f.st with
        | _ :: st => some { M with done := M.done + 1, frs := { f with rest := rest, st := st } :: r }
        | [] => none
      | .call s b => match segs[s]? with
        | some (n, code) => match tabs[n]? with
          | some tb => if r.length < 4000000 then some { M with done := M.done + 1, frs := ⟨tb, code, f.base + b, []⟩ :: { f with rest := rest } :: r } else none
          | none => none
        | none => none
      | .back => match r with
        | [] => some ⟨setAll M.mem M.pend, [], M.tally, M.done + 1, []⟩
        | _ => some { M with done := M.done + 1, frs := r }
      | .beat n => some ⟨setAll M.mem M.pend, [], M.tally + n, M.done + 1, { f with rest := rest } :: r⟩
      | .put c => match f.st, f.tb[c]? with
        | x :: st, some (top, kept) => if f.base + c < M.mem.length ∧ M.pend.length < 4000000 then
            some (if kept then ⟨M.mem, pput M.pend (f.base + c) (satZ x top), M.tally, M.done + 1, { f with rest := rest, st := st } :: r⟩ else ⟨M.mem.set (f.base + c) (satZ x top), M.pend, M.tally, M.done + 1, { f with rest := rest, st := st } :: r⟩) else none
        | _, _ => none
      | i => if f.st.length < 4000000 then (comp f.tb pace M f.base i f.st).map fun st => { M with done := M.done + 1, frs := { f with rest := rest, st := st } :: r } else none
def stepN (tabs : List Tab) (segs : List (Nat × List Ins)) (pace : Int) : Nat → Mc → Option Mc
  | 0, M => some M
  | n + 1, M => (step tabs segs pace M).bind (stepN tabs segs pace n)
theorem stepN_add (tabs : List Tab) (segs : List (Nat × List Ins)) (pace : Int) : ∀ (a b : Nat) (M : Mc), stepN tabs segs pace (a + b) M = (stepN tabs segs pace a M).bind (stepN tabs segs pace b)
  | 0, b, M => by rw [Nat.zero_add]; rfl
  | a + 1, b, M => by
    rw [Nat.add_right_comm]
    show (step tabs segs pace M).bind (stepN tabs segs pace (a + b)) = ((step tabs segs pace M).bind (stepN tabs segs pace a)).bind _
    cases h : step tabs segs pace M with
    | none => rfl
    | some N => exact stepN_add tabs segs pace a b N
inductive Wd where
  | done | cut | stopped
def drv (tabs : List Tab) (segs : List (Nat × List Ins)) (pace cut steps : Int) : Nat → Mc → Option (Mc × Wd)
  | 0, _ => none
  | n + 1, M => if M.frs = [] then some (M, Wd.done) else if 0 ≤ cut ∧ cut ≤ M.tally then some (M, Wd.cut) else if 0 ≤ steps ∧ steps ≤ M.done then some (M, Wd.stopped) else (step tabs segs pace M).bind (drv tabs segs pace cut steps n)
def takeA (c a f m : Int) : Int := if f = 1 ∧ 1 < c then c.fmod m else
  let one := (c * 48271 + (a + 1) * 69621 + 12345).fmod 2147483647
  let two := (one * one + (a + 1) * 40692).fmod 2147483399
  let three := (two * two + one).fmod 1000000007
  (three.fdiv 7).fmod m
def takeB (c a f m : Int) : List EV.W := if f = 1 ∧ 1 < c then [.int (c.fdiv m), .int a, .int f] else [.int c, .int (a + 1), .int f]
theorem take_ok (d : Nat) (n : Nat) (c a f m : Int) (S : EV.Sto) (hS : S[n]? = some (.lst [.int c, .int a, .int f])) (hm : 0 < m) (hm2 : m < 1073741824) :
    EV.Fn gG gP (d + 1) "_law_take" [.loc n, .int m] S = .ok (.int (takeA c a f m)) (S.set n (.lst (takeB c a f m))) := by
  rw [fe_lw_take]
  unfold m_lw_take takeA takeB
  have hn : n < S.length := (List.getElem?_eq_some_iff.mp hS).1
  have hm3 : m ≠ 0 := by omega
  have hm4 : m.natAbs < 1073741824 := by omega
  have b1 : ∀ x : Int, -18446744073709551616 < x.fmod 2147483647 ∧ x.fmod 2147483647 < 18446744073709551616 := fun x => by
    have h1 := Int.fmod_nonneg_of_pos x (show (0 : Int) < 2147483647 by decide)
    have h2 := Int.fmod_lt_of_pos x (show (0 : Int) < 2147483647 by decide)
    omega
  have b2 : ∀ x : Int, -18446744073709551616 < x.fmod 2147483399 ∧ x.fmod 2147483399 < 18446744073709551616 := fun x => by
    have h1 := Int.fmod_nonneg_of_pos x (show (0 : Int) < 2147483399 by decide)
    have h2 := Int.fmod_lt_of_pos x (show (0 : Int) < 2147483399 by decide)
    omega
  have hs : ∀ x, (S.set n x)[n]? = some x := fun x => List.getElem?_set_self hn
  by_cases h1 : f = 1 ∧ 1 < c
  · obtain ⟨h1, h2⟩ := h1
    subst h1
    simp -implicitDefEqProofs [EV.LIM, EV.str_lit, evr, EV.r_for, EV.r_rng1, EV.wbin, EV.wun, EV.wcmp, EV.vw, EV.vwz, EV.wix, EV.wblt, EV.wtru, EV.wisi, EV.frz, EV.mkOwn, L2.atI, L2.ixN, List.map, List.length_cons, List.length_nil, List.replicate, List.getElem?_cons_zero, List.getElem?_cons_succ, List.set_cons_zero, List.set_cons_succ, List.append_nil, List.cons_append, List.nil_append, hS, hs, h2, hm3, hm4]
  · by_cases h2 : f = 1
    · subst h2
      have h3 : ¬ (1 < c) := fun z => h1 ⟨rfl, z⟩
      simp -implicitDefEqProofs [EV.LIM, EV.str_lit, evr, EV.r_for, EV.r_rng1, EV.wbin, EV.wun, EV.wcmp, EV.vw, EV.vwz, EV.wix, EV.wblt, EV.wtru, EV.wisi, EV.frz, EV.mkOwn, L2.atI, L2.ixN, List.map, List.length_cons, List.length_nil, List.replicate, List.getElem?_cons_zero, List.getElem?_cons_succ, List.set_cons_zero, List.set_cons_succ, List.append_nil, List.cons_append, List.nil_append, hS, hs, h3, hm3, hm4, b1, b2]
    · simp [EV.LIM, EV.str_lit, evr, EV.r_for, EV.r_rng1, EV.wbin, EV.wun, EV.wcmp, EV.vw, EV.vwz, EV.wix, EV.wblt, EV.wtru, EV.wisi, EV.frz, EV.mkOwn, L2.atI, L2.ixN, List.map, List.length_cons, List.length_nil, List.replicate, List.getElem?_cons_zero, List.getElem?_cons_succ, List.set_cons_zero, List.set_cons_succ, List.append_nil, List.cons_append, List.nil_append, hS, hs, h2, hm3, hm4, b1, b2]
def IsBag (o : EV.Ob) : Prop := ∃ c a f : Int, o = .lst [.int c, .int a, .int f]
theorem take_ex (d : Nat) {n : Nat} {m : Int} {S : EV.Sto} {o : EV.Ob} (hS : S[n]? = some o) (hb : IsBag o) (hm : 0 < m) (hm2 : m < 1073741824) :
    ∃ r o', 0 ≤ r ∧ r < m ∧ IsBag o' ∧ EV.Fn gG gP (d + 1) "_law_take" [.loc n, .int m] S = .ok (.int r) (S.set n o') := by
  obtain ⟨c, a, f, rfl⟩ := hb
  refine ⟨takeA c a f m, .lst (takeB c a f m), ?_, ?_, ?_, take_ok d n c a f m S hS hm hm2⟩
  · unfold takeA; split <;> exact Int.fmod_nonneg_of_pos _ hm
  · unfold takeA; split <;> exact Int.fmod_lt_of_pos _ hm
  · unfold takeB; split
    · exact ⟨_, _, _, rfl⟩
    · exact ⟨_, _, _, rfl⟩
theorem pick_ex (d : Nat) {n : Nat} {ws : List EV.W} {S : EV.Sto} {o : EV.Ob} (hS : S[n]? = some o) (hb : IsBag o) (hw : ws ≠ []) (hl : ws.length < 1073741824) :
    ∃ w o', w ∈ ws ∧ IsBag o' ∧ EV.Fn gG gP (d + 2) "_law_pick" [.loc n, .lst ws] S = .ok w (S.set n o') := by
  have h0 : 0 < ws.length := List.length_pos_iff.mpr hw
  obtain ⟨r, o', h1, h2, h3, h4⟩ := take_ex d (m := ws.length) hS hb (by omega) (by omega)
  have hr : r.toNat < ws.length := by omega
  refine ⟨ws[r.toNat], o', List.getElem_mem hr, h3, ?_⟩
  rw [fe_lw_pick]
  unfold m_lw_pick
  have h5 : r < (ws.length : Int) := h2
  simp -implicitDefEqProofs [EV.LIM, EV.str_lit, evr, EV.r_for, EV.r_rng1, EV.wbin, EV.wun, EV.wcmp, EV.vw, EV.vwz, EV.wix, EV.wblt, EV.wtru, EV.wisi, EV.frz, EV.mkOwn, L2.atI, L2.ixN, List.map, List.length_cons, List.length_nil, List.replicate, List.getElem?_cons_zero, List.getElem?_cons_succ, List.set_cons_zero, List.set_cons_succ, List.append_nil, List.cons_append, List.nil_append, h4, h1, h5, hr]
theorem bag_ex (d : Nat) (ns : List Int) (at_ : Nat) (S : EV.Sto) : ∃ o, IsBag o ∧ EV.Fn gG gP (d + 1) "_law_bag" [.scr (ns.map .int), .int at_] S = .ok (.loc S.length) (S ++ [o]) := by
  rw [fe_lw_bag]
  unfold m_lw_bag
  have fin : ∀ c : Int, ∃ o, IsBag o ∧ EV.runB
      (EV.sSeq (EV.sIf (EV.mCmpT .Lt (EV.mVarB 2) (EV.mC (.int 0))) (EV.sSetF 2 (EV.mBin .Sub (EV.mC (.int 1)) (EV.mBin .Mult (EV.mC (.int 2)) (EV.mVarB 2)))) EV.sNext)
  (EV.sSeq (EV.sIf (EV.mCmpT .GtE (EV.mVarB 2) (EV.mBin .Pow (EV.mC (.int 10)) (EV.mC (.int 18)))) (EV.sFrz [1] (EV.sRet (EV.mToLoc (EV.mLst (EV.mCons (EV.mBin .Sub (EV.mVarB 2) (EV.mBin .Pow (EV.mC (.int 10)) (EV.mC (.int 18)))) (EV.mCons (EV.mVar 1) (EV.mCons (EV.mC (.int 1)) EV.mNil))))))) EV.sNext)
  (EV.sFrz [2, 1] (EV.sRet (EV.mToLoc (EV.mLst (EV.mCons (EV.mVar 2) (EV.mCons (EV.mVar 1) (EV.mCons (EV.mC (.int 0)) EV.mNil))))))))) ["a", "b", "c"] [.scr (ns.map .int), .int at_, .int c] S = .ok (.loc S.length) (S ++ [o]) := fun c => by
    by_cases h1 : c < 0
    · by_cases h2 : (10 : Int) ^ 18 ≤ 1 - 2 * c
      · refine ⟨.lst [.int (1 - 2 * c - 10 ^ 18), .int at_, .int 1], ⟨_, _, _, rfl⟩, ?_⟩
        simp at h2
        simp -implicitDefEqProofs [EV.LIM, EV.str_lit, evr, EV.r_for, EV.r_rng1, EV.wbin, EV.wun, EV.wcmp, EV.vw, EV.vwz, EV.wix, EV.wblt, EV.wtru, EV.wisi, EV.frz, EV.mkOwn, L2.atI, L2.ixN, List.map, List.length_cons, List.length_nil, List.replicate, List.getElem?_cons_zero, List.getElem?_cons_succ, List.set_cons_zero, List.set_cons_succ, List.append_nil, List.cons_append, List.nil_append, h1, h2]
      · refine ⟨.lst [.int (1 - 2 * c), .int at_, .int 0], ⟨_, _, _, rfl⟩, ?_⟩
        simp at h2
        have h2' : ¬ (1000000000000000000 ≤ 1 - 2 * c) := by omega
        simp -implicitDefEqProofs [EV.LIM, EV.str_lit, evr, EV.r_for, EV.r_rng1, EV.wbin, EV.wun, EV.wcmp, EV.vw, EV.vwz, EV.wix, EV.wblt, EV.wtru, EV.wisi, EV.frz, EV.mkOwn, L2.atI, L2.ixN, List.map, List.length_cons, List.length_nil, List.replicate, List.getElem?_cons_zero, List.getElem?_cons_succ, List.set_cons_zero, List.set_cons_succ, List.append_nil, List.cons_append, List.nil_append, h1, h2']
    · by_cases h2 : (10 : Int) ^ 18 ≤ c
      · refine ⟨.lst [.int (c - 10 ^ 18), .int at_, .int 1], ⟨_, _, _, rfl⟩, ?_⟩
        simp at h2
        simp -implicitDefEqProofs [EV.LIM, EV.str_lit, evr, EV.r_for, EV.r_rng1, EV.wbin, EV.wun, EV.wcmp, EV.vw, EV.vwz, EV.wix, EV.wblt, EV.wtru, EV.wisi, EV.frz, EV.mkOwn, L2.atI, L2.ixN, List.map, List.length_cons, List.length_nil, List.replicate, List.getElem?_cons_zero, List.getElem?_cons_succ, List.set_cons_zero, List.set_cons_succ, List.append_nil, List.cons_append, List.nil_append, h1, h2]
      · refine ⟨.lst [.int c, .int at_, .int 0], ⟨_, _, _, rfl⟩, ?_⟩
        simp at h2
        have h2' : ¬ (1000000000000000000 ≤ c) := by omega
        simp -implicitDefEqProofs [EV.LIM, EV.str_lit, evr, EV.r_for, EV.r_rng1, EV.wbin, EV.wun, EV.wcmp, EV.vw, EV.vwz, EV.wix, EV.wblt, EV.wtru, EV.wisi, EV.frz, EV.mkOwn, L2.atI, L2.ixN, List.map, List.length_cons, List.length_nil, List.replicate, List.getElem?_cons_zero, List.getElem?_cons_succ, List.set_cons_zero, List.set_cons_succ, List.append_nil, List.cons_append, List.nil_append, h1, h2']
  by_cases h : at_ < ns.length
  · obtain ⟨o, h1, h2⟩ := fin ns[at_]
    refine ⟨o, h1, ?_⟩
    rw [← h2]
    have h3 : (at_ : Int) < (ns.length : Int) := by omega
    simp -implicitDefEqProofs [EV.LIM, EV.str_lit, evr, EV.r_for, EV.r_rng1, EV.wbin, EV.wun, EV.wcmp, EV.vw, EV.vwz, EV.wix, EV.wblt, EV.wtru, EV.wisi, EV.frz, EV.mkOwn, L2.atI, L2.ixN, List.map, List.length_cons, List.length_nil, List.replicate, List.getElem?_cons_zero, List.getElem?_cons_succ, List.set_cons_zero, List.set_cons_succ, List.append_nil, List.cons_append, List.nil_append, h, h3]
  · obtain ⟨o, h1, h2⟩ := fin 0
    refine ⟨o, h1, ?_⟩
    rw [← h2]
    have h3 : ¬ (at_ : Int) < (ns.length : Int) := by omega
    simp -implicitDefEqProofs [EV.LIM, EV.str_lit, evr, EV.r_for, EV.r_rng1, EV.wbin, EV.wun, EV.wcmp, EV.vw, EV.vwz, EV.wix, EV.wblt, EV.wtru, EV.wisi, EV.frz, EV.mkOwn, L2.atI, L2.ixN, List.map, List.length_cons, List.length_nil, List.replicate, List.getElem?_cons_zero, List.getElem?_cons_succ, List.set_cons_zero, List.set_cons_succ, List.append_nil, List.cons_append, List.nil_append, h, h3]
theorem in62_le {i : Int} (h0 : 0 ≤ i) (h : i ≤ 10000000) : EV.in62 i := by
  have e : (2 : Int) ^ 62 = 4611686018427387904 := by rfl
  exact ⟨by rw [e]; omega, by rw [e]; omega⟩
/-- values that the laws compare, so deep at most -/
def Plain : Nat → EV.W → Prop
  | _, .non => True
  | _, .bl _ => True
  | _, .int _ => True
  | _, .str _ => True
  | d + 1, .tup xs => xs.length ≤ 10000000 ∧ ∀ x ∈ xs, Plain d x
  | d + 1, .lst xs => xs.length ≤ 10000000 ∧ ∀ x ∈ xs, Plain d x
  | _, _ => False
theorem same_loop (F : EV.Fenv) (w : EV.W) (xs : List EV.W) (S : EV.Sto) (hw : w = .tup xs ∨ w = .lst xs) (hF : ∀ x ∈ xs, F "_law_same" [x, x] S = .ok (.bl true) S) : ∀ (l : List Nat) (z : EV.Sl), (∀ i ∈ l, i < xs.length) →
    ∃ z', EV.forL (EV.bName 2) (EV.sIf (EV.mNotT (EV.mTru (EV.mCall F "_law_same" (EV.mCons (EV.mIx (EV.mVarB 0) (EV.mVarB 2)) (EV.mCons (EV.mIx (EV.mVarB 1) (EV.mVarB 2)) EV.mNil)) []))) (EV.sRet (EV.mC (.bl false))) EV.sNext) (l.map fun i => .int (0 + (i : Nat))) [.fr w, .fr w, z] S = .ok (.nx [.fr w, .fr w, z']) S
  | [], z, _ => ⟨z, rfl⟩
  | i :: l, z, h => by
    have hi : i < xs.length := h i (List.mem_cons_self ..)
    obtain ⟨z', e⟩ := same_loop F w xs S hw hF l (.fr (.int i)) fun j hj => h j (List.mem_cons_of_mem _ hj)
    refine ⟨z', ?_⟩
    have hx := hF xs[i] (List.getElem_mem hi)
    rw [List.map_cons, EV.forL]
    simp only [Int.zero_add] at e
    rcases hw with rfl | rfl <;> simp -implicitDefEqProofs [EV.LIM, EV.str_lit, evr, EV.r_for, EV.r_rng1, EV.wbin, EV.wun, EV.wcmp, EV.vw, EV.vwz, EV.wix, EV.wblt, EV.wtru, EV.wisi, EV.frz, EV.mkOwn, L2.atI, L2.ixN, List.map, List.length_cons, List.length_nil, List.replicate, List.getElem?_cons_zero, List.getElem?_cons_succ, List.set_cons_zero, List.set_cons_succ, List.append_nil, List.cons_append, List.nil_append, hi, hx, e]
theorem rng_len (w : EV.W) (xs : List EV.W) (S : EV.Sto) (z : EV.Sl) (hw : w = .tup xs ∨ w = .lst xs) (hl : EV.in62 (xs.length : Int)) :
    EV.mRng1 (EV.mBlt .len (EV.mCons (EV.mVarB 1) EV.mNil)) [.fr w, .fr w, z] S = .ok (EV.rngW 0 xs.length) S := by
  have e : EV.mBlt .len (EV.mCons (EV.mVarB 1) EV.mNil) [.fr w, .fr w, z] S = .ok (.int xs.length) S := by rcases hw with rfl | rfl <;> simp -implicitDefEqProofs [EV.LIM, EV.str_lit, evr, EV.r_for, EV.r_rng1, EV.wbin, EV.wun, EV.wcmp, EV.vw, EV.vwz, EV.wix, EV.wblt, EV.wtru, EV.wisi, EV.frz, EV.mkOwn, L2.atI, L2.ixN, List.map, List.length_cons, List.length_nil, List.replicate, List.getElem?_cons_zero, List.getElem?_cons_succ, List.set_cons_zero, List.set_cons_succ, List.append_nil, List.cons_append, List.nil_append]
  rw [EV.r_rng1, e, EV.r_ok, EV.r_rng1F hl, Int.toNat_natCast]
theorem same_for (F : EV.Fenv) (w : EV.W) (xs : List EV.W) (S : EV.Sto) (hw : w = .tup xs ∨ w = .lst xs) (hl : EV.in62 (xs.length : Int)) (hF : ∀ x ∈ xs, F "_law_same" [x, x] S = .ok (.bl true) S) :
    ∃ z', EV.sFor (EV.mRng1 (EV.mBlt .len (EV.mCons (EV.mVarB 1) EV.mNil))) (EV.bName 2) (EV.sIf (EV.mNotT (EV.mTru (EV.mCall F "_law_same" (EV.mCons (EV.mIx (EV.mVarB 0) (EV.mVarB 2)) (EV.mCons (EV.mIx (EV.mVarB 1) (EV.mVarB 2)) EV.mNil)) []))) (EV.sRet (EV.mC (.bl false))) EV.sNext) [.fr w, .fr w, .emp] S = .ok (.nx [.fr w, .fr w, z']) S := by
  obtain ⟨z', e⟩ := same_loop F w xs S hw hF (List.range xs.length) .emp (fun i hi => List.mem_range.mp hi)
  refine ⟨z', ?_⟩
  rw [EV.r_for, rng_len w xs S _ hw hl, EV.r_ok, EV.r_forF]
  exact e
theorem same_ok : ∀ (d : Nat) (w : EV.W) (S : EV.Sto), Plain d w → EV.Fn gG gP (d + 1) "_law_same" [w, w] S = .ok (.bl true) S := by
  intro d
  induction d with
  | zero =>
    intro w S h
    rw [fe_lw_same]
    unfold m_lw_same
    cases w <;> first | (exact h.elim) | simp -implicitDefEqProofs [EV.LIM, EV.str_lit, evr, EV.r_for, EV.r_rng1, EV.wbin, EV.wun, EV.wcmp, EV.vw, EV.vwz, EV.wix, EV.wblt, EV.wtru, EV.wisi, EV.frz, EV.mkOwn, L2.atI, L2.ixN, List.map, List.length_cons, List.length_nil, List.replicate, List.getElem?_cons_zero, List.getElem?_cons_succ, List.set_cons_zero, List.set_cons_succ, List.append_nil, List.cons_append, List.nil_append]
  | succ d ih =>
    intro w S h
    rw [fe_lw_same]
    unfold m_lw_same
    cases w with
    | tup xs =>
      have hl : EV.in62 (xs.length : Int) := in62_le (by omega) (by have := h.1; omega)
      obtain ⟨z', e⟩ := same_for (EV.Fn gG gP (d + 1)) (.tup xs) xs S (.inl rfl) hl fun x hx => ih x S (h.2 x hx)
      clear hl h ih
      simp -implicitDefEqProofs [EV.LIM, EV.str_lit, evr, EV.wbin, EV.wun, EV.wcmp, EV.vw, EV.vwz, EV.wix, EV.wblt, EV.wtru, EV.wisi, EV.frz, EV.mkOwn, L2.atI, L2.ixN, List.map, List.length_cons, List.length_nil, List.replicate, List.getElem?_cons_zero, List.getElem?_cons_succ, List.set_cons_zero, List.set_cons_succ, List.append_nil, List.cons_append, List.nil_append, e]
    | lst xs =>
      have hl : EV.in62 (xs.length : Int) := in62_le (by omega) (by have := h.1; omega)
      obtain ⟨z', e⟩ := same_for (EV.Fn gG gP (d + 1)) (.lst xs) xs S (.inr rfl) hl fun x hx => ih x S (h.2 x hx)
      clear hl h ih
      simp -implicitDefEqProofs [EV.LIM, EV.str_lit, evr, EV.wbin, EV.wun, EV.wcmp, EV.vw, EV.vwz, EV.wix, EV.wblt, EV.wtru, EV.wisi, EV.frz, EV.mkOwn, L2.atI, L2.ixN, List.map, List.length_cons, List.length_nil, List.replicate, List.getElem?_cons_zero, List.getElem?_cons_succ, List.set_cons_zero, List.set_cons_succ, List.append_nil, List.cons_append, List.nil_append, e]
    | non => simp [EV.LIM, EV.str_lit, evr, EV.r_for, EV.r_rng1, EV.wbin, EV.wun, EV.wcmp, EV.vw, EV.vwz, EV.wix, EV.wblt, EV.wtru, EV.wisi, EV.frz, EV.mkOwn, L2.atI, L2.ixN, List.map, List.length_cons, List.length_nil, List.replicate, List.getElem?_cons_zero, List.getElem?_cons_succ, List.set_cons_zero, List.set_cons_succ, List.append_nil, List.cons_append, List.nil_append]
    | bl b => simp [EV.LIM, EV.str_lit, evr, EV.r_for, EV.r_rng1, EV.wbin, EV.wun, EV.wcmp, EV.vw, EV.vwz, EV.wix, EV.wblt, EV.wtru, EV.wisi, EV.frz, EV.mkOwn, L2.atI, L2.ixN, List.map, List.length_cons, List.length_nil, List.replicate, List.getElem?_cons_zero, List.getElem?_cons_succ, List.set_cons_zero, List.set_cons_succ, List.append_nil, List.cons_append, List.nil_append]
    | int i => simp [EV.LIM, EV.str_lit, evr, EV.r_for, EV.r_rng1, EV.wbin, EV.wun, EV.wcmp, EV.vw, EV.vwz, EV.wix, EV.wblt, EV.wtru, EV.wisi, EV.frz, EV.mkOwn, L2.atI, L2.ixN, List.map, List.length_cons, List.length_nil, List.replicate, List.getElem?_cons_zero, List.getElem?_cons_succ, List.set_cons_zero, List.set_cons_succ, List.append_nil, List.cons_append, List.nil_append]
    | str s => simp [EV.LIM, EV.str_lit, evr, EV.r_for, EV.r_rng1, EV.wbin, EV.wun, EV.wcmp, EV.vw, EV.vwz, EV.wix, EV.wblt, EV.wtru, EV.wisi, EV.frz, EV.mkOwn, L2.atI, L2.ixN, List.map, List.length_cons, List.length_nil, List.replicate, List.getElem?_cons_zero, List.getElem?_cons_succ, List.set_cons_zero, List.set_cons_succ, List.append_nil, List.cons_append, List.nil_append]
    | dct _ => exact h.elim
    | loc _ => exact h.elim
    | ty _ => exact h.elim
    | gl _ => exact h.elim
    | scr _ => exact h.elim
theorem plain_up : ∀ (d : Nat) (w : EV.W), Plain d w → Plain (d + 1) w := by
  intro d
  induction d with
  | zero => intro w h; cases w <;> first | exact trivial | exact h.elim
  | succ d ih =>
    intro w h
    cases w with
    | tup xs => exact ⟨h.1, fun x hx => ih x (h.2 x hx)⟩
    | lst xs => exact ⟨h.1, fun x hx => ih x (h.2 x hx)⟩
    | non => trivial
    | bl b => trivial
    | int i => trivial
    | str s => trivial
    | dct _ => exact h.elim
    | loc _ => exact h.elim
    | ty _ => exact h.elim
    | gl _ => exact h.elim
    | scr _ => exact h.elim
theorem plain_ups (d k : Nat) (w : EV.W) (h : Plain d w) : Plain (d + k) w := by
  induction k with
  | zero => exact h
  | succ k ih => exact plain_up _ _ ih
theorem seq_step {a rest : EV.M EV.Fl} {σ σ1 : EV.Sls} {S S1 : EV.Sto} (h : a σ S = .ok (.nx σ1) S1) : EV.sSeq a rest σ S = rest σ1 S1 := by rw [EV.r_seq, h, EV.r_ok, EV.r_seqN]
theorem seq_assoc (a b c : EV.M EV.Fl) (σ : EV.Sls) (S : EV.Sto) : EV.sSeq a (EV.sSeq b c) σ S = EV.sSeq (EV.sSeq a b) c σ S := by
  unfold EV.sSeq EV.Res.bind
  cases a σ S with
  | ok f S1 => cases f <;> rfl
  | ex _ _ _ => rfl
  | bad => rfl
theorem seq_step2 {a b rest : EV.M EV.Fl} {σ σ1 : EV.Sls} {S S1 : EV.Sto} (h : EV.sSeq a b σ S = .ok (.nx σ1) S1) : EV.sSeq a (EV.sSeq b rest) σ S = rest σ1 S1 := by rw [seq_assoc, seq_step h]
theorem seq_step3 {a b c rest : EV.M EV.Fl} {σ σ1 : EV.Sls} {S S1 : EV.Sto} (h : EV.sSeq a (EV.sSeq b c) σ S = .ok (.nx σ1) S1) : EV.sSeq a (EV.sSeq b (EV.sSeq c rest)) σ S = rest σ1 S1 := by rw [seq_assoc] at h ⊢; rw [seq_step2 h]
theorem seq_step4 {a b c e rest : EV.M EV.Fl} {σ σ1 : EV.Sls} {S S1 : EV.Sto} (h : EV.sSeq a (EV.sSeq b (EV.sSeq c e)) σ S = .ok (.nx σ1) S1) : EV.sSeq a (EV.sSeq b (EV.sSeq c (EV.sSeq e rest))) σ S = rest σ1 S1 := by rw [seq_assoc] at h ⊢; rw [seq_step3 h]
/-! ### methods that change a list (by general words: the kernel shall not look into lstUp) -/
theorem mut_loc {F : EV.Fenv} {own : Str → Option Str} {m : EV.Mt} {nm : Str} {i n : Nat} {a : EV.M (List EV.W)} {σ : EV.Sls} {S S1 : EV.Sto} {xs ys ws : List EV.W} {r : EV.W} (h0 : σ[i]? = some (.fr (.loc n))) (h1 : S[n]? = some (.lst xs)) (ha : a σ S = .ok ws S1) (h2 : S1[n]? = some (.lst xs)) (up : EV.lstUp S1 m xs ws = some (r, ys)) :
    EV.mutE F own m nm i a σ S = .ok (r, σ) (S1.set n (.lst ys)) := by
  unfold EV.mutE EV.goMeth EV.kdOf
  simp only [h0, h1, ha, EV.r_ok]
  unfold EV.doB EV.vw
  simp only [h2, up, EV.r_ok]
theorem mut_loc2 {F : EV.Fenv} {own : Str → Option Str} {m : EV.Mt} {nm : Str} {i n : Nat} {a : EV.M (List EV.W)} {σ : EV.Sls} {S S1 : EV.Sto} {xs zs ys ws : List EV.W} {r : EV.W} (h0 : σ[i]? = some (.fr (.loc n))) (h1 : S[n]? = some (.lst zs)) (ha : a σ S = .ok ws S1) (h2 : S1[n]? = some (.lst xs)) (up : EV.lstUp S1 m xs ws = some (r, ys)) :
    EV.mutE F own m nm i a σ S = .ok (r, σ) (S1.set n (.lst ys)) := by
  unfold EV.mutE EV.goMeth EV.kdOf
  simp only [h0, h1, ha, EV.r_ok]
  unfold EV.doB EV.vw
  simp only [h2, up, EV.r_ok]
theorem mut_own {F : EV.Fenv} {own : Str → Option Str} {m : EV.Mt} {nm : Str} {i : Nat} {a : EV.M (List EV.W)} {σ : EV.Sls} {S S1 : EV.Sto} {xs ys ws : List EV.W} {r : EV.W} (h0 : σ[i]? = some (.ow (.lst xs))) (ha : a σ S = .ok ws S1) (up : EV.lstUp S1 m xs ws = some (r, ys)) :
    EV.mutE F own m nm i a σ S = .ok (r, σ.set i (.ow (.lst ys))) S1 := by
  unfold EV.mutE
  simp only [h0, ha, EV.r_ok, up]
theorem meth_loc {F : EV.Fenv} {own : Str → Option Str} {m : EV.Mt} {nm : Str} {n : Nat} {b : EV.M EV.W} {a : EV.M (List EV.W)} {σ : EV.Sls} {S S0 S1 : EV.Sto} {xs zs ys ws : List EV.W} {r : EV.W} (h0 : b σ S = .ok (.loc n) S0) (h1 : S0[n]? = some (.lst zs)) (ha : a σ S0 = .ok ws S1) (h2 : S1[n]? = some (.lst xs)) (up : EV.lstUp S1 m xs ws = some (r, ys)) :
    EV.mMeth F own m nm b a σ S = .ok r (S1.set n (.lst ys)) := by
  rw [EV.r_meth, h0, EV.r_ok, EV.r_metF]
  unfold EV.goMeth EV.kdOf
  simp only [h1, ha, EV.r_ok]
  unfold EV.doB EV.vw
  simp only [h2, up]
theorem up_app (S : EV.Sto) (xs : List EV.W) (y : EV.W) (h : xs.length < 10000000) : EV.lstUp S .append xs [y] = some (.non, xs ++ [y]) := by
  unfold EV.lstUp
  exact if_pos h
theorem up_ext (S : EV.Sto) (xs ys : List EV.W) (h : xs.length + ys.length ≤ 10000000) : EV.lstUp S .extend xs [.lst ys] = some (.non, xs ++ ys) := by
  unfold EV.lstUp EV.vw
  exact if_pos h
theorem up_pop (S : EV.Sto) (xs : List EV.W) (y : EV.W) : EV.lstUp S .pop (xs ++ [y]) [] = some (y, xs) := by
  unfold EV.lstUp
  simp
theorem up_popAt (S : EV.Sto) (xs : List EV.W) (k : Nat) (y : EV.W) (h : xs[k]? = some y) (hl : xs.length < 10000000) : EV.lstUp S .pop xs [.int k] = some (y, xs.eraseIdx k) := by
  have hk := (List.getElem?_eq_some_iff.mp h).1
  have hix : L2.ixN xs.length (k : Int) = some k := by
    unfold L2.ixN
    rw [if_pos (by omega), if_pos (by omega), Int.toNat_natCast]
  have hp : -(2 ^ 63) ≤ (k : Int) ∧ (k : Int) < 2 ^ 63 := by omega
  unfold EV.lstUp
  simp only
  rw [if_pos hp, hix]
  simp only [h]
/-! ### == of lists of data -/
section
variable {α : Type}
theorem toDs_map (f : α → EV.W) (g : α → PyData) (h : ∀ a, EV.toD (f a) = some (g a)) : ∀ l : List α, EV.toDs (l.map f) = some (l.map g)
  | [] => by simp [EV.toDs]
  | a :: l => by
    rw [List.map_cons, EV.toDs, h a, toDs_map f g h l]
    rfl
theorem lay_map (g : α → PyData) (h : ∀ a, (g a).canLay0 = true) : ∀ l : List α, PyData.canLayAll0 (l.map g) = true
  | [] => by simp [PyData.canLayAll0]
  | a :: l => by rw [List.map_cons, PyData.canLayAll0, h a, lay_map g h l]; rfl
theorem dep_map (g : α → PyData) (n : Nat) (h : ∀ a, (g a).depth ≤ n) : ∀ l : List α, PyData.depthAll (l.map g) ≤ n
  | [] => by simp [PyData.depthAll]
  | a :: l => by
    rw [List.map_cons, PyData.depthAll]
    have := h a
    have := dep_map g n h l
    omega
theorem eqv_map [DecidableEq α] (g : α → PyData) (h : ∀ a b, PyData.eqv (g a) (g b) = decide (a = b)) : ∀ l m : List α, PyData.eqvAll (l.map g) (m.map g) = decide (l = m)
  | [], [] => by simp [PyData.eqvAll]
  | [], _ :: _ => by simp [PyData.eqvAll]
  | _ :: _, [] => by simp [PyData.eqvAll]
  | a :: l, b :: m => by
    rw [List.map_cons, List.map_cons, PyData.eqvAll, h a b, eqv_map g h l m]
    by_cases q : a = b <;> by_cases q2 : l = m <;> simp [q, q2]
theorem weq_map [DecidableEq α] (f : α → EV.W) (g : α → PyData) (h1 : ∀ a, EV.toD (f a) = some (g a)) (h2 : ∀ a, (g a).canLay0 = true) (h3 : ∀ a, (g a).depth ≤ 60) (h4 : ∀ a b, PyData.eqv (g a) (g b) = decide (a = b)) (l m : List α) :
    EV.weq (.lst (l.map f)) (.lst (m.map f)) = some (decide (l = m)) := by
  have sh : ∀ l : List α, SeqAt.shaped (.list (l.map g)) = true := fun l => by
    unfold SeqAt.shaped PyData.canLay0 PyData.depth
    rw [lay_map g h2 l]
    have := dep_map g 60 h3 l
    simp only [Bool.true_and, decide_eq_true_eq]
    omega
  unfold EV.weq
  have e : ∀ l : List α, EV.toD (.lst (l.map f)) = some (.list (l.map g)) := fun l => by rw [EV.toD, toDs_map f g h1 l]; rfl
  simp only [e, sh, and_self, if_true]
  rw [PyData.eqv, eqv_map g h4]
end
theorem weq_cells (l m : List (Int × Bool)) : EV.weq (.lst (l.map fun c => .tup [.int c.1, .bl c.2])) (.lst (m.map fun c => .tup [.int c.1, .bl c.2])) = some (decide (l = m)) :=
  weq_map _ (fun c => .tuple [.int c.1, .bool c.2]) (fun c => by simp [EV.toD, EV.toDs]) (fun c => by simp [PyData.canLay0, PyData.canLayAll0]) (fun c => by simp [PyData.depth, PyData.depthAll]) (fun a b => by
    obtain ⟨a1, a2⟩ := a
    obtain ⟨b1, b2⟩ := b
    simp only [PyData.eqv, PyData.eqvAll, Bool.and_true]
    by_cases q : a1 = b1 <;> by_cases q2 : a2 = b2 <;> simp [q, q2]) l m
theorem weq_pairs (l m : List (Int × Int)) : EV.weq (.lst (l.map fun c => .tup [.int c.1, .int c.2])) (.lst (m.map fun c => .tup [.int c.1, .int c.2])) = some (decide (l = m)) :=
  weq_map _ (fun c => .tuple [.int c.1, .int c.2]) (fun c => by simp [EV.toD, EV.toDs]) (fun c => by simp [PyData.canLay0, PyData.canLayAll0]) (fun c => by simp [PyData.depth, PyData.depthAll]) (fun a b => by
    obtain ⟨a1, a2⟩ := a
    obtain ⟨b1, b2⟩ := b
    simp only [PyData.eqv, PyData.eqvAll, Bool.and_true]
    by_cases q : a1 = b1 <;> by_cases q2 : a2 = b2 <;> simp [q, q2]) l m
theorem weq_cells0 (l : List (Int × Bool)) : EV.weq (.lst (l.map fun c => .tup [.int c.1, .bl c.2])) (.lst []) = some (decide (l = [])) := weq_cells l []
theorem weq_pairs0 (l : List (Int × Int)) : EV.weq (.lst (l.map fun c => .tup [.int c.1, .int c.2])) (.lst []) = some (decide (l = [])) := weq_pairs l []
theorem weq_npairs0 (l : List (Nat × Nat)) : EV.weq (.lst (l.map fun c => .tup [.int c.1, .int c.2])) (.lst []) = some (decide (l = [])) :=
  weq_map (fun c : Nat × Nat => .tup [.int c.1, .int c.2]) (fun c => .tuple [.int c.1, .int c.2]) (fun c => by simp [EV.toD, EV.toDs]) (fun c => by simp [PyData.canLay0, PyData.canLayAll0]) (fun c => by simp [PyData.depth, PyData.depthAll]) (fun a b => by
    obtain ⟨a1, a2⟩ := a
    obtain ⟨b1, b2⟩ := b
    simp only [PyData.eqv, PyData.eqvAll, Bool.and_true]
    have e : ∀ x y : Nat, ((x : Int) == (y : Int)) = decide (x = y) := fun x y => by
      by_cases q : x = y
      · subst q; simp
      · rw [beq_false_of_ne (by omega)]; simp [q]
    rw [e, e]
    by_cases q : a1 = b1 <;> by_cases q2 : a2 = b2 <;> simp [q, q2]) l []
theorem weq_wait0 (l : List (Nat × Int)) : EV.weq (.lst (l.map fun c => .tup [.int c.1, .int c.2])) (.lst []) = some (decide (l = [])) :=
  weq_map (fun c : Nat × Int => .tup [.int c.1, .int c.2]) (fun c => .tuple [.int c.1, .int c.2]) (fun c => by simp [EV.toD, EV.toDs]) (fun c => by simp [PyData.canLay0, PyData.canLayAll0]) (fun c => by simp [PyData.depth, PyData.depthAll]) (fun a b => by
    obtain ⟨a1, a2⟩ := a
    obtain ⟨b1, b2⟩ := b
    simp only [PyData.eqv, PyData.eqvAll, Bool.and_true]
    have e : ∀ x y : Nat, ((x : Int) == (y : Int)) = decide (x = y) := fun x y => by
      by_cases q : x = y
      · subst q; simp
      · rw [beq_false_of_ne (by omega)]; simp [q]
    rw [e]
    by_cases q : a1 = b1 <;> by_cases q2 : a2 = b2 <;> simp [q, q2]) l []
/-! ### general words for comprehensions and loops -/
theorem lc_gen {i : Nat} {t : EV.M Bool} {me : EV.M EV.W} {σ : EV.Sls} {S : EV.Sto} {p : EV.W → Bool} {f : EV.W → EV.W} : ∀ (ws : List EV.W), (∀ w ∈ ws, t (σ.set i (.fr w)) S = .ok (p w) S ∧ (p w = true → me (σ.set i (.fr w)) S = .ok (f w) S)) → EV.lcL (EV.bName i) t me σ ws S = .ok ((ws.filter p).map f) S
  | [], _ => rfl
  | w :: ws, h => by
    have ih := lc_gen ws fun x hx => h x (List.mem_cons_of_mem _ hx)
    obtain ⟨h1, h2⟩ := h w (List.mem_cons_self ..)
    rw [EV.q_lcC, EV.r_bname, EV.r_ok, h1, EV.r_ok]
    by_cases q : p w = true
    · rw [q, if_pos rfl, h2 q, EV.r_ok, ih, List.filter_cons, if_pos q]
      rfl
    · have q' : p w = false := by simpa using q
      rw [q', if_neg (by simp), ih, List.filter_cons, if_neg (by rw [q']; simp)]
theorem lc_all {i : Nat} {me : EV.M EV.W} {σ : EV.Sls} {S : EV.Sto} {f : EV.W → EV.W} (ws : List EV.W) (h : ∀ w ∈ ws, me (σ.set i (.fr w)) S = .ok (f w) S) : EV.lcL (EV.bName i) EV.mYes me σ ws S = .ok (ws.map f) S := by
  have := lc_gen (i := i) (t := EV.mYes) (me := me) (σ := σ) (S := S) (p := fun _ => true) (f := f) ws fun w hw => ⟨rfl, fun _ => h w hw⟩
  rw [this, List.filter_eq_self.mpr (fun _ _ => rfl)]
/-- over a family: the items are named by their numbers -/
theorem lc_idx {α : Type} {i : Nat} {t : EV.M Bool} {me : EV.M EV.W} {σ : EV.Sls} {S : EV.Sto} {wi : α → EV.W} {p : α → Bool} {f : α → EV.W} : ∀ (l : List α), (∀ a ∈ l, t (σ.set i (.fr (wi a))) S = .ok (p a) S ∧ (p a = true → me (σ.set i (.fr (wi a))) S = .ok (f a) S)) → EV.lcL (EV.bName i) t me σ (l.map wi) S = .ok ((l.filter p).map f) S
  | [], _ => rfl
  | a :: l, h => by
    have ih := lc_idx l fun x hx => h x (List.mem_cons_of_mem _ hx)
    obtain ⟨h1, h2⟩ := h a (List.mem_cons_self ..)
    rw [List.map_cons, EV.q_lcC, EV.r_bname, EV.r_ok, h1, EV.r_ok]
    by_cases q : p a = true
    · rw [q, if_pos rfl, h2 q, EV.r_ok, ih, List.filter_cons, if_pos q]
      rfl
    · have q' : p a = false := by simpa using q
      rw [q', if_neg (by simp), ih, List.filter_cons, if_neg (by rw [q']; simp)]
theorem lc_idxA {α : Type} {i : Nat} {me : EV.M EV.W} {σ : EV.Sls} {S : EV.Sto} {wi : α → EV.W} {f : α → EV.W} (l : List α) (h : ∀ a ∈ l, me (σ.set i (.fr (wi a))) S = .ok (f a) S) : EV.lcL (EV.bName i) EV.mYes me σ (l.map wi) S = .ok (l.map f) S := by
  have := lc_idx (i := i) (t := EV.mYes) (me := me) (σ := σ) (S := S) (wi := wi) (p := fun _ => true) (f := f) l fun a ha => ⟨rfl, fun _ => h a ha⟩
  rw [this, List.filter_eq_self.mpr (fun _ _ => rfl)]
theorem rng_nat (n : Nat) : EV.rngW 0 n = (List.range n).map fun i => .int (i : Nat) := by
  unfold EV.rngW
  apply List.map_congr_left
  intro i _
  congr 1
  omega
theorem lc_run {it : EV.M (List EV.W)} {i : Nat} {t : EV.M Bool} {me : EV.M EV.W} {own : List Nat} {σ σ1 : EV.Sls} {S : EV.Sto} {ws vs : List EV.W} (h0 : it σ S = .ok ws S) (hl : ws.length ≤ 10000000) (ho : (own.all fun i => EV.notOw (σ[i]?)) = true) (h1 : EV.wwipe σ own = σ1) (h : EV.lcL (EV.bName i) t me σ1 ws S = .ok vs S) : EV.mLc it (EV.bName i) t me own σ S = .ok (.lst vs) S := by
  rw [EV.r_lc, h0, EV.r_ok, EV.r_lcF, if_pos ⟨hl, ho⟩, h1, h]
  rfl
theorem rng_l {a : EV.M EV.W} {σ : EV.Sls} {S : EV.Sto} {ws : List EV.W} (h : a σ S = .ok (.lst ws) S) (hl : ws.length ≤ 10000000) : EV.mRng1 (EV.mBlt .len (EV.mCons a EV.mNil)) σ S = .ok ((List.range ws.length).map fun i => .int (i : Nat)) S := by
  have e : EV.mBlt .len (EV.mCons a EV.mNil) σ S = .ok (.int ws.length) S := by simp -implicitDefEqProofs [EV.LIM, EV.str_lit, evr, EV.r_for, EV.r_rng1, EV.wbin, EV.wun, EV.wcmp, EV.vw, EV.vwz, EV.wix, EV.wblt, EV.wtru, EV.wisi, EV.frz, EV.mkOwn, L2.atI, L2.ixN, List.map, List.length_cons, List.length_nil, List.replicate, List.getElem?_cons_zero, List.getElem?_cons_succ, List.set_cons_zero, List.set_cons_succ, List.append_nil, List.cons_append, List.nil_append, h]
  have hi : EV.in62 (ws.length : Int) := in62_le (by omega) (by omega)
  rw [EV.r_rng1, e, EV.r_ok, EV.r_rng1F hi, Int.toNat_natCast, rng_nat]
theorem rng_t {a : EV.M EV.W} {σ : EV.Sls} {S : EV.Sto} {ws : List EV.W} (h : a σ S = .ok (.tup ws) S) (hl : ws.length ≤ 10000000) : EV.mRng1 (EV.mBlt .len (EV.mCons a EV.mNil)) σ S = .ok ((List.range ws.length).map fun i => .int (i : Nat)) S := by
  have e : EV.mBlt .len (EV.mCons a EV.mNil) σ S = .ok (.int ws.length) S := by simp -implicitDefEqProofs [EV.LIM, EV.str_lit, evr, EV.r_for, EV.r_rng1, EV.wbin, EV.wun, EV.wcmp, EV.vw, EV.vwz, EV.wix, EV.wblt, EV.wtru, EV.wisi, EV.frz, EV.mkOwn, L2.atI, L2.ixN, List.map, List.length_cons, List.length_nil, List.replicate, List.getElem?_cons_zero, List.getElem?_cons_succ, List.set_cons_zero, List.set_cons_succ, List.append_nil, List.cons_append, List.nil_append, h]
  have hi : EV.in62 (ws.length : Int) := in62_le (by omega) (by omega)
  rw [EV.r_rng1, e, EV.r_ok, EV.r_rng1F hi, Int.toNat_natCast, rng_nat]
theorem rng_i {a : EV.M EV.W} {σ : EV.Sls} {S : EV.Sto} {k : Nat} (h : a σ S = .ok (.int k) S) (hl : k ≤ 10000000) : EV.mRng1 a σ S = .ok ((List.range k).map fun i => .int (i : Nat)) S := by
  have hi : EV.in62 (k : Int) := in62_le (by omega) (by omega)
  rw [EV.r_rng1, h, EV.r_ok, EV.r_rng1F hi, Int.toNat_natCast, rng_nat]
/-- draws: a comprehension whose store changes -/
theorem lc_st {α : Type} {i : Nat} {me : EV.M EV.W} {σ : EV.Sls} {st : EV.Ob → EV.Sto} {P : α → Prop} {f : α → EV.W} (h : ∀ w o, IsBag o → ∃ r o', P r ∧ IsBag o' ∧ me (σ.set i (.fr w)) (st o) = .ok (f r) (st o')) : ∀ (ws : List EV.W) (o : EV.Ob), IsBag o → ∃ (l : List α) (o' : EV.Ob), l.length = ws.length ∧ (∀ x ∈ l, P x) ∧ IsBag o' ∧ EV.lcL (EV.bName i) EV.mYes me σ ws (st o) = .ok (l.map f) (st o')
  | [], o, hb => ⟨[], o, rfl, fun x hx => (by cases hx), hb, rfl⟩
  | w :: ws, o, hb => by
    obtain ⟨r, o1, h1, b1, e1⟩ := h w o hb
    obtain ⟨l, o2, l2, h2, b2, e2⟩ := lc_st h ws o1 b1
    refine ⟨r :: l, o2, by simp [l2], fun x hx => ?_, b2, ?_⟩
    · rcases List.mem_cons.mp hx with rfl | q
      · exact h1
      · exact h2 x q
    · rw [EV.q_lcC, EV.r_bname, EV.r_ok, show EV.mYes (σ.set i (.fr w)) (st o) = .ok true (st o) from rfl, EV.r_ok, if_pos rfl, e1, EV.r_ok, e2]
      rfl
theorem set_same {S : EV.Sto} {n : Nat} {o : EV.Ob} (h : S[n]? = some o) : S.set n o = S := by
  obtain ⟨h1, h2⟩ := List.getElem?_eq_some_iff.mp h
  subst h2
  exact List.set_getElem_self h1
theorem get_last (T : EV.Sto) (x : EV.Ob) : (T ++ [x])[T.length]? = some x := by
  rw [List.getElem?_append_right (Nat.le_refl _), Nat.sub_self]
  rfl
theorem set_lst (T : EV.Sto) (x y : EV.Ob) : (T ++ [x]).set T.length y = T ++ [y] := by
  rw [List.set_append_right _ _ (Nat.le_refl _), Nat.sub_self]
  rfl
/-- a comprehension whose store changes, by an invariant -/
theorem lc_inv {α : Type} {i : Nat} {me : EV.M EV.W} {σ : EV.Sls} {I : EV.Sto → Prop} {P : α → Prop} {f : α → EV.W} (h : ∀ w T, I T → ∃ r T', P r ∧ I T' ∧ me (σ.set i (.fr w)) T = .ok (f r) T') : ∀ (ws : List EV.W) (T : EV.Sto), I T → ∃ (l : List α) (T' : EV.Sto), l.length = ws.length ∧ (∀ x ∈ l, P x) ∧ I T' ∧ EV.lcL (EV.bName i) EV.mYes me σ ws T = .ok (l.map f) T'
  | [], T, hb => ⟨[], T, rfl, fun x hx => (by cases hx), hb, rfl⟩
  | w :: ws, T, hb => by
    obtain ⟨r, T1, h1, b1, e1⟩ := h w T hb
    obtain ⟨l, T2, l2, h2, b2, e2⟩ := lc_inv h ws T1 b1
    refine ⟨r :: l, T2, by simp [l2], fun x hx => ?_, b2, ?_⟩
    · rcases List.mem_cons.mp hx with rfl | q
      · exact h1
      · exact h2 x q
    · rw [EV.q_lcC, EV.r_bname, EV.r_ok, show EV.mYes (σ.set i (.fr w)) T = .ok true T from rfl, EV.r_ok, if_pos rfl, e1, EV.r_ok, e2]
      rfl
/-! ### stretches: the class -/
def clI (n : Int) : Int := if n < -999999 then -999999 else if 999999 < n then 999999 else n
def saI (n t : Int) : Int := if n < 0 then 0 else if t < n then t else n
def srO (a b : Int) : EV.Ob := .ins "Stretch" [("low", .int a), ("high", .int b)]
theorem clamp_ok (d : Nat) (n : Int) (S : EV.Sto) : EV.Fn gG gP (d + 1) "clamp" [.int n] S = .ok (.int (clI n)) S := by
  rw [fe_clamp]
  unfold m_clamp clI
  by_cases h1 : n < -999999
  · simp -implicitDefEqProofs [EV.LIM, EV.str_lit, evr, EV.r_for, EV.r_rng1, EV.wbin, EV.wun, EV.wcmp, EV.vw, EV.vwz, EV.wix, EV.wblt, EV.wtru, EV.wisi, EV.frz, EV.mkOwn, L2.atI, L2.ixN, List.map, List.length_cons, List.length_nil, List.replicate, List.getElem?_cons_zero, List.getElem?_cons_succ, List.set_cons_zero, List.set_cons_succ, List.append_nil, List.cons_append, List.nil_append, h1]
  · by_cases h2 : 999999 < n
    · simp -implicitDefEqProofs [EV.LIM, EV.str_lit, evr, EV.r_for, EV.r_rng1, EV.wbin, EV.wun, EV.wcmp, EV.vw, EV.vwz, EV.wix, EV.wblt, EV.wtru, EV.wisi, EV.frz, EV.mkOwn, L2.atI, L2.ixN, List.map, List.length_cons, List.length_nil, List.replicate, List.getElem?_cons_zero, List.getElem?_cons_succ, List.set_cons_zero, List.set_cons_succ, List.append_nil, List.cons_append, List.nil_append, h1, h2]
    · simp -implicitDefEqProofs [EV.LIM, EV.str_lit, evr, EV.r_for, EV.r_rng1, EV.wbin, EV.wun, EV.wcmp, EV.vw, EV.vwz, EV.wix, EV.wblt, EV.wtru, EV.wisi, EV.frz, EV.mkOwn, L2.atI, L2.ixN, List.map, List.length_cons, List.length_nil, List.replicate, List.getElem?_cons_zero, List.getElem?_cons_succ, List.set_cons_zero, List.set_cons_succ, List.append_nil, List.cons_append, List.nil_append, h1, h2]
theorem sat_ok (d : Nat) (n t : Int) (S : EV.Sto) : EV.Fn gG gP (d + 1) "saturate" [.int n, .int t] S = .ok (.int (saI n t)) S := by
  rw [fe_saturate]
  unfold m_saturate saI
  by_cases h1 : n < 0
  · simp -implicitDefEqProofs [EV.LIM, EV.str_lit, evr, EV.r_for, EV.r_rng1, EV.wbin, EV.wun, EV.wcmp, EV.vw, EV.vwz, EV.wix, EV.wblt, EV.wtru, EV.wisi, EV.frz, EV.mkOwn, L2.atI, L2.ixN, List.map, List.length_cons, List.length_nil, List.replicate, List.getElem?_cons_zero, List.getElem?_cons_succ, List.set_cons_zero, List.set_cons_succ, List.append_nil, List.cons_append, List.nil_append, h1]
  · by_cases h2 : t < n
    · simp -implicitDefEqProofs [EV.LIM, EV.str_lit, evr, EV.r_for, EV.r_rng1, EV.wbin, EV.wun, EV.wcmp, EV.vw, EV.vwz, EV.wix, EV.wblt, EV.wtru, EV.wisi, EV.frz, EV.mkOwn, L2.atI, L2.ixN, List.map, List.length_cons, List.length_nil, List.replicate, List.getElem?_cons_zero, List.getElem?_cons_succ, List.set_cons_zero, List.set_cons_succ, List.append_nil, List.cons_append, List.nil_append, h1, h2]
    · simp -implicitDefEqProofs [EV.LIM, EV.str_lit, evr, EV.r_for, EV.r_rng1, EV.wbin, EV.wun, EV.wcmp, EV.vw, EV.vwz, EV.wix, EV.wblt, EV.wtru, EV.wisi, EV.frz, EV.mkOwn, L2.atI, L2.ixN, List.map, List.length_cons, List.length_nil, List.replicate, List.getElem?_cons_zero, List.getElem?_cons_succ, List.set_cons_zero, List.set_cons_succ, List.append_nil, List.cons_append, List.nil_append, h1, h2]
theorem ini_nm : (("Stretch" : Str) ++ (".__init__" : Str)) = ("Stretch.__init__" : Str) := by decide +kernel
theorem init_ok (d : Nat) (a b : Int) (S : EV.Sto) : EV.Fn gG gP (d + 1) "Stretch.__init__" [.loc S.length, .int a, .int b] (S ++ [.ins "Stretch" []]) = .ok .non (S ++ [srO a b]) := by
  rw [fe_Stretchu_initu]
  unfold m_Stretchu_initu srO
  have h1 : ∀ x : EV.Ob, (S ++ [x])[S.length]? = some x := fun x => get_last S x
  have h2 : ∀ x y : EV.Ob, (S ++ [x]).set S.length y = S ++ [y] := fun x y => set_lst S x y
  simp -implicitDefEqProofs [EV.LIM, EV.str_lit, evr, EV.r_for, EV.r_rng1, EV.wbin, EV.wun, EV.wcmp, EV.vw, EV.vwz, EV.wix, EV.wblt, EV.wtru, EV.wisi, EV.frz, EV.mkOwn, L2.atI, L2.ixN, List.map, List.length_cons, List.length_nil, List.replicate, List.getElem?_cons_zero, List.getElem?_cons_succ, List.set_cons_zero, List.set_cons_succ, List.append_nil, List.cons_append, List.nil_append, fo0, fo1, mo0, mo1, mo2, mo3, mo4, mo5, mo6, mo7, mo8, mo9, mo10, mo11, oi0, oi1, oi2, oi3, oi4, oi5, EV.fput, h1, h2]
theorem make_ok (d : Nat) {la : EV.M (List EV.W)} {σ : EV.Sls} {S S1 : EV.Sto} {a b : Int} (h : la σ S = .ok [.int a, .int b] S1) : EV.mMake (EV.Fn gG gP (d + 1)) "Stretch" ("Stretch" ++ ".__init__") la σ S = .ok (.loc S1.length) (S1 ++ [srO a b]) := by
  rw [EV.r_make, h, EV.r_ok, EV.r_makF, ini_nm, init_ok, EV.r_ok, EV.r_makG]
section
variable (d : Nat) {S : EV.Sto} {n m : Nat} {a b c e : Int} (hn : S[n]? = some (srO a b)) (hm : S[m]? = some (srO c e))
include hn hm
theorem add_ok : EV.Fn gG gP (d + 2) "Stretch.__add__" [.loc n, .loc m] S = .ok (.loc S.length) (S ++ [srO (clI (a + c)) (clI (b + e))]) := by
  rw [fe_Stretchu_addu]
  unfold m_Stretchu_addu
  simp -implicitDefEqProofs [EV.LIM, EV.str_lit, evr, EV.r_for, EV.r_rng1, EV.wbin, EV.wun, EV.wcmp, EV.vw, EV.vwz, EV.wix, EV.wblt, EV.wtru, EV.wisi, EV.frz, EV.mkOwn, L2.atI, L2.ixN, List.map, List.length_cons, List.length_nil, List.replicate, List.getElem?_cons_zero, List.getElem?_cons_succ, List.set_cons_zero, List.set_cons_succ, List.append_nil, List.cons_append, List.nil_append, fo0, fo1, mo0, mo1, mo2, mo3, mo4, mo5, mo6, mo7, mo8, mo9, mo10, mo11, oi0, oi1, oi2, oi3, oi4, oi5, ini_nm, init_ok, clamp_ok, srO, hn, hm]
theorem sub_ok : EV.Fn gG gP (d + 2) "Stretch.__sub__" [.loc n, .loc m] S = .ok (.loc S.length) (S ++ [srO (clI (a - e)) (clI (b - c))]) := by
  rw [fe_Stretchu_subu]
  unfold m_Stretchu_subu
  simp -implicitDefEqProofs [EV.LIM, EV.str_lit, evr, EV.r_for, EV.r_rng1, EV.wbin, EV.wun, EV.wcmp, EV.vw, EV.vwz, EV.wix, EV.wblt, EV.wtru, EV.wisi, EV.frz, EV.mkOwn, L2.atI, L2.ixN, List.map, List.length_cons, List.length_nil, List.replicate, List.getElem?_cons_zero, List.getElem?_cons_succ, List.set_cons_zero, List.set_cons_succ, List.append_nil, List.cons_append, List.nil_append, fo0, fo1, mo0, mo1, mo2, mo3, mo4, mo5, mo6, mo7, mo8, mo9, mo10, mo11, oi0, oi1, oi2, oi3, oi4, oi5, ini_nm, init_ok, clamp_ok, srO, hn, hm]
theorem or_ok : EV.Fn gG gP (d + 2) "Stretch.__or__" [.loc n, .loc m] S = .ok (.loc S.length) (S ++ [srO (min a c) (max b e)]) := by
  rw [fe_Stretchu_oru]
  unfold m_Stretchu_oru
  simp -implicitDefEqProofs [EV.LIM, EV.str_lit, evr, EV.r_for, EV.r_rng1, EV.wbin, EV.wun, EV.wcmp, EV.vw, EV.vwz, EV.wix, EV.wblt, EV.wtru, EV.wisi, EV.frz, EV.mkOwn, L2.atI, L2.ixN, List.map, List.length_cons, List.length_nil, List.replicate, List.getElem?_cons_zero, List.getElem?_cons_succ, List.set_cons_zero, List.set_cons_succ, List.append_nil, List.cons_append, List.nil_append, fo0, fo1, mo0, mo1, mo2, mo3, mo4, mo5, mo6, mo7, mo8, mo9, mo10, mo11, oi0, oi1, oi2, oi3, oi4, oi5, ini_nm, init_ok, clamp_ok, srO, hn, hm]
theorem least_ok : EV.Fn gG gP (d + 2) "Stretch.least" [.loc n, .loc m] S = .ok (.loc S.length) (S ++ [srO (min a c) (min b e)]) := by
  rw [fe_Stretch_least]
  unfold m_Stretch_least
  simp -implicitDefEqProofs [EV.LIM, EV.str_lit, evr, EV.r_for, EV.r_rng1, EV.wbin, EV.wun, EV.wcmp, EV.vw, EV.vwz, EV.wix, EV.wblt, EV.wtru, EV.wisi, EV.frz, EV.mkOwn, L2.atI, L2.ixN, List.map, List.length_cons, List.length_nil, List.replicate, List.getElem?_cons_zero, List.getElem?_cons_succ, List.set_cons_zero, List.set_cons_succ, List.append_nil, List.cons_append, List.nil_append, fo0, fo1, mo0, mo1, mo2, mo3, mo4, mo5, mo6, mo7, mo8, mo9, mo10, mo11, oi0, oi1, oi2, oi3, oi4, oi5, ini_nm, init_ok, clamp_ok, srO, hn, hm]
theorem greatest_ok : EV.Fn gG gP (d + 2) "Stretch.greatest" [.loc n, .loc m] S = .ok (.loc S.length) (S ++ [srO (max a c) (max b e)]) := by
  rw [fe_Stretch_greatest]
  unfold m_Stretch_greatest
  simp -implicitDefEqProofs [EV.LIM, EV.str_lit, evr, EV.r_for, EV.r_rng1, EV.wbin, EV.wun, EV.wcmp, EV.vw, EV.vwz, EV.wix, EV.wblt, EV.wtru, EV.wisi, EV.frz, EV.mkOwn, L2.atI, L2.ixN, List.map, List.length_cons, List.length_nil, List.replicate, List.getElem?_cons_zero, List.getElem?_cons_succ, List.set_cons_zero, List.set_cons_succ, List.append_nil, List.cons_append, List.nil_append, fo0, fo1, mo0, mo1, mo2, mo3, mo4, mo5, mo6, mo7, mo8, mo9, mo10, mo11, oi0, oi1, oi2, oi3, oi4, oi5, ini_nm, init_ok, clamp_ok, srO, hn, hm]
theorem within_ok : EV.Fn gG gP (d + 2) "Stretch.within" [.loc n, .loc m] S = .ok (.bl (decide (c ≤ a) && decide (b ≤ e))) S := by
  rw [fe_Stretch_within]
  unfold m_Stretch_within
  by_cases q : c ≤ a <;> simp -implicitDefEqProofs [EV.LIM, EV.str_lit, evr, EV.r_for, EV.r_rng1, EV.wbin, EV.wun, EV.wcmp, EV.vw, EV.vwz, EV.wix, EV.wblt, EV.wtru, EV.wisi, EV.frz, EV.mkOwn, L2.atI, L2.ixN, List.map, List.length_cons, List.length_nil, List.replicate, List.getElem?_cons_zero, List.getElem?_cons_succ, List.set_cons_zero, List.set_cons_succ, List.append_nil, List.cons_append, List.nil_append, fo0, fo1, mo0, mo1, mo2, mo3, mo4, mo5, mo6, mo7, mo8, mo9, mo10, mo11, oi0, oi1, oi2, oi3, oi4, oi5, srO, hn, hm, q]
theorem isI_ok : EV.wIsI S "Stretch" (.loc m) = some (.bl true) := by unfold srO at hm; simp [EV.wIsI, EV.insOf, hm]
theorem eqI_ok : EV.Fn gG gP (d + 2) "Stretch.__eq__" [.loc n, .loc m] S = .ok (.bl (decide (a = c) && decide (b = e))) S := by
  rw [fe_Stretchu_equ]
  unfold m_Stretchu_equ
  have e3 := isI_ok hn hm
  by_cases q : a = c <;> simp -implicitDefEqProofs [EV.LIM, EV.str_lit, evr, EV.r_for, EV.r_rng1, EV.wbin, EV.wun, EV.wcmp, EV.vw, EV.vwz, EV.wix, EV.wblt, EV.wtru, EV.wisi, EV.frz, EV.mkOwn, L2.atI, L2.ixN, List.map, List.length_cons, List.length_nil, List.replicate, List.getElem?_cons_zero, List.getElem?_cons_succ, List.set_cons_zero, List.set_cons_succ, List.append_nil, List.cons_append, List.nil_append, fo0, fo1, mo0, mo1, mo2, mo3, mo4, mo5, mo6, mo7, mo8, mo9, mo10, mo11, oi0, oi1, oi2, oi3, oi4, oi5, e3, srO, hn, hm, q]
theorem mul_ok (ha : a.natAbs < 2 ^ 200) (hb : b.natAbs < 2 ^ 200) (hc : c.natAbs < 2 ^ 200) (he : e.natAbs < 2 ^ 200) :
    EV.Fn gG gP (d + 2) "Stretch.__mul__" [.loc n, .loc m] S = .ok (.loc S.length) (S ++ [srO (clI (EV.imin [a * c, a * e, b * c, b * e])) (clI (EV.imax [a * c, a * e, b * c, b * e]))]) := by
  rw [fe_Stretchu_mulu]
  unfold m_Stretchu_mulu
  simp -implicitDefEqProofs [EV.LIM, EV.str_lit, evr, EV.r_for, EV.r_rng1, EV.wbin, EV.wun, EV.wcmp, EV.vw, EV.vwz, EV.wix, EV.wblt, EV.wtru, EV.wisi, EV.frz, EV.mkOwn, L2.atI, L2.ixN, List.map, List.length_cons, List.length_nil, List.replicate, List.getElem?_cons_zero, List.getElem?_cons_succ, List.set_cons_zero, List.set_cons_succ, List.append_nil, List.cons_append, List.nil_append, fo0, fo1, mo0, mo1, mo2, mo3, mo4, mo5, mo6, mo7, mo8, mo9, mo10, mo11, oi0, oi1, oi2, oi3, oi4, oi5, ini_nm, init_ok, clamp_ok, srO, hn, hm, ha, hb, hc, he, EV.wints]
end
section
variable (d : Nat) {S : EV.Sto} {n : Nat} {a b : Int} (hn : S[n]? = some (srO a b))
include hn
theorem has_ok (x : Int) : EV.Fn gG gP (d + 1) "Stretch.__contains__" [.loc n, .int x] S = .ok (.bl (decide (a ≤ x) && decide (x ≤ b))) S := by
  rw [fe_Stretchu_containsu]
  unfold m_Stretchu_containsu
  by_cases q : a ≤ x <;> simp -implicitDefEqProofs [EV.LIM, EV.str_lit, evr, EV.r_for, EV.r_rng1, EV.wbin, EV.wun, EV.wcmp, EV.vw, EV.vwz, EV.wix, EV.wblt, EV.wtru, EV.wisi, EV.frz, EV.mkOwn, L2.atI, L2.ixN, List.map, List.length_cons, List.length_nil, List.replicate, List.getElem?_cons_zero, List.getElem?_cons_succ, List.set_cons_zero, List.set_cons_succ, List.append_nil, List.cons_append, List.nil_append, fo0, fo1, mo0, mo1, mo2, mo3, mo4, mo5, mo6, mo7, mo8, mo9, mo10, mo11, oi0, oi1, oi2, oi3, oi4, oi5, EV.mChain, srO, hn, q]
theorem isp_ok : EV.Fn gG gP (d + 1) "Stretch.is_point" [.loc n] S = .ok (.bl (decide (a = b))) S := by
  rw [fe_Stretch_is_point]
  unfold m_Stretch_is_point
  simp -implicitDefEqProofs [EV.LIM, EV.str_lit, evr, EV.r_for, EV.r_rng1, EV.wbin, EV.wun, EV.wcmp, EV.vw, EV.vwz, EV.wix, EV.wblt, EV.wtru, EV.wisi, EV.frz, EV.mkOwn, L2.atI, L2.ixN, List.map, List.length_cons, List.length_nil, List.replicate, List.getElem?_cons_zero, List.getElem?_cons_succ, List.set_cons_zero, List.set_cons_succ, List.append_nil, List.cons_append, List.nil_append, fo0, fo1, mo0, mo1, mo2, mo3, mo4, mo5, mo6, mo7, mo8, mo9, mo10, mo11, oi0, oi1, oi2, oi3, oi4, oi5, srO, hn]
theorem pair_ok : EV.Fn gG gP (d + 1) "Stretch.pair" [.loc n] S = .ok (.tup [.int a, .int b]) S := by
  rw [fe_Stretch_pair]
  unfold m_Stretch_pair
  simp -implicitDefEqProofs [EV.LIM, EV.str_lit, evr, EV.r_for, EV.r_rng1, EV.wbin, EV.wun, EV.wcmp, EV.vw, EV.vwz, EV.wix, EV.wblt, EV.wtru, EV.wisi, EV.frz, EV.mkOwn, L2.atI, L2.ixN, List.map, List.length_cons, List.length_nil, List.replicate, List.getElem?_cons_zero, List.getElem?_cons_succ, List.set_cons_zero, List.set_cons_succ, List.append_nil, List.cons_append, List.nil_append, fo0, fo1, mo0, mo1, mo2, mo3, mo4, mo5, mo6, mo7, mo8, mo9, mo10, mo11, oi0, oi1, oi2, oi3, oi4, oi5, srO, hn]
theorem satd_ok (t : Int) : EV.Fn gG gP (d + 2) "Stretch.saturated" [.loc n, .int t] S = .ok (.loc S.length) (S ++ [srO (saI a t) (saI b t)]) := by
  rw [fe_Stretch_saturated]
  unfold m_Stretch_saturated
  simp -implicitDefEqProofs [EV.LIM, EV.str_lit, evr, EV.r_for, EV.r_rng1, EV.wbin, EV.wun, EV.wcmp, EV.vw, EV.vwz, EV.wix, EV.wblt, EV.wtru, EV.wisi, EV.frz, EV.mkOwn, L2.atI, L2.ixN, List.map, List.length_cons, List.length_nil, List.replicate, List.getElem?_cons_zero, List.getElem?_cons_succ, List.set_cons_zero, List.set_cons_succ, List.append_nil, List.cons_append, List.nil_append, fo0, fo1, mo0, mo1, mo2, mo3, mo4, mo5, mo6, mo7, mo8, mo9, mo10, mo11, oi0, oi1, oi2, oi3, oi4, oi5, ini_nm, init_ok, sat_ok, srO, hn]
/-- == with what is no stretch -/
theorem eqO_ok (w : EV.W) (hw : EV.wIsI S "Stretch" w = some (.bl false)) : EV.Fn gG gP (d + 1) "Stretch.__eq__" [.loc n, w] S = .ok (.bl false) S := by
  rw [fe_Stretchu_equ]
  unfold m_Stretchu_equ
  have v : EV.vw S (.bl false) = .bl false := rfl
  simp -implicitDefEqProofs [EV.LIM, EV.str_lit, evr, EV.r_for, EV.r_rng1, EV.wbin, EV.wun, EV.wcmp, EV.vw, EV.vwz, EV.wix, EV.wblt, EV.wtru, EV.wisi, EV.frz, EV.mkOwn, L2.atI, L2.ixN, List.map, List.length_cons, List.length_nil, List.replicate, List.getElem?_cons_zero, List.getElem?_cons_succ, List.set_cons_zero, List.set_cons_succ, List.append_nil, List.cons_append, List.nil_append, fo0, fo1, mo0, mo1, mo2, mo3, mo4, mo5, mo6, mo7, mo8, mo9, mo10, mo11, oi0, oi1, oi2, oi3, oi4, oi5, hw, v]
end
theorem point_ok (d : Nat) (n : Int) (S : EV.Sto) : EV.Fn gG gP (d + 2) "Stretch.point" [.int n] S = .ok (.loc S.length) (S ++ [srO n n]) := by
  rw [fe_Stretch_point]
  unfold m_Stretch_point
  simp -implicitDefEqProofs [EV.LIM, EV.str_lit, evr, EV.r_for, EV.r_rng1, EV.wbin, EV.wun, EV.wcmp, EV.vw, EV.vwz, EV.wix, EV.wblt, EV.wtru, EV.wisi, EV.frz, EV.mkOwn, L2.atI, L2.ixN, List.map, List.length_cons, List.length_nil, List.replicate, List.getElem?_cons_zero, List.getElem?_cons_succ, List.set_cons_zero, List.set_cons_succ, List.append_nil, List.cons_append, List.nil_append, ini_nm, init_ok, srO]
/-! ### stretches: the plain law -/
inductive O8 where
  | mul | add | sub | hull | least | greatest | sat | point
def O8.nm : O8 → Str
  | .mul => "mul" | .add => "add" | .sub => "sub" | .hull => "hull" | .least => "least" | .greatest => "greatest" | .sat => "saturated" | .point => "point"
def absI (n : Int) : Int := if n < 0 then -n else n
def outI (k : O8) (x y n : Int) : Int := match k with
  | .mul => max (-999999) (min 999999 (x * y))
  | .add => max (-999999) (min 999999 (x + y))
  | .sub => max (-999999) (min 999999 (x - y))
  | .least => min x y
  | .greatest => max x y
  | .sat => max 0 (min (absI n) x)
  | .point => n
  | .hull => 0
def rowsI (k : O8) (xs ys : List Int) (n : Int) : List Int := match k with
  | .hull => xs ++ ys
  | k => xs.flatMap fun x => ys.map fun y => outI k x y n
def newI (k : O8) (a b c e n : Int) : Int × Int := match k with
  | .mul => (clI (EV.imin [a * c, a * e, b * c, b * e]), clI (EV.imax [a * c, a * e, b * c, b * e]))
  | .add => (clI (a + c), clI (b + e))
  | .sub => (clI (a - e), clI (b - c))
  | .hull => (min a c, max b e)
  | .least => (min a c, min b e)
  | .greatest => (max a c, max b e)
  | .sat => (saI a (absI n), saI b (absI n))
  | .point => (n, n)
def ExtL (l : List Int) (lo hi : Int) : Prop := lo ∈ l ∧ hi ∈ l ∧ ∀ r ∈ l, lo ≤ r ∧ r ≤ hi
theorem fmin_le : ∀ (l : List Int) (i : Int), l.foldl min i ≤ i ∧ (∀ x ∈ l, l.foldl min i ≤ x) ∧ (l.foldl min i = i ∨ l.foldl min i ∈ l)
  | [], i => ⟨Int.le_refl _, fun x h => (by cases h), .inl rfl⟩
  | a :: l, i => by
    obtain ⟨h1, h2, h3⟩ := fmin_le l (min i a)
    rw [List.foldl_cons]
    refine ⟨by omega, fun x hx => ?_, ?_⟩
    · rcases List.mem_cons.mp hx with rfl | hx
      · omega
      · exact h2 x hx
    · rcases h3 with h3 | h3
      · rw [h3]
        by_cases q : i ≤ a
        · exact .inl (by omega)
        · exact .inr (by rw [show min i a = a by omega]; simp)
      · exact .inr (List.mem_cons_of_mem _ h3)
theorem fmax_le : ∀ (l : List Int) (i : Int), i ≤ l.foldl max i ∧ (∀ x ∈ l, x ≤ l.foldl max i) ∧ (l.foldl max i = i ∨ l.foldl max i ∈ l)
  | [], i => ⟨Int.le_refl _, fun x h => (by cases h), .inl rfl⟩
  | a :: l, i => by
    obtain ⟨h1, h2, h3⟩ := fmax_le l (max i a)
    rw [List.foldl_cons]
    refine ⟨by omega, fun x hx => ?_, ?_⟩
    · rcases List.mem_cons.mp hx with rfl | hx
      · omega
      · exact h2 x hx
    · rcases h3 with h3 | h3
      · rw [h3]
        by_cases q : a ≤ i
        · exact .inl (by omega)
        · exact .inr (by rw [show max i a = a by omega]; simp)
      · exact .inr (List.mem_cons_of_mem _ h3)
theorem imin_ok {l : List Int} (h : l ≠ []) : EV.imin l ∈ l ∧ ∀ x ∈ l, EV.imin l ≤ x := by
  cases l with
  | nil => exact absurd rfl h
  | cons i r =>
    obtain ⟨h1, h2, h3⟩ := fmin_le r i
    show r.foldl min i ∈ i :: r ∧ ∀ x ∈ i :: r, r.foldl min i ≤ x
    refine ⟨?_, fun x hx => ?_⟩
    · rcases h3 with h3 | h3
      · rw [h3]; simp
      · exact List.mem_cons_of_mem _ h3
    · rcases List.mem_cons.mp hx with rfl | hx
      · exact h1
      · exact h2 x hx
theorem imax_ok {l : List Int} (h : l ≠ []) : EV.imax l ∈ l ∧ ∀ x ∈ l, x ≤ EV.imax l := by
  cases l with
  | nil => exact absurd rfl h
  | cons i r =>
    obtain ⟨h1, h2, h3⟩ := fmax_le r i
    show r.foldl max i ∈ i :: r ∧ ∀ x ∈ i :: r, x ≤ r.foldl max i
    refine ⟨?_, fun x hx => ?_⟩
    · rcases h3 with h3 | h3
      · rw [h3]; simp
      · exact List.mem_cons_of_mem _ h3
    · rcases List.mem_cons.mp hx with rfl | hx
      · exact h1
      · exact h2 x hx
theorem ext_ne {l : List Int} {lo hi : Int} (h : ExtL l lo hi) : l ≠ [] := fun z => by rw [z] at h; cases h.1
theorem ext_min {l : List Int} {lo hi : Int} (h : ExtL l lo hi) : EV.imin l = lo ∧ EV.imax l = hi := by
  obtain ⟨h1, h2⟩ := imin_ok (ext_ne h)
  obtain ⟨h3, h4⟩ := imax_ok (ext_ne h)
  have a1 := h2 _ h.1
  have a2 := (h.2.2 _ h1).1
  have a3 := h4 _ h.2.1
  have a4 := (h.2.2 _ h3).2
  omega
theorem ext_le {l : List Int} {lo hi : Int} (h : ExtL l lo hi) : lo ≤ hi := (h.2.2 _ h.1).2
/-- a product of numbers within two stretches lies between two of the products of the ends -/
theorem mul_btw {a b x c : Int} (h1 : a ≤ x) (h2 : x ≤ b) : (a * c ≤ x * c ∧ x * c ≤ b * c) ∨ (b * c ≤ x * c ∧ x * c ≤ a * c) := by
  rcases Int.le_total 0 c with h | h
  · exact .inl ⟨Int.mul_le_mul_of_nonneg_right h1 h, Int.mul_le_mul_of_nonneg_right h2 h⟩
  · exact .inr ⟨Int.mul_le_mul_of_nonpos_right h2 h, Int.mul_le_mul_of_nonpos_right h1 h⟩
theorem mul_in {a b c e x y : Int} (h1 : a ≤ x) (h2 : x ≤ b) (h3 : c ≤ y) (h4 : y ≤ e) : EV.imin [a * c, a * e, b * c, b * e] ≤ x * y ∧ x * y ≤ EV.imax [a * c, a * e, b * c, b * e] := by
  obtain ⟨_, k1⟩ := imin_ok (l := [a * c, a * e, b * c, b * e]) (by simp)
  obtain ⟨_, k2⟩ := imax_ok (l := [a * c, a * e, b * c, b * e]) (by simp)
  have m1 := k1 (a * c) (by simp)
  have m2 := k1 (a * e) (by simp)
  have m3 := k1 (b * c) (by simp)
  have m4 := k1 (b * e) (by simp)
  have n1 := k2 (a * c) (by simp)
  have n2 := k2 (a * e) (by simp)
  have n3 := k2 (b * c) (by simp)
  have n4 := k2 (b * e) (by simp)
  have p1 := mul_btw (c := c) h1 h2
  have p2 := mul_btw (c := e) h1 h2
  have p3 := mul_btw (c := x) h3 h4
  rw [Int.mul_comm c x, Int.mul_comm y x, Int.mul_comm e x] at p3
  generalize EV.imin [a * c, a * e, b * c, b * e] = lo at *
  generalize EV.imax [a * c, a * e, b * c, b * e] = hi at *
  generalize a * c = q1 at *
  generalize a * e = q2 at *
  generalize b * c = q3 at *
  generalize b * e = q4 at *
  generalize x * c = q5 at *
  generalize x * e = q6 at *
  generalize x * y = q7 at *
  omega
theorem cl_max (z : Int) : max (-999999) (min 999999 z) = clI z := by unfold clI; split <;> (try split) <;> omega
theorem cl_mono {x y : Int} (h : x ≤ y) : clI x ≤ clI y := by rw [← cl_max, ← cl_max]; omega
theorem rows_in {k : O8} {xs ys : List Int} {n x y : Int} (hk : k ≠ .hull) (hx : x ∈ xs) (hy : y ∈ ys) : outI k x y n ∈ rowsI k xs ys n := by
  have e : rowsI k xs ys n = xs.flatMap fun x => ys.map fun y => outI k x y n := by cases k <;> first | exact absurd rfl hk | rfl
  rw [e]
  exact List.mem_flatMap.mpr ⟨x, hx, List.mem_map.mpr ⟨y, hy, rfl⟩⟩
theorem rows_of {k : O8} {xs ys : List Int} {n r : Int} (hk : k ≠ .hull) (h : r ∈ rowsI k xs ys n) : ∃ x y, x ∈ xs ∧ y ∈ ys ∧ r = outI k x y n := by
  have e : rowsI k xs ys n = xs.flatMap fun x => ys.map fun y => outI k x y n := by cases k <;> first | exact absurd rfl hk | rfl
  rw [e] at h
  obtain ⟨x, hx, h⟩ := List.mem_flatMap.mp h
  obtain ⟨y, hy, h⟩ := List.mem_map.mp h
  exact ⟨x, y, hx, hy, h.symm⟩
theorem rows_ext {k : O8} {xs ys : List Int} {a b c e n : Int} (h1 : ExtL xs a b) (h2 : ExtL ys c e) : ExtL (rowsI k xs ys n) (newI k a b c e n).1 (newI k a b c e n).2 := by
  have hab := ext_le h1
  have hce := ext_le h2
  by_cases hk : k = .hull
  · subst hk
    unfold rowsI newI ExtL
    refine ⟨?_, ?_, fun r hr => ?_⟩
    · by_cases q : a ≤ c
      · rw [show min a c = a by omega]; exact List.mem_append_left _ h1.1
      · rw [show min a c = c by omega]; exact List.mem_append_right _ h2.1
    · by_cases q : e ≤ b
      · rw [show max b e = b by omega]; exact List.mem_append_left _ h1.2.1
      · rw [show max b e = e by omega]; exact List.mem_append_right _ h2.2.1
    · rcases List.mem_append.mp hr with hr | hr
      · have := h1.2.2 r hr; constructor <;> (simp only; omega)
      · have := h2.2.2 r hr; constructor <;> (simp only; omega)
  · have fin : ∀ x1 y1 x2 y2, x1 ∈ xs → y1 ∈ ys → x2 ∈ xs → y2 ∈ ys → (newI k a b c e n).1 = outI k x1 y1 n → (newI k a b c e n).2 = outI k x2 y2 n → (∀ x y, a ≤ x → x ≤ b → c ≤ y → y ≤ e → (newI k a b c e n).1 ≤ outI k x y n ∧ outI k x y n ≤ (newI k a b c e n).2) → ExtL (rowsI k xs ys n) (newI k a b c e n).1 (newI k a b c e n).2 :=
      fun x1 y1 x2 y2 p1 p2 p3 p4 q1 q2 q3 => by
        refine ⟨by rw [q1]; exact rows_in hk p1 p2, by rw [q2]; exact rows_in hk p3 p4, fun r hr => ?_⟩
        obtain ⟨x, y, hx, hy, rfl⟩ := rows_of hk hr
        have u := h1.2.2 x hx
        have v := h2.2.2 y hy
        exact q3 x y u.1 u.2 v.1 v.2
    have four : ∀ z : Int, z ∈ [a * c, a * e, b * c, b * e] → ∃ x y, x ∈ xs ∧ y ∈ ys ∧ z = x * y := fun z hz => by
      simp only [List.mem_cons, List.not_mem_nil, or_false] at hz
      rcases hz with rfl | rfl | rfl | rfl
      · exact ⟨a, c, h1.1, h2.1, rfl⟩
      · exact ⟨a, e, h1.1, h2.2.1, rfl⟩
      · exact ⟨b, c, h1.2.1, h2.1, rfl⟩
      · exact ⟨b, e, h1.2.1, h2.2.1, rfl⟩
    cases k with
    | hull => exact absurd rfl hk
    | mul =>
      obtain ⟨x1, y1, p1, p2, e1⟩ := four _ (imin_ok (l := [a * c, a * e, b * c, b * e]) (by simp)).1
      obtain ⟨x2, y2, p3, p4, e2⟩ := four _ (imax_ok (l := [a * c, a * e, b * c, b * e]) (by simp)).1
      refine fin x1 y1 x2 y2 p1 p2 p3 p4 ?_ ?_ fun x y u1 u2 u3 u4 => ?_
      · simp only [newI, outI, cl_max, e1]
      · simp only [newI, outI, cl_max, e2]
      · simp only [newI, outI, cl_max]
        exact ⟨cl_mono (mul_in u1 u2 u3 u4).1, cl_mono (mul_in u1 u2 u3 u4).2⟩
    | add =>
      refine fin a c b e h1.1 h2.1 h1.2.1 h2.2.1 ?_ ?_ fun x y u1 u2 u3 u4 => ?_ <;> simp only [newI, outI, cl_max]
      exact ⟨cl_mono (by omega), cl_mono (by omega)⟩
    | sub =>
      refine fin a e b c h1.1 h2.2.1 h1.2.1 h2.1 ?_ ?_ fun x y u1 u2 u3 u4 => ?_ <;> simp only [newI, outI, cl_max]
      exact ⟨cl_mono (by omega), cl_mono (by omega)⟩
    | least =>
      refine fin a c b e h1.1 h2.1 h1.2.1 h2.2.1 ?_ ?_ fun x y u1 u2 u3 u4 => ?_ <;> simp only [newI, outI]
      constructor <;> omega
    | greatest =>
      refine fin a c b e h1.1 h2.1 h1.2.1 h2.2.1 ?_ ?_ fun x y u1 u2 u3 u4 => ?_ <;> simp only [newI, outI]
      constructor <;> omega
    | sat =>
      have ha : 0 ≤ absI n := by unfold absI; split <;> omega
      have hs : ∀ z, saI z (absI n) = max 0 (min (absI n) z) := fun z => by unfold saI; split <;> (try split) <;> omega
      refine fin a c b e h1.1 h2.1 h1.2.1 h2.2.1 ?_ ?_ fun x y u1 u2 u3 u4 => ?_ <;> simp only [newI, outI, hs]
      constructor <;> omega
    | point =>
      refine fin a c b e h1.1 h2.1 h1.2.1 h2.2.1 ?_ ?_ fun x y u1 u2 u3 u4 => ?_ <;> simp only [newI, outI]
      exact ⟨Int.le_refl _, Int.le_refl _⟩
/-- the ends stay within 10 ** 40 -/
def Sm (z : Int) : Prop := z.natAbs ≤ 10000000000000000000000000000000000000000
theorem new_sm {k : O8} {a b c e n : Int} (ha : Sm a) (hb : Sm b) (hc : Sm c) (he : Sm e) (hn : Sm n) : Sm (newI k a b c e n).1 ∧ Sm (newI k a b c e n).2 := by
  unfold Sm at *
  have cl : ∀ z, (clI z).natAbs ≤ 10000000000000000000000000000000000000000 := fun z => by unfold clI; split <;> (try split) <;> omega
  have hab : 0 ≤ absI n ∧ (absI n).natAbs = n.natAbs := by unfold absI; split <;> omega
  have sl : ∀ z, (saI z (absI n)).natAbs ≤ 10000000000000000000000000000000000000000 := fun z => by unfold saI; split <;> (try split) <;> omega
  cases k <;> simp only [newI] <;> first | exact ⟨cl _, cl _⟩ | exact ⟨sl _, sl _⟩ | exact ⟨hn, hn⟩ | (constructor <;> omega)
/-! ### draws: only the bag changes -/
def BagAt (n : Nat) (T : EV.Sto) : Prop := ∃ o, T[n]? = some o ∧ IsBag o
def Kn (n : Nat) (T T' : EV.Sto) : Prop := BagAt n T' ∧ T.length ≤ T'.length ∧ ∀ k, k < T.length → k ≠ n → T'[k]? = T[k]?
theorem bag_lt {n : Nat} {T : EV.Sto} (h : BagAt n T) : n < T.length := by
  obtain ⟨o, h, _⟩ := h
  exact (List.getElem?_eq_some_iff.mp h).1
theorem kn_refl {n : Nat} {T : EV.Sto} (h : BagAt n T) : Kn n T T := ⟨h, Nat.le_refl _, fun _ _ _ => rfl⟩
theorem kn_tr {n : Nat} {T T1 T2 : EV.Sto} (h1 : Kn n T T1) (h2 : Kn n T1 T2) : Kn n T T2 := ⟨h2.1, Nat.le_trans h1.2.1 h2.2.1, fun k hk hn => (h2.2.2 k (Nat.lt_of_lt_of_le hk h1.2.1) hn).trans (h1.2.2 k hk hn)⟩
theorem kn_get {n m : Nat} {T T1 : EV.Sto} {x : EV.Ob} (h : Kn n T T1) (hm : T[m]? = some x) (hn : m ≠ n) : T1[m]? = some x := by
  rw [h.2.2 m (List.getElem?_eq_some_iff.mp hm).1 hn, hm]
theorem kn_app {n : Nat} {T : EV.Sto} (h : BagAt n T) (xs : List EV.Ob) : Kn n T (T ++ xs) := by
  obtain ⟨o, h1, h2⟩ := h
  have hl := (List.getElem?_eq_some_iff.mp h1).1
  exact ⟨⟨o, by rw [List.getElem?_append_left hl]; exact h1, h2⟩, by simp, fun k hk _ => List.getElem?_append_left hk⟩
/-- a draw of any size up to 2 ** 150 -/
theorem takeW_ok (d : Nat) (n : Nat) (c a f m : Int) (S : EV.Sto) (hS : S[n]? = some (.lst [.int c, .int a, .int f])) (hm : 0 < m) (hm2 : m.natAbs < 2 ^ 200) :
    EV.Fn gG gP (d + 1) "_law_take" [.loc n, .int m] S = .ok (.int (takeA c a f m)) (S.set n (.lst (takeB c a f m))) := by
  rw [fe_lw_take]
  unfold m_lw_take takeA takeB
  have hn : n < S.length := (List.getElem?_eq_some_iff.mp hS).1
  have hm3 : m ≠ 0 := by omega
  have b1 : ∀ x : Int, -18446744073709551616 < x.fmod 2147483647 ∧ x.fmod 2147483647 < 18446744073709551616 := fun x => by
    have h1 := Int.fmod_nonneg_of_pos x (show (0 : Int) < 2147483647 by decide)
    have h2 := Int.fmod_lt_of_pos x (show (0 : Int) < 2147483647 by decide)
    omega
  have b2 : ∀ x : Int, -18446744073709551616 < x.fmod 2147483399 ∧ x.fmod 2147483399 < 18446744073709551616 := fun x => by
    have h1 := Int.fmod_nonneg_of_pos x (show (0 : Int) < 2147483399 by decide)
    have h2 := Int.fmod_lt_of_pos x (show (0 : Int) < 2147483399 by decide)
    omega
  have hs : ∀ x, (S.set n x)[n]? = some x := fun x => List.getElem?_set_self hn
  have hd : ∀ x : Int, EV.wbin .FloorDiv (.int x) (.int m) = some (.int (x.fdiv m)) := fun x => by unfold EV.wbin; exact if_pos ⟨hm3, .inr hm2⟩
  by_cases h1 : f = 1 ∧ 1 < c
  · obtain ⟨h1, h2⟩ := h1
    subst h1
    simp -implicitDefEqProofs [hd, EV.LIM, EV.str_lit, evr, EV.r_for, EV.r_rng1, EV.wbin, EV.wun, EV.wcmp, EV.vw, EV.vwz, EV.wix, EV.wblt, EV.wtru, EV.wisi, EV.frz, EV.mkOwn, L2.atI, L2.ixN, List.map, List.length_cons, List.length_nil, List.replicate, List.getElem?_cons_zero, List.getElem?_cons_succ, List.set_cons_zero, List.set_cons_succ, List.append_nil, List.cons_append, List.nil_append, hS, hs, h2, hm3, hm2]
  · by_cases h2 : f = 1
    · subst h2
      have h3 : ¬ (1 < c) := fun z => h1 ⟨rfl, z⟩
      simp -implicitDefEqProofs [EV.LIM, EV.str_lit, evr, EV.r_for, EV.r_rng1, EV.wbin, EV.wun, EV.wcmp, EV.vw, EV.vwz, EV.wix, EV.wblt, EV.wtru, EV.wisi, EV.frz, EV.mkOwn, L2.atI, L2.ixN, List.map, List.length_cons, List.length_nil, List.replicate, List.getElem?_cons_zero, List.getElem?_cons_succ, List.set_cons_zero, List.set_cons_succ, List.append_nil, List.cons_append, List.nil_append, hS, hs, h3, hm3, b1, b2]
    · simp [EV.LIM, EV.str_lit, evr, EV.r_for, EV.r_rng1, EV.wbin, EV.wun, EV.wcmp, EV.vw, EV.vwz, EV.wix, EV.wblt, EV.wtru, EV.wisi, EV.frz, EV.mkOwn, L2.atI, L2.ixN, List.map, List.length_cons, List.length_nil, List.replicate, List.getElem?_cons_zero, List.getElem?_cons_succ, List.set_cons_zero, List.set_cons_succ, List.append_nil, List.cons_append, List.nil_append, hS, hs, h2, hm3, b1, b2]
section
variable {n : Nat} {T : EV.Sto}
theorem tkW (d m : Nat) (hb : BagAt n T) (hm : 0 < m) (hm2 : m < 2 ^ 150) : ∃ (r : Nat) (T' : EV.Sto), r < m ∧ Kn n T T' ∧ EV.Fn gG gP (d + 1) "_law_take" [.loc n, .int (m : Nat)] T = .ok (.int (r : Nat)) T' := by
  have hl := bag_lt hb
  obtain ⟨o, h1, c, a, f, rfl⟩ := hb
  have e := takeW_ok d n c a f (m : Nat) T h1 (by omega) (by simp; omega)
  have p1 : 0 ≤ takeA c a f m := by unfold takeA; split <;> exact Int.fmod_nonneg_of_pos _ (by omega)
  have p2 : takeA c a f m < m := by unfold takeA; split <;> exact Int.fmod_lt_of_pos _ (by omega)
  refine ⟨(takeA c a f m).toNat, T.set n (.lst (takeB c a f m)), by omega, ⟨⟨_, List.getElem?_set_self hl, ?_⟩, by simp, fun k _ hk => List.getElem?_set_ne (Ne.symm hk)⟩, ?_⟩
  · unfold takeB; split
    · exact ⟨_, _, _, rfl⟩
    · exact ⟨_, _, _, rfl⟩
  · rw [e, show (((takeA c a f m).toNat : Nat) : Int) = takeA c a f m by omega]
theorem tkI (d m : Nat) (hb : BagAt n T) (hm : 0 < m) (hm2 : m ≤ 1000000000) : ∃ (r : Nat) (T' : EV.Sto), r < m ∧ Kn n T T' ∧ EV.Fn gG gP (d + 1) "_law_take" [.loc n, .int (m : Nat)] T = .ok (.int (r : Nat)) T' := tkW d m hb hm (by omega)
theorem pkI (d : Nat) (ws : List EV.W) (hb : BagAt n T) (hw : ws ≠ []) (hl : ws.length < 1073741824) : ∃ (w : EV.W) (T' : EV.Sto), w ∈ ws ∧ Kn n T T' ∧ EV.Fn gG gP (d + 2) "_law_pick" [.loc n, .lst ws] T = .ok w T' := by
  have hl2 := bag_lt hb
  obtain ⟨o, h1, h2⟩ := hb
  obtain ⟨w, o', a1, a3, a4⟩ := pick_ex d h1 h2 hw hl
  exact ⟨w, T.set n o', a1, ⟨⟨o', List.getElem?_set_self hl2, a3⟩, by simp, fun k _ hk => List.getElem?_set_ne (Ne.symm hk)⟩, a4⟩
end
def n_lw_end_0 (F : EV.Fenv) : EV.M EV.Fl := (EV.sFrz [0] (EV.sSet 1 (EV.mCall F "_law_take" (EV.mCons (EV.mVar 0) (EV.mCons (EV.mC (.int 7)) EV.mNil)) [])))
def n_lw_end_1t_0 (F : EV.Fenv) : EV.M EV.Fl := (EV.sFrz [0] (EV.sRet (EV.mBin .Sub (EV.mCall F "_law_take" (EV.mCons (EV.mVar 0) (EV.mCons (EV.mC (.int 13)) EV.mNil)) []) (EV.mC (.int 6)))))
def n_lw_end_1t (F : EV.Fenv) : EV.M EV.Fl := (n_lw_end_1t_0 F)
def n_lw_end_1 (F : EV.Fenv) : EV.M EV.Fl := (EV.sIf (EV.mCmpT .Lt (EV.mVarB 1) (EV.mC (.int 4))) (n_lw_end_1t F) EV.sNext)
def n_lw_end_2t_0 (F : EV.Fenv) : EV.M EV.Fl := (EV.sFrz [0, 0] (EV.sRet (EV.mBin .Sub (EV.mBin .Add (EV.mCall F "_law_pick" (EV.mCons (EV.mVar 0) (EV.mCons (EV.mLst (EV.mCons (EV.mC (.int 0)) (EV.mCons (EV.mC (.int 999999)) (EV.mCons (EV.mUn .USub (EV.mC (.int 999999))) EV.mNil)))) EV.mNil)) []) (EV.mCall F "_law_take" (EV.mCons (EV.mVar 0) (EV.mCons (EV.mC (.int 5)) EV.mNil)) [])) (EV.mC (.int 2)))))
def n_lw_end_2t (F : EV.Fenv) : EV.M EV.Fl := (n_lw_end_2t_0 F)
def n_lw_end_2 (F : EV.Fenv) : EV.M EV.Fl := (EV.sIf (EV.mCmpT .Eq (EV.mVarB 1) (EV.mC (.int 4))) (n_lw_end_2t F) EV.sNext)
def n_lw_end_3t_0 (F : EV.Fenv) : EV.M EV.Fl := (EV.sFrz [0] (EV.sRet (EV.mBin .Sub (EV.mCall F "_law_take" (EV.mCons (EV.mVar 0) (EV.mCons (EV.mC (.int 2000003)) EV.mNil)) []) (EV.mC (.int 1000001)))))
def n_lw_end_3t (F : EV.Fenv) : EV.M EV.Fl := (n_lw_end_3t_0 F)
def n_lw_end_3 (F : EV.Fenv) : EV.M EV.Fl := (EV.sIf (EV.mCmpT .Eq (EV.mVarB 1) (EV.mC (.int 5))) (n_lw_end_3t F) EV.sNext)
def n_lw_end_4 (F : EV.Fenv) : EV.M EV.Fl := (EV.sFrz [0, 0] (EV.sRet (EV.mBin .Mult (EV.mCall F "_law_pick" (EV.mCons (EV.mVar 0) (EV.mCons (EV.mLst (EV.mCons (EV.mC (.int 1)) (EV.mCons (EV.mUn .USub (EV.mC (.int 1))) EV.mNil))) EV.mNil)) []) (EV.mCall F "_law_take" (EV.mCons (EV.mVar 0) (EV.mCons (EV.mBin .Pow (EV.mC (.int 10)) (EV.mC (.int 40))) EV.mNil)) []))))
theorem ms_lw_end (F : EV.Fenv) : m_lw_end F = (EV.sSeq (n_lw_end_0 F) (EV.sSeq (n_lw_end_1 F) (EV.sSeq (n_lw_end_2 F) (EV.sSeq (n_lw_end_3 F) (n_lw_end_4 F))))) := by kernel_rfl
/-! ### stretches: the draws -/
theorem end_ex (d : Nat) {n : Nat} {T : EV.Sto} (hb : BagAt n T) : ∃ (i : Int) (T' : EV.Sto), Sm i ∧ Kn n T T' ∧ EV.Fn gG gP (d + 3) "_law_end" [.loc n] T = .ok (.int i) T' := by
  obtain ⟨w, T1, h1, k1, e1⟩ := tkI (d + 1) 7 hb (by omega) (by omega)
  rw [fe_lw_end]
  show ∃ (i : Int) (T' : EV.Sto), Sm i ∧ Kn n T T' ∧ EV.runB (m_lw_end (EV.Fn gG gP (d + 2))) _ _ _ = _
  rw [ms_lw_end]
  have a0 : n_lw_end_0 (EV.Fn gG gP (d + 2)) [.fr (.loc n), .emp] T = .ok (.nx [.fr (.loc n), .fr (.int w)]) T1 := by
    unfold n_lw_end_0
    simp -implicitDefEqProofs [EV.LIM, EV.str_lit, evr, EV.r_for, EV.r_rng1, EV.wbin, EV.wun, EV.wcmp, EV.vw, EV.vwz, EV.wix, EV.wblt, EV.wtru, EV.wisi, EV.frz, EV.mkOwn, L2.atI, L2.ixN, List.map, List.length_cons, List.length_nil, List.replicate, List.getElem?_cons_zero, List.getElem?_cons_succ, List.set_cons_zero, List.set_cons_succ, List.append_nil, List.cons_append, List.nil_append] at e1 ⊢
    rw [e1]
    simp -implicitDefEqProofs [EV.LIM, EV.str_lit, evr, EV.r_for, EV.r_rng1, EV.wbin, EV.wun, EV.wcmp, EV.vw, EV.vwz, EV.wix, EV.wblt, EV.wtru, EV.wisi, EV.frz, EV.mkOwn, L2.atI, L2.ixN, List.map, List.length_cons, List.length_nil, List.replicate, List.getElem?_cons_zero, List.getElem?_cons_succ, List.set_cons_zero, List.set_cons_succ, List.append_nil, List.cons_append, List.nil_append]
  simp only [EV.r_run, List.map, List.length_cons, List.length_nil, List.replicate, Nat.sub_self, Nat.reduceAdd, Nat.reduceSub, List.cons_append, List.nil_append, List.append_nil, if_true]
  rw [seq_step a0]
  by_cases q : w < 4
  · obtain ⟨r, T2, h2, k2, e2⟩ := tkI (d + 1) 13 k1.1 (by omega) (by omega)
    refine ⟨(r : Int) - 6, T2, by unfold Sm; omega, kn_tr k1 k2, ?_⟩
    have q' : (w : Int) < 4 := by omega
    simp -implicitDefEqProofs at e2
    simp -implicitDefEqProofs [n_lw_end_1, n_lw_end_1t, n_lw_end_1t_0, EV.LIM, EV.str_lit, evr, EV.r_for, EV.r_rng1, EV.wbin, EV.wun, EV.wcmp, EV.vw, EV.vwz, EV.wix, EV.wblt, EV.wtru, EV.wisi, EV.frz, EV.mkOwn, L2.atI, L2.ixN, List.map, List.length_cons, List.length_nil, List.replicate, List.getElem?_cons_zero, List.getElem?_cons_succ, List.set_cons_zero, List.set_cons_succ, List.append_nil, List.cons_append, List.nil_append, q', e2]
  · have q' : ¬ (w : Int) < 4 := by omega
    have a1 : n_lw_end_1 (EV.Fn gG gP (d + 2)) [.fr (.loc n), .fr (.int w)] T1 = .ok (.nx [.fr (.loc n), .fr (.int w)]) T1 := by
      simp -implicitDefEqProofs [n_lw_end_1, n_lw_end_1t, n_lw_end_1t_0, EV.LIM, EV.str_lit, evr, EV.r_for, EV.r_rng1, EV.wbin, EV.wun, EV.wcmp, EV.vw, EV.vwz, EV.wix, EV.wblt, EV.wtru, EV.wisi, EV.frz, EV.mkOwn, L2.atI, L2.ixN, List.map, List.length_cons, List.length_nil, List.replicate, List.getElem?_cons_zero, List.getElem?_cons_succ, List.set_cons_zero, List.set_cons_succ, List.append_nil, List.cons_append, List.nil_append, q']
    rw [seq_step a1]
    by_cases q2 : w = 4
    · subst q2
      obtain ⟨p, T2, h2, k2, e2⟩ := pkI d [.int 0, .int 999999, .int (-999999)] k1.1 (by simp) (by simp)
      obtain ⟨r, T3, h3, k3, e3⟩ := tkI (d + 1) 5 k2.1 (by omega) (by omega)
      obtain ⟨i, hi, rfl⟩ : ∃ i : Int, i.natAbs ≤ 999999 ∧ p = .int i := by
        simp only [List.mem_cons, List.not_mem_nil, or_false] at h2
        rcases h2 with rfl | rfl | rfl
        · exact ⟨0, by decide, rfl⟩
        · exact ⟨999999, by decide, rfl⟩
        · exact ⟨-999999, by decide, rfl⟩
      refine ⟨i + r - 2, T3, by unfold Sm; omega, kn_tr (kn_tr k1 k2) k3, ?_⟩
      simp -implicitDefEqProofs at e3
      simp -implicitDefEqProofs [n_lw_end_2, n_lw_end_2t, n_lw_end_2t_0, EV.LIM, EV.str_lit, evr, EV.r_for, EV.r_rng1, EV.wbin, EV.wun, EV.wcmp, EV.vw, EV.vwz, EV.wix, EV.wblt, EV.wtru, EV.wisi, EV.frz, EV.mkOwn, L2.atI, L2.ixN, List.map, List.length_cons, List.length_nil, List.replicate, List.getElem?_cons_zero, List.getElem?_cons_succ, List.set_cons_zero, List.set_cons_succ, List.append_nil, List.cons_append, List.nil_append, e2, e3]
    · have q2' : ¬ (w : Int) = 4 := by omega
      have a2 : n_lw_end_2 (EV.Fn gG gP (d + 2)) [.fr (.loc n), .fr (.int w)] T1 = .ok (.nx [.fr (.loc n), .fr (.int w)]) T1 := by
        simp -implicitDefEqProofs [n_lw_end_2, n_lw_end_2t, n_lw_end_2t_0, EV.LIM, EV.str_lit, evr, EV.r_for, EV.r_rng1, EV.wbin, EV.wun, EV.wcmp, EV.vw, EV.vwz, EV.wix, EV.wblt, EV.wtru, EV.wisi, EV.frz, EV.mkOwn, L2.atI, L2.ixN, List.map, List.length_cons, List.length_nil, List.replicate, List.getElem?_cons_zero, List.getElem?_cons_succ, List.set_cons_zero, List.set_cons_succ, List.append_nil, List.cons_append, List.nil_append, q2']
      rw [seq_step a2]
      by_cases q3 : w = 5
      · subst q3
        obtain ⟨r, T2, h2, k2, e2⟩ := tkI (d + 1) 2000003 k1.1 (by omega) (by omega)
        refine ⟨(r : Int) - 1000001, T2, by unfold Sm; omega, kn_tr k1 k2, ?_⟩
        simp -implicitDefEqProofs at e2
        simp -implicitDefEqProofs [n_lw_end_3, n_lw_end_3t, n_lw_end_3t_0, EV.LIM, EV.str_lit, evr, EV.r_for, EV.r_rng1, EV.wbin, EV.wun, EV.wcmp, EV.vw, EV.vwz, EV.wix, EV.wblt, EV.wtru, EV.wisi, EV.frz, EV.mkOwn, L2.atI, L2.ixN, List.map, List.length_cons, List.length_nil, List.replicate, List.getElem?_cons_zero, List.getElem?_cons_succ, List.set_cons_zero, List.set_cons_succ, List.append_nil, List.cons_append, List.nil_append, e2]
      · have q3' : ¬ (w : Int) = 5 := by omega
        have a3 : n_lw_end_3 (EV.Fn gG gP (d + 2)) [.fr (.loc n), .fr (.int w)] T1 = .ok (.nx [.fr (.loc n), .fr (.int w)]) T1 := by
          simp -implicitDefEqProofs [n_lw_end_3, n_lw_end_3t, n_lw_end_3t_0, EV.LIM, EV.str_lit, evr, EV.r_for, EV.r_rng1, EV.wbin, EV.wun, EV.wcmp, EV.vw, EV.vwz, EV.wix, EV.wblt, EV.wtru, EV.wisi, EV.frz, EV.mkOwn, L2.atI, L2.ixN, List.map, List.length_cons, List.length_nil, List.replicate, List.getElem?_cons_zero, List.getElem?_cons_succ, List.set_cons_zero, List.set_cons_succ, List.append_nil, List.cons_append, List.nil_append, q3']
        rw [seq_step a3]
        obtain ⟨p, T2, h2, k2, e2⟩ := pkI d [.int 1, .int (-1)] k1.1 (by simp) (by simp)
        obtain ⟨r, T3, h3, k3, e3⟩ := tkW (d + 1) (10 ^ 40) k2.1 (by decide) (by decide)
        obtain ⟨i, hi, rfl⟩ : ∃ i : Int, (i = 1 ∨ i = -1) ∧ p = .int i := by
          simp only [List.mem_cons, List.not_mem_nil, or_false] at h2
          rcases h2 with rfl | rfl
          · exact ⟨1, .inl rfl, rfl⟩
          · exact ⟨-1, .inr rfl, rfl⟩
        have hr : r < 10000000000000000000000000000000000000000 := h3
        refine ⟨i * r, T3, by unfold Sm; rcases hi with rfl | rfl <;> omega, kn_tr (kn_tr k1 k2) k3, ?_⟩
        simp -implicitDefEqProofs at e3
        rcases hi with rfl | rfl <;> simp -implicitDefEqProofs [n_lw_end_4, EV.LIM, EV.str_lit, evr, EV.r_for, EV.r_rng1, EV.wbin, EV.wun, EV.wcmp, EV.vw, EV.vwz, EV.wix, EV.wblt, EV.wtru, EV.wisi, EV.frz, EV.mkOwn, L2.atI, L2.ixN, List.map, List.length_cons, List.length_nil, List.replicate, List.getElem?_cons_zero, List.getElem?_cons_succ, List.set_cons_zero, List.set_cons_succ, List.append_nil, List.cons_append, List.nil_append, e2, e3]
def n_lw_span_0 (F : EV.Fenv) : EV.M EV.Fl := (EV.sFrz [0] (EV.sSet 1 (EV.mCall F "_law_end" (EV.mCons (EV.mVar 0) EV.mNil) [])))
def n_lw_span_1 (F : EV.Fenv) : EV.M EV.Fl := (EV.sFrz [1] (EV.sSet 2 (EV.mVar 1)))
def n_lw_span_2t_0 (F : EV.Fenv) : EV.M EV.Fl := (EV.sFrz [0] (EV.sSet 2 (EV.mCall F "_law_end" (EV.mCons (EV.mVar 0) EV.mNil) [])))
def n_lw_span_2t (F : EV.Fenv) : EV.M EV.Fl := (n_lw_span_2t_0 F)
def n_lw_span_2 (F : EV.Fenv) : EV.M EV.Fl := (EV.sFrz [0] (EV.sIf (EV.mCmpT .Gt (EV.mCall F "_law_take" (EV.mCons (EV.mVar 0) (EV.mCons (EV.mC (.int 4)) EV.mNil)) []) (EV.mC (.int 0))) (n_lw_span_2t F) EV.sNext))
def n_lw_span_3 (F : EV.Fenv) : EV.M EV.Fl := (EV.sRet (EV.mTup (EV.mCons (EV.mBlt .min (EV.mCons (EV.mVarB 1) (EV.mCons (EV.mVarB 2) EV.mNil))) (EV.mCons (EV.mBlt .max (EV.mCons (EV.mVarB 1) (EV.mCons (EV.mVarB 2) EV.mNil))) EV.mNil))))
theorem ms_lw_span (F : EV.Fenv) : m_lw_span F = (EV.sSeq (n_lw_span_0 F) (EV.sSeq (n_lw_span_1 F) (EV.sSeq (n_lw_span_2 F) (n_lw_span_3 F)))) := by kernel_rfl
def n_lw_outcome_0t_0 (F : EV.Fenv) : EV.M EV.Fl := (EV.sFrz [3] (EV.sRet (EV.mVar 3)))
def n_lw_outcome_0t (F : EV.Fenv) : EV.M EV.Fl := (n_lw_outcome_0t_0 F)
def n_lw_outcome_0 (F : EV.Fenv) : EV.M EV.Fl := (EV.sIf (EV.mCmpT .Eq (EV.mVarB 0) (EV.mC (.str "point"))) (n_lw_outcome_0t F) EV.sNext)
def n_lw_outcome_1t_0 (F : EV.Fenv) : EV.M EV.Fl := (EV.sRet (EV.mBlt .max (EV.mCons (EV.mC (.int 0)) (EV.mCons (EV.mBlt .min (EV.mCons (EV.mBlt .abs (EV.mCons (EV.mVarB 3) EV.mNil)) (EV.mCons (EV.mVarB 1) EV.mNil))) EV.mNil))))
def n_lw_outcome_1t (F : EV.Fenv) : EV.M EV.Fl := (n_lw_outcome_1t_0 F)
def n_lw_outcome_1 (F : EV.Fenv) : EV.M EV.Fl := (EV.sIf (EV.mCmpT .Eq (EV.mVarB 0) (EV.mC (.str "saturated"))) (n_lw_outcome_1t F) EV.sNext)
def n_lw_outcome_2t_0 (F : EV.Fenv) : EV.M EV.Fl := (EV.sRet (EV.mIx (EV.mDict [((EV.mC (.str "least")), (EV.mBlt .min (EV.mCons (EV.mVarB 1) (EV.mCons (EV.mVarB 2) EV.mNil)))), ((EV.mC (.str "greatest")), (EV.mBlt .max (EV.mCons (EV.mVarB 1) (EV.mCons (EV.mVarB 2) EV.mNil))))]) (EV.mVarB 0)))
def n_lw_outcome_2t (F : EV.Fenv) : EV.M EV.Fl := (n_lw_outcome_2t_0 F)
def n_lw_outcome_2 (F : EV.Fenv) : EV.M EV.Fl := (EV.sIf (EV.mCmpT .In (EV.mVarB 0) (EV.mTup (EV.mCons (EV.mC (.str "least")) (EV.mCons (EV.mC (.str "greatest")) EV.mNil)))) (n_lw_outcome_2t F) EV.sNext)
def n_lw_outcome_3 (F : EV.Fenv) : EV.M EV.Fl := (EV.sRet (EV.mBlt .max (EV.mCons (EV.mUn .USub (EV.mC (.int 999999))) (EV.mCons (EV.mBlt .min (EV.mCons (EV.mC (.int 999999)) (EV.mCons (EV.mIx (EV.mDict [((EV.mC (.str "add")), (EV.mBin .Add (EV.mVarB 1) (EV.mVarB 2))), ((EV.mC (.str "sub")), (EV.mBin .Sub (EV.mVarB 1) (EV.mVarB 2))), ((EV.mC (.str "mul")), (EV.mBin .Mult (EV.mVarB 1) (EV.mVarB 2)))]) (EV.mVarB 0)) EV.mNil))) EV.mNil))))
theorem ms_lw_outcome (F : EV.Fenv) : m_lw_outcome F = (EV.sSeq (n_lw_outcome_0 F) (EV.sSeq (n_lw_outcome_1 F) (EV.sSeq (n_lw_outcome_2 F) (n_lw_outcome_3 F)))) := by kernel_rfl
def n_lw_outcomes_0t_0 (F : EV.Fenv) : EV.M EV.Fl := (EV.sRet (EV.mBin .Add (EV.mVarB 1) (EV.mVarB 2)))
def n_lw_outcomes_0t (F : EV.Fenv) : EV.M EV.Fl := (n_lw_outcomes_0t_0 F)
def n_lw_outcomes_0 (F : EV.Fenv) : EV.M EV.Fl := (EV.sIf (EV.mCmpT .Eq (EV.mVarB 0) (EV.mC (.str "hull"))) (n_lw_outcomes_0t F) EV.sNext)
def n_lw_outcomes_1 (F : EV.Fenv) : EV.M EV.Fl := (EV.sSetF 4 (EV.mLst EV.mNil))
def n_lw_outcomes_2b_0_c0 (F : EV.Fenv) : EV.M EV.W := (EV.mCall F "_law_outcome" (EV.mCons (EV.mVar 0) (EV.mCons (EV.mVar 5) (EV.mCons (EV.mVar 6) (EV.mCons (EV.mVar 3) EV.mNil)))) [])
def n_lw_outcomes_2b_0 (F : EV.Fenv) : EV.M EV.Fl := (EV.sFrz [0, 5, 6, 3, 2] (EV.sMut (EV.mutE F (fun c => gG.mts.lookup (c, ("extend" : Str))) .extend "extend" 4 (EV.mCons (EV.mLc (EV.mIt (EV.mVar 2)) (EV.bName 6) EV.mYes (n_lw_outcomes_2b_0_c0 F) [6]) EV.mNil))))
def n_lw_outcomes_2b (F : EV.Fenv) : EV.M EV.Fl := (n_lw_outcomes_2b_0 F)
def n_lw_outcomes_2 (F : EV.Fenv) : EV.M EV.Fl := (EV.sFrz [1] (EV.sFor (EV.mIt (EV.mVar 1)) (EV.bName 5) (n_lw_outcomes_2b F)))
def n_lw_outcomes_3 (F : EV.Fenv) : EV.M EV.Fl := (EV.sFrz [4] (EV.sRet (EV.mVar 4)))
theorem ms_lw_outcomes (F : EV.Fenv) : m_lw_outcomes F = (EV.sSeq (n_lw_outcomes_0 F) (EV.sSeq (n_lw_outcomes_1 F) (EV.sSeq (n_lw_outcomes_2 F) (n_lw_outcomes_3 F)))) := by kernel_rfl
/-! ### stretches: spans, samples, outcomes -/
def prW (a b : Int) : EV.W := .tup [.int a, .int b]
def iW (l : List Int) : List EV.W := l.map EV.W.int
theorem span_ex (d : Nat) {n : Nat} {T : EV.Sto} (hb : BagAt n T) : ∃ (a b : Int) (T' : EV.Sto), a ≤ b ∧ Sm a ∧ Sm b ∧ Kn n T T' ∧ EV.Fn gG gP (d + 4) "_law_span" [.loc n] T = .ok (prW a b) T' := by
  obtain ⟨x, T1, h1, k1, e1⟩ := end_ex d hb
  obtain ⟨w, T2, h2, k2, e2⟩ := tkI (d + 2) 4 k1.1 (by omega) (by omega)
  rw [fe_lw_span]
  show ∃ (a b : Int) (T' : EV.Sto), a ≤ b ∧ Sm a ∧ Sm b ∧ Kn n T T' ∧ EV.runB (m_lw_span (EV.Fn gG gP (d + 3))) _ _ _ = _
  rw [ms_lw_span]
  have a0 : n_lw_span_0 (EV.Fn gG gP (d + 3)) [.fr (.loc n), .emp, .emp] T = .ok (.nx [.fr (.loc n), .fr (.int x), .emp]) T1 := by
    simp -implicitDefEqProofs [n_lw_span_0, EV.LIM, EV.str_lit, evr, EV.r_for, EV.r_rng1, EV.wbin, EV.wun, EV.wcmp, EV.vw, EV.vwz, EV.wix, EV.wblt, EV.wtru, EV.wisi, EV.frz, EV.mkOwn, L2.atI, L2.ixN, List.map, List.length_cons, List.length_nil, List.replicate, List.getElem?_cons_zero, List.getElem?_cons_succ, List.set_cons_zero, List.set_cons_succ, List.append_nil, List.cons_append, List.nil_append, e1]
  have a1 : n_lw_span_1 (EV.Fn gG gP (d + 3)) [.fr (.loc n), .fr (.int x), .emp] T1 = .ok (.nx [.fr (.loc n), .fr (.int x), .fr (.int x)]) T1 := by
    simp -implicitDefEqProofs [n_lw_span_1, EV.LIM, EV.str_lit, evr, EV.r_for, EV.r_rng1, EV.wbin, EV.wun, EV.wcmp, EV.vw, EV.vwz, EV.wix, EV.wblt, EV.wtru, EV.wisi, EV.frz, EV.mkOwn, L2.atI, L2.ixN, List.map, List.length_cons, List.length_nil, List.replicate, List.getElem?_cons_zero, List.getElem?_cons_succ, List.set_cons_zero, List.set_cons_succ, List.append_nil, List.cons_append, List.nil_append]
  have fin : ∀ (y : Int) (T' : EV.Sto), n_lw_span_3 (EV.Fn gG gP (d + 3)) [.fr (.loc n), .fr (.int x), .fr (.int y)] T' = .ok (.rt (prW (min x y) (max x y))) T' := fun y T' => by
    simp -implicitDefEqProofs [n_lw_span_3, EV.LIM, EV.str_lit, evr, EV.r_for, EV.r_rng1, EV.wbin, EV.wun, EV.wcmp, EV.vw, EV.vwz, EV.wix, EV.wblt, EV.wtru, EV.wisi, EV.frz, EV.mkOwn, L2.atI, L2.ixN, List.map, List.length_cons, List.length_nil, List.replicate, List.getElem?_cons_zero, List.getElem?_cons_succ, List.set_cons_zero, List.set_cons_succ, List.append_nil, List.cons_append, List.nil_append, prW]
  simp only [EV.r_run, List.map, List.length_cons, List.length_nil, List.replicate, Nat.sub_self, Nat.reduceAdd, Nat.reduceSub, List.cons_append, List.nil_append, List.append_nil, if_true]
  rw [seq_step a0, seq_step a1]
  simp -implicitDefEqProofs at e2
  by_cases q : w = 0
  · subst q
    have a2 : n_lw_span_2 (EV.Fn gG gP (d + 3)) [.fr (.loc n), .fr (.int x), .fr (.int x)] T1 = .ok (.nx [.fr (.loc n), .fr (.int x), .fr (.int x)]) T2 := by
      simp -implicitDefEqProofs [n_lw_span_2, n_lw_span_2t, n_lw_span_2t_0, EV.LIM, EV.str_lit, evr, EV.r_for, EV.r_rng1, EV.wbin, EV.wun, EV.wcmp, EV.vw, EV.vwz, EV.wix, EV.wblt, EV.wtru, EV.wisi, EV.frz, EV.mkOwn, L2.atI, L2.ixN, List.map, List.length_cons, List.length_nil, List.replicate, List.getElem?_cons_zero, List.getElem?_cons_succ, List.set_cons_zero, List.set_cons_succ, List.append_nil, List.cons_append, List.nil_append, e2]
    rw [seq_step a2, fin]
    refine ⟨min x x, max x x, T2, by omega, ?_, ?_, kn_tr k1 k2, rfl⟩
    · rw [show min x x = x by omega]; exact h1
    · rw [show max x x = x by omega]; exact h1
  · obtain ⟨y, T3, h3, k3, e3⟩ := end_ex d k2.1
    have q' : 0 < w := by omega
    have a2 : n_lw_span_2 (EV.Fn gG gP (d + 3)) [.fr (.loc n), .fr (.int x), .fr (.int x)] T1 = .ok (.nx [.fr (.loc n), .fr (.int x), .fr (.int y)]) T3 := by
      simp -implicitDefEqProofs [n_lw_span_2, n_lw_span_2t, n_lw_span_2t_0, EV.LIM, EV.str_lit, evr, EV.r_for, EV.r_rng1, EV.wbin, EV.wun, EV.wcmp, EV.vw, EV.vwz, EV.wix, EV.wblt, EV.wtru, EV.wisi, EV.frz, EV.mkOwn, L2.atI, L2.ixN, List.map, List.length_cons, List.length_nil, List.replicate, List.getElem?_cons_zero, List.getElem?_cons_succ, List.set_cons_zero, List.set_cons_succ, List.append_nil, List.cons_append, List.nil_append, e2, q', e3]
    rw [seq_step a2, fin]
    refine ⟨min x y, max x y, T3, by omega, ?_, ?_, kn_tr (kn_tr k1 k2) k3, rfl⟩ <;> (unfold Sm at *; omega)
theorem some_ex (d : Nat) {n : Nat} {T : EV.Sto} {a b : Int} (hb : BagAt n T) (h : a ≤ b) (ha : Sm a) (hs : Sm b) : ∃ (l : List Int) (T' : EV.Sto), ExtL l a b ∧ l.length ≤ 6 ∧ (∀ x ∈ l, Sm x) ∧ Kn n T T' ∧ EV.Fn gG gP (d + 2) "_law_some" [.loc n, prW a b] T = .ok (.lst (iW l)) T' := by
  rw [fe_lw_some]
  unfold m_lw_some prW
  have sm : ∀ x, a ≤ x → x ≤ b → Sm x := fun x h1 h2 => by unfold Sm at *; omega
  by_cases q : b - a + 1 ≤ 6
  · obtain ⟨k, hk⟩ : ∃ k : Nat, b - a + 1 = (k : Int) := ⟨(b - a + 1).toNat, by omega⟩
    have hk6 : (k : Int) ≤ 6 := by omega
    have lc := lc_idxA (i := 3) (me := EV.mBin .Add (EV.mIx (EV.mVarB 1) (EV.mC (.int 0))) (EV.mVarB 3)) (σ := [.fr (.loc n), .fr (.tup [.int a, .int b]), .fr (.int k), .emp]) (S := T) (wi := fun i : Nat => EV.W.int (i : Nat)) (f := fun i : Nat => EV.W.int (a + i)) (List.range k) fun i _ => by
      simp -implicitDefEqProofs [EV.LIM, EV.str_lit, evr, EV.r_for, EV.r_rng1, EV.wbin, EV.wun, EV.wcmp, EV.vw, EV.vwz, EV.wix, EV.wblt, EV.wtru, EV.wisi, EV.frz, EV.mkOwn, L2.atI, L2.ixN, List.map, List.length_cons, List.length_nil, List.replicate, List.getElem?_cons_zero, List.getElem?_cons_succ, List.set_cons_zero, List.set_cons_succ, List.append_nil, List.cons_append, List.nil_append]
    have rg := rng_i (a := EV.mVarB 2) (σ := [.fr (.loc n), .fr (.tup [.int a, .int b]), .fr (.int k), .emp]) (S := T) (k := k) rfl (by omega)
    have c := lc_run (it := EV.mRng1 (EV.mVarB 2)) (i := 3) (t := EV.mYes) (me := EV.mBin .Add (EV.mIx (EV.mVarB 1) (EV.mC (.int 0))) (EV.mVarB 3)) (own := [3]) rg (by simp; omega) rfl rfl lc
    refine ⟨(List.range k).map fun i : Nat => a + (i : Int), T, ⟨?_, ?_, fun r hr => ?_⟩, by simp; omega, fun x hx => ?_, kn_refl hb, ?_⟩
    · exact List.mem_map.mpr ⟨0, List.mem_range.mpr (by omega), by simp⟩
    · exact List.mem_map.mpr ⟨k - 1, List.mem_range.mpr (by omega), by omega⟩
    · obtain ⟨i, hi, rfl⟩ := List.mem_map.mp hr
      have := List.mem_range.mp hi
      omega
    · obtain ⟨i, hi, rfl⟩ := List.mem_map.mp hx
      have := List.mem_range.mp hi
      exact sm _ (by omega) (by omega)
    · have e : iW ((List.range k).map fun i : Nat => a + (i : Int)) = (List.range k).map fun i : Nat => EV.W.int (a + i) := by unfold iW; rw [List.map_map]; rfl
      rw [e]
      simp -implicitDefEqProofs [EV.r_run, EV.r_seq, EV.r_setO, EV.r_setOF, EV.r_seqN, EV.r_if, EV.r_cmt, EV.r_cmtF, EV.r_cmtG, EV.r_ix, EV.r_ixF, EV.r_ixG, EV.r_bin, EV.r_binF, EV.r_binG, EV.r_varB, EV.r_varBf, EV.r_varBo, EV.r_c, EV.r_ok, EV.r_some, EV.r_sifT, EV.wbin, EV.wcmp, EV.vw, EV.vwz, EV.wix, L2.atI, L2.ixN, EV.mkOwn, hk, hk6, EV.r_frz, EV.frz, EV.r_ret, EV.r_retF, c, EV.r_seqR, EV.r_runR]
  · obtain ⟨k, hk⟩ : ∃ k : Nat, b - a + 1 = (k : Int) := ⟨(b - a + 1).toNat, by omega⟩
    have hk6 : ¬ (k : Int) ≤ 6 := by omega
    have hkm : k < 2 ^ 150 := by
      have e : (2 : Nat) ^ 150 = 1427247692705959881058285969449495136382746624 := by rfl
      rw [e]
      unfold Sm at *
      omega
    obtain ⟨r, T', hr, kn, e1⟩ := tkW d k hb (by omega) hkm
    refine ⟨[a, a + 1, a + r, b - 1, b], T', ⟨by simp, by simp, fun x hx => ?_⟩, by simp, fun x hx => ?_, kn, ?_⟩
    · simp only [List.mem_cons, List.not_mem_nil, or_false] at hx
      omega
    · simp only [List.mem_cons, List.not_mem_nil, or_false] at hx
      exact sm _ (by omega) (by omega)
    · simp -implicitDefEqProofs [EV.LIM, EV.str_lit, evr, EV.r_for, EV.r_rng1, EV.wbin, EV.wun, EV.wcmp, EV.vw, EV.vwz, EV.wix, EV.wblt, EV.wtru, EV.wisi, EV.frz, EV.mkOwn, L2.atI, L2.ixN, List.map, List.length_cons, List.length_nil, List.replicate, List.getElem?_cons_zero, List.getElem?_cons_succ, List.set_cons_zero, List.set_cons_succ, List.append_nil, List.cons_append, List.nil_append, hk, hk6, e1, iW]
/-- one outcome -/
theorem dix2 {p q : EV.W} {a b : EV.M EV.W} {σ : EV.Sls} {S : EV.Sto} {k1 k2 : Str} (ha : a σ S = .ok p S) (hb : b σ S = .ok q S) (h1 : k1 ≠ k2) : EV.mDict [(EV.mC (.str k1), a), (EV.mC (.str k2), b)] σ S = .ok (.dct [(.inr k1, p), (.inr k2, q)]) S := by
  unfold EV.mDict EV.mPairs EV.mPairs EV.mPairs
  simp [EV.r_c, ha, hb, EV.r_ok, EV.wkey, EV.dmerge, EV.dput, h1]
theorem dix3 {p q r : EV.W} {a b c : EV.M EV.W} {σ : EV.Sls} {S : EV.Sto} {k1 k2 k3 : Str} (ha : a σ S = .ok p S) (hb : b σ S = .ok q S) (hc : c σ S = .ok r S) (h1 : k1 ≠ k2) (h2 : k1 ≠ k3) (h3 : k2 ≠ k3) : EV.mDict [(EV.mC (.str k1), a), (EV.mC (.str k2), b), (EV.mC (.str k3), c)] σ S = .ok (.dct [(.inr k1, p), (.inr k2, q), (.inr k3, r)]) S := by
  unfold EV.mDict EV.mPairs EV.mPairs EV.mPairs EV.mPairs
  simp [EV.r_c, ha, hb, hc, EV.r_ok, EV.wkey, EV.dmerge, EV.dput, h1, h2, h3]
theorem outc_ok (d : Nat) (k : O8) (hk : k ≠ .hull) {x y n : Int} (hx : Sm x) (hy : Sm y) (T : EV.Sto) : EV.Fn gG gP (d + 1) "_law_outcome" [.str k.nm, .int x, .int y, .int n] T = .ok (.int (outI k x y n)) T := by
  rw [fe_lw_outcome]
  show EV.runB (m_lw_outcome (EV.Fn gG gP d)) _ _ _ = _
  rw [ms_lw_outcome]
  simp only [EV.r_run, List.map, List.length_cons, List.length_nil, List.replicate, Nat.sub_self, Nat.reduceAdd, Nat.reduceSub, List.cons_append, List.nil_append, List.append_nil, if_true]
  have big : ∀ z, Sm z → z.natAbs < 2 ^ 200 := fun z hz => by
    have e : (2 : Nat) ^ 200 = 1606938044258990275541962092341162602522202993782792835301376 := by rfl
    rw [e]
    unfold Sm at hz
    omega
  have wm : EV.mBin .Mult (EV.mVarB 1) (EV.mVarB 2) [.fr (.str k.nm), .fr (.int x), .fr (.int y), .fr (.int n)] T = .ok (.int (x * y)) T := by
    have e : EV.wbin .Mult (.int x) (.int y) = some (.int (x * y)) := by unfold EV.wbin; exact if_pos (.inr ⟨big x hx, big y hy⟩)
    show EV.olift (EV.wbin .Mult (.int x) (.int y)) T = _
    rw [e]
    rfl
  cases k with
  | hull => exact absurd rfl hk
  | point => simp -implicitDefEqProofs [n_lw_outcome_0, n_lw_outcome_0t, n_lw_outcome_0t_0, EV.LIM, EV.str_lit, evr, EV.r_for, EV.r_rng1, EV.wbin, EV.wun, EV.wcmp, EV.vw, EV.vwz, EV.wix, EV.wblt, EV.wtru, EV.wisi, EV.frz, EV.mkOwn, L2.atI, L2.ixN, List.map, List.length_cons, List.length_nil, List.replicate, List.getElem?_cons_zero, List.getElem?_cons_succ, List.set_cons_zero, List.set_cons_succ, List.append_nil, List.cons_append, List.nil_append, O8.nm, outI]
  | sat => simp -implicitDefEqProofs [n_lw_outcome_0, n_lw_outcome_0t, n_lw_outcome_0t_0, n_lw_outcome_1, n_lw_outcome_1t, n_lw_outcome_1t_0, EV.LIM, EV.str_lit, evr, EV.r_for, EV.r_rng1, EV.wbin, EV.wun, EV.wcmp, EV.vw, EV.vwz, EV.wix, EV.wblt, EV.wtru, EV.wisi, EV.frz, EV.mkOwn, L2.atI, L2.ixN, List.map, List.length_cons, List.length_nil, List.replicate, List.getElem?_cons_zero, List.getElem?_cons_succ, List.set_cons_zero, List.set_cons_succ, List.append_nil, List.cons_append, List.nil_append, O8.nm, outI, absI]
  | least =>
    have e := dix2 (a := EV.mBlt .min (EV.mCons (EV.mVarB 1) (EV.mCons (EV.mVarB 2) EV.mNil))) (b := EV.mBlt .max (EV.mCons (EV.mVarB 1) (EV.mCons (EV.mVarB 2) EV.mNil))) (σ := [.fr (.str O8.least.nm), .fr (.int x), .fr (.int y), .fr (.int n)]) (S := T) (k1 := "least") (k2 := "greatest") rfl rfl (by decide +kernel)
    simp only [O8.nm] at e
    simp -implicitDefEqProofs [n_lw_outcome_0, n_lw_outcome_1, n_lw_outcome_2, n_lw_outcome_2t, n_lw_outcome_2t_0, EV.LIM, EV.str_lit, evr, EV.r_for, EV.r_rng1, EV.wbin, EV.wun, EV.wcmp, EV.vw, EV.vwz, EV.wix, EV.wblt, EV.wtru, EV.wisi, EV.frz, EV.mkOwn, L2.atI, L2.ixN, List.map, List.length_cons, List.length_nil, List.replicate, List.getElem?_cons_zero, List.getElem?_cons_succ, List.set_cons_zero, List.set_cons_succ, List.append_nil, List.cons_append, List.nil_append, O8.nm, outI, EV.wmem, EV.wflat, EV.wfeq, e, EV.dval, EV.wkey]
  | greatest =>
    have e := dix2 (a := EV.mBlt .min (EV.mCons (EV.mVarB 1) (EV.mCons (EV.mVarB 2) EV.mNil))) (b := EV.mBlt .max (EV.mCons (EV.mVarB 1) (EV.mCons (EV.mVarB 2) EV.mNil))) (σ := [.fr (.str O8.greatest.nm), .fr (.int x), .fr (.int y), .fr (.int n)]) (S := T) (k1 := "least") (k2 := "greatest") rfl rfl (by decide +kernel)
    simp only [O8.nm] at e
    simp -implicitDefEqProofs [n_lw_outcome_0, n_lw_outcome_1, n_lw_outcome_2, n_lw_outcome_2t, n_lw_outcome_2t_0, EV.LIM, EV.str_lit, evr, EV.r_for, EV.r_rng1, EV.wbin, EV.wun, EV.wcmp, EV.vw, EV.vwz, EV.wix, EV.wblt, EV.wtru, EV.wisi, EV.frz, EV.mkOwn, L2.atI, L2.ixN, List.map, List.length_cons, List.length_nil, List.replicate, List.getElem?_cons_zero, List.getElem?_cons_succ, List.set_cons_zero, List.set_cons_succ, List.append_nil, List.cons_append, List.nil_append, O8.nm, outI, EV.wmem, EV.wflat, EV.wfeq, e, EV.dval, EV.wkey]
  | add =>
    have e := dix3 (a := EV.mBin .Add (EV.mVarB 1) (EV.mVarB 2)) (b := EV.mBin .Sub (EV.mVarB 1) (EV.mVarB 2)) (c := EV.mBin .Mult (EV.mVarB 1) (EV.mVarB 2)) (σ := [.fr (.str O8.add.nm), .fr (.int x), .fr (.int y), .fr (.int n)]) (S := T) (k1 := "add") (k2 := "sub") (k3 := "mul") rfl rfl wm (by decide +kernel) (by decide +kernel) (by decide +kernel)
    simp only [O8.nm] at e
    simp -implicitDefEqProofs [n_lw_outcome_0, n_lw_outcome_1, n_lw_outcome_2, n_lw_outcome_3, EV.LIM, EV.str_lit, evr, EV.r_for, EV.r_rng1, EV.wbin, EV.wun, EV.wcmp, EV.vw, EV.vwz, EV.wix, EV.wblt, EV.wtru, EV.wisi, EV.frz, EV.mkOwn, L2.atI, L2.ixN, List.map, List.length_cons, List.length_nil, List.replicate, List.getElem?_cons_zero, List.getElem?_cons_succ, List.set_cons_zero, List.set_cons_succ, List.append_nil, List.cons_append, List.nil_append, O8.nm, outI, EV.wmem, EV.wflat, EV.wfeq, e, EV.dval, EV.wkey]
  | sub =>
    have e := dix3 (a := EV.mBin .Add (EV.mVarB 1) (EV.mVarB 2)) (b := EV.mBin .Sub (EV.mVarB 1) (EV.mVarB 2)) (c := EV.mBin .Mult (EV.mVarB 1) (EV.mVarB 2)) (σ := [.fr (.str O8.sub.nm), .fr (.int x), .fr (.int y), .fr (.int n)]) (S := T) (k1 := "add") (k2 := "sub") (k3 := "mul") rfl rfl wm (by decide +kernel) (by decide +kernel) (by decide +kernel)
    simp only [O8.nm] at e
    simp -implicitDefEqProofs [n_lw_outcome_0, n_lw_outcome_1, n_lw_outcome_2, n_lw_outcome_3, EV.LIM, EV.str_lit, evr, EV.r_for, EV.r_rng1, EV.wbin, EV.wun, EV.wcmp, EV.vw, EV.vwz, EV.wix, EV.wblt, EV.wtru, EV.wisi, EV.frz, EV.mkOwn, L2.atI, L2.ixN, List.map, List.length_cons, List.length_nil, List.replicate, List.getElem?_cons_zero, List.getElem?_cons_succ, List.set_cons_zero, List.set_cons_succ, List.append_nil, List.cons_append, List.nil_append, O8.nm, outI, EV.wmem, EV.wflat, EV.wfeq, e, EV.dval, EV.wkey]
  | mul =>
    have e := dix3 (a := EV.mBin .Add (EV.mVarB 1) (EV.mVarB 2)) (b := EV.mBin .Sub (EV.mVarB 1) (EV.mVarB 2)) (c := EV.mBin .Mult (EV.mVarB 1) (EV.mVarB 2)) (σ := [.fr (.str O8.mul.nm), .fr (.int x), .fr (.int y), .fr (.int n)]) (S := T) (k1 := "add") (k2 := "sub") (k3 := "mul") rfl rfl wm (by decide +kernel) (by decide +kernel) (by decide +kernel)
    simp only [O8.nm] at e
    simp -implicitDefEqProofs [n_lw_outcome_0, n_lw_outcome_1, n_lw_outcome_2, n_lw_outcome_3, EV.LIM, EV.str_lit, evr, EV.r_for, EV.r_rng1, EV.wbin, EV.wun, EV.wcmp, EV.vw, EV.vwz, EV.wix, EV.wblt, EV.wtru, EV.wisi, EV.frz, EV.mkOwn, L2.atI, L2.ixN, List.map, List.length_cons, List.length_nil, List.replicate, List.getElem?_cons_zero, List.getElem?_cons_succ, List.set_cons_zero, List.set_cons_succ, List.append_nil, List.cons_append, List.nil_append, O8.nm, outI, EV.wmem, EV.wflat, EV.wfeq, e, EV.dval, EV.wkey]
theorem outs_ok (d : Nat) (k : O8) {xs ys : List Int} {n : Int} (hx : ∀ x ∈ xs, Sm x) (hy : ∀ y ∈ ys, Sm y) (lx : xs.length ≤ 6) (ly : ys.length ≤ 6) (T : EV.Sto) : EV.Fn gG gP (d + 2) "_law_outcomes" [.str k.nm, .lst (iW xs), .lst (iW ys), .int n] T = .ok (.lst (iW (rowsI k xs ys n))) T := by
  rw [fe_lw_outcomes]
  show EV.runB (m_lw_outcomes (EV.Fn gG gP (d + 1))) _ _ _ = _
  rw [ms_lw_outcomes]
  simp only [EV.r_run, List.map, List.length_cons, List.length_nil, List.replicate, Nat.sub_self, Nat.reduceAdd, Nat.reduceSub, List.cons_append, List.nil_append, List.append_nil, if_true]
  have lw : ∀ l : List Int, (iW l).length = l.length := fun l => by unfold iW; simp
  by_cases hk : k = .hull
  · subst hk
    have : (iW xs).length + (iW ys).length ≤ 10000000 := by rw [lw, lw]; omega
    simp -implicitDefEqProofs [n_lw_outcomes_0, n_lw_outcomes_0t, n_lw_outcomes_0t_0, EV.LIM, EV.str_lit, evr, EV.r_for, EV.r_rng1, EV.wbin, EV.wun, EV.wcmp, EV.vw, EV.vwz, EV.wix, EV.wblt, EV.wtru, EV.wisi, EV.frz, EV.mkOwn, L2.atI, L2.ixN, List.map, List.length_cons, List.length_nil, List.replicate, List.getElem?_cons_zero, List.getElem?_cons_succ, List.set_cons_zero, List.set_cons_succ, List.append_nil, List.cons_append, List.nil_append, O8.nm, rowsI, this]
    unfold iW
    simp
  · have a0 : n_lw_outcomes_0 (EV.Fn gG gP (d + 1)) [.fr (.str k.nm), .fr (.lst (iW xs)), .fr (.lst (iW ys)), .fr (.int n), .emp, .emp, .emp] T = .ok (.nx [.fr (.str k.nm), .fr (.lst (iW xs)), .fr (.lst (iW ys)), .fr (.int n), .emp, .emp, .emp]) T := by
      cases k <;> first | exact absurd rfl hk | simp -implicitDefEqProofs [n_lw_outcomes_0, EV.LIM, EV.str_lit, evr, EV.r_for, EV.r_rng1, EV.wbin, EV.wun, EV.wcmp, EV.vw, EV.vwz, EV.wix, EV.wblt, EV.wtru, EV.wisi, EV.frz, EV.mkOwn, L2.atI, L2.ixN, List.map, List.length_cons, List.length_nil, List.replicate, List.getElem?_cons_zero, List.getElem?_cons_succ, List.set_cons_zero, List.set_cons_succ, List.append_nil, List.cons_append, List.nil_append, O8.nm]
    have a1 : n_lw_outcomes_1 (EV.Fn gG gP (d + 1)) [.fr (.str k.nm), .fr (.lst (iW xs)), .fr (.lst (iW ys)), .fr (.int n), .emp, .emp, .emp] T = .ok (.nx [.fr (.str k.nm), .fr (.lst (iW xs)), .fr (.lst (iW ys)), .fr (.int n), .ow (.lst []), .emp, .emp]) T := by
      simp -implicitDefEqProofs [n_lw_outcomes_1, EV.LIM, EV.str_lit, evr, EV.r_for, EV.r_rng1, EV.wbin, EV.wun, EV.wcmp, EV.vw, EV.vwz, EV.wix, EV.wblt, EV.wtru, EV.wisi, EV.frz, EV.mkOwn, L2.atI, L2.ixN, List.map, List.length_cons, List.length_nil, List.replicate, List.getElem?_cons_zero, List.getElem?_cons_succ, List.set_cons_zero, List.set_cons_succ, List.append_nil, List.cons_append, List.nil_append]
    rw [seq_step a0, seq_step a1]
    have turn : ∀ (x : Int) (acc : List Int) (z : EV.Sl), Sm x → acc.length ≤ 1000 → n_lw_outcomes_2b (EV.Fn gG gP (d + 1)) [.fr (.str k.nm), .fr (.lst (iW xs)), .fr (.lst (iW ys)), .fr (.int n), .ow (.lst (iW acc)), .fr (.int x), .emp] T = .ok (.nx [.fr (.str k.nm), .fr (.lst (iW xs)), .fr (.lst (iW ys)), .fr (.int n), .ow (.lst (iW (acc ++ ys.map fun y => outI k x y n))), .fr (.int x), .emp]) T := fun x acc z hx2 ha => by
      have lc := lc_idxA (i := 6) (me := n_lw_outcomes_2b_0_c0 (EV.Fn gG gP (d + 1))) (σ := [.fr (.str k.nm), .fr (.lst (iW xs)), .fr (.lst (iW ys)), .fr (.int n), .ow (.lst (iW acc)), .fr (.int x), .emp]) (S := T) (wi := EV.W.int) (f := fun y : Int => EV.W.int (outI k x y n)) ys fun y hy2 => by
        have := outc_ok d k hk (n := n) hx2 (hy y hy2) T
        simp -implicitDefEqProofs [n_lw_outcomes_2b_0_c0, EV.LIM, EV.str_lit, evr, EV.r_for, EV.r_rng1, EV.wbin, EV.wun, EV.wcmp, EV.vw, EV.vwz, EV.wix, EV.wblt, EV.wtru, EV.wisi, EV.frz, EV.mkOwn, L2.atI, L2.ixN, List.map, List.length_cons, List.length_nil, List.replicate, List.getElem?_cons_zero, List.getElem?_cons_succ, List.set_cons_zero, List.set_cons_succ, List.append_nil, List.cons_append, List.nil_append, this]
      have c := lc_run (it := EV.mIt (EV.mVar 2)) (i := 6) (t := EV.mYes) (me := n_lw_outcomes_2b_0_c0 (EV.Fn gG gP (d + 1))) (own := [6]) (σ := [.fr (.str k.nm), .fr (.lst (iW xs)), .fr (.lst (iW ys)), .fr (.int n), .ow (.lst (iW acc)), .fr (.int x), .emp]) (S := T) (ws := iW ys) rfl (by rw [lw]; omega) rfl rfl lc
      have m := mut_own (F := EV.Fn gG gP (d + 1)) (own := fun c => gG.mts.lookup (c, ("extend" : Str))) (m := .extend) (nm := "extend") (i := 4) (a := EV.mCons (EV.mLc (EV.mIt (EV.mVar 2)) (EV.bName 6) EV.mYes (n_lw_outcomes_2b_0_c0 (EV.Fn gG gP (d + 1))) [6]) EV.mNil) (σ := [.fr (.str k.nm), .fr (.lst (iW xs)), .fr (.lst (iW ys)), .fr (.int n), .ow (.lst (iW acc)), .fr (.int x), .emp]) (S := T) (xs := iW acc) rfl (by rw [EV.r_cons, c, EV.r_ok, EV.r_consF]; rfl) (up_ext T (iW acc) (ys.map fun y : Int => EV.W.int (outI k x y n)) (by rw [lw]; simp; omega))
      unfold n_lw_outcomes_2b n_lw_outcomes_2b_0
      rw [EV.r_frz]
      show EV.sMut _ _ _ = _
      have fr : EV.frz [.fr (.str k.nm), .fr (.lst (iW xs)), .fr (.lst (iW ys)), .fr (.int n), .ow (.lst (iW acc)), .fr (.int x), .emp] [0, 5, 6, 3, 2] = [.fr (.str k.nm), .fr (.lst (iW xs)), .fr (.lst (iW ys)), .fr (.int n), .ow (.lst (iW acc)), .fr (.int x), .emp] := rfl
      rw [fr, EV.r_mut, m, EV.r_ok, EV.r_mutF]
      show EV.Res.ok (EV.Fl.nx [.fr (.str k.nm), .fr (.lst (iW xs)), .fr (.lst (iW ys)), .fr (.int n), .ow (.lst (iW acc ++ (ys.map fun y : Int => EV.W.int (outI k x y n)))), .fr (.int x), .emp]) T = _
      have e : iW acc ++ (ys.map fun y : Int => EV.W.int (outI k x y n)) = iW (acc ++ ys.map fun y => outI k x y n) := by unfold iW; simp
      rw [e]
    have loop : ∀ (l : List Int) (acc : List Int) (z : EV.Sl), (∀ x ∈ l, Sm x) → acc.length + 6 * l.length ≤ 100 → ∃ z', EV.forL (EV.bName 5) (n_lw_outcomes_2b (EV.Fn gG gP (d + 1))) (iW l) [.fr (.str k.nm), .fr (.lst (iW xs)), .fr (.lst (iW ys)), .fr (.int n), .ow (.lst (iW acc)), z, .emp] T = .ok (.nx [.fr (.str k.nm), .fr (.lst (iW xs)), .fr (.lst (iW ys)), .fr (.int n), .ow (.lst (iW (acc ++ l.flatMap fun x => ys.map fun y => outI k x y n))), z', .emp]) T := by
      intro l
      induction l with
      | nil => intro acc z _ _; exact ⟨z, by rw [List.flatMap_nil, List.append_nil]; rfl⟩
      | cons x l ih =>
        intro acc z hl ha
        simp only [List.length_cons] at ha
        obtain ⟨z', e⟩ := ih (acc ++ ys.map fun y => outI k x y n) (.fr (.int x)) (fun y h => hl y (List.mem_cons_of_mem _ h)) (by simp; omega)
        refine ⟨z', ?_⟩
        show EV.forL _ _ (.int x :: iW l) _ _ = _
        rw [EV.r_forC, EV.r_bname, EV.r_ok, EV.r_forG]
        show (n_lw_outcomes_2b (EV.Fn gG gP (d + 1)) [.fr (.str k.nm), .fr (.lst (iW xs)), .fr (.lst (iW ys)), .fr (.int n), .ow (.lst (iW acc)), .fr (.int x), .emp] T).bind _ = _
        rw [turn x acc z (hl x (List.mem_cons_self ..)) (by omega), EV.r_ok, EV.r_forHn, e, List.flatMap_cons, List.append_assoc]
    obtain ⟨z', e⟩ := loop xs [] .emp hx (by simp; omega)
    have a2 : n_lw_outcomes_2 (EV.Fn gG gP (d + 1)) [.fr (.str k.nm), .fr (.lst (iW xs)), .fr (.lst (iW ys)), .fr (.int n), .ow (.lst []), .emp, .emp] T = .ok (.nx [.fr (.str k.nm), .fr (.lst (iW xs)), .fr (.lst (iW ys)), .fr (.int n), .ow (.lst (iW (rowsI k xs ys n))), z', .emp]) T := by
      unfold n_lw_outcomes_2
      rw [EV.r_frz]
      show EV.sFor _ _ _ [.fr (.str k.nm), .fr (.lst (iW xs)), .fr (.lst (iW ys)), .fr (.int n), .ow (.lst []), .emp, .emp] T = _
      rw [EV.r_for]
      refine (congrArg (fun r => EV.Res.bind r _) (show EV.mIt (EV.mVar 1) [.fr (.str k.nm), .fr (.lst (iW xs)), .fr (.lst (iW ys)), .fr (.int n), .ow (.lst []), .emp, .emp] T = .ok (iW xs) T from rfl)).trans ?_
      rw [EV.r_ok, EV.r_forF]
      have e0 : rowsI k xs ys n = xs.flatMap fun x => ys.map fun y => outI k x y n := by cases k <;> first | exact absurd rfl hk | rfl
      rw [e0]
      exact e
    rw [seq_step a2]
    simp -implicitDefEqProofs [n_lw_outcomes_3, EV.LIM, EV.str_lit, evr, EV.r_for, EV.r_rng1, EV.wbin, EV.wun, EV.wcmp, EV.vw, EV.vwz, EV.wix, EV.wblt, EV.wtru, EV.wisi, EV.frz, EV.mkOwn, L2.atI, L2.ixN, List.map, List.length_cons, List.length_nil, List.replicate, List.getElem?_cons_zero, List.getElem?_cons_succ, List.set_cons_zero, List.set_cons_succ, List.append_nil, List.cons_append, List.nil_append]
def n_lw_made_0t_0 (F : EV.Fenv) : EV.M EV.Fl := (EV.sRet (EV.mOpI F (EV.ownI gG ("__add__" : Str)) (EV.mVar 1) (EV.mVar 2)))
def n_lw_made_0t (F : EV.Fenv) : EV.M EV.Fl := (n_lw_made_0t_0 F)
def n_lw_made_0 (F : EV.Fenv) : EV.M EV.Fl := (EV.sIf (EV.mCmpT .Eq (EV.mVarB 0) (EV.mC (.str "add"))) (n_lw_made_0t F) EV.sNext)
def n_lw_made_1t_0 (F : EV.Fenv) : EV.M EV.Fl := (EV.sRet (EV.mOpI F (EV.ownI gG ("__sub__" : Str)) (EV.mVar 1) (EV.mVar 2)))
def n_lw_made_1t (F : EV.Fenv) : EV.M EV.Fl := (n_lw_made_1t_0 F)
def n_lw_made_1 (F : EV.Fenv) : EV.M EV.Fl := (EV.sIf (EV.mCmpT .Eq (EV.mVarB 0) (EV.mC (.str "sub"))) (n_lw_made_1t F) EV.sNext)
def n_lw_made_2t_0 (F : EV.Fenv) : EV.M EV.Fl := (EV.sRet (EV.mOpI F (EV.ownI gG ("__mul__" : Str)) (EV.mVar 1) (EV.mVar 2)))
def n_lw_made_2t (F : EV.Fenv) : EV.M EV.Fl := (n_lw_made_2t_0 F)
def n_lw_made_2 (F : EV.Fenv) : EV.M EV.Fl := (EV.sIf (EV.mCmpT .Eq (EV.mVarB 0) (EV.mC (.str "mul"))) (n_lw_made_2t F) EV.sNext)
def n_lw_made_3t_0 (F : EV.Fenv) : EV.M EV.Fl := (EV.sRet (EV.mOpI F (EV.ownI gG ("__or__" : Str)) (EV.mVar 1) (EV.mVar 2)))
def n_lw_made_3t (F : EV.Fenv) : EV.M EV.Fl := (n_lw_made_3t_0 F)
def n_lw_made_3 (F : EV.Fenv) : EV.M EV.Fl := (EV.sIf (EV.mCmpT .Eq (EV.mVarB 0) (EV.mC (.str "hull"))) (n_lw_made_3t F) EV.sNext)
def n_lw_made_4t_0 (F : EV.Fenv) : EV.M EV.Fl := (EV.sFrz [2] (EV.sRet (EV.mMeth F (fun c => gG.mts.lookup (c, ("least" : Str))) .other "least" (EV.mVarB 1) (EV.mCons (EV.mVar 2) EV.mNil))))
def n_lw_made_4t (F : EV.Fenv) : EV.M EV.Fl := (n_lw_made_4t_0 F)
def n_lw_made_4 (F : EV.Fenv) : EV.M EV.Fl := (EV.sIf (EV.mCmpT .Eq (EV.mVarB 0) (EV.mC (.str "least"))) (n_lw_made_4t F) EV.sNext)
def n_lw_made_5t_0 (F : EV.Fenv) : EV.M EV.Fl := (EV.sFrz [2] (EV.sRet (EV.mMeth F (fun c => gG.mts.lookup (c, ("greatest" : Str))) .other "greatest" (EV.mVarB 1) (EV.mCons (EV.mVar 2) EV.mNil))))
def n_lw_made_5t (F : EV.Fenv) : EV.M EV.Fl := (n_lw_made_5t_0 F)
def n_lw_made_5 (F : EV.Fenv) : EV.M EV.Fl := (EV.sIf (EV.mCmpT .Eq (EV.mVarB 0) (EV.mC (.str "greatest"))) (n_lw_made_5t F) EV.sNext)
def n_lw_made_6t_0 (F : EV.Fenv) : EV.M EV.Fl := (EV.sRet (EV.mMeth F (fun c => gG.mts.lookup (c, ("saturated" : Str))) .other "saturated" (EV.mVarB 1) (EV.mCons (EV.mBlt .abs (EV.mCons (EV.mVarB 3) EV.mNil)) EV.mNil)))
def n_lw_made_6t (F : EV.Fenv) : EV.M EV.Fl := (n_lw_made_6t_0 F)
def n_lw_made_6 (F : EV.Fenv) : EV.M EV.Fl := (EV.sIf (EV.mCmpT .Eq (EV.mVarB 0) (EV.mC (.str "saturated"))) (n_lw_made_6t F) EV.sNext)
def n_lw_made_7 (F : EV.Fenv) : EV.M EV.Fl := (EV.sFrz [3] (EV.sRet (EV.mCall F "Stretch.point" (EV.mCons (EV.mVar 3) EV.mNil) [])))
theorem ms_lw_made (F : EV.Fenv) : m_lw_made F = (EV.sSeq (n_lw_made_0 F) (EV.sSeq (n_lw_made_1 F) (EV.sSeq (n_lw_made_2 F) (EV.sSeq (n_lw_made_3 F) (EV.sSeq (n_lw_made_4 F) (EV.sSeq (n_lw_made_5 F) (EV.sSeq (n_lw_made_6 F) (n_lw_made_7 F)))))))) := by kernel_rfl
def n_lw_stands_0t_0 (F : EV.Fenv) : EV.M EV.Fl := (EV.sRet (EV.mC (.bl false)))
def n_lw_stands_0t (F : EV.Fenv) : EV.M EV.Fl := (n_lw_stands_0t_0 F)
def n_lw_stands_0 (F : EV.Fenv) : EV.M EV.Fl := (EV.sIf (EV.mNotT (EV.mTru (EV.mIsI "Stretch" (EV.mVarB 0)))) (n_lw_stands_0t F) EV.sNext)
def n_lw_stands_1 (F : EV.Fenv) : EV.M EV.Fl := (EV.sSet 2 (EV.mTup (EV.mCons (EV.mFld (EV.mVarB 0) "low" fun c => gG.fld.contains (c, ("low" : Str))) (EV.mCons (EV.mFld (EV.mVarB 0) "high" fun c => gG.fld.contains (c, ("high" : Str))) (EV.mCons (EV.mMeth F (fun c => gG.mts.lookup (c, ("pair" : Str))) .other "pair" (EV.mVarB 0) EV.mNil) (EV.mCons (EV.mMeth F (fun c => gG.mts.lookup (c, ("is_point" : Str))) .other "is_point" (EV.mVarB 0) EV.mNil) EV.mNil))))))
def n_lw_stands_2 (F : EV.Fenv) : EV.M EV.Fl := (EV.sFrz [2, 1] (EV.sRet (EV.mCall F "_law_same" (EV.mCons (EV.mVar 2) (EV.mCons (EV.mTup (EV.mCons (EV.mIx (EV.mVarB 1) (EV.mC (.int 0))) (EV.mCons (EV.mIx (EV.mVarB 1) (EV.mC (.int 1))) (EV.mCons (EV.mVar 1) (EV.mCons (EV.mCmp .Eq (EV.mIx (EV.mVarB 1) (EV.mC (.int 0))) (EV.mIx (EV.mVarB 1) (EV.mC (.int 1)))) EV.mNil))))) EV.mNil)) [])))
theorem ms_lw_stands (F : EV.Fenv) : m_lw_stands F = (EV.sSeq (n_lw_stands_0 F) (EV.sSeq (n_lw_stands_1 F) (n_lw_stands_2 F))) := by kernel_rfl
def n_lw_beside_0 (F : EV.Fenv) : EV.M EV.Fl := (EV.sSet 4 (EV.mAndV (EV.mCmp .LtE (EV.mIx (EV.mVarB 3) (EV.mC (.int 0))) (EV.mIx (EV.mVarB 2) (EV.mC (.int 0)))) (EV.mCmp .LtE (EV.mIx (EV.mVarB 2) (EV.mC (.int 1))) (EV.mIx (EV.mVarB 3) (EV.mC (.int 1))))))
def n_lw_beside_1 (F : EV.Fenv) : EV.M EV.Fl := (EV.sFrz [1, 4] (EV.sRet (EV.mAndV (EV.mCall F "_law_same" (EV.mCons (EV.mMeth F (fun c => gG.mts.lookup (c, ("within" : Str))) .other "within" (EV.mVarB 0) (EV.mCons (EV.mVar 1) EV.mNil)) (EV.mCons (EV.mVar 4) EV.mNil)) []) (EV.mCall F "_law_same" (EV.mCons (EV.mVal (EV.mEqI F (EV.ownI gG ("__eq__" : Str)) (EV.mVar 0) (EV.mVar 1))) (EV.mCons (EV.mCmp .Eq (EV.mVarB 2) (EV.mVarB 3)) EV.mNil)) []))))
theorem ms_lw_beside (F : EV.Fenv) : m_lw_beside F = (EV.sSeq (n_lw_beside_0 F) (n_lw_beside_1 F)) := by kernel_rfl
def n_lw_holds_0b_0t_0 (F : EV.Fenv) : EV.M EV.Fl := (EV.sRet (EV.mC (.bl false)))
def n_lw_holds_0b_0t (F : EV.Fenv) : EV.M EV.Fl := (n_lw_holds_0b_0t_0 F)
def n_lw_holds_0b_0 (F : EV.Fenv) : EV.M EV.Fl := (EV.sIf (EV.mInI F (EV.ownI gG ("__contains__" : Str)) true (EV.mVar 4) (EV.mVar 0)) (n_lw_holds_0b_0t F) EV.sNext)
def n_lw_holds_0b (F : EV.Fenv) : EV.M EV.Fl := (n_lw_holds_0b_0 F)
def n_lw_holds_0 (F : EV.Fenv) : EV.M EV.Fl := (EV.sFrz [2] (EV.sFor (EV.mIt (EV.mVar 2)) (EV.bName 4) (n_lw_holds_0b F)))
def n_lw_holds_1t_0 (F : EV.Fenv) : EV.M EV.Fl := (EV.sRet (EV.mC (.bl false)))
def n_lw_holds_1t (F : EV.Fenv) : EV.M EV.Fl := (n_lw_holds_1t_0 F)
def n_lw_holds_1 (F : EV.Fenv) : EV.M EV.Fl := (EV.sIf (EV.mOr (EV.mInI F (EV.ownI gG ("__contains__" : Str)) false (EV.mBin .Sub (EV.mIx (EV.mVarB 1) (EV.mC (.int 0))) (EV.mC (.int 1))) (EV.mVar 0)) (EV.mInI F (EV.ownI gG ("__contains__" : Str)) false (EV.mBin .Add (EV.mIx (EV.mVarB 1) (EV.mC (.int 1))) (EV.mC (.int 1))) (EV.mVar 0))) (n_lw_holds_1t F) EV.sNext)
def n_lw_holds_2 (F : EV.Fenv) : EV.M EV.Fl := (EV.sRet (EV.mCmp .Eq (EV.mVal (EV.mInI F (EV.ownI gG ("__contains__" : Str)) false (EV.mVar 3) (EV.mVar 0))) (EV.mAndV (EV.mCmp .LtE (EV.mIx (EV.mVarB 1) (EV.mC (.int 0))) (EV.mVarB 3)) (EV.mCmp .LtE (EV.mVarB 3) (EV.mIx (EV.mVarB 1) (EV.mC (.int 1)))))))
theorem ms_lw_holds (F : EV.Fenv) : m_lw_holds F = (EV.sSeq (n_lw_holds_0 F) (EV.sSeq (n_lw_holds_1 F) (n_lw_holds_2 F))) := by kernel_rfl
def n_lw_alike_0b_0t_0 (F : EV.Fenv) : EV.M EV.Fl := (EV.sRet (EV.mC (.bl false)))
def n_lw_alike_0b_0t (F : EV.Fenv) : EV.M EV.Fl := (n_lw_alike_0b_0t_0 F)
def n_lw_alike_0b_0 (F : EV.Fenv) : EV.M EV.Fl := (EV.sFrz [2, 3, 2, 3] (EV.sIf (EV.mOr (EV.mNotT (EV.mTru (EV.mCall F "_law_beside" (EV.mCons (EV.mVar 2) (EV.mCons (EV.mIx (EV.mVarB 0) (EV.mVarB 4)) (EV.mCons (EV.mVar 3) (EV.mCons (EV.mIx (EV.mVarB 1) (EV.mVarB 4)) EV.mNil)))) []))) (EV.mNotT (EV.mTru (EV.mCall F "_law_beside" (EV.mCons (EV.mIx (EV.mVarB 0) (EV.mVarB 4)) (EV.mCons (EV.mVar 2) (EV.mCons (EV.mIx (EV.mVarB 1) (EV.mVarB 4)) (EV.mCons (EV.mVar 3) EV.mNil)))) [])))) (n_lw_alike_0b_0t F) EV.sNext))
def n_lw_alike_0b (F : EV.Fenv) : EV.M EV.Fl := (n_lw_alike_0b_0 F)
def n_lw_alike_0 (F : EV.Fenv) : EV.M EV.Fl := (EV.sFor (EV.mRng1 (EV.mBlt .len (EV.mCons (EV.mVarB 0) EV.mNil))) (EV.bName 4) (n_lw_alike_0b F))
def n_lw_alike_1b_0t_0 (F : EV.Fenv) : EV.M EV.Fl := (EV.sRet (EV.mC (.bl false)))
def n_lw_alike_1b_0t (F : EV.Fenv) : EV.M EV.Fl := (n_lw_alike_1b_0t_0 F)
def n_lw_alike_1b_0 (F : EV.Fenv) : EV.M EV.Fl := (EV.sIf (EV.mNotT (EV.mTru (EV.mCall F "_law_same" (EV.mCons (EV.mVal (EV.mEqI F (EV.ownI gG ("__eq__" : Str)) (EV.mVar 2) (EV.mVar 5))) (EV.mCons (EV.mC (.bl false)) EV.mNil)) []))) (n_lw_alike_1b_0t F) EV.sNext)
def n_lw_alike_1b (F : EV.Fenv) : EV.M EV.Fl := (n_lw_alike_1b_0 F)
def n_lw_alike_1 (F : EV.Fenv) : EV.M EV.Fl := (EV.sFrz [3] (EV.sFor (EV.mIt (EV.mLst (EV.mCons (EV.mVar 3) (EV.mCons (EV.mBlt .list (EV.mCons (EV.mVarB 3) EV.mNil)) (EV.mCons (EV.mIx (EV.mVarB 3) (EV.mC (.int 0))) (EV.mCons (EV.mC (.str "")) (EV.mCons (EV.mC (.non)) EV.mNil))))))) (EV.bName 5) (n_lw_alike_1b F)))
def n_lw_alike_2 (F : EV.Fenv) : EV.M EV.Fl := (EV.sRet (EV.mC (.bl true)))
theorem ms_lw_alike (F : EV.Fenv) : m_lw_alike F = (EV.sSeq (n_lw_alike_0 F) (EV.sSeq (n_lw_alike_1 F) (n_lw_alike_2 F))) := by kernel_rfl
/-! ### stretches: what the law asks -/
theorem opI_go {F : EV.Fenv} {own : Str → Option Str} {c q : Str} {fs gs : List (Str × EV.W)} {S S' : EV.Sto} {n m r : Nat} (h1 : S[n]? = some (.ins c fs)) (h2 : S[m]? = some (.ins c gs)) (ho : own c = some q) (h : F q [.loc n, .loc m] S = .ok (.loc r) S') : EV.goOpI F own (.loc n) (.loc m) S = .ok (.loc r) S' := by
  unfold EV.goOpI EV.insOf
  simp only [h1, h2, ho, if_true, h, EV.r_ok]
  rfl
theorem opI_run {F : EV.Fenv} {own : Str → Option Str} {c q : Str} {fs gs : List (Str × EV.W)} {S S' : EV.Sto} {n m r : Nat} {a b : EV.M EV.W} {σ : EV.Sls} (ha : a σ S = .ok (.loc n) S) (hb : b σ S = .ok (.loc m) S) (h1 : S[n]? = some (.ins c fs)) (h2 : S[m]? = some (.ins c gs)) (ho : own c = some q) (h : F q [.loc n, .loc m] S = .ok (.loc r) S') : EV.mOpI F own a b σ S = .ok (.loc r) S' := by
  rw [EV.r_opI, ha, EV.r_ok, EV.r_opIF, hb, EV.r_ok, EV.r_opIG, opI_go h1 h2 ho h]
theorem eqI_run {F : EV.Fenv} {own : Str → Option Str} {c q : Str} {fs : List (Str × EV.W)} {S S' : EV.Sto} {n : Nat} {y : EV.W} {r : Bool} {a b : EV.M EV.W} {σ : EV.Sls} (ha : a σ S = .ok (.loc n) S) (hb : b σ S = .ok y S) (h1 : S[n]? = some (.ins c fs)) (h2 : EV.insOf S y = some c ∨ (EV.wtyN (EV.vwz S y)).isSome = true) (ho : own c = some q) (h : F q [.loc n, y] S = .ok (.bl r) S') : EV.mEqI F own a b σ S = .ok r S' := by
  rw [EV.r_eqI, ha, EV.r_ok, EV.r_eqIF, hb, EV.r_ok, EV.r_eqIG]
  unfold EV.goEqI
  have e : EV.insOf S (.loc n) = some c := by unfold EV.insOf; simp only [h1]
  simp only [e, ho, h, EV.r_ok]
  rw [if_pos h2]
  rfl
theorem inI_run {F : EV.Fenv} {own : Str → Option Str} {c q : Str} {fs : List (Str × EV.W)} {S S' : EV.Sto} {n : Nat} {x : EV.W} {r neg : Bool} {a b : EV.M EV.W} {σ : EV.Sls} (ha : a σ S = .ok x S) (hb : b σ S = .ok (.loc n) S) (h1 : S[n]? = some (.ins c fs)) (ho : own c = some q) (h : F q [.loc n, x] S = .ok (.bl r) S') : EV.mInI F own neg a b σ S = .ok (r != neg) S' := by
  rw [EV.r_inI, ha, EV.r_ok, EV.r_inIF, hb, EV.r_ok, EV.r_inIG]
  unfold EV.goInI
  have e : EV.insOf S (.loc n) = some c := by unfold EV.insOf; simp only [h1]
  simp only [e, ho, h, EV.r_ok]
  rfl
theorem meth_run {F : EV.Fenv} {own : Str → Option Str} {c q nm : Str} {fs : List (Str × EV.W)} {S S' : EV.Sto} {n : Nat} {o : EV.M EV.W} {la : EV.M (List EV.W)} {ws : List EV.W} {r : EV.W} {σ : EV.Sls} (h0 : o σ S = .ok (.loc n) S) (h1 : S[n]? = some (.ins c fs)) (ho : own c = some q) (hl : fs.lookup nm = none) (ha : la σ S = .ok ws S) (h : F q (.loc n :: ws) S = .ok r S') : EV.mMeth F own .other nm o la σ S = .ok r S' := by
  rw [EV.r_meth, h0, EV.r_ok, EV.r_metF]
  unfold EV.goMeth
  have e : EV.kdOf S (.loc n) = .ins c fs := by unfold EV.kdOf; simp only [h1]
  have e2 : decide (EV.Mt.other = EV.Mt.extend) = false := rfl
  simp only [e, ho, hl, e2, ha, EV.r_ok, h]
theorem no_fld {a b : Int} {nm : Str} (h1 : nm ≠ "low") (h2 : nm ≠ "high") : List.lookup nm [(("low" : Str), EV.W.int a), (("high" : Str), EV.W.int b)] = none := by
  rw [EV.r_lkC, if_neg h1, EV.r_lkC, if_neg h2]
  rfl
theorem big_of {z : Int} (hz : Sm z) : z.natAbs < 2 ^ 200 := by
  have e : (2 : Nat) ^ 200 = 1606938044258990275541962092341162602522202993782792835301376 := by rfl
  rw [e]
  unfold Sm at hz
  omega
theorem made_ok (d : Nat) (k : O8) {S : EV.Sto} {n m : Nat} {a b c e z : Int} (hn : S[n]? = some (srO a b)) (hm : S[m]? = some (srO c e)) (ha : Sm a) (hb : Sm b) (hc : Sm c) (he : Sm e) :
    EV.Fn gG gP (d + 3) "_law_made" [.str k.nm, .loc n, .loc m, .int z] S = .ok (.loc S.length) (S ++ [srO (newI k a b c e z).1 (newI k a b c e z).2]) := by
  rw [fe_lw_made]
  show EV.runB (m_lw_made (EV.Fn gG gP (d + 2))) _ _ _ = _
  rw [ms_lw_made]
  simp only [EV.r_run, List.map, List.length_cons, List.length_nil, List.replicate, Nat.sub_self, Nat.reduceAdd, Nat.reduceSub, List.cons_append, List.nil_append, List.append_nil, if_true]
  let σ : EV.Sls := [.fr (.str k.nm), .fr (.loc n), .fr (.loc m), .fr (.int z)]
  have f1 := opI_run (F := EV.Fn gG gP (d + 2)) (own := EV.ownI gG ("__add__" : Str)) (a := EV.mVar 1) (b := EV.mVar 2) (σ := σ) rfl rfl hn hm oi2 (add_ok d hn hm)
  have f2 := opI_run (F := EV.Fn gG gP (d + 2)) (own := EV.ownI gG ("__sub__" : Str)) (a := EV.mVar 1) (b := EV.mVar 2) (σ := σ) rfl rfl hn hm oi3 (sub_ok d hn hm)
  have f3 := opI_run (F := EV.Fn gG gP (d + 2)) (own := EV.ownI gG ("__mul__" : Str)) (a := EV.mVar 1) (b := EV.mVar 2) (σ := σ) rfl rfl hn hm oi4 (mul_ok d hn hm (big_of ha) (big_of hb) (big_of hc) (big_of he))
  have f4 := opI_run (F := EV.Fn gG gP (d + 2)) (own := EV.ownI gG ("__or__" : Str)) (a := EV.mVar 1) (b := EV.mVar 2) (σ := σ) rfl rfl hn hm oi5 (or_ok d hn hm)
  have f5 := meth_run (F := EV.Fn gG gP (d + 2)) (own := fun c => gG.mts.lookup (c, ("least" : Str))) (nm := "least") (o := EV.mVarB 1) (la := EV.mCons (EV.mVar 2) EV.mNil) (ws := [.loc m]) (σ := σ) rfl hn mo6 (no_fld (by decide +kernel) (by decide +kernel)) rfl (least_ok d hn hm)
  have f6 := meth_run (F := EV.Fn gG gP (d + 2)) (own := fun c => gG.mts.lookup (c, ("greatest" : Str))) (nm := "greatest") (o := EV.mVarB 1) (la := EV.mCons (EV.mVar 2) EV.mNil) (ws := [.loc m]) (σ := σ) rfl hn mo7 (no_fld (by decide +kernel) (by decide +kernel)) rfl (greatest_ok d hn hm)
  have f7 := meth_run (F := EV.Fn gG gP (d + 2)) (own := fun c => gG.mts.lookup (c, ("saturated" : Str))) (nm := "saturated") (o := EV.mVarB 1) (la := EV.mCons (EV.mBlt .abs (EV.mCons (EV.mVarB 3) EV.mNil)) EV.mNil) (ws := [.int (absI z)]) (σ := σ) rfl hn mo10 (no_fld (by decide +kernel) (by decide +kernel)) rfl (satd_ok d hn (absI z))
  have f8 := point_ok d z S
  have ret : ∀ {e : EV.M EV.W} {w : EV.W} {T : EV.Sto}, e σ S = .ok w T → EV.sRet e σ S = .ok (.rt w) T := fun {e w T} h => by rw [EV.r_ret, h, EV.r_ok, EV.r_retF]
  have retZ : ∀ {e : EV.M EV.W} {w : EV.W} {T : EV.Sto} {l : List Nat}, EV.frz σ l = σ → e σ S = .ok w T → EV.sFrz l (EV.sRet e) σ S = .ok (.rt w) T := fun {e w T l} hl h => by rw [EV.r_frz, hl]; exact ret h
  have seqR : ∀ {f g : EV.M EV.Fl} {w : EV.W} {T : EV.Sto}, f σ S = .ok (.rt w) T → EV.sSeq f g σ S = .ok (.rt w) T := fun {f g w T} h => by rw [EV.r_seq, h, EV.r_ok, EV.r_seqR]
  have iff1 : ∀ {s : Str} {g : EV.M EV.Fl}, s ≠ k.nm → EV.sIf (EV.mCmpT .Eq (EV.mVarB 0) (EV.mC (.str s))) g EV.sNext σ S = .ok (.nx σ) S := fun {s g} h => by
    have h' : ¬ k.nm = s := fun z => h z.symm
    simp -implicitDefEqProofs [σ, EV.LIM, EV.str_lit, evr, EV.r_for, EV.r_rng1, EV.wbin, EV.wun, EV.wcmp, EV.vw, EV.vwz, EV.wix, EV.wblt, EV.wtru, EV.wisi, EV.frz, EV.mkOwn, L2.atI, L2.ixN, List.map, List.length_cons, List.length_nil, List.replicate, List.getElem?_cons_zero, List.getElem?_cons_succ, List.set_cons_zero, List.set_cons_succ, List.append_nil, List.cons_append, List.nil_append, h']
  have ifT : ∀ {g : EV.M EV.Fl}, EV.sIf (EV.mCmpT .Eq (EV.mVarB 0) (EV.mC (.str k.nm))) g EV.sNext σ S = g σ S := fun {g} => by
    simp -implicitDefEqProofs [σ, EV.LIM, EV.str_lit, evr, EV.r_for, EV.r_rng1, EV.wbin, EV.wun, EV.wcmp, EV.vw, EV.vwz, EV.wix, EV.wblt, EV.wtru, EV.wisi, EV.frz, EV.mkOwn, L2.atI, L2.ixN, List.map, List.length_cons, List.length_nil, List.replicate, List.getElem?_cons_zero, List.getElem?_cons_succ, List.set_cons_zero, List.set_cons_succ, List.append_nil, List.cons_append, List.nil_append]
  show (EV.sSeq (n_lw_made_0 (EV.Fn gG gP (d + 2))) _ σ S).bind EV.runF = _
  cases k with
  | add => rw [seqR (show n_lw_made_0 (EV.Fn gG gP (d + 2)) σ S = _ from (ifT (g := n_lw_made_0t (EV.Fn gG gP (d + 2)))).trans (ret f1))]; rfl
  | sub => rw [seq_step (show n_lw_made_0 (EV.Fn gG gP (d + 2)) σ S = .ok (.nx σ) S from iff1 (s := "add") (g := n_lw_made_0t (EV.Fn gG gP (d + 2))) (by decide +kernel)), seqR (show n_lw_made_1 (EV.Fn gG gP (d + 2)) σ S = _ from (ifT (g := n_lw_made_1t (EV.Fn gG gP (d + 2)))).trans (ret f2))]; rfl
  | mul => rw [seq_step (show n_lw_made_0 (EV.Fn gG gP (d + 2)) σ S = .ok (.nx σ) S from iff1 (s := "add") (g := n_lw_made_0t (EV.Fn gG gP (d + 2))) (by decide +kernel)), seq_step (show n_lw_made_1 (EV.Fn gG gP (d + 2)) σ S = .ok (.nx σ) S from iff1 (s := "sub") (g := n_lw_made_1t (EV.Fn gG gP (d + 2))) (by decide +kernel)), seqR (show n_lw_made_2 (EV.Fn gG gP (d + 2)) σ S = _ from (ifT (g := n_lw_made_2t (EV.Fn gG gP (d + 2)))).trans (ret f3))]; rfl
  | hull => rw [seq_step (show n_lw_made_0 (EV.Fn gG gP (d + 2)) σ S = .ok (.nx σ) S from iff1 (s := "add") (g := n_lw_made_0t (EV.Fn gG gP (d + 2))) (by decide +kernel)), seq_step (show n_lw_made_1 (EV.Fn gG gP (d + 2)) σ S = .ok (.nx σ) S from iff1 (s := "sub") (g := n_lw_made_1t (EV.Fn gG gP (d + 2))) (by decide +kernel)), seq_step (show n_lw_made_2 (EV.Fn gG gP (d + 2)) σ S = .ok (.nx σ) S from iff1 (s := "mul") (g := n_lw_made_2t (EV.Fn gG gP (d + 2))) (by decide +kernel)), seqR (show n_lw_made_3 (EV.Fn gG gP (d + 2)) σ S = _ from (ifT (g := n_lw_made_3t (EV.Fn gG gP (d + 2)))).trans (ret f4))]; rfl
  | least => rw [seq_step (show n_lw_made_0 (EV.Fn gG gP (d + 2)) σ S = .ok (.nx σ) S from iff1 (s := "add") (g := n_lw_made_0t (EV.Fn gG gP (d + 2))) (by decide +kernel)), seq_step (show n_lw_made_1 (EV.Fn gG gP (d + 2)) σ S = .ok (.nx σ) S from iff1 (s := "sub") (g := n_lw_made_1t (EV.Fn gG gP (d + 2))) (by decide +kernel)), seq_step (show n_lw_made_2 (EV.Fn gG gP (d + 2)) σ S = .ok (.nx σ) S from iff1 (s := "mul") (g := n_lw_made_2t (EV.Fn gG gP (d + 2))) (by decide +kernel)), seq_step (show n_lw_made_3 (EV.Fn gG gP (d + 2)) σ S = .ok (.nx σ) S from iff1 (s := "hull") (g := n_lw_made_3t (EV.Fn gG gP (d + 2))) (by decide +kernel)), seqR (show n_lw_made_4 (EV.Fn gG gP (d + 2)) σ S = _ from (ifT (g := n_lw_made_4t (EV.Fn gG gP (d + 2)))).trans (retZ rfl f5))]; rfl
  | greatest => rw [seq_step (show n_lw_made_0 (EV.Fn gG gP (d + 2)) σ S = .ok (.nx σ) S from iff1 (s := "add") (g := n_lw_made_0t (EV.Fn gG gP (d + 2))) (by decide +kernel)), seq_step (show n_lw_made_1 (EV.Fn gG gP (d + 2)) σ S = .ok (.nx σ) S from iff1 (s := "sub") (g := n_lw_made_1t (EV.Fn gG gP (d + 2))) (by decide +kernel)), seq_step (show n_lw_made_2 (EV.Fn gG gP (d + 2)) σ S = .ok (.nx σ) S from iff1 (s := "mul") (g := n_lw_made_2t (EV.Fn gG gP (d + 2))) (by decide +kernel)), seq_step (show n_lw_made_3 (EV.Fn gG gP (d + 2)) σ S = .ok (.nx σ) S from iff1 (s := "hull") (g := n_lw_made_3t (EV.Fn gG gP (d + 2))) (by decide +kernel)), seq_step (show n_lw_made_4 (EV.Fn gG gP (d + 2)) σ S = .ok (.nx σ) S from iff1 (s := "least") (g := n_lw_made_4t (EV.Fn gG gP (d + 2))) (by decide +kernel)), seqR (show n_lw_made_5 (EV.Fn gG gP (d + 2)) σ S = _ from (ifT (g := n_lw_made_5t (EV.Fn gG gP (d + 2)))).trans (retZ rfl f6))]; rfl
  | sat => rw [seq_step (show n_lw_made_0 (EV.Fn gG gP (d + 2)) σ S = .ok (.nx σ) S from iff1 (s := "add") (g := n_lw_made_0t (EV.Fn gG gP (d + 2))) (by decide +kernel)), seq_step (show n_lw_made_1 (EV.Fn gG gP (d + 2)) σ S = .ok (.nx σ) S from iff1 (s := "sub") (g := n_lw_made_1t (EV.Fn gG gP (d + 2))) (by decide +kernel)), seq_step (show n_lw_made_2 (EV.Fn gG gP (d + 2)) σ S = .ok (.nx σ) S from iff1 (s := "mul") (g := n_lw_made_2t (EV.Fn gG gP (d + 2))) (by decide +kernel)), seq_step (show n_lw_made_3 (EV.Fn gG gP (d + 2)) σ S = .ok (.nx σ) S from iff1 (s := "hull") (g := n_lw_made_3t (EV.Fn gG gP (d + 2))) (by decide +kernel)), seq_step (show n_lw_made_4 (EV.Fn gG gP (d + 2)) σ S = .ok (.nx σ) S from iff1 (s := "least") (g := n_lw_made_4t (EV.Fn gG gP (d + 2))) (by decide +kernel)), seq_step (show n_lw_made_5 (EV.Fn gG gP (d + 2)) σ S = .ok (.nx σ) S from iff1 (s := "greatest") (g := n_lw_made_5t (EV.Fn gG gP (d + 2))) (by decide +kernel)), seqR (show n_lw_made_6 (EV.Fn gG gP (d + 2)) σ S = _ from (ifT (g := n_lw_made_6t (EV.Fn gG gP (d + 2)))).trans (ret f7))]; rfl
  | point =>
    rw [seq_step (show n_lw_made_0 (EV.Fn gG gP (d + 2)) σ S = .ok (.nx σ) S from iff1 (s := "add") (g := n_lw_made_0t (EV.Fn gG gP (d + 2))) (by decide +kernel)), seq_step (show n_lw_made_1 (EV.Fn gG gP (d + 2)) σ S = .ok (.nx σ) S from iff1 (s := "sub") (g := n_lw_made_1t (EV.Fn gG gP (d + 2))) (by decide +kernel)), seq_step (show n_lw_made_2 (EV.Fn gG gP (d + 2)) σ S = .ok (.nx σ) S from iff1 (s := "mul") (g := n_lw_made_2t (EV.Fn gG gP (d + 2))) (by decide +kernel)), seq_step (show n_lw_made_3 (EV.Fn gG gP (d + 2)) σ S = .ok (.nx σ) S from iff1 (s := "hull") (g := n_lw_made_3t (EV.Fn gG gP (d + 2))) (by decide +kernel)), seq_step (show n_lw_made_4 (EV.Fn gG gP (d + 2)) σ S = .ok (.nx σ) S from iff1 (s := "least") (g := n_lw_made_4t (EV.Fn gG gP (d + 2))) (by decide +kernel)), seq_step (show n_lw_made_5 (EV.Fn gG gP (d + 2)) σ S = .ok (.nx σ) S from iff1 (s := "greatest") (g := n_lw_made_5t (EV.Fn gG gP (d + 2))) (by decide +kernel)), seq_step (show n_lw_made_6 (EV.Fn gG gP (d + 2)) σ S = .ok (.nx σ) S from iff1 (s := "saturated") (g := n_lw_made_6t (EV.Fn gG gP (d + 2))) (by decide +kernel))]
    rw [show n_lw_made_7 (EV.Fn gG gP (d + 2)) σ S = .ok (.rt (.loc S.length)) (S ++ [srO z z]) from retZ (e := EV.mCall (EV.Fn gG gP (d + 2)) "Stretch.point" (EV.mCons (EV.mVar 3) EV.mNil) []) rfl (by
      show EV.Res.bind _ _ = _
      exact f8)]
    rfl
section
variable (d : Nat) {S : EV.Sto} {n : Nat} {a b : Int} (hn : S[n]? = some (srO a b))
include hn
theorem stands_ok : EV.Fn gG gP (d + 4) "_law_stands" [.loc n, prW a b] S = .ok (.bl true) S := by
  rw [fe_lw_stands]
  show EV.runB (m_lw_stands (EV.Fn gG gP (d + 3))) _ _ _ = _
  rw [ms_lw_stands]
  simp only [EV.r_run, List.map, List.length_cons, List.length_nil, List.replicate, Nat.sub_self, Nat.reduceAdd, Nat.reduceSub, List.cons_append, List.nil_append, List.append_nil, if_true]
  have e0 : EV.wIsI S "Stretch" (.loc n) = some (.bl true) := isI_ok hn hn
  have a0 : n_lw_stands_0 (EV.Fn gG gP (d + 3)) [.fr (.loc n), .fr (prW a b), .emp] S = .ok (.nx [.fr (.loc n), .fr (prW a b), .emp]) S := by
    simp -implicitDefEqProofs [n_lw_stands_0, EV.LIM, EV.str_lit, evr, EV.r_for, EV.r_rng1, EV.wbin, EV.wun, EV.wcmp, EV.vw, EV.vwz, EV.wix, EV.wblt, EV.wtru, EV.wisi, EV.frz, EV.mkOwn, L2.atI, L2.ixN, List.map, List.length_cons, List.length_nil, List.replicate, List.getElem?_cons_zero, List.getElem?_cons_succ, List.set_cons_zero, List.set_cons_succ, List.append_nil, List.cons_append, List.nil_append, EV.r_isI, EV.r_isIF, e0]
  have l1 : EV.mFld (EV.mVarB 0) "low" (fun c => gG.fld.contains (c, ("low" : Str))) [.fr (.loc n), .fr (prW a b), .emp] S = .ok (.int a) S := by simp -implicitDefEqProofs [EV.LIM, EV.str_lit, evr, EV.r_for, EV.r_rng1, EV.wbin, EV.wun, EV.wcmp, EV.vw, EV.vwz, EV.wix, EV.wblt, EV.wtru, EV.wisi, EV.frz, EV.mkOwn, L2.atI, L2.ixN, List.map, List.length_cons, List.length_nil, List.replicate, List.getElem?_cons_zero, List.getElem?_cons_succ, List.set_cons_zero, List.set_cons_succ, List.append_nil, List.cons_append, List.nil_append, fo0, fo1, mo0, mo1, mo2, mo3, mo4, mo5, mo6, mo7, mo8, mo9, mo10, mo11, oi0, oi1, oi2, oi3, oi4, oi5, srO, hn]
  have l2 : EV.mFld (EV.mVarB 0) "high" (fun c => gG.fld.contains (c, ("high" : Str))) [.fr (.loc n), .fr (prW a b), .emp] S = .ok (.int b) S := by simp -implicitDefEqProofs [EV.LIM, EV.str_lit, evr, EV.r_for, EV.r_rng1, EV.wbin, EV.wun, EV.wcmp, EV.vw, EV.vwz, EV.wix, EV.wblt, EV.wtru, EV.wisi, EV.frz, EV.mkOwn, L2.atI, L2.ixN, List.map, List.length_cons, List.length_nil, List.replicate, List.getElem?_cons_zero, List.getElem?_cons_succ, List.set_cons_zero, List.set_cons_succ, List.append_nil, List.cons_append, List.nil_append, fo0, fo1, mo0, mo1, mo2, mo3, mo4, mo5, mo6, mo7, mo8, mo9, mo10, mo11, oi0, oi1, oi2, oi3, oi4, oi5, srO, hn]
  have l3 := meth_run (F := EV.Fn gG gP (d + 3)) (own := fun c => gG.mts.lookup (c, ("pair" : Str))) (nm := "pair") (o := EV.mVarB 0) (la := EV.mNil) (ws := []) (σ := [.fr (.loc n), .fr (prW a b), .emp]) rfl hn mo11 (no_fld (by decide +kernel) (by decide +kernel)) rfl (pair_ok (d + 2) hn)
  have l4 := meth_run (F := EV.Fn gG gP (d + 3)) (own := fun c => gG.mts.lookup (c, ("is_point" : Str))) (nm := "is_point") (o := EV.mVarB 0) (la := EV.mNil) (ws := []) (σ := [.fr (.loc n), .fr (prW a b), .emp]) rfl hn mo9 (no_fld (by decide +kernel) (by decide +kernel)) rfl (isp_ok (d + 2) hn)
  have a1 : n_lw_stands_1 (EV.Fn gG gP (d + 3)) [.fr (.loc n), .fr (prW a b), .emp] S = .ok (.nx [.fr (.loc n), .fr (prW a b), .fr (.tup [.int a, .int b, prW a b, .bl (decide (a = b))])]) S := by
    unfold n_lw_stands_1
    rw [EV.r_set, EV.r_tup, EV.r_cons, l1, EV.r_ok, EV.r_consF, EV.r_cons, l2, EV.r_ok, EV.r_consF, EV.r_cons, l3, EV.r_ok, EV.r_consF, EV.r_cons, l4, EV.r_ok, EV.r_consF]
    rfl
  rw [seq_step a0, seq_step a1]
  have sm := same_ok (d + 2) (.tup [.int a, .int b, prW a b, .bl (decide (a = b))]) S (by rw [Nat.add_comm]; exact plain_ups 2 d _ ⟨by simp, fun x hx => by
    simp only [List.mem_cons, List.not_mem_nil, or_false] at hx
    rcases hx with rfl | rfl | rfl | rfl
    · trivial
    · trivial
    · exact ⟨by simp, fun y hy => by
        simp only [List.mem_cons, List.not_mem_nil, or_false] at hy
        rcases hy with rfl | rfl <;> trivial⟩
    · trivial⟩)
  unfold prW at sm ⊢
  simp -implicitDefEqProofs [n_lw_stands_2, EV.LIM, EV.str_lit, evr, EV.r_for, EV.r_rng1, EV.wbin, EV.wun, EV.wcmp, EV.vw, EV.vwz, EV.wix, EV.wblt, EV.wtru, EV.wisi, EV.frz, EV.mkOwn, L2.atI, L2.ixN, List.map, List.length_cons, List.length_nil, List.replicate, List.getElem?_cons_zero, List.getElem?_cons_succ, List.set_cons_zero, List.set_cons_succ, List.append_nil, List.cons_append, List.nil_append, sm]
theorem holds_ok (z : Int) {rows : List Int} (hr : ∀ r ∈ rows, a ≤ r ∧ r ≤ b) : EV.Fn gG gP (d + 4) "_law_holds" [.loc n, prW a b, .lst (iW rows), .int z] S = .ok (.bl true) S := by
  rw [fe_lw_holds]
  show EV.runB (m_lw_holds (EV.Fn gG gP (d + 3))) _ _ _ = _
  rw [ms_lw_holds]
  simp only [EV.r_run, List.map, List.length_cons, List.length_nil, List.replicate, Nat.sub_self, Nat.reduceAdd, Nat.reduceSub, List.cons_append, List.nil_append, List.append_nil, if_true]
  have has : ∀ {neg : Bool} {e : EV.M EV.W} {σ : EV.Sls} {x : Int}, e σ S = .ok (.int x) S → σ[0]? = some (.fr (.loc n)) → EV.mInI (EV.Fn gG gP (d + 3)) (EV.ownI gG ("__contains__" : Str)) neg e (EV.mVar 0) σ S = .ok ((decide (a ≤ x) && decide (x ≤ b)) != neg) S := fun {neg e σ x} h1 h2 =>
    inI_run h1 (by rw [EV.r_var, h2]; rfl) hn oi1 (has_ok (d + 2) hn x)
  have loop : ∀ (l : List Int) (zz : EV.Sl), (∀ r ∈ l, a ≤ r ∧ r ≤ b) → ∃ z', EV.forL (EV.bName 4) (n_lw_holds_0b (EV.Fn gG gP (d + 3))) (iW l) [.fr (.loc n), .fr (prW a b), .fr (.lst (iW rows)), .fr (.int z), zz] S = .ok (.nx [.fr (.loc n), .fr (prW a b), .fr (.lst (iW rows)), .fr (.int z), z']) S := by
    intro l
    induction l with
    | nil => intro zz _; exact ⟨zz, rfl⟩
    | cons x l ih =>
      intro zz hl
      obtain ⟨z', e⟩ := ih (.fr (.int x)) fun y h => hl y (List.mem_cons_of_mem _ h)
      refine ⟨z', ?_⟩
      show EV.forL _ _ (.int x :: iW l) _ _ = _
      rw [EV.r_forC, EV.r_bname, EV.r_ok, EV.r_forG]
      have hx := hl x (List.mem_cons_self ..)
      have t := has (neg := true) (e := EV.mVar 4) (σ := [.fr (.loc n), .fr (prW a b), .fr (.lst (iW rows)), .fr (.int z), .fr (.int x)]) (x := x) rfl rfl
      rw [decide_eq_true hx.1, decide_eq_true hx.2] at t
      have b1 : n_lw_holds_0b (EV.Fn gG gP (d + 3)) [.fr (.loc n), .fr (prW a b), .fr (.lst (iW rows)), .fr (.int z), .fr (.int x)] S = .ok (.nx [.fr (.loc n), .fr (prW a b), .fr (.lst (iW rows)), .fr (.int z), .fr (.int x)]) S := by
        unfold n_lw_holds_0b n_lw_holds_0b_0
        rw [EV.r_if, t, EV.r_ok]
        rfl
      show (n_lw_holds_0b (EV.Fn gG gP (d + 3)) [.fr (.loc n), .fr (prW a b), .fr (.lst (iW rows)), .fr (.int z), .fr (.int x)] S).bind _ = _
      rw [b1, EV.r_ok, EV.r_forHn, e]
  obtain ⟨z', e⟩ := loop rows .emp hr
  have a0 : n_lw_holds_0 (EV.Fn gG gP (d + 3)) [.fr (.loc n), .fr (prW a b), .fr (.lst (iW rows)), .fr (.int z), .emp] S = .ok (.nx [.fr (.loc n), .fr (prW a b), .fr (.lst (iW rows)), .fr (.int z), z']) S := by
    unfold n_lw_holds_0
    rw [EV.r_frz]
    show EV.sFor _ _ _ [.fr (.loc n), .fr (prW a b), .fr (.lst (iW rows)), .fr (.int z), .emp] S = _
    rw [EV.r_for]
    refine (congrArg (fun r => EV.Res.bind r _) (show EV.mIt (EV.mVar 2) [.fr (.loc n), .fr (prW a b), .fr (.lst (iW rows)), .fr (.int z), .emp] S = .ok (iW rows) S from rfl)).trans ?_
    rw [EV.r_ok, EV.r_forF]
    exact e
  have t1 := has (neg := false) (e := EV.mBin .Sub (EV.mIx (EV.mVarB 1) (EV.mC (.int 0))) (EV.mC (.int 1))) (σ := [.fr (.loc n), .fr (prW a b), .fr (.lst (iW rows)), .fr (.int z), z']) (x := a - 1) (by unfold prW; simp -implicitDefEqProofs [EV.LIM, EV.str_lit, evr, EV.r_for, EV.r_rng1, EV.wbin, EV.wun, EV.wcmp, EV.vw, EV.vwz, EV.wix, EV.wblt, EV.wtru, EV.wisi, EV.frz, EV.mkOwn, L2.atI, L2.ixN, List.map, List.length_cons, List.length_nil, List.replicate, List.getElem?_cons_zero, List.getElem?_cons_succ, List.set_cons_zero, List.set_cons_succ, List.append_nil, List.cons_append, List.nil_append]) rfl
  have t2 := has (neg := false) (e := EV.mBin .Add (EV.mIx (EV.mVarB 1) (EV.mC (.int 1))) (EV.mC (.int 1))) (σ := [.fr (.loc n), .fr (prW a b), .fr (.lst (iW rows)), .fr (.int z), z']) (x := b + 1) (by unfold prW; simp -implicitDefEqProofs [EV.LIM, EV.str_lit, evr, EV.r_for, EV.r_rng1, EV.wbin, EV.wun, EV.wcmp, EV.vw, EV.vwz, EV.wix, EV.wblt, EV.wtru, EV.wisi, EV.frz, EV.mkOwn, L2.atI, L2.ixN, List.map, List.length_cons, List.length_nil, List.replicate, List.getElem?_cons_zero, List.getElem?_cons_succ, List.set_cons_zero, List.set_cons_succ, List.append_nil, List.cons_append, List.nil_append]) rfl
  have t3 := has (neg := false) (e := EV.mVar 3) (σ := [.fr (.loc n), .fr (prW a b), .fr (.lst (iW rows)), .fr (.int z), z']) (x := z) rfl rfl
  rw [show decide (a ≤ a - 1) = false from decide_eq_false (by omega), Bool.false_and] at t1
  rw [show decide (b + 1 ≤ b) = false from decide_eq_false (by omega), Bool.and_false] at t2
  have a1 : n_lw_holds_1 (EV.Fn gG gP (d + 3)) [.fr (.loc n), .fr (prW a b), .fr (.lst (iW rows)), .fr (.int z), z'] S = .ok (.nx [.fr (.loc n), .fr (prW a b), .fr (.lst (iW rows)), .fr (.int z), z']) S := by
    unfold n_lw_holds_1
    rw [EV.r_if, EV.r_or, t1, EV.r_ok, show (false != false) = false from rfl, EV.r_orN, t2, EV.r_ok]
    rfl
  rw [seq_step a0, seq_step a1]
  have a2 : n_lw_holds_2 (EV.Fn gG gP (d + 3)) [.fr (.loc n), .fr (prW a b), .fr (.lst (iW rows)), .fr (.int z), z'] S = .ok (.rt (.bl true)) S := by
    unfold n_lw_holds_2
    rw [EV.r_ret, EV.r_cmp, EV.r_val, t3, EV.r_ok]
    unfold prW
    by_cases q : a ≤ z
    · simp -implicitDefEqProofs [EV.LIM, EV.str_lit, evr, EV.r_for, EV.r_rng1, EV.wbin, EV.wun, EV.wcmp, EV.vw, EV.vwz, EV.wix, EV.wblt, EV.wtru, EV.wisi, EV.frz, EV.mkOwn, L2.atI, L2.ixN, List.map, List.length_cons, List.length_nil, List.replicate, List.getElem?_cons_zero, List.getElem?_cons_succ, List.set_cons_zero, List.set_cons_succ, List.append_nil, List.cons_append, List.nil_append, q]
    · simp -implicitDefEqProofs [EV.LIM, EV.str_lit, evr, EV.r_for, EV.r_rng1, EV.wbin, EV.wun, EV.wcmp, EV.vw, EV.vwz, EV.wix, EV.wblt, EV.wtru, EV.wisi, EV.frz, EV.mkOwn, L2.atI, L2.ixN, List.map, List.length_cons, List.length_nil, List.replicate, List.getElem?_cons_zero, List.getElem?_cons_succ, List.set_cons_zero, List.set_cons_succ, List.append_nil, List.cons_append, List.nil_append, q]
  rw [a2]
  rfl
end
theorem weq_pr (a b c e : Int) : EV.weq (prW a b) (prW c e) = some (decide (a = c) && decide (b = e)) := by
  have s : ∀ x y : Int, SeqAt.shaped (.tuple [.int x, .int y]) = true := fun x y => by
    unfold SeqAt.shaped
    simp [PyData.canLay0, PyData.canLayAll0, PyData.depth, PyData.depthAll]
  have t : ∀ x y : Int, EV.toD (prW x y) = some (.tuple [.int x, .int y]) := fun x y => by simp [prW, EV.toD, EV.toDs]
  unfold EV.weq
  simp only [prW] at t ⊢
  simp only [t, s, and_self, if_true]
  congr 1
  simp only [PyData.eqv, PyData.eqvAll, Bool.and_true]
  by_cases q : a = c <;> by_cases q2 : b = e <;> simp [q, q2]
theorem beside_ok (d : Nat) {S : EV.Sto} {n m : Nat} {a b c e : Int} (hn : S[n]? = some (srO a b)) (hm : S[m]? = some (srO c e)) : EV.Fn gG gP (d + 4) "_law_beside" [.loc n, .loc m, prW a b, prW c e] S = .ok (.bl true) S := by
  rw [fe_lw_beside]
  show EV.runB (m_lw_beside (EV.Fn gG gP (d + 3))) _ _ _ = _
  rw [ms_lw_beside]
  simp only [EV.r_run, List.map, List.length_cons, List.length_nil, List.replicate, Nat.sub_self, Nat.reduceAdd, Nat.reduceSub, List.cons_append, List.nil_append, List.append_nil, if_true]
  have a0 : n_lw_beside_0 (EV.Fn gG gP (d + 3)) [.fr (.loc n), .fr (.loc m), .fr (prW a b), .fr (prW c e), .emp] S = .ok (.nx [.fr (.loc n), .fr (.loc m), .fr (prW a b), .fr (prW c e), .fr (.bl (decide (c ≤ a) && decide (b ≤ e)))]) S := by
    unfold n_lw_beside_0 prW
    by_cases q : c ≤ a <;> simp -implicitDefEqProofs [EV.LIM, EV.str_lit, evr, EV.r_for, EV.r_rng1, EV.wbin, EV.wun, EV.wcmp, EV.vw, EV.vwz, EV.wix, EV.wblt, EV.wtru, EV.wisi, EV.frz, EV.mkOwn, L2.atI, L2.ixN, List.map, List.length_cons, List.length_nil, List.replicate, List.getElem?_cons_zero, List.getElem?_cons_succ, List.set_cons_zero, List.set_cons_succ, List.append_nil, List.cons_append, List.nil_append, q]
  rw [seq_step a0]
  let σ : EV.Sls := [.fr (.loc n), .fr (.loc m), .fr (prW a b), .fr (prW c e), .fr (.bl (decide (c ≤ a) && decide (b ≤ e)))]
  have w := meth_run (F := EV.Fn gG gP (d + 3)) (own := fun c => gG.mts.lookup (c, ("within" : Str))) (nm := "within") (o := EV.mVarB 0) (la := EV.mCons (EV.mVar 1) EV.mNil) (ws := [.loc m]) (σ := σ) rfl hn mo8 (no_fld (by decide +kernel) (by decide +kernel)) rfl (within_ok (d + 1) hn hm)
  have i := eqI_run (F := EV.Fn gG gP (d + 3)) (own := EV.ownI gG ("__eq__" : Str)) (a := EV.mVar 0) (b := EV.mVar 1) (σ := σ) rfl rfl hn (.inl (by unfold EV.insOf; simp only [hm]; rfl)) oi0 (eqI_ok (d + 1) hn hm)
  have s1 := same_ok (d + 2) (.bl (decide (c ≤ a) && decide (b ≤ e))) S trivial
  have s2 := same_ok (d + 2) (.bl (decide (a = c) && decide (b = e))) S trivial
  have c2 : EV.mCmp .Eq (EV.mVarB 2) (EV.mVarB 3) σ S = .ok (.bl (decide (a = c) && decide (b = e))) S := by
    show EV.olift ((EV.weq (prW a b) (prW c e)).map EV.W.bl) S = _
    rw [weq_pr]
    rfl
  have a1 : n_lw_beside_1 (EV.Fn gG gP (d + 3)) σ S = .ok (.rt (.bl true)) S := by
    unfold n_lw_beside_1
    rw [EV.r_frz, show EV.frz σ [1, 4] = σ from rfl, EV.r_ret, EV.r_av, EV.r_call, EV.r_cons, w, EV.r_ok, EV.r_consF]
    show (EV.Res.bind (EV.Fn gG gP (d + 3) "_law_same" [.bl (decide (c ≤ a) && decide (b ≤ e)), .bl (decide (c ≤ a) && decide (b ≤ e))] S) _).bind _ = _
    rw [s1, EV.r_ok, EV.r_avF]
    show EV.Res.bind (EV.mCall _ _ _ _ σ S) _ = _
    rw [EV.r_call, EV.r_cons, EV.r_val, i, EV.r_ok, EV.r_valF, EV.r_ok, EV.r_consF, EV.r_cons, c2]
    show EV.Res.bind (EV.Fn gG gP (d + 3) "_law_same" [.bl (decide (a = c) && decide (b = e)), .bl (decide (a = c) && decide (b = e))] S) _ = _
    rw [s2]
    rfl
  show (n_lw_beside_1 (EV.Fn gG gP (d + 3)) σ S).bind EV.runF = _
  rw [a1]
  rfl
/-! ### stretches: all of them, beside a new one -/
/-- a stretch: where it stands, its ends -/
abbrev Sx : Type := Nat × Int × Int
def thW (l : List Sx) : List EV.W := l.map fun q => .loc q.1
def spW (l : List Sx) : List EV.W := l.map fun q => prW q.2.1 q.2.2
def Std (S : EV.Sto) (l : List Sx) : Prop := ∀ q ∈ l, S[q.1]? = some (srO q.2.1 q.2.2) ∧ q.2.1 ≤ q.2.2 ∧ Sm q.2.1 ∧ Sm q.2.2
theorem ix_loc {S : EV.Sto} {n k : Nat} {ws : List EV.W} {w : EV.W} {a b : EV.M EV.W} {σ : EV.Sls} (ha : a σ S = .ok (.loc n) S) (hb : b σ S = .ok (.int k) S) (hn : S[n]? = some (.lst ws)) (hw : ws[k]? = some w) : EV.mIx a b σ S = .ok w S := by
  obtain ⟨hk, rfl⟩ := List.getElem?_eq_some_iff.mp hw
  have hk' : (k : Int) < (ws.length : Int) := by omega
  simp -implicitDefEqProofs [EV.LIM, EV.str_lit, evr, EV.r_for, EV.r_rng1, EV.wbin, EV.wun, EV.wcmp, EV.vw, EV.vwz, EV.wix, EV.wblt, EV.wtru, EV.wisi, EV.frz, EV.mkOwn, L2.atI, L2.ixN, List.map, List.length_cons, List.length_nil, List.replicate, List.getElem?_cons_zero, List.getElem?_cons_succ, List.set_cons_zero, List.set_cons_succ, List.append_nil, List.cons_append, List.nil_append, ha, hb, hn, hk, hk']
theorem alike_ok (d : Nat) {S : EV.Sto} {nt ns n : Nat} {a b : Int} {l : List Sx} (hl : Std S l) (ht : S[nt]? = some (.lst (thW l))) (hs : S[ns]? = some (.lst (spW l))) (hn : S[n]? = some (srO a b)) (hlen : l.length ≤ 1000) :
    EV.Fn gG gP (d + 5) "_law_alike" [.loc nt, .loc ns, .loc n, prW a b] S = .ok (.bl true) S := by
  rw [fe_lw_alike]
  show EV.runB (m_lw_alike (EV.Fn gG gP (d + 4))) _ _ _ = _
  rw [ms_lw_alike]
  simp only [EV.r_run, List.map, List.length_cons, List.length_nil, List.replicate, Nat.sub_self, Nat.reduceAdd, Nat.reduceSub, List.cons_append, List.nil_append, List.append_nil, if_true]
  have turn : ∀ (i : Nat) (z : EV.Sl), i < l.length → n_lw_alike_0b (EV.Fn gG gP (d + 4)) [.fr (.loc nt), .fr (.loc ns), .fr (.loc n), .fr (prW a b), .fr (.int i), .emp] S = .ok (.nx [.fr (.loc nt), .fr (.loc ns), .fr (.loc n), .fr (prW a b), .fr (.int i), .emp]) S := fun i z hi => by
    let σ : EV.Sls := [.fr (.loc nt), .fr (.loc ns), .fr (.loc n), .fr (prW a b), .fr (.int i), .emp]
    obtain ⟨h1, _, _, _⟩ := hl l[i] (List.getElem_mem hi)
    have e1 : EV.mIx (EV.mVarB 0) (EV.mVarB 4) σ S = .ok (.loc l[i].1) S := ix_loc rfl rfl ht (by unfold thW; rw [List.getElem?_map, List.getElem?_eq_getElem hi]; rfl)
    have e2 : EV.mIx (EV.mVarB 1) (EV.mVarB 4) σ S = .ok (prW l[i].2.1 l[i].2.2) S := ix_loc rfl rfl hs (by unfold spW; rw [List.getElem?_map, List.getElem?_eq_getElem hi]; rfl)
    have b1 := beside_ok d hn h1
    have b2 := beside_ok d h1 hn
    have v2 : EV.mVar 2 σ S = .ok (.loc n) S := rfl
    have v3 : EV.mVar 3 σ S = .ok (prW a b) S := rfl
    have tr : EV.wtru (EV.vw S (.bl true)) = some true := rfl
    unfold n_lw_alike_0b n_lw_alike_0b_0
    rw [EV.r_frz]
    show EV.sIf _ _ _ σ S = .ok (.nx σ) S
    rw [EV.r_if, EV.r_or, EV.r_not, EV.r_tru, EV.r_call, EV.r_cons, v2, EV.r_ok, EV.r_consF, EV.r_cons, e1, EV.r_ok, EV.r_consF, EV.r_cons, v3, EV.r_ok, EV.r_consF, EV.r_cons, e2, EV.r_ok, EV.r_consF]
    show ((EV.Res.bind (EV.Res.bind (EV.Fn gG gP (d + 4) "_law_beside" [.loc n, .loc l[i].1, prW a b, prW l[i].2.1 l[i].2.2] S) _) _).bind _).bind _ = _
    rw [b1, EV.r_ok, EV.r_truF, tr, EV.r_some, EV.r_ok, EV.r_notF, EV.r_ok, show (!true) = false from rfl, EV.r_orN, EV.r_not, EV.r_tru, EV.r_call, EV.r_cons, e1, EV.r_ok, EV.r_consF, EV.r_cons, v2, EV.r_ok, EV.r_consF, EV.r_cons, e2, EV.r_ok, EV.r_consF, EV.r_cons, v3, EV.r_ok, EV.r_consF]
    show (EV.Res.bind (EV.Res.bind (EV.Fn gG gP (d + 4) "_law_beside" [.loc l[i].1, .loc n, prW l[i].2.1 l[i].2.2, prW a b] S) _) _).bind _ = _
    rw [b2]
    rfl
  have loop : ∀ (js : List Nat) (z : EV.Sl), (∀ j ∈ js, j < l.length) → ∃ z', EV.forL (EV.bName 4) (n_lw_alike_0b (EV.Fn gG gP (d + 4))) (js.map fun i : Nat => .int (i : Nat)) [.fr (.loc nt), .fr (.loc ns), .fr (.loc n), .fr (prW a b), z, .emp] S = .ok (.nx [.fr (.loc nt), .fr (.loc ns), .fr (.loc n), .fr (prW a b), z', .emp]) S := by
    intro js
    induction js with
    | nil => intro z _; exact ⟨z, rfl⟩
    | cons j js ih =>
      intro z hj
      obtain ⟨z', e⟩ := ih (.fr (.int j)) fun y h => hj y (List.mem_cons_of_mem _ h)
      refine ⟨z', ?_⟩
      rw [List.map_cons, EV.r_forC, EV.r_bname, EV.r_ok, EV.r_forG]
      show (n_lw_alike_0b (EV.Fn gG gP (d + 4)) [.fr (.loc nt), .fr (.loc ns), .fr (.loc n), .fr (prW a b), .fr (.int j), .emp] S).bind _ = _
      rw [turn j z (hj j (List.mem_cons_self ..)), EV.r_ok, EV.r_forHn, e]
  obtain ⟨z', e⟩ := loop (List.range l.length) .emp fun j hj => List.mem_range.mp hj
  have hlt : (thW l).length = l.length := by unfold thW; simp
  have rg : EV.mRng1 (EV.mBlt .len (EV.mCons (EV.mVarB 0) EV.mNil)) [.fr (.loc nt), .fr (.loc ns), .fr (.loc n), .fr (prW a b), .emp, .emp] S = .ok ((List.range l.length).map fun i : Nat => .int (i : Nat)) S := by
    refine rng_i ?_ (by omega)
    simp -implicitDefEqProofs [EV.LIM, EV.str_lit, evr, EV.r_for, EV.r_rng1, EV.wbin, EV.wun, EV.wcmp, EV.vw, EV.vwz, EV.wix, EV.wblt, EV.wtru, EV.wisi, EV.frz, EV.mkOwn, L2.atI, L2.ixN, List.map, List.length_cons, List.length_nil, List.replicate, List.getElem?_cons_zero, List.getElem?_cons_succ, List.set_cons_zero, List.set_cons_succ, List.append_nil, List.cons_append, List.nil_append, ht, hlt]
  have a0 : n_lw_alike_0 (EV.Fn gG gP (d + 4)) [.fr (.loc nt), .fr (.loc ns), .fr (.loc n), .fr (prW a b), .emp, .emp] S = .ok (.nx [.fr (.loc nt), .fr (.loc ns), .fr (.loc n), .fr (prW a b), z', .emp]) S := by
    unfold n_lw_alike_0
    rw [EV.r_for]
    refine (congrArg (fun r => EV.Res.bind r _) rg).trans ?_
    rw [EV.r_ok, EV.r_forF]
    exact e
  have turn2 : ∀ (w : EV.W) (z : EV.Sl), EV.insOf S w = none → (EV.wtyN (EV.vwz S w)).isSome = true → n_lw_alike_1b (EV.Fn gG gP (d + 4)) [.fr (.loc nt), .fr (.loc ns), .fr (.loc n), .fr (prW a b), z', .fr w] S = .ok (.nx [.fr (.loc nt), .fr (.loc ns), .fr (.loc n), .fr (prW a b), z', .fr w]) S := fun w z h1 h2 => by
    have w1 : EV.wIsI S "Stretch" w = some (.bl false) := by unfold EV.wIsI; rw [h1]; exact if_pos h2
    have i := eqI_run (F := EV.Fn gG gP (d + 4)) (own := EV.ownI gG ("__eq__" : Str)) (a := EV.mVar 2) (b := EV.mVar 5) (σ := [.fr (.loc nt), .fr (.loc ns), .fr (.loc n), .fr (prW a b), z', .fr w]) rfl rfl hn (.inr h2) oi0 (eqO_ok (d + 3) hn w w1)
    have s1 := same_ok (d + 3) (.bl false) S trivial
    unfold n_lw_alike_1b n_lw_alike_1b_0
    rw [EV.r_if, EV.r_not, EV.r_tru, EV.r_call, EV.r_cons, EV.r_val, i, EV.r_ok, EV.r_valF, EV.r_ok, EV.r_consF]
    show (EV.Res.bind (EV.Res.bind (EV.Fn gG gP (d + 4) "_law_same" [.bl false, .bl false] S) _) _).bind _ = _
    rw [s1]
    rfl
  have a1 : ∃ z2, n_lw_alike_1 (EV.Fn gG gP (d + 4)) [.fr (.loc nt), .fr (.loc ns), .fr (.loc n), .fr (prW a b), z', .emp] S = .ok (.nx [.fr (.loc nt), .fr (.loc ns), .fr (.loc n), .fr (prW a b), z', z2]) S := by
    have loop2 : ∀ (ws : List EV.W) (z : EV.Sl), (∀ w ∈ ws, EV.insOf S w = none ∧ (EV.wtyN (EV.vwz S w)).isSome = true) → ∃ z2, EV.forL (EV.bName 5) (n_lw_alike_1b (EV.Fn gG gP (d + 4))) ws [.fr (.loc nt), .fr (.loc ns), .fr (.loc n), .fr (prW a b), z', z] S = .ok (.nx [.fr (.loc nt), .fr (.loc ns), .fr (.loc n), .fr (prW a b), z', z2]) S := by
      intro ws
      induction ws with
      | nil => intro z _; exact ⟨z, rfl⟩
      | cons w ws ih =>
        intro z hw
        obtain ⟨z2, e⟩ := ih (.fr w) fun y h => hw y (List.mem_cons_of_mem _ h)
        refine ⟨z2, ?_⟩
        rw [EV.r_forC, EV.r_bname, EV.r_ok, EV.r_forG]
        show (n_lw_alike_1b (EV.Fn gG gP (d + 4)) [.fr (.loc nt), .fr (.loc ns), .fr (.loc n), .fr (prW a b), z', .fr w] S).bind _ = _
        obtain ⟨h1, h2⟩ := hw w (List.mem_cons_self ..)
        rw [turn2 w z h1 h2, EV.r_ok, EV.r_forHn, e]
    obtain ⟨z2, e⟩ := loop2 [prW a b, .lst [.int a, .int b], .int a, .str "", .non] .emp fun w hw => by
      simp only [List.mem_cons, List.not_mem_nil, or_false] at hw
      rcases hw with rfl | rfl | rfl | rfl | rfl <;> exact ⟨rfl, rfl⟩
    refine ⟨z2, ?_⟩
    unfold n_lw_alike_1
    rw [EV.r_frz]
    show EV.sFor _ _ _ [.fr (.loc nt), .fr (.loc ns), .fr (.loc n), .fr (prW a b), z', .emp] S = _
    rw [EV.r_for]
    refine (congrArg (fun r => EV.Res.bind r _) (show EV.mIt _ [.fr (.loc nt), .fr (.loc ns), .fr (.loc n), .fr (prW a b), z', .emp] S = .ok [prW a b, .lst [.int a, .int b], .int a, .str "", .non] S from ?_)).trans ?_
    · unfold prW
      simp -implicitDefEqProofs [EV.LIM, EV.str_lit, evr, EV.r_for, EV.r_rng1, EV.wbin, EV.wun, EV.wcmp, EV.vw, EV.vwz, EV.wix, EV.wblt, EV.wtru, EV.wisi, EV.frz, EV.mkOwn, L2.atI, L2.ixN, List.map, List.length_cons, List.length_nil, List.replicate, List.getElem?_cons_zero, List.getElem?_cons_succ, List.set_cons_zero, List.set_cons_succ, List.append_nil, List.cons_append, List.nil_append]
    · rw [EV.r_ok, EV.r_forF]
      exact e
  obtain ⟨z2, a1⟩ := a1
  rw [seq_step a0, seq_step a1]
  rfl
def n_law_0 (F : EV.Fenv) : EV.M EV.Fl := (EV.sFrz [0] (EV.sSet 1 (EV.mCall F "_law_bag" (EV.mCons (EV.mVar 0) (EV.mCons (EV.mC (.int 0)) EV.mNil)) [])))
def n_law_1_c0 (F : EV.Fenv) : EV.M EV.W := (EV.mCall F "_law_span" (EV.mCons (EV.mVar 1) EV.mNil) [])
def n_law_1 (F : EV.Fenv) : EV.M EV.Fl := (EV.sFrz [1, 1] (EV.sSet 2 (EV.mToLoc (EV.mLc (EV.mRng1 (EV.mBin .Add (EV.mC (.int 2)) (EV.mCall F "_law_take" (EV.mCons (EV.mVar 1) (EV.mCons (EV.mC (.int 3)) EV.mNil)) []))) (EV.bName 6) EV.mYes (n_law_1_c0 F) [6]))))
def n_law_2_c0 (F : EV.Fenv) : EV.M EV.W := (EV.mMake F "Stretch" ("Stretch" ++ ".__init__") (EV.mCons (EV.mIx (EV.mVarB 12) (EV.mC (.int 0))) (EV.mCons (EV.mIx (EV.mVarB 12) (EV.mC (.int 1))) EV.mNil)))
def n_law_2 (F : EV.Fenv) : EV.M EV.Fl := (EV.sFrz [2] (EV.sSet 3 (EV.mToLoc (EV.mLockE 2 (EV.mLc (EV.mIt (EV.mVar 2)) (EV.bName 12) EV.mYes (n_law_2_c0 F) [12])))))
def n_law_3 (F : EV.Fenv) : EV.M EV.Fl := (EV.sFrz [0] (EV.sSet 1 (EV.mCall F "_law_bag" (EV.mCons (EV.mVar 0) (EV.mCons (EV.mC (.int 1)) EV.mNil)) [])))
def n_law_4b_0 (F : EV.Fenv) : EV.M EV.Fl := (EV.sFrz [1] (EV.sSet 5 (EV.mCall F "_law_take" (EV.mCons (EV.mVar 1) (EV.mCons (EV.mBlt .len (EV.mCons (EV.mVarB 2) EV.mNil)) EV.mNil)) [])))
def n_law_4b_1 (F : EV.Fenv) : EV.M EV.Fl := (EV.sFrz [5] (EV.sSet 6 (EV.mVar 5)))
def n_law_4b_2t_0 (F : EV.Fenv) : EV.M EV.Fl := (EV.sFrz [1] (EV.sSet 6 (EV.mCall F "_law_take" (EV.mCons (EV.mVar 1) (EV.mCons (EV.mBlt .len (EV.mCons (EV.mVarB 2) EV.mNil)) EV.mNil)) [])))
def n_law_4b_2t (F : EV.Fenv) : EV.M EV.Fl := (n_law_4b_2t_0 F)
def n_law_4b_2 (F : EV.Fenv) : EV.M EV.Fl := (EV.sFrz [1] (EV.sIf (EV.mCmpT .Gt (EV.mCall F "_law_take" (EV.mCons (EV.mVar 1) (EV.mCons (EV.mC (.int 3)) EV.mNil)) []) (EV.mC (.int 0))) (n_law_4b_2t F) EV.sNext))
def n_law_4b_3 (F : EV.Fenv) : EV.M EV.Fl := (EV.sFrz [1] (EV.sSet 7 (EV.mCall F "_law_pick" (EV.mCons (EV.mVar 1) (EV.mCons (EV.mLst (EV.mCons (EV.mC (.str "mul")) (EV.mCons (EV.mC (.str "add")) (EV.mCons (EV.mC (.str "sub")) (EV.mCons (EV.mC (.str "hull")) (EV.mCons (EV.mC (.str "least")) (EV.mCons (EV.mC (.str "greatest")) (EV.mCons (EV.mC (.str "saturated")) (EV.mCons (EV.mC (.str "point")) EV.mNil))))))))) EV.mNil)) [])))
def n_law_4b_4 (F : EV.Fenv) : EV.M EV.Fl := (EV.sFrz [1] (EV.sSet 8 (EV.mCall F "_law_end" (EV.mCons (EV.mVar 1) EV.mNil) [])))
def n_law_4b_5 (F : EV.Fenv) : EV.M EV.Fl := (EV.sFrz [7, 1, 1, 8] (EV.sSet 9 (EV.mCall F "_law_outcomes" (EV.mCons (EV.mVar 7) (EV.mCons (EV.mCall F "_law_some" (EV.mCons (EV.mVar 1) (EV.mCons (EV.mIx (EV.mVarB 2) (EV.mVarB 5)) EV.mNil)) []) (EV.mCons (EV.mCall F "_law_some" (EV.mCons (EV.mVar 1) (EV.mCons (EV.mIx (EV.mVarB 2) (EV.mVarB 6)) EV.mNil)) []) (EV.mCons (EV.mVar 8) EV.mNil)))) [])))
def n_law_4b_6 (F : EV.Fenv) : EV.M EV.Fl := (EV.sSet 10 (EV.mTup (EV.mCons (EV.mBlt .min (EV.mCons (EV.mVarB 9) EV.mNil)) (EV.mCons (EV.mBlt .max (EV.mCons (EV.mVarB 9) EV.mNil)) EV.mNil))))
def n_law_4b_7 (F : EV.Fenv) : EV.M EV.Fl := (EV.sFrz [7, 8] (EV.sSet 11 (EV.mCall F "_law_made" (EV.mCons (EV.mVar 7) (EV.mCons (EV.mIx (EV.mVarB 3) (EV.mVarB 5)) (EV.mCons (EV.mIx (EV.mVarB 3) (EV.mVarB 6)) (EV.mCons (EV.mVar 8) EV.mNil)))) [])))
def n_law_4b_8t_0 (F : EV.Fenv) : EV.M EV.Fl := (EV.sRet (EV.mC (.bl false)))
def n_law_4b_8t (F : EV.Fenv) : EV.M EV.Fl := (n_law_4b_8t_0 F)
def n_law_4b_8 (F : EV.Fenv) : EV.M EV.Fl := (EV.sFrz [11, 10, 11, 10, 9, 8] (EV.sIf (EV.mOr (EV.mNotT (EV.mTru (EV.mCall F "_law_stands" (EV.mCons (EV.mVar 11) (EV.mCons (EV.mVar 10) EV.mNil)) []))) (EV.mNotT (EV.mTru (EV.mCall F "_law_holds" (EV.mCons (EV.mVar 11) (EV.mCons (EV.mVar 10) (EV.mCons (EV.mVar 9) (EV.mCons (EV.mVar 8) EV.mNil)))) [])))) (n_law_4b_8t F) EV.sNext))
def n_law_4b_9t_0 (F : EV.Fenv) : EV.M EV.Fl := (EV.sRet (EV.mC (.bl false)))
def n_law_4b_9t (F : EV.Fenv) : EV.M EV.Fl := (n_law_4b_9t_0 F)
def n_law_4b_9 (F : EV.Fenv) : EV.M EV.Fl := (EV.sFrz [3, 2, 11, 10] (EV.sIf (EV.mNotT (EV.mTru (EV.mCall F "_law_alike" (EV.mCons (EV.mVar 3) (EV.mCons (EV.mVar 2) (EV.mCons (EV.mVar 11) (EV.mCons (EV.mVar 10) EV.mNil)))) []))) (n_law_4b_9t F) EV.sNext))
def n_law_4b_10 (F : EV.Fenv) : EV.M EV.Fl := (EV.sFrz [10] (EV.sMut (EV.mutE F (fun c => gG.mts.lookup (c, ("append" : Str))) .append "append" 2 (EV.mCons (EV.mVar 10) EV.mNil))))
def n_law_4b_11 (F : EV.Fenv) : EV.M EV.Fl := (EV.sFrz [11] (EV.sMut (EV.mutE F (fun c => gG.mts.lookup (c, ("append" : Str))) .append "append" 3 (EV.mCons (EV.mVar 11) EV.mNil))))
def n_law_4b (F : EV.Fenv) : EV.M EV.Fl := (EV.sSeq (n_law_4b_0 F) (EV.sSeq (n_law_4b_1 F) (EV.sSeq (n_law_4b_2 F) (EV.sSeq (n_law_4b_3 F) (EV.sSeq (n_law_4b_4 F) (EV.sSeq (n_law_4b_5 F) (EV.sSeq (n_law_4b_6 F) (EV.sSeq (n_law_4b_7 F) (EV.sSeq (n_law_4b_8 F) (EV.sSeq (n_law_4b_9 F) (EV.sSeq (n_law_4b_10 F) (n_law_4b_11 F))))))))))))
def n_law_4 (F : EV.Fenv) : EV.M EV.Fl := (EV.sFrz [1] (EV.sFor (EV.mRng1 (EV.mBin .Add (EV.mC (.int 1)) (EV.mCall F "_law_take" (EV.mCons (EV.mVar 1) (EV.mCons (EV.mC (.int 12)) EV.mNil)) []))) (EV.bName 4) (n_law_4b F)))
def n_law_5b_0t_0 (F : EV.Fenv) : EV.M EV.Fl := (EV.sRet (EV.mC (.bl false)))
def n_law_5b_0t (F : EV.Fenv) : EV.M EV.Fl := (n_law_5b_0t_0 F)
def n_law_5b_0 (F : EV.Fenv) : EV.M EV.Fl := (EV.sIf (EV.mNotT (EV.mTru (EV.mCall F "_law_stands" (EV.mCons (EV.mIx (EV.mVarB 3) (EV.mVarB 6)) (EV.mCons (EV.mIx (EV.mVarB 2) (EV.mVarB 6)) EV.mNil)) []))) (n_law_5b_0t F) EV.sNext)
def n_law_5b (F : EV.Fenv) : EV.M EV.Fl := (n_law_5b_0 F)
def n_law_5 (F : EV.Fenv) : EV.M EV.Fl := (EV.sFor (EV.mRng1 (EV.mBlt .len (EV.mCons (EV.mVarB 2) EV.mNil))) (EV.bName 6) (n_law_5b F))
def n_law_6 (F : EV.Fenv) : EV.M EV.Fl := (EV.sRet (EV.mC (.bl true)))
theorem ms_law (F : EV.Fenv) : m_law F = (EV.sSeq (n_law_0 F) (EV.sSeq (n_law_1 F) (EV.sSeq (n_law_2 F) (EV.sSeq (n_law_3 F) (EV.sSeq (n_law_4 F) (EV.sSeq (n_law_5 F) (n_law_6 F))))))) := by kernel_rfl
/-! ### law k64 -/
theorem std_kn {S T : EV.Sto} {nb : Nat} {l : List Sx} (h : Std S l) (k : Kn nb S T) (hb : BagAt nb S) : Std T l := fun q hq => by
  obtain ⟨h1, h2⟩ := h q hq
  refine ⟨kn_get k h1 fun z => ?_, h2⟩
  obtain ⟨o, e, c, a, f, rfl⟩ := hb
  rw [z, e] at h1
  unfold srO at h1
  cases h1
/-- what the law's state holds: the bag at nb, the lists at ns, nt -/
structure LSt (S : EV.Sto) (nb ns nt : Nat) (l : List Sx) : Prop where
  bag : BagAt nb S
  sp : S[ns]? = some (.lst (spW l))
  th : S[nt]? = some (.lst (thW l))
  std : Std S l
  n1 : ns ≠ nb
  n2 : nt ≠ nb
  n3 : ns ≠ nt
theorem LSt.kn {S T : EV.Sto} {nb ns nt : Nat} {l : List Sx} (h : LSt S nb ns nt l) (k : Kn nb S T) : LSt T nb ns nt l := ⟨k.1, kn_get k h.sp h.n1, kn_get k h.th h.n2, std_kn h.std k h.bag, h.n1, h.n2, h.n3⟩
def lS (nb ns nt : Nat) (scr : EV.W) (rest : List EV.Sl) : EV.Sls := .fr scr :: .fr (.loc nb) :: .fr (.loc ns) :: .fr (.loc nt) :: rest
theorem bagS {S : EV.Sto} {n : Nat} (h : BagAt n S) : ∃ ws, S[n]? = some (.lst ws) ∧ ws.length = 3 := by
  obtain ⟨o, e, c, a, f, rfl⟩ := h
  exact ⟨_, e, rfl⟩
theorem turn_ex (d : Nat) {S : EV.Sto} {nb ns nt : Nat} {l : List Sx} (scr : EV.W) (I : LSt S nb ns nt l) (h0 : 0 < l.length) (hlen : l.length ≤ 100) (z4 z5 z6 z7 z8 z9 z10 z11 z12 : EV.Sl) :
    ∃ (y5 y6 y7 y8 y9 y10 y11 : EV.Sl) (q : Sx) (T : EV.Sto), LSt T nb ns nt (l ++ [q]) ∧ n_law_4b (EV.Fn gG gP (d + 5)) [.fr scr, .fr (.loc nb), .fr (.loc ns), .fr (.loc nt), z4, z5, z6, z7, z8, z9, z10, z11, z12] S = .ok (.nx [.fr scr, .fr (.loc nb), .fr (.loc ns), .fr (.loc nt), z4, y5, y6, y7, y8, y9, y10, y11, z12]) T := by
  have lsp : (spW l).length = l.length := by unfold spW; simp
  have lth : (thW l).length = l.length := by unfold thW; simp
  -- j
  obtain ⟨j, T1, hj, k1, e1⟩ := tkI (d + 4) l.length I.bag h0 (by omega)
  have I1 := I.kn k1
  have a0 : n_law_4b_0 (EV.Fn gG gP (d + 5)) [.fr scr, .fr (.loc nb), .fr (.loc ns), .fr (.loc nt), z4, z5, z6, z7, z8, z9, z10, z11, z12] S = .ok (.nx [.fr scr, .fr (.loc nb), .fr (.loc ns), .fr (.loc nt), z4, .fr (.int j), z6, z7, z8, z9, z10, z11, z12]) T1 := by
    simp -implicitDefEqProofs [n_law_4b_0, EV.LIM, EV.str_lit, evr, EV.r_for, EV.r_rng1, EV.wbin, EV.wun, EV.wcmp, EV.vw, EV.vwz, EV.wix, EV.wblt, EV.wtru, EV.wisi, EV.frz, EV.mkOwn, L2.atI, L2.ixN, List.map, List.length_cons, List.length_nil, List.replicate, List.getElem?_cons_zero, List.getElem?_cons_succ, List.set_cons_zero, List.set_cons_succ, List.append_nil, List.cons_append, List.nil_append, I.sp, lsp, e1]
  have a1 : n_law_4b_1 (EV.Fn gG gP (d + 5)) [.fr scr, .fr (.loc nb), .fr (.loc ns), .fr (.loc nt), z4, .fr (.int j), z6, z7, z8, z9, z10, z11, z12] T1 = .ok (.nx [.fr scr, .fr (.loc nb), .fr (.loc ns), .fr (.loc nt), z4, .fr (.int j), .fr (.int j), z7, z8, z9, z10, z11, z12]) T1 := by
    simp -implicitDefEqProofs [n_law_4b_1, EV.LIM, EV.str_lit, evr, EV.r_for, EV.r_rng1, EV.wbin, EV.wun, EV.wcmp, EV.vw, EV.vwz, EV.wix, EV.wblt, EV.wtru, EV.wisi, EV.frz, EV.mkOwn, L2.atI, L2.ixN, List.map, List.length_cons, List.length_nil, List.replicate, List.getElem?_cons_zero, List.getElem?_cons_succ, List.set_cons_zero, List.set_cons_succ, List.append_nil, List.cons_append, List.nil_append]
  -- k
  obtain ⟨w, T2, hw, k2, e2⟩ := tkI (d + 4) 3 I1.bag (by omega) (by omega)
  have I2 := I1.kn k2
  have a2 : ∃ (k : Nat) (T3 : EV.Sto), k < l.length ∧ Kn nb T2 T3 ∧ n_law_4b_2 (EV.Fn gG gP (d + 5)) [.fr scr, .fr (.loc nb), .fr (.loc ns), .fr (.loc nt), z4, .fr (.int j), .fr (.int j), z7, z8, z9, z10, z11, z12] T1 = .ok (.nx [.fr scr, .fr (.loc nb), .fr (.loc ns), .fr (.loc nt), z4, .fr (.int j), .fr (.int k), z7, z8, z9, z10, z11, z12]) T3 := by
    simp -implicitDefEqProofs at e2
    by_cases q : w = 0
    · subst q
      exact ⟨j, T2, hj, kn_refl I2.bag, by simp -implicitDefEqProofs [n_law_4b_2, n_law_4b_2t, n_law_4b_2t_0, EV.LIM, EV.str_lit, evr, EV.r_for, EV.r_rng1, EV.wbin, EV.wun, EV.wcmp, EV.vw, EV.vwz, EV.wix, EV.wblt, EV.wtru, EV.wisi, EV.frz, EV.mkOwn, L2.atI, L2.ixN, List.map, List.length_cons, List.length_nil, List.replicate, List.getElem?_cons_zero, List.getElem?_cons_succ, List.set_cons_zero, List.set_cons_succ, List.append_nil, List.cons_append, List.nil_append, e2]⟩
    · obtain ⟨k, T3, hk, k3, e3⟩ := tkI (d + 4) l.length I2.bag h0 (by omega)
      have q' : 0 < w := by omega
      exact ⟨k, T3, hk, k3, by simp -implicitDefEqProofs [n_law_4b_2, n_law_4b_2t, n_law_4b_2t_0, EV.LIM, EV.str_lit, evr, EV.r_for, EV.r_rng1, EV.wbin, EV.wun, EV.wcmp, EV.vw, EV.vwz, EV.wix, EV.wblt, EV.wtru, EV.wisi, EV.frz, EV.mkOwn, L2.atI, L2.ixN, List.map, List.length_cons, List.length_nil, List.replicate, List.getElem?_cons_zero, List.getElem?_cons_succ, List.set_cons_zero, List.set_cons_succ, List.append_nil, List.cons_append, List.nil_append, e2, q', I2.sp, lsp, e3]⟩
  obtain ⟨k, T3, hk, k3, a2⟩ := a2
  have I3 := I2.kn k3
  -- name
  obtain ⟨w, T4, hw, k4, e4⟩ := pkI (d + 3) [.str "mul", .str "add", .str "sub", .str "hull", .str "least", .str "greatest", .str "saturated", .str "point"] I3.bag (by simp) (by simp)
  have I4 := I3.kn k4
  obtain ⟨o, rfl⟩ : ∃ o : O8, w = .str o.nm := by
    simp only [List.mem_cons, List.not_mem_nil, or_false] at hw
    rcases hw with rfl | rfl | rfl | rfl | rfl | rfl | rfl | rfl
    · exact ⟨.mul, rfl⟩
    · exact ⟨.add, rfl⟩
    · exact ⟨.sub, rfl⟩
    · exact ⟨.hull, rfl⟩
    · exact ⟨.least, rfl⟩
    · exact ⟨.greatest, rfl⟩
    · exact ⟨.sat, rfl⟩
    · exact ⟨.point, rfl⟩
  have a3 : n_law_4b_3 (EV.Fn gG gP (d + 5)) [.fr scr, .fr (.loc nb), .fr (.loc ns), .fr (.loc nt), z4, .fr (.int j), .fr (.int k), z7, z8, z9, z10, z11, z12] T3 = .ok (.nx [.fr scr, .fr (.loc nb), .fr (.loc ns), .fr (.loc nt), z4, .fr (.int j), .fr (.int k), .fr (.str o.nm), z8, z9, z10, z11, z12]) T4 := by
    simp -implicitDefEqProofs [n_law_4b_3, EV.LIM, EV.str_lit, evr, EV.r_for, EV.r_rng1, EV.wbin, EV.wun, EV.wcmp, EV.vw, EV.vwz, EV.wix, EV.wblt, EV.wtru, EV.wisi, EV.frz, EV.mkOwn, L2.atI, L2.ixN, List.map, List.length_cons, List.length_nil, List.replicate, List.getElem?_cons_zero, List.getElem?_cons_succ, List.set_cons_zero, List.set_cons_succ, List.append_nil, List.cons_append, List.nil_append, e4]
  -- n
  obtain ⟨z, T5, hz, k5, e5⟩ := end_ex (d + 2) I4.bag
  have I5 := I4.kn k5
  have a4 : n_law_4b_4 (EV.Fn gG gP (d + 5)) [.fr scr, .fr (.loc nb), .fr (.loc ns), .fr (.loc nt), z4, .fr (.int j), .fr (.int k), .fr (.str o.nm), z8, z9, z10, z11, z12] T4 = .ok (.nx [.fr scr, .fr (.loc nb), .fr (.loc ns), .fr (.loc nt), z4, .fr (.int j), .fr (.int k), .fr (.str o.nm), .fr (.int z), z9, z10, z11, z12]) T5 := by
    simp -implicitDefEqProofs [n_law_4b_4, EV.LIM, EV.str_lit, evr, EV.r_for, EV.r_rng1, EV.wbin, EV.wun, EV.wcmp, EV.vw, EV.vwz, EV.wix, EV.wblt, EV.wtru, EV.wisi, EV.frz, EV.mkOwn, L2.atI, L2.ixN, List.map, List.length_cons, List.length_nil, List.replicate, List.getElem?_cons_zero, List.getElem?_cons_succ, List.set_cons_zero, List.set_cons_succ, List.append_nil, List.cons_append, List.nil_append, e5]
  -- the two
  obtain ⟨p1, p2, p3, p4⟩ := I5.std l[j] (List.getElem_mem hj)
  obtain ⟨q1, q2, q3, q4⟩ := I5.std l[k] (List.getElem_mem hk)
  obtain ⟨xs, T6, x1, x2, x3, k6, e6⟩ := some_ex (d + 3) I5.bag p2 p3 p4
  have I6 := I5.kn k6
  obtain ⟨ys, T7, y1, y2, y3, k7, e7⟩ := some_ex (d + 3) I6.bag q2 q3 q4
  have I7 := I6.kn k7
  have e8 := outs_ok (d + 3) o (n := z) x3 y3 x2 y2 T7
  have rx := rows_ext (k := o) (n := z) x1 y1
  have a5 : n_law_4b_5 (EV.Fn gG gP (d + 5)) [.fr scr, .fr (.loc nb), .fr (.loc ns), .fr (.loc nt), z4, .fr (.int j), .fr (.int k), .fr (.str o.nm), .fr (.int z), z9, z10, z11, z12] T5 = .ok (.nx [.fr scr, .fr (.loc nb), .fr (.loc ns), .fr (.loc nt), z4, .fr (.int j), .fr (.int k), .fr (.str o.nm), .fr (.int z), .fr (.lst (iW (rowsI o xs ys z))), z10, z11, z12]) T7 := by
    have i1 : ∀ σ : EV.Sls, σ[2]? = some (.fr (.loc ns)) → σ[5]? = some (.fr (.int j)) → EV.mIx (EV.mVarB 2) (EV.mVarB 5) σ T5 = .ok (prW l[j].2.1 l[j].2.2) T5 := fun σ h1 h2 => ix_loc (n := ns) (k := j) (by rw [EV.r_varB, h1]; rfl) (by rw [EV.r_varB, h2]; rfl) I5.sp (by unfold spW; rw [List.getElem?_map, List.getElem?_eq_getElem hj]; rfl)
    have i2 : ∀ σ : EV.Sls, σ[2]? = some (.fr (.loc ns)) → σ[6]? = some (.fr (.int k)) → EV.mIx (EV.mVarB 2) (EV.mVarB 6) σ T6 = .ok (prW l[k].2.1 l[k].2.2) T6 := fun σ h1 h2 => ix_loc (n := ns) (k := k) (by rw [EV.r_varB, h1]; rfl) (by rw [EV.r_varB, h2]; rfl) I6.sp (by unfold spW; rw [List.getElem?_map, List.getElem?_eq_getElem hk]; rfl)
    let σ : EV.Sls := [.fr scr, .fr (.loc nb), .fr (.loc ns), .fr (.loc nt), z4, .fr (.int j), .fr (.int k), .fr (.str o.nm), .fr (.int z), z9, z10, z11, z12]
    have s1 : EV.mCall (EV.Fn gG gP (d + 5)) "_law_some" (EV.mCons (EV.mVar 1) (EV.mCons (EV.mIx (EV.mVarB 2) (EV.mVarB 5)) EV.mNil)) [] σ T5 = .ok (.lst (iW xs)) T6 := by
      rw [EV.r_call, EV.r_cons, show EV.mVar 1 σ T5 = .ok (.loc nb) T5 from rfl, EV.r_ok, EV.r_consF, EV.r_cons, i1 σ rfl rfl, EV.r_ok, EV.r_consF]
      exact e6
    have s2 : EV.mCall (EV.Fn gG gP (d + 5)) "_law_some" (EV.mCons (EV.mVar 1) (EV.mCons (EV.mIx (EV.mVarB 2) (EV.mVarB 6)) EV.mNil)) [] σ T6 = .ok (.lst (iW ys)) T7 := by
      rw [EV.r_call, EV.r_cons, show EV.mVar 1 σ T6 = .ok (.loc nb) T6 from rfl, EV.r_ok, EV.r_consF, EV.r_cons, i2 σ rfl rfl, EV.r_ok, EV.r_consF]
      exact e7
    unfold n_law_4b_5
    rw [EV.r_frz]
    have fr : EV.frz σ [7, 1, 1, 8] = σ := rfl
    show EV.sSet 9 _ (EV.frz σ [7, 1, 1, 8]) T5 = _
    rw [fr, EV.r_set, EV.r_call, EV.r_cons, show EV.mVar 7 σ T5 = .ok (.str o.nm) T5 from rfl, EV.r_ok, EV.r_consF, EV.r_cons, s1, EV.r_ok, EV.r_consF, EV.r_cons, s2, EV.r_ok, EV.r_consF]
    show (EV.Res.bind (EV.Fn gG gP (d + 5) "_law_outcomes" [.str o.nm, .lst (iW xs), .lst (iW ys), .int z] T7) _) = _
    rw [e8]
    rfl
  -- due
  have hne : iW (rowsI o xs ys z) ≠ [] := by unfold iW; intro h; exact ext_ne rx (List.map_eq_nil_iff.mp h)
  have wi : ∀ r : List Int, EV.wints (iW r) = some r := fun r => by
    induction r with
    | nil => rfl
    | cons a r ih => unfold iW at ih ⊢; rw [List.map_cons, EV.wints, ih]; rfl
  have mn := ext_min rx
  generalize hq : newI o l[j].2.1 l[j].2.2 l[k].2.1 l[k].2.2 z = nw at *
  have a6 : n_law_4b_6 (EV.Fn gG gP (d + 5)) [.fr scr, .fr (.loc nb), .fr (.loc ns), .fr (.loc nt), z4, .fr (.int j), .fr (.int k), .fr (.str o.nm), .fr (.int z), .fr (.lst (iW (rowsI o xs ys z))), z10, z11, z12] T7 = .ok (.nx [.fr scr, .fr (.loc nb), .fr (.loc ns), .fr (.loc nt), z4, .fr (.int j), .fr (.int k), .fr (.str o.nm), .fr (.int z), .fr (.lst (iW (rowsI o xs ys z))), .fr (prW nw.1 nw.2), z11, z12]) T7 := by
    have w1 : EV.wblt .min [.lst (iW (rowsI o xs ys z))] = some (.int nw.1) := by
      unfold EV.wblt
      simp only [wi]
      cases hr : rowsI o xs ys z with
      | nil => exact absurd hr (ext_ne rx)
      | cons a r => rw [hr] at mn; simp only [mn.1]
    have w2 : EV.wblt .max [.lst (iW (rowsI o xs ys z))] = some (.int nw.2) := by
      unfold EV.wblt
      simp only [wi]
      cases hr : rowsI o xs ys z with
      | nil => exact absurd hr (ext_ne rx)
      | cons a r => rw [hr] at mn; simp only [mn.2]
    let σ : EV.Sls := [.fr scr, .fr (.loc nb), .fr (.loc ns), .fr (.loc nt), z4, .fr (.int j), .fr (.int k), .fr (.str o.nm), .fr (.int z), .fr (.lst (iW (rowsI o xs ys z))), z10, z11, z12]
    have b1 : EV.mBlt .min (EV.mCons (EV.mVarB 9) EV.mNil) σ T7 = .ok (.int nw.1) T7 := by
      show EV.olift (EV.wblt .min [.lst (iW (rowsI o xs ys z))]) T7 = _
      rw [w1]; rfl
    have b2 : EV.mBlt .max (EV.mCons (EV.mVarB 9) EV.mNil) σ T7 = .ok (.int nw.2) T7 := by
      show EV.olift (EV.wblt .max [.lst (iW (rowsI o xs ys z))]) T7 = _
      rw [w2]; rfl
    show EV.sSet 10 _ σ T7 = _
    rw [EV.r_set, EV.r_tup, EV.r_cons, b1, EV.r_ok, EV.r_consF, EV.r_cons, b2, EV.r_ok, EV.r_consF]
    rfl
  -- new
  obtain ⟨r1, _⟩ := I7.std l[j] (List.getElem_mem hj)
  obtain ⟨t1, _⟩ := I7.std l[k] (List.getElem_mem hk)
  have e9 := made_ok (d + 2) o (z := z) r1 t1 p3 p4 q3 q4
  have nsm := new_sm (k := o) p3 p4 q3 q4 hz
  rw [hq] at e9 nsm
  have kT := kn_app I7.bag [srO nw.1 nw.2]
  have I8 := I7.kn kT
  have gn : (T7 ++ [srO nw.1 nw.2])[T7.length]? = some (srO nw.1 nw.2) := get_last T7 _
  have a7 : n_law_4b_7 (EV.Fn gG gP (d + 5)) [.fr scr, .fr (.loc nb), .fr (.loc ns), .fr (.loc nt), z4, .fr (.int j), .fr (.int k), .fr (.str o.nm), .fr (.int z), .fr (.lst (iW (rowsI o xs ys z))), .fr (prW nw.1 nw.2), z11, z12] T7 = .ok (.nx [.fr scr, .fr (.loc nb), .fr (.loc ns), .fr (.loc nt), z4, .fr (.int j), .fr (.int k), .fr (.str o.nm), .fr (.int z), .fr (.lst (iW (rowsI o xs ys z))), .fr (prW nw.1 nw.2), .fr (.loc T7.length), z12]) (T7 ++ [srO nw.1 nw.2]) := by
    let σ : EV.Sls := [.fr scr, .fr (.loc nb), .fr (.loc ns), .fr (.loc nt), z4, .fr (.int j), .fr (.int k), .fr (.str o.nm), .fr (.int z), .fr (.lst (iW (rowsI o xs ys z))), .fr (prW nw.1 nw.2), z11, z12]
    have i1 : EV.mIx (EV.mVarB 3) (EV.mVarB 5) σ T7 = .ok (.loc l[j].1) T7 := ix_loc (n := nt) (k := j) rfl rfl I7.th (by unfold thW; rw [List.getElem?_map, List.getElem?_eq_getElem hj]; rfl)
    have i2 : EV.mIx (EV.mVarB 3) (EV.mVarB 6) σ T7 = .ok (.loc l[k].1) T7 := ix_loc (n := nt) (k := k) rfl rfl I7.th (by unfold thW; rw [List.getElem?_map, List.getElem?_eq_getElem hk]; rfl)
    show EV.sSet 11 _ (EV.frz σ [7, 8]) T7 = _
    rw [show EV.frz σ [7, 8] = σ from rfl, EV.r_set, EV.r_call, EV.r_cons, show EV.mVar 7 σ T7 = .ok (.str o.nm) T7 from rfl, EV.r_ok, EV.r_consF, EV.r_cons, i1, EV.r_ok, EV.r_consF, EV.r_cons, i2, EV.r_ok, EV.r_consF, EV.r_cons, show EV.mVar 8 σ T7 = .ok (.int z) T7 from rfl, EV.r_ok, EV.r_consF]
    show (EV.Res.bind (EV.Fn gG gP (d + 5) "_law_made" [.str o.nm, .loc l[j].1, .loc l[k].1, .int z] T7) _) = _
    rw [e9]
    rfl
  generalize hT : T7 ++ [srO nw.1 nw.2] = T8 at *
  generalize hL : T7.length = N at *
  have c1 := stands_ok (d + 1) gn
  have c2 := holds_ok (d + 1) gn z (rows := rowsI o xs ys z) fun r hr => rx.2.2 r hr
  have c3 := alike_ok d I8.std I8.th I8.sp gn (by omega)
  let σ : EV.Sls := [.fr scr, .fr (.loc nb), .fr (.loc ns), .fr (.loc nt), z4, .fr (.int j), .fr (.int k), .fr (.str o.nm), .fr (.int z), .fr (.lst (iW (rowsI o xs ys z))), .fr (prW nw.1 nw.2), .fr (.loc N), z12]
  have tr : ∀ T : EV.Sto, EV.wtru (EV.vw T (.bl true)) = some true := fun _ => rfl
  have a8 : n_law_4b_8 (EV.Fn gG gP (d + 5)) σ T8 = .ok (.nx σ) T8 := by
    show EV.sIf _ _ _ (EV.frz σ [11, 10, 11, 10, 9, 8]) T8 = _
    rw [show EV.frz σ [11, 10, 11, 10, 9, 8] = σ from rfl, EV.r_if, EV.r_or, EV.r_not, EV.r_tru]
    rw [show EV.mCall (EV.Fn gG gP (d + 5)) "_law_stands" (EV.mCons (EV.mVar 11) (EV.mCons (EV.mVar 10) EV.mNil)) [] σ T8 = .ok (.bl true) T8 from c1, EV.r_ok, EV.r_truF, tr, EV.r_some, EV.r_ok, EV.r_notF, EV.r_ok, show (!true) = false from rfl, EV.r_orN, EV.r_not, EV.r_tru]
    rw [show EV.mCall (EV.Fn gG gP (d + 5)) "_law_holds" (EV.mCons (EV.mVar 11) (EV.mCons (EV.mVar 10) (EV.mCons (EV.mVar 9) (EV.mCons (EV.mVar 8) EV.mNil)))) [] σ T8 = .ok (.bl true) T8 from c2]
    rfl
  have a9 : n_law_4b_9 (EV.Fn gG gP (d + 5)) σ T8 = .ok (.nx σ) T8 := by
    show EV.sIf _ _ _ (EV.frz σ [3, 2, 11, 10]) T8 = _
    rw [show EV.frz σ [3, 2, 11, 10] = σ from rfl, EV.r_if, EV.r_not, EV.r_tru]
    rw [show EV.mCall (EV.Fn gG gP (d + 5)) "_law_alike" (EV.mCons (EV.mVar 3) (EV.mCons (EV.mVar 2) (EV.mCons (EV.mVar 11) (EV.mCons (EV.mVar 10) EV.mNil)))) [] σ T8 = .ok (.bl true) T8 from c3]
    rfl
  have hns := (List.getElem?_eq_some_iff.mp I8.sp).1
  have hnt := (List.getElem?_eq_some_iff.mp I8.th).1
  have a10 : n_law_4b_10 (EV.Fn gG gP (d + 5)) σ T8 = .ok (.nx σ) (T8.set ns (.lst (spW l ++ [prW nw.1 nw.2]))) := by
    show EV.sMut _ (EV.frz σ [10]) T8 = _
    rw [show EV.frz σ [10] = σ from rfl, EV.r_mut, mut_loc (n := ns) (xs := spW l) (ys := spW l ++ [prW nw.1 nw.2]) (ws := [prW nw.1 nw.2]) (r := .non) (S1 := T8) rfl I8.sp rfl I8.sp (up_app T8 _ _ (by rw [lsp]; omega))]
    rfl
  have g2 : (T8.set ns (.lst (spW l ++ [prW nw.1 nw.2])))[nt]? = some (.lst (thW l)) := by rw [List.getElem?_set_ne I8.n3]; exact I8.th
  have a11 : n_law_4b_11 (EV.Fn gG gP (d + 5)) σ (T8.set ns (.lst (spW l ++ [prW nw.1 nw.2]))) = .ok (.nx σ) ((T8.set ns (.lst (spW l ++ [prW nw.1 nw.2]))).set nt (.lst (thW l ++ [.loc N]))) := by
    show EV.sMut _ (EV.frz σ [11]) _ = _
    rw [show EV.frz σ [11] = σ from rfl, EV.r_mut, mut_loc (n := nt) (xs := thW l) (ys := thW l ++ [.loc N]) (ws := [.loc N]) (r := .non) (S1 := T8.set ns (.lst (spW l ++ [prW nw.1 nw.2]))) rfl g2 rfl g2 (up_app _ _ _ (by rw [lth]; omega))]
    rfl
  refine ⟨.fr (.int j), .fr (.int k), .fr (.str o.nm), .fr (.int z), .fr (.lst (iW (rowsI o xs ys z))), .fr (prW nw.1 nw.2), .fr (.loc N), (N, nw.1, nw.2), (T8.set ns (.lst (spW l ++ [prW nw.1 nw.2]))).set nt (.lst (thW l ++ [.loc N])), ?_, ?_⟩
  · have keep : ∀ (x : Nat) (a b : Int), T8[x]? = some (srO a b) → ((T8.set ns (.lst (spW l ++ [prW nw.1 nw.2]))).set nt (.lst (thW l ++ [.loc N])))[x]? = some (srO a b) := fun x a b h => by
      rw [List.getElem?_set_ne (fun q => by have e := I8.th; rw [q, h] at e; unfold srO at e; cases e), List.getElem?_set_ne (fun q => by have e := I8.sp; rw [q, h] at e; unfold srO at e; cases e)]
      exact h
    obtain ⟨ob, b1, b2⟩ := I8.bag
    refine ⟨⟨ob, ?_, b2⟩, ?_, ?_, fun q hq => ?_, I8.n1, I8.n2, I8.n3⟩
    · rw [List.getElem?_set_ne I8.n2, List.getElem?_set_ne I8.n1]; exact b1
    · rw [List.getElem?_set_ne I8.n3.symm, List.getElem?_set_self hns]; unfold spW; simp
    · rw [List.getElem?_set_self (by simpa using hnt)]; unfold thW; simp
    · rcases List.mem_append.mp hq with hq | hq
      · obtain ⟨h1, h2⟩ := I8.std q hq
        exact ⟨keep _ _ _ h1, h2⟩
      · simp only [List.mem_cons, List.not_mem_nil, or_false] at hq
        subst hq
        exact ⟨keep _ _ _ gn, ext_le rx, nsm.1, nsm.2⟩
  · unfold n_law_4b
    rw [seq_step a0, seq_step a1, seq_step a2, seq_step a3, seq_step a4, seq_step a5, seq_step a6, seq_step a7, seq_step a8, seq_step a9, seq_step a10, a11]
/-! ### law k64, its end -/
def mkS : Nat → List (Int × Int) → List Sx
  | _, [] => []
  | N, p :: r => (N, p.1, p.2) :: mkS (N + 1) r
theorem mkS_len : ∀ (N : Nat) (l : List (Int × Int)), (mkS N l).length = l.length
  | _, [] => rfl
  | N, p :: r => by rw [mkS, List.length_cons, mkS_len, List.length_cons]
theorem mkS_at : ∀ (l : List (Int × Int)) (T R : EV.Sto) (q : Sx), q ∈ mkS T.length l → (T ++ (l.map fun p => srO p.1 p.2) ++ R)[q.1]? = some (srO q.2.1 q.2.2) ∧ (q.2.1, q.2.2) ∈ l
  | [], T, R, q, h => by cases h
  | p :: r, T, R, q, h => by
    rw [mkS] at h
    rcases List.mem_cons.mp h with rfl | h
    · refine ⟨?_, by simp⟩
      rw [List.append_assoc, List.getElem?_append_right (Nat.le_refl _), Nat.sub_self]
      rfl
    · have := mkS_at r (T ++ [srO p.1 p.2]) R q (by rw [List.length_append]; exact h)
      refine ⟨?_, List.mem_cons_of_mem _ this.2⟩
      rw [← this.1]
      simp
theorem spW_mk : ∀ (N : Nat) (l : List (Int × Int)), spW (mkS N l) = l.map fun p => prW p.1 p.2
  | _, [] => rfl
  | N, p :: r => by
    have := spW_mk (N + 1) r
    unfold spW at this ⊢
    rw [mkS, List.map_cons, this]
    rfl
theorem things_ok (d : Nat) (rest : List EV.Sl) {z0 z1 z2 z3 z4 z5 z6 z7 z8 z9 z10 z11 z12 : EV.Sl} : ∀ (l : List (Int × Int)) (T : EV.Sto), EV.lcL (EV.bName 12) EV.mYes (n_law_2_c0 (EV.Fn gG gP (d + 1))) [z0, z1, z2, z3, z4, z5, z6, z7, z8, z9, z10, z11, z12] (l.map fun p => prW p.1 p.2) T = .ok (thW (mkS T.length l)) (T ++ l.map fun p => srO p.1 p.2)
  | [], T => by rw [List.map_nil, List.map_nil, List.append_nil]; rfl
  | p :: r, T => by
    have ih := things_ok d rest (z0 := z0) (z1 := z1) (z2 := z2) (z3 := z3) (z4 := z4) (z5 := z5) (z6 := z6) (z7 := z7) (z8 := z8) (z9 := z9) (z10 := z10) (z11 := z11) (z12 := z12) r (T ++ [srO p.1 p.2])
    have e : n_law_2_c0 (EV.Fn gG gP (d + 1)) [z0, z1, z2, z3, z4, z5, z6, z7, z8, z9, z10, z11, .fr (prW p.1 p.2)] T = .ok (.loc T.length) (T ++ [srO p.1 p.2]) := by
      unfold n_law_2_c0
      refine make_ok d (S1 := T) ?_
      unfold prW
      simp -implicitDefEqProofs [EV.LIM, EV.str_lit, evr, EV.r_for, EV.r_rng1, EV.wbin, EV.wun, EV.wcmp, EV.vw, EV.vwz, EV.wix, EV.wblt, EV.wtru, EV.wisi, EV.frz, EV.mkOwn, L2.atI, L2.ixN, List.map, List.length_cons, List.length_nil, List.replicate, List.getElem?_cons_zero, List.getElem?_cons_succ, List.set_cons_zero, List.set_cons_succ, List.append_nil, List.cons_append, List.nil_append]
    rw [List.map_cons, EV.q_lcC, EV.r_bname, EV.r_ok]
    show (EV.Res.bind (.ok true T) _) = _
    rw [EV.r_ok, if_pos rfl]
    show (EV.Res.bind (n_law_2_c0 (EV.Fn gG gP (d + 1)) [z0, z1, z2, z3, z4, z5, z6, z7, z8, z9, z10, z11, .fr (prW p.1 p.2)] T) _) = _
    rw [e, EV.r_ok, ih, List.length_append, List.append_assoc]
    rfl
theorem loop_ex (d : Nat) {nb ns nt : Nat} (scr : EV.W) (z12 : EV.Sl) : ∀ (js : List Nat) (S : EV.Sto) (l : List Sx) (z4 z5 z6 z7 z8 z9 z10 z11 : EV.Sl), LSt S nb ns nt l → 0 < l.length → l.length + js.length ≤ 100 →
    ∃ (y4 y5 y6 y7 y8 y9 y10 y11 : EV.Sl) (l' : List Sx) (T : EV.Sto), LSt T nb ns nt l' ∧ l'.length ≤ 100 ∧ EV.forL (EV.bName 4) (n_law_4b (EV.Fn gG gP (d + 5))) (js.map fun i : Nat => .int (i : Nat)) [.fr scr, .fr (.loc nb), .fr (.loc ns), .fr (.loc nt), z4, z5, z6, z7, z8, z9, z10, z11, z12] S = .ok (.nx [.fr scr, .fr (.loc nb), .fr (.loc ns), .fr (.loc nt), y4, y5, y6, y7, y8, y9, y10, y11, z12]) T
  | [], S, l, z4, z5, z6, z7, z8, z9, z10, z11, I, h0, hl => ⟨z4, z5, z6, z7, z8, z9, z10, z11, l, S, I, by simpa using hl, rfl⟩
  | j :: js, S, l, z4, z5, z6, z7, z8, z9, z10, z11, I, h0, hl => by
    simp only [List.length_cons] at hl
    obtain ⟨y5, y6, y7, y8, y9, y10, y11, q, T1, I1, e1⟩ := turn_ex d scr I h0 (by omega) (.fr (.int j)) z5 z6 z7 z8 z9 z10 z11 z12
    obtain ⟨x4, x5, x6, x7, x8, x9, x10, x11, l', T, I', h', e2⟩ := loop_ex d scr z12 js T1 (l ++ [q]) (.fr (.int j)) y5 y6 y7 y8 y9 y10 y11 I1 (by simp) (by simp; omega)
    refine ⟨x4, x5, x6, x7, x8, x9, x10, x11, l', T, I', h', ?_⟩
    rw [List.map_cons, EV.r_forC, EV.r_bname, EV.r_ok, EV.r_forG]
    show (n_law_4b (EV.Fn gG gP (d + 5)) [.fr scr, .fr (.loc nb), .fr (.loc ns), .fr (.loc nt), .fr (.int j), z5, z6, z7, z8, z9, z10, z11, z12] S).bind _ = _
    rw [e1, EV.r_ok, EV.r_forHn, e2]
theorem last_ex (d : Nat) {nb ns nt : Nat} (scr : EV.W) {S : EV.Sto} {l : List Sx} (I : LSt S nb ns nt l) {z4 z5 z7 z8 z9 z10 z11 z12 : EV.Sl} : ∀ (js : List Nat) (z6 : EV.Sl), (∀ j ∈ js, j < l.length) →
    ∃ y6, EV.forL (EV.bName 6) (n_law_5b (EV.Fn gG gP (d + 4))) (js.map fun i : Nat => .int (i : Nat)) [.fr scr, .fr (.loc nb), .fr (.loc ns), .fr (.loc nt), z4, z5, z6, z7, z8, z9, z10, z11, z12] S = .ok (.nx [.fr scr, .fr (.loc nb), .fr (.loc ns), .fr (.loc nt), z4, z5, y6, z7, z8, z9, z10, z11, z12]) S
  | [], z6, _ => ⟨z6, rfl⟩
  | j :: js, z6, h => by
    have hj := h j (List.mem_cons_self ..)
    obtain ⟨y6, e⟩ := last_ex d scr I (z4 := z4) (z5 := z5) (z7 := z7) (z8 := z8) (z9 := z9) (z10 := z10) (z11 := z11) (z12 := z12) js (.fr (.int j)) fun i hi => h i (List.mem_cons_of_mem _ hi)
    refine ⟨y6, ?_⟩
    let σ : EV.Sls := [.fr scr, .fr (.loc nb), .fr (.loc ns), .fr (.loc nt), z4, z5, .fr (.int j), z7, z8, z9, z10, z11, z12]
    have i1 : EV.mIx (EV.mVarB 3) (EV.mVarB 6) σ S = .ok (.loc l[j].1) S := ix_loc (n := nt) (k := j) rfl rfl I.th (by unfold thW; rw [List.getElem?_map, List.getElem?_eq_getElem hj]; rfl)
    have i2 : EV.mIx (EV.mVarB 2) (EV.mVarB 6) σ S = .ok (prW l[j].2.1 l[j].2.2) S := ix_loc (n := ns) (k := j) rfl rfl I.sp (by unfold spW; rw [List.getElem?_map, List.getElem?_eq_getElem hj]; rfl)
    have c := stands_ok d (I.std l[j] (List.getElem_mem hj)).1
    have b : n_law_5b (EV.Fn gG gP (d + 4)) σ S = .ok (.nx σ) S := by
      unfold n_law_5b n_law_5b_0
      rw [EV.r_if, EV.r_not, EV.r_tru, EV.r_call, EV.r_cons, i1, EV.r_ok, EV.r_consF, EV.r_cons, i2, EV.r_ok, EV.r_consF]
      show (EV.Res.bind (EV.Res.bind (EV.Fn gG gP (d + 4) "_law_stands" [.loc l[j].1, prW l[j].2.1 l[j].2.2] S) _) _).bind _ = _
      rw [c]
      rfl
    rw [List.map_cons, EV.r_forC, EV.r_bname, EV.r_ok, EV.r_forG]
    show (n_law_5b (EV.Fn gG gP (d + 4)) σ S).bind _ = _
    rw [b, EV.r_ok, EV.r_forHn, e]
theorem law_pure (ns : List Int) (h : ns.length ≤ 63) : ∃ S', EV.Fn gG gP 60 "law" [.scr (ns.map EV.W.int)] [] = .ok (.bl true) S' := by
  rw [fe_law]
  show ∃ S', EV.runB (m_law (EV.Fn gG gP 59)) _ _ _ = _
  rw [ms_law]
  simp only [EV.r_run, List.map, List.length_cons, List.length_nil, List.replicate, Nat.sub_self, Nat.reduceAdd, Nat.reduceSub, List.cons_append, List.nil_append, List.append_nil, if_true]
  let scr : EV.W := .scr (ns.map EV.W.int)
  -- the first bag
  obtain ⟨o0, b0, e0⟩ := bag_ex 58 ns 0 []
  have B0 : BagAt 0 [o0] := ⟨o0, rfl, b0⟩
  have a0 : n_law_0 (EV.Fn gG gP 59) [.fr scr, .emp, .emp, .emp, .emp, .emp, .emp, .emp, .emp, .emp, .emp, .emp, .emp] [] = .ok (.nx [.fr scr, .fr (.loc 0), .emp, .emp, .emp, .emp, .emp, .emp, .emp, .emp, .emp, .emp, .emp]) [o0] := by
    show (EV.Res.bind (EV.Fn gG gP 59 "_law_bag" [scr, .int (0 : Nat)] []) _) = _
    rw [e0]
    rfl
  -- the spans
  obtain ⟨w, T1, hw, k1, e1⟩ := tkI 58 3 B0 (by omega) (by omega)
  obtain ⟨l, T2, hl, hP, B2, e2⟩ := lc_inv (i := 6) (me := n_law_1_c0 (EV.Fn gG gP 59)) (σ := [.fr scr, .fr (.loc 0), .emp, .emp, .emp, .emp, .emp, .emp, .emp, .emp, .emp, .emp, .emp]) (I := BagAt 0) (P := fun p : Int × Int => p.1 ≤ p.2 ∧ Sm p.1 ∧ Sm p.2) (f := fun p => prW p.1 p.2) (fun w T hb => by
    obtain ⟨a, b, T', h1, h2, h3, k, e⟩ := span_ex 55 hb
    refine ⟨(a, b), T', ⟨h1, h2, h3⟩, k.1, ?_⟩
    show EV.Fn gG gP 59 "_law_span" [.loc 0] T = _
    exact e) ((List.range (w + 2)).map fun i : Nat => EV.W.int (i : Nat)) T1 k1.1
  have hl2 : l.length = w + 2 := by simpa using hl
  have rg : EV.mRng1 (EV.mBin .Add (EV.mC (.int 2)) (EV.mCall (EV.Fn gG gP 59) "_law_take" (EV.mCons (EV.mVar 1) (EV.mCons (EV.mC (.int 3)) EV.mNil)) [])) [.fr scr, .fr (.loc 0), .emp, .emp, .emp, .emp, .emp, .emp, .emp, .emp, .emp, .emp, .emp] [o0] = .ok ((List.range (w + 2)).map fun i : Nat => EV.W.int (i : Nat)) T1 := by
    have hi : EV.in62 (((w + 2 : Nat)) : Int) := in62_le (by omega) (by omega)
    have e : EV.mBin .Add (EV.mC (.int 2)) (EV.mCall (EV.Fn gG gP 59) "_law_take" (EV.mCons (EV.mVar 1) (EV.mCons (EV.mC (.int 3)) EV.mNil)) []) [.fr scr, .fr (.loc 0), .emp, .emp, .emp, .emp, .emp, .emp, .emp, .emp, .emp, .emp, .emp] [o0] = .ok (.int ((w + 2 : Nat) : Int)) T1 := by
      show (EV.Res.bind (EV.Fn gG gP 59 "_law_take" [.loc 0, .int (3 : Nat)] [o0]) _) = _
      rw [e1]
      show EV.Res.ok (EV.W.int (2 + (w : Int))) T1 = _
      rw [show 2 + (w : Int) = ((w + 2 : Nat) : Int) by omega]
    rw [EV.r_rng1, e, EV.r_ok, EV.r_rng1F hi, Int.toNat_natCast, rng_nat]
  have a1 : n_law_1 (EV.Fn gG gP 59) [.fr scr, .fr (.loc 0), .emp, .emp, .emp, .emp, .emp, .emp, .emp, .emp, .emp, .emp, .emp] [o0] = .ok (.nx [.fr scr, .fr (.loc 0), .fr (.loc T2.length), .emp, .emp, .emp, .emp, .emp, .emp, .emp, .emp, .emp, .emp]) (T2 ++ [.lst (l.map fun p => prW p.1 p.2)]) := by
    unfold n_law_1
    rw [EV.r_frz]
    show EV.sSet 2 _ [.fr scr, .fr (.loc 0), .emp, .emp, .emp, .emp, .emp, .emp, .emp, .emp, .emp, .emp, .emp] _ = _
    rw [EV.r_set, EV.r_loc, EV.r_lc, rg, EV.r_ok, EV.r_lcF, if_pos ⟨by simp [EV.LIM]; omega, rfl⟩]
    show ((EV.Res.bind (EV.lcL (EV.bName 6) EV.mYes (n_law_1_c0 (EV.Fn gG gP 59)) [.fr scr, .fr (.loc 0), .emp, .emp, .emp, .emp, .emp, .emp, .emp, .emp, .emp, .emp, .emp] _ T1) _).bind _).bind _ = _
    rw [e2]
    rfl
  -- the things
  let T3 := T2 ++ [EV.Ob.lst (l.map fun p => prW p.1 p.2)]
  let Tf := T2 ++ [EV.Ob.frz (l.map fun p => prW p.1 p.2)]
  let R := l.map fun p : Int × Int => srO p.1 p.2
  have g3 : T3[T2.length]? = some (.lst (l.map fun p => prW p.1 p.2)) := get_last T2 _
  have s3 : T3.set T2.length (.frz (l.map fun p => prW p.1 p.2)) = Tf := set_lst T2 _ _
  have e3 := things_ok 58 [] (z0 := .fr scr) (z1 := .fr (.loc 0)) (z2 := .fr (.loc T2.length)) (z3 := .emp) (z4 := .emp) (z5 := .emp) (z6 := .emp) (z7 := .emp) (z8 := .emp) (z9 := .emp) (z10 := .emp) (z11 := .emp) (z12 := .emp) l Tf
  have gf : Tf[T2.length]? = some (.frz (l.map fun p => prW p.1 p.2)) := get_last T2 _
  have hTf : Tf.length = T2.length + 1 := by simp [Tf]
  have hT3 : T3.length = T2.length + 1 := by simp [T3]
  have gf2 : (Tf ++ R)[T2.length]? = some (.frz (l.map fun p => prW p.1 p.2)) := by rw [List.getElem?_append_left (by omega)]; exact gf
  have sf2 : (Tf ++ R).set T2.length (.lst (l.map fun p => prW p.1 p.2)) = T3 ++ R := by
    rw [List.set_append_left _ _ (by omega)]
    rw [show Tf.set T2.length (.lst (l.map fun p => prW p.1 p.2)) = T3 from set_lst T2 _ _]
  have a2 : n_law_2 (EV.Fn gG gP 59) [.fr scr, .fr (.loc 0), .fr (.loc T2.length), .emp, .emp, .emp, .emp, .emp, .emp, .emp, .emp, .emp, .emp] T3 = .ok (.nx [.fr scr, .fr (.loc 0), .fr (.loc T2.length), .fr (.loc (T3 ++ R).length), .emp, .emp, .emp, .emp, .emp, .emp, .emp, .emp, .emp]) (T3 ++ R ++ [.lst (thW (mkS Tf.length l))]) := by
    unfold n_law_2
    rw [EV.r_frz]
    let σ : EV.Sls := [.fr scr, .fr (.loc 0), .fr (.loc T2.length), .emp, .emp, .emp, .emp, .emp, .emp, .emp, .emp, .emp, .emp]
    have lk : EV.mLockE 2 (EV.mLc (EV.mIt (EV.mVar 2)) (EV.bName 12) EV.mYes (n_law_2_c0 (EV.Fn gG gP 59)) [12]) σ T3 = .ok (.lst (thW (mkS Tf.length l))) (T3 ++ R) := by
      unfold EV.mLockE
      show (match T3[T2.length]? with
        | some (.lst xs) => _
        | _ => _) = _
      rw [g3]
      show (EV.Res.bind (EV.mLc _ _ _ _ _ σ (T3.set T2.length (.frz (l.map fun p => prW p.1 p.2)))) _) = _
      rw [s3, EV.r_lc]
      have it : EV.mIt (EV.mVar 2) σ Tf = .ok (l.map fun p => prW p.1 p.2) Tf := by
        unfold EV.mIt
        show (EV.Res.bind (.ok (EV.W.loc T2.length) Tf) _) = _
        rw [EV.r_ok]
        show (match Tf[T2.length]? with
          | some (.frz xs) => _
          | _ => _) = _
        rw [gf]
      rw [it, EV.r_ok, EV.r_lcF, if_pos ⟨by simp [EV.LIM]; omega, rfl⟩]
      show (EV.Res.bind (EV.Res.bind (EV.lcL (EV.bName 12) EV.mYes (n_law_2_c0 (EV.Fn gG gP 59)) [.fr scr, .fr (.loc 0), .fr (.loc T2.length), .emp, .emp, .emp, .emp, .emp, .emp, .emp, .emp, .emp, .emp] (l.map fun p => prW p.1 p.2) Tf) _) _) = _
      rw [e3, EV.r_ok]
      show (match (Tf ++ R)[T2.length]? with
        | some (.frz _) => _
        | _ => _) = _
      rw [gf2]
      show EV.Res.ok _ ((Tf ++ R).set T2.length (.lst (l.map fun p => prW p.1 p.2))) = _
      rw [sf2]
    show EV.sSet 3 _ σ T3 = _
    rw [EV.r_set, EV.r_loc, lk]
    rfl
  -- the second bag
  let T4 := T3 ++ R ++ [EV.Ob.lst (thW (mkS Tf.length l))]
  obtain ⟨o1, b1, e4⟩ := bag_ex 58 ns 1 T4
  have a3 : n_law_3 (EV.Fn gG gP 59) [.fr scr, .fr (.loc 0), .fr (.loc T2.length), .fr (.loc (T3 ++ R).length), .emp, .emp, .emp, .emp, .emp, .emp, .emp, .emp, .emp] T4 = .ok (.nx [.fr scr, .fr (.loc T4.length), .fr (.loc T2.length), .fr (.loc (T3 ++ R).length), .emp, .emp, .emp, .emp, .emp, .emp, .emp, .emp, .emp]) (T4 ++ [o1]) := by
    show (EV.Res.bind (EV.Fn gG gP 59 "_law_bag" [scr, .int (1 : Nat)] T4) _) = _
    rw [e4]
    rfl
  have hT4 : T4.length = T2.length + 1 + l.length + 1 := by simp [T4, R, T3]; omega
  have hTR : (T3 ++ R).length = T2.length + 1 + l.length := by simp [R, T3]; omega
  have I : LSt (T4 ++ [o1]) T4.length T2.length (T3 ++ R).length (mkS Tf.length l) := by
    refine ⟨⟨o1, get_last T4 o1, b1⟩, ?_, ?_, fun q hq => ?_, by omega, by omega, by omega⟩
    · rw [spW_mk, List.getElem?_append_left (by omega)]
      show (T3 ++ R ++ [EV.Ob.lst (thW (mkS Tf.length l))])[T2.length]? = _
      rw [List.getElem?_append_left (by omega), List.getElem?_append_left (by omega)]
      exact g3
    · rw [List.getElem?_append_left (by omega)]
      exact get_last (T3 ++ R) _
    · have hq' : q ∈ mkS T3.length l := by rw [hT3, ← hTf]; exact hq
      obtain ⟨h1, h2⟩ := mkS_at l T3 ([EV.Ob.lst (thW (mkS Tf.length l))] ++ [o1]) q hq'
      refine ⟨?_, hP _ h2⟩
      rw [← h1]
      show (T3 ++ R ++ [EV.Ob.lst (thW (mkS Tf.length l))] ++ [o1])[q.1]? = (T3 ++ R ++ ([EV.Ob.lst (thW (mkS Tf.length l))] ++ [o1]))[q.1]?
      rw [List.append_assoc (T3 ++ R)]
  -- the turns
  obtain ⟨v, T5, hv, k5, e5⟩ := tkI 58 12 I.bag (by omega) (by omega)
  have I5 := I.kn k5
  obtain ⟨y4, y5, y6, y7, y8, y9, y10, y11, l', T6, I6, h6, e6⟩ := loop_ex 54 scr .emp (List.range (v + 1)) T5 (mkS Tf.length l) .emp .emp .emp .emp .emp .emp .emp .emp I5 (by rw [mkS_len]; omega) (by rw [mkS_len]; simp; omega)
  have a4 : n_law_4 (EV.Fn gG gP 59) [.fr scr, .fr (.loc T4.length), .fr (.loc T2.length), .fr (.loc (T3 ++ R).length), .emp, .emp, .emp, .emp, .emp, .emp, .emp, .emp, .emp] (T4 ++ [o1]) = .ok (.nx [.fr scr, .fr (.loc T4.length), .fr (.loc T2.length), .fr (.loc (T3 ++ R).length), y4, y5, y6, y7, y8, y9, y10, y11, .emp]) T6 := by
    unfold n_law_4
    rw [EV.r_frz]
    show EV.sFor _ _ _ [.fr scr, .fr (.loc T4.length), .fr (.loc T2.length), .fr (.loc (T3 ++ R).length), .emp, .emp, .emp, .emp, .emp, .emp, .emp, .emp, .emp] _ = _
    have hi : EV.in62 (((v + 1 : Nat)) : Int) := in62_le (by omega) (by omega)
    have e : EV.mBin .Add (EV.mC (.int 1)) (EV.mCall (EV.Fn gG gP 59) "_law_take" (EV.mCons (EV.mVar 1) (EV.mCons (EV.mC (.int 12)) EV.mNil)) []) [.fr scr, .fr (.loc T4.length), .fr (.loc T2.length), .fr (.loc (T3 ++ R).length), .emp, .emp, .emp, .emp, .emp, .emp, .emp, .emp, .emp] (T4 ++ [o1]) = .ok (.int ((v + 1 : Nat) : Int)) T5 := by
      show (EV.Res.bind (EV.Fn gG gP 59 "_law_take" [.loc T4.length, .int (12 : Nat)] (T4 ++ [o1])) _) = _
      rw [e5]
      show EV.Res.ok (EV.W.int (1 + (v : Int))) T5 = _
      rw [show 1 + (v : Int) = ((v + 1 : Nat) : Int) by omega]
    rw [EV.r_for, EV.r_rng1, e, EV.r_ok, EV.r_rng1F hi, Int.toNat_natCast, rng_nat, EV.r_ok, EV.r_forF]
    exact e6
  -- the end
  obtain ⟨x6, e7⟩ := last_ex 55 scr I6 (z4 := y4) (z5 := y5) (z7 := y7) (z8 := y8) (z9 := y9) (z10 := y10) (z11 := y11) (z12 := .emp) (List.range l'.length) y6 fun j hj => List.mem_range.mp hj
  have lsp : (spW l').length = l'.length := by unfold spW; simp
  have a5 : n_law_5 (EV.Fn gG gP 59) [.fr scr, .fr (.loc T4.length), .fr (.loc T2.length), .fr (.loc (T3 ++ R).length), y4, y5, y6, y7, y8, y9, y10, y11, .emp] T6 = .ok (.nx [.fr scr, .fr (.loc T4.length), .fr (.loc T2.length), .fr (.loc (T3 ++ R).length), y4, y5, x6, y7, y8, y9, y10, y11, .emp]) T6 := by
    unfold n_law_5
    have rg : EV.mRng1 (EV.mBlt .len (EV.mCons (EV.mVarB 2) EV.mNil)) [.fr scr, .fr (.loc T4.length), .fr (.loc T2.length), .fr (.loc (T3 ++ R).length), y4, y5, y6, y7, y8, y9, y10, y11, .emp] T6 = .ok ((List.range l'.length).map fun i : Nat => .int (i : Nat)) T6 := by
      refine rng_i ?_ (by omega)
      have := I6.sp
      simp -implicitDefEqProofs [EV.LIM, EV.str_lit, evr, EV.r_for, EV.r_rng1, EV.wbin, EV.wun, EV.wcmp, EV.vw, EV.vwz, EV.wix, EV.wblt, EV.wtru, EV.wisi, EV.frz, EV.mkOwn, L2.atI, L2.ixN, List.map, List.length_cons, List.length_nil, List.replicate, List.getElem?_cons_zero, List.getElem?_cons_succ, List.set_cons_zero, List.set_cons_succ, List.append_nil, List.cons_append, List.nil_append, this, lsp]
    rw [EV.r_for, rg, EV.r_ok, EV.r_forF]
    exact e7
  refine ⟨T6, ?_⟩
  show (EV.sSeq (n_law_0 (EV.Fn gG gP 59)) _ [.fr scr, .emp, .emp, .emp, .emp, .emp, .emp, .emp, .emp, .emp, .emp, .emp, .emp] []).bind EV.runF = _
  rw [seq_step a0, seq_step a1, seq_step a2, seq_step a3, seq_step a4, seq_step a5]
  rfl

end R
theorem PySem.Challenge.cw_rungstead_k64_stretches_holds : PySem.Challenge.rw_rungstead_k64_stretches.Holds :=
  R.headT R.law_pure
#print axioms PySem.Challenge.cw_rungstead_k64_stretches_holds
