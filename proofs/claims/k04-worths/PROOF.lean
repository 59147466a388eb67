import PyProof.Rows.All
import Wide.All
import OpenK.AllK
import Wide.FinOn
import HandS.ForMost
import HandS.Flow
import HandS.TupAny
import HandS.TupMul
import HandS.IsInst
import HandS.FStr
import HandS.Conv
import KE.SortData
import HandS.Deep
import KE.KDictList
import KE.GoesMore
import HandS.Comp
import HandS.ListItems
import HandS.Small
import HandS.Exc
import HandS.Defaults
import HandS.HeadHook1
import HandS.HeadHook2
import KE.KStateDown
import HandS.Ends
import HandS.Head0
import HandS.Head1
import HandS.Head2
import HandS.HeadEnd
import PySem.Challenge.RW_knownguards_k04_whole_worths_made_and_to
import HandS.List
import KE.LtData
import Open.Row
set_option Elab.async false
set_option linter.all false
set_option maxRecDepth 100000
set_option maxHeartbeats 0
/-! PvCore: a small Python of my own. Values with tuples as plain data, a store of lists, dicts, instances; an AST with slots; its evaluator. -/
namespace Kg
open PySem

inductive PV where
  | non | bl (b : Bool) | int (i : Int) | str (x : Str) | tup (xs : List PV) | tuk (xs : List PV) | ref (n : Nat) | rol (xs : List PV)
  deriving Inhabited

inductive Ob where
  | lst (xs : List PV)
  | dK (kvs : List (L2.Key × PV))
  | dT (kvs : List (List L2.Key × PV))
  | ins (c : Nat) (fs : List (Str × PV))
  deriving Inhabited

abbrev Sto := List Ob
abbrev En := List (Option PV)
abbrev R (α : Type) := Option (α × Sto)

/-- operators, comparisons, built-ins, methods -/
inductive Bop where | add | sub | mul | fdiv | mod | pow
  deriving DecidableEq
inductive Cop where | eq | ne | lt | le | gt | ge | isin | notin
  deriving DecidableEq
inductive Bi where | len | int | abs | list | tuple | sorted | sum | all | any | min | max | str
  deriving DecidableEq
inductive Me where | append | extend | pop | count | index | values | join | get | setdefault
  deriving DecidableEq
inductive Ty where | int | bool | str | list | tuple | dict
  deriving DecidableEq
inductive ItK where | seq | range | enum | rev | zip | values
  deriving DecidableEq

inductive Tg where | nm (i : Nat) | tu (ts : List Tg)

inductive E where
  | var (i : Nat) | cst (c : PV)
  | bin (o : Bop) (a b : E) | neg (a : E)
  | cmp (o : Cop) (a b : E) | isn (n : Bool) (a : E) | isb (n b : Bool) (a : E)
  | and (a b : E) | or (a b : E) | not (a : E) | ife (t a b : E)
  | tup (es : List E) | lst (es : List E) | star (a : E)
  | ix (a b : E) | sli (a : E) (lo hi : List E)
  | call (f : Nat) (es : List E) | bi (b : Bi) (es : List E) | met (m : Me) (a : E) (es : List E)
  | isi (a : E) (ts : List Ty)
  | comp (elt : E) (g : Tg) (k : ItK) (its : List E) (cond : List E) (own : List Nat)
  | fstr (es : List E)
  | dict0 (t : Bool) | lvals (a : E)

inductive S where
  | asg (g : Tg) (e : E) | setix (a i e : E) | aug (i : Nat) (o : Bop) (e : E)
  | expr (e : E) | ret (e : E) | retN
  | ifs (t : E) (a b : List S) | fr (g : Tg) (k : ItK) (its : List E) (body : List S) | whl (t : E) (body : List S)
  | pass | brk | cont

/-! ### operations by values -/
mutual
/-- the plain data that a value is -/
def dD : PV → PyData
  | .non => .none | .bl b => .bool b | .int i => .int i | .str x => .str x
  | .tup xs => .tuple (dDs xs)
  | .tuk xs => .tuple (dDs xs)
  | .ref _ => .none
  | .rol _ => .none
def dDs : List PV → List PyData
  | [] => []
  | x :: xs => dD x :: dDs xs
end
mutual
/-- .. if it is: no list or object within -/
def okD : PV → Bool
  | .non => true | .bl _ => true | .int _ => true | .str x => PyData.strOk x
  | .tup xs => okDs xs
  | .tuk xs => okDs xs
  | .ref _ => false
  | .rol _ => false
def okDs : List PV → Bool
  | [] => true
  | x :: xs => okD x && okDs xs
end
def dLim : Nat := 1500

def sqOf (st : Sto) : PV → Option (List PV)
  | .tup xs => some xs
  | .tuk xs => some xs
  | .rol xs => some xs
  | .ref n => match st[n]? with | some (.lst xs) => some xs | _ => none
  | _ => none

def bop (o : Bop) (x y : PV) (st : Sto) : R PV := match o, x, y with
  | .add, .int i, .int j => some (.int (i + j), st)
  | .sub, .int i, .int j => some (.int (i - j), st)
  | .mul, .int i, .int j => if (-(2 ^ 64) < i ∧ i < 2 ^ 64) ∨ (-(2 ^ 64) < j ∧ j < 2 ^ 64) then some (.int (i * j), st) else none
  | .fdiv, .int i, .int j => if 0 < j ∧ j < 1073741824 then some (.int (i / j), st) else none
  | .mod, .int i, .int j => if 0 < j then some (.int (i % j), st) else none
  | .pow, .int i, .int j => if 0 ≤ j ∧ j ≤ 1000000 ∧ i.natAbs < 2 ^ 64 then some (.int (i ^ j.toNat), st) else none
  | .add, .tup xs, .tup ys => if xs.length + ys.length ≤ sizeLine then some (.tup (xs ++ ys), st) else none
  | .add, .ref a, .ref b => match st[a]?, st[b]? with
    | some (.lst xs), some (.lst ys) => if xs.length + ys.length ≤ sizeLine then some (.ref st.length, st ++ [.lst (xs ++ ys)]) else none
    | _, _ => none
  | .mul, .ref a, .int k => match st[a]? with
    | some (.lst xs) => if -(2 ^ 63) ≤ k ∧ k < 2 ^ 63 ∧ xs.length * k.toNat ≤ sizeLine then some (.ref st.length, st ++ [.lst (List.replicate k.toNat xs).flatten]) else none
    | _ => none
  | .mul, .tup xs, .int k => if -1000 ≤ k ∧ k ≤ 1000 ∧ xs.length ≤ 1000 then some (.tup (List.replicate k.toNat xs).flatten, st) else none
  | .add, .str x, .str y => if x.length + y.length ≤ sizeLine then some (.str (x ++ y), st) else none
  | _, _, _ => none

/-- data for ==, a list of data too -/
def topD (st : Sto) (x : PV) : Option PyData := match x with
  | .ref n => match st[n]? with
    | some (.lst xs) => if okDs xs = true then some (.list (dDs xs)) else none
    | _ => none
  | .rol xs => if okDs xs = true then some (.list (dDs xs)) else none
  | x => if okD x = true then some (dD x) else none
def eqV (st : Sto) (x y : PV) : Option Bool := match topD st x with
  | none => none
  | some d => match topD st y with
    | none => none
    | some e => if min d.depth e.depth ≤ dLim then some (PyData.eqv d e) else none
def inD (x : PV) (ys : List PV) : Option Bool :=
  if okD x = true ∧ okDs ys = true ∧ min (PyData.depthAll (dDs ys)) (dD x).depth ≤ dLim then some ((dDs ys).any fun e => PyData.eqv e (dD x)) else none

def keyOf : PV → Option L2.Key
  | .int i => some (.inl i) | .str x => some (.inr x) | _ => none
def keysOf : List PV → Option (List L2.Key)
  | [] => some []
  | x :: xs => match keyOf x, keysOf xs with | some k, some ks => some (k :: ks) | _, _ => none

/-- what a dict holds at a key -/
def dget (o : Ob) (k : PV) : Option (Option PV) := match o, k with
  | .dK kvs, k => (keyOf k).map fun q => (kvs.find? fun p => decide (p.1 = q)).map (·.2)
  | .dT kvs, .tuk ks => (keysOf ks).map fun q => (kvs.find? fun p => decide (p.1 = q)).map (·.2)
  | _, _ => none
def putP {κ : Type} [DecidableEq κ] (kvs : List (κ × PV)) (k : κ) (v : PV) : List (κ × PV) :=
  if kvs.any (fun p => decide (p.1 = k)) then kvs.map fun p => if p.1 = k then (p.1, v) else p else kvs ++ [(k, v)]
def dput (o : Ob) (k v : PV) : Option Ob := match o, k with
  | .dK kvs, k => match keyOf k with
    | some q => if kvs.length < sizeLine then some (.dK (putP kvs q v)) else none
    | none => none
  | .dT kvs, .tuk ks => match keysOf ks with
    | some q => if kvs.length < sizeLine then some (.dT (putP kvs q v)) else none
    | none => none
  | _, _ => none

def memV (x y : PV) (st : Sto) : Option Bool := match y with
  | .ref n => match st[n]? with
    | some (.lst ys) => inD x ys
    | some o => (dget o x).map Option.isSome
    | none => none
  | .tup ys => inD x ys
  | _ => none

def cop (o : Cop) (x y : PV) (st : Sto) : Option Bool := match o, x, y with
  | .eq, x, y => eqV st x y
  | .ne, x, y => (eqV st x y).map (!·)
  | .lt, .int i, .int j => some (decide (i < j))
  | .le, .int i, .int j => some (decide (i ≤ j))
  | .gt, .int i, .int j => some (decide (j < i))
  | .ge, .int i, .int j => some (decide (j ≤ i))
  | .isin, x, y => memV x y st
  | .notin, x, y => (memV x y st).map (!·)
  | _, _, _ => none

def tru (x : PV) (st : Sto) : Option Bool := match x with
  | .non => some false
  | .bl b => some b
  | .int i => some (i != 0)
  | .str y => if y.length ≤ sizeLine then some ((y.length : Int) != 0) else none
  | .tup xs => some (!xs.isEmpty)
  | .tuk xs => some (!xs.isEmpty)
  | .ref n => match st[n]? with
    | some (.lst xs) => some (!xs.isEmpty) | some (.dK kvs) => some (!kvs.isEmpty) | _ => none
  | .rol xs => some (!xs.isEmpty)

def ixV (x i : PV) (st : Sto) : Option PV := match sqOf st x with
  | some xs => (match i with | .int i => L2.atI xs i | _ => none)
  | none => match x with
    | .ref n => (match st[n]? with
      | some o => (match dget o i with | some (some v) => some v | _ => none)
      | none => none)
    | _ => none
def sxI (x : List PV) : Option (Option Int) := match x with
  | [] => some none | [.int i] => some (some i) | _ => none
def cutP (xs : List PV) (lo hi : Option Int) : List PV := (xs.drop (HT.sIx xs.length 0 lo)).take (HT.sIx xs.length xs.length hi - HT.sIx xs.length 0 lo)
def slV (x : PV) (lo hi : Option Int) (st : Sto) : R PV := match x with
  | .tup xs => some (.tup (cutP xs lo hi), st)
  | .ref n => match st[n]? with
    | some (.lst xs) => some (.ref st.length, st ++ [.lst (cutP xs lo hi)])
    | _ => none
  | .rol xs => some (.ref st.length, st ++ [.lst (cutP xs lo hi)])
  | _ => none
def setV (x i v : PV) (st : Sto) : Option Sto := match x with
  | .ref n => match st[n]?, i with
    | some (.lst xs), .int i => (L2.ixN xs.length i).map fun j => st.set n (.lst (xs.set j v))
    | some o, k => (dput o k v).map fun o' => st.set n o'
    | none, _ => none
  | _ => none

def tyIs (x : PV) (st : Sto) (t : Ty) : Option Bool := match x, t with
  | .non, _ => some false
  | .bl _, .bool => some true | .bl _, .int => some true | .bl _, _ => some false
  | .int _, .int => some true | .int _, _ => some false
  | .str _, .str => some true | .str _, _ => some false
  | .tup _, .tuple => some true | .tup _, _ => some false
  | .tuk _, .tuple => some true | .tuk _, _ => some false
  | .ref n, t => match st[n]?, t with
    | some (.lst _), .list => some true | some (.lst _), _ => some false
    | some (.dK _), .dict => some true | some (.dK _), _ => some false
    | some (.dT _), .dict => some true | some (.dT _), _ => some false
    | _, _ => none
  | .rol _, .list => some true | .rol _, _ => some false
def tyAny (x : PV) (st : Sto) : List Ty → Option Bool
  | [] => some false
  | t :: ts => match tyIs x st t with | some true => some true | some false => tyAny x st ts | none => none

def intsP : List PV → Option (List Int)
  | [] => some []
  | .int i :: r => (intsP r).map (i :: ·)
  | _ => none
def boolsP : List PV → Option (List Bool)
  | [] => some []
  | .bl b :: r => (boolsP r).map (b :: ·)
  | _ => none
def strsP : List PV → Option (List Str)
  | [] => some []
  | .str b :: r => (strsP r).map (b :: ·)
  | _ => none

/-- sorted: by data, places alike -/
def leP (a b : PV) : Bool := !PySem.W.dataLt (dD b) (dD a)
def srt (xs : List PV) : List PV := xs.mergeSort leP
def sortableD : PyData → Bool | .tuple (_ :: _) => true | _ => false
def sortableO : PyData → Bool | .tuple _ => false | .none => false | _ => true
/-- what may be sorted -/
def srtOk (xs : List PV) : Prop := okDs xs = true ∧ (∀ a ∈ xs, ∀ b ∈ xs, PySem.W.alike (dD a) (dD b) = true) ∧ ((∀ a ∈ xs, sortableD (dD a) = true) ∨ ∀ a ∈ xs, sortableO (dD a) = true) ∧ (∀ a ∈ xs, (dD a).depth ≤ dLim) ∧ xs.length ≤ sizeLine
noncomputable instance (xs : List PV) : Decidable (srtOk xs) := Classical.propDecidable _

noncomputable def biV (b : Bi) (xs : List PV) (st : Sto) : R PV := match b, xs with
  | .len, [x] => match sqOf st x, x with
    | some ys, _ => some (.int ys.length, st)
    | none, .str y => if y.length ≤ sizeLine then some (.int y.length, st) else none
    | none, .ref n => match st[n]? with | some (.dK kvs) => some (.int kvs.length, st) | _ => none
    | _, _ => none
  | .int, [.int i] => some (.int i, st)
  | .int, [.bl k] => some (.int (if k then 1 else 0), st)
  | .abs, [.int i] => some (.int (if i < 0 then -i else i), st)
  | .list, [x] => match sqOf st x with | some ys => some (.ref st.length, st ++ [.lst ys]) | none => none
  | .tuple, [x] => match x with | .tuk _ => none | _ => match sqOf st x with | some ys => some (.tup ys, st) | none => none
  | .sorted, [x] => match sqOf st x with
    | some ys => if srtOk ys then some (.ref st.length, st ++ [.lst (srt ys)]) else none
    | none => none
  | .sum, [.ref n] => match st[n]? with | some (.lst ys) => (intsP ys).map fun ns => (.int ns.sum, st) | _ => none
  | .all, [.ref n] => match st[n]? with | some (.lst ys) => (boolsP ys).map fun bs => (.bl (bs.all id), st) | _ => none
  | .any, [.ref n] => match st[n]? with | some (.lst ys) => (boolsP ys).map fun bs => (.bl (bs.any id), st) | _ => none
  | .min, [.int i, .int j] => some (.int (if j < i then j else i), st)
  | .max, [.int i, .int j] => some (.int (if j > i then j else i), st)
  | .str, [.int i] => if i.natAbs.log2 < 1920 then some (.str (toString i), st) else none
  | _, _ => none

def isL (st : Sto) (n : Nat) : Bool := match st[n]? with | some (.lst _) => true | _ => false
def isDc (st : Sto) (n : Nat) : Bool := match st[n]? with | some (.dK _) => true | some (.dT _) => true | _ => false
/-- the receiver's kind, before the arguments -/
def kindM (m : Me) (x : PV) (st : Sto) : Bool := match m, x with
  | .join, .str _ => true
  | .count, .tup _ => true
  | .count, .rol _ => true
  | .count, .ref n => isL st n
  | .append, .ref n => isL st n
  | .extend, .ref n => isL st n
  | .pop, .ref n => isL st n
  | .get, .ref n => isDc st n
  | _, _ => false
def meV (m : Me) (x : PV) (xs : List PV) (st : Sto) : R PV := match m, x, xs with
  | .append, .ref n, [y] => match st[n]? with
    | some (.lst ys) => if ys.length < sizeLine then some (.non, st.set n (.lst (ys ++ [y]))) else none
    | _ => none
  | .extend, .ref n, [.ref m] => match st[n]?, st[m]? with
    | some (.lst ys), some (.lst zs) => if ys.length + zs.length ≤ sizeLine then some (.non, st.set n (.lst (ys ++ zs))) else none
    | _, _ => none
  | .extend, .ref n, [.tup zs] => match st[n]? with
    | some (.lst ys) => if ys.length + zs.length ≤ sizeLine then some (.non, st.set n (.lst (ys ++ zs))) else none
    | _ => none
  | .pop, .ref n, [] => match st[n]? with
    | some (.lst ys) => match ys[ys.length - 1]? with | some y => some (y, st.set n (.lst ys.dropLast)) | none => none
    | _ => none
  | .count, x, [y] => match sqOf st x with
    | some ys => if okD y = true ∧ okDs ys = true ∧ min (PyData.depthAll (dDs ys)) (dD y).depth ≤ dLim then some (.int ((dDs ys).countP fun e => PyData.eqv e (dD y)), st) else none
    | _ => none
  | .join, .str s, [.ref n] => match st[n]? with
    | some (.lst ys) => match strsP ys with
      | some ts => if (ts.map (·.length)).sum + ts.length * s.length ≤ 16777216 then some (.str (Str.join s ts), st) else none
      | none => none
    | _ => none
  | .get, .ref n, [k] => match st[n]? with
    | some o => (dget o k).map fun r => (r.getD .non, st)
    | none => none
  | .get, .ref n, [k, d] => match st[n]? with
    | some o => (dget o k).map fun r => (r.getD d, st)
    | none => none
  | _, _, _ => none

/-! ### walks -/
structure Iter where
  items : List PV
  chk : Option (Nat × Ob)
def itOk (c : Option (Nat × Ob)) (st : Sto) : Prop := match c with | none => True | some (n, o) => st[n]? = some o
instance : DecidableEq L2.Key := inferInstanceAs (DecidableEq (Sum Int Str))

def rangeI (lo hi : Int) : List PV := (List.range (hi - lo).toNat).map fun k => .int (lo + (k : Nat))
def enumI (xs : List PV) : List PV := xs.zipIdx.map fun p => .tuk [.int (p.2 : Nat), p.1]
def zipI (xs ys : List PV) : List PV := (xs.zip ys).map fun p => .tuk [p.1, p.2]
def sqC (st : Sto) : PV → Option (List PV × Option (Nat × Ob))
  | .tup xs => some (xs, none)
  | .tuk xs => some (xs, none)
  | .rol xs => some (xs, none)
  | .ref n => match st[n]? with | some (.lst xs) => some (xs, some (n, .lst xs)) | _ => none
  | _ => none
def iterV (k : ItK) (vs : List PV) (st : Sto) : Option Iter := match k, vs with
  | .seq, [x] => (sqC st x).map fun p => ⟨p.1, p.2⟩
  | .range, [.int j] => if -(2 ^ 62) ≤ j ∧ j < 2 ^ 62 then some ⟨rangeI 0 j, none⟩ else none
  | .range, [.int i, .int j] => if -(2 ^ 62) ≤ i ∧ i < 2 ^ 62 ∧ -(2 ^ 62) ≤ j ∧ j < 2 ^ 62 then some ⟨rangeI i j, none⟩ else none
  | .enum, [x] => (sqC st x).map fun p => ⟨enumI p.1, p.2⟩
  | _, _ => none

mutual
def bindT : Tg → PV → En → Option En
  | .nm i, x, env => some (env.set i (some x))
  | .tu ts, x, env => match x with | .tup xs => bindTs ts xs env | .tuk xs => bindTs ts xs env | _ => none
def bindTs : List Tg → List PV → En → Option En
  | [], [], env => some env
  | t :: ts, x :: xs, env => match bindT t x env with | some e => bindTs ts xs e | none => none
  | _, _, _ => none
end

inductive Fl where | nx | rt (v : PV) | bk | ct
/-- a statement's end: the flow, the names, the store -/
abbrev RS_ := Option (Fl × En × Sto)

/-- the store's check of an iterator, as a Bool by cases -/
def chkB (c : Option (Nat × Ob)) (st : Sto) : Prop := itOk c st
noncomputable instance (c : Option (Nat × Ob)) (st : Sto) : Decidable (itOk c st) := Classical.propDecidable _

noncomputable def compL (c : Option (Nat × Ob)) (g : Tg) (cond : En → Sto → R Bool) (elt : En → Sto → R PV) (env : En) : List PV → List PV → Sto → R (List PV)
  | [], acc, st => if itOk c st then some (acc, st) else none
  | x :: xs, acc, st => if itOk c st then
      match bindT g x env with
      | none => none
      | some env' => match cond env' st with
        | none => none
        | some (false, st1) => compL c g cond elt env xs acc st1
        | some (true, st1) => match elt env' st1 with
          | none => none
          | some (y, st2) => if acc.length < sizeLine then compL c g cond elt env xs (acc ++ [y]) st2 else none
    else none

noncomputable def forL (c : Option (Nat × Ob)) (g : Tg) (body : En → Sto → RS_) : List PV → En → Sto → RS_
  | [], env, st => if itOk c st then some (.nx, env, st) else none
  | x :: xs, env, st => if itOk c st then
      match bindT g x env with
      | none => none
      | some env' => match body env' st with
        | none => none
        | some (.nx, e1, s1) => forL c g body xs e1 s1
        | some (.ct, e1, s1) => forL c g body xs e1 s1
        | some (.bk, e1, s1) => some (.nx, e1, s1)
        | some (.rt v, e1, s1) => some (.rt v, e1, s1)
    else none

def whileL (t : En → Sto → R Bool) (body : En → Sto → RS_) : Nat → En → Sto → RS_
  | 0, _, _ => none
  | n + 1, env, st => match t env st with
    | none => none
    | some (false, s1) => some (.nx, env, s1)
    | some (true, s1) => match body env s1 with
      | none => none
      | some (.nx, e2, s2) => whileL t body n e2 s2
      | some (.ct, e2, s2) => whileL t body n e2 s2
      | some (.bk, e2, s2) => some (.nx, e2, s2)
      | some (.rt v, e2, s2) => some (.rt v, e2, s2)

def wipeE (env : En) : List Nat → En
  | [] => env
  | i :: r => (wipeE env r).set i none

abbrev CF := Nat → List PV → Sto → R PV

/-- f-string parts -/
def fmtV : PV → Option Str
  | .str y => if y.length ≤ sizeLine then some y else none
  | .int i => if i.natAbs.log2 < 1920 then some (toString i) else none
  | _ => none
def joinF : List Str → Str → Option Str
  | [], acc => some acc
  | x :: xs, acc => if (acc ++ x).length ≤ sizeLine then joinF xs (acc ++ x) else none

abbrev VF := En → Sto → R PV
abbrev TF := En → Sto → R Bool
/-- a value's truth, as a test -/
def tstOf (v : VF) : TF := fun env st => match v env st with
  | none => none
  | some (x, s1) => match tru x s1 with | none => none | some k => some (k, s1)
def isStar : E → Bool | .star _ => true | _ => false
def spl (b : Bool) (x : PV) : List PV := if b then (match x with | .tup ys => ys | _ => []) else [x]
/-- the tests of a comprehension: none or one -/
def condOf : List TF → TF
  | [], _, st => some (true, st)
  | [t], env, st => t env st
  | _, _, _ => none

section
variable (cf : CF)
def vBin (o : Bop) (a b : VF) : VF := fun env st => match a env st with
    | none => none
    | some (x, s1) => match b env s1 with | none => none | some (y, s2) => bop o x y s2
def vNeg (a : VF) : VF := fun env st => match a env st with | some (.int i, s1) => some (.int (-i), s1) | _ => none
def vCmp (o : Cop) (a b : VF) : VF := fun env st => match a env st with
    | none => none
    | some (x, s1) => match b env s1 with
      | none => none
      | some (y, s2) => match cop o x y s2 with | none => none | some k => some (.bl k, s2)
def isNon : PV → Bool | .non => true | _ => false
def vIsn (n : Bool) (a : VF) : VF := fun env st => match a env st with | none => none | some (x, s1) => some (.bl (isNon x != n), s1)
def isBl (b : Bool) : PV → Bool | .bl k => k == b | _ => false
def vIsb (n b : Bool) (a : VF) : VF := fun env st => match a env st with | none => none | some (x, s1) => some (.bl (isBl b x != n), s1)
def vAnd (a b : VF) : VF := fun env st => match a env st with
    | none => none
    | some (x, s1) => match tru x s1 with | none => none | some true => b env s1 | some false => some (x, s1)
def vOr (a b : VF) : VF := fun env st => match a env st with
    | none => none
    | some (x, s1) => match tru x s1 with | none => none | some false => b env s1 | some true => some (x, s1)
def vNot (a : VF) : VF := fun env st => match a env st with
    | none => none
    | some (x, s1) => match tru x s1 with | none => none | some k => some (.bl (!k), s1)
def vIfe (t : TF) (a b : VF) : VF := fun env st => match t env st with | none => none | some (true, s1) => a env s1 | some (false, s1) => b env s1
def vTup (es : En → Sto → R (List PV)) : VF := fun env st => match es env st with | none => none | some (xs, s1) => if xs.length ≤ sizeLine then some (.tup xs, s1) else none
def vLst (es : En → Sto → R (List PV)) : VF := fun env st => match es env st with | none => none | some (xs, s1) => if xs.length ≤ sizeLine then some (.ref s1.length, s1 ++ [.lst xs]) else none
def vStar (a : VF) : VF := fun env st => match a env st with
    | none => none
    | some (x, s1) => match sqOf s1 x with | none => none | some ys => some (.tup ys, s1)
def vIx (a b : VF) : VF := fun env st => match a env st with
    | none => none
    | some (x, s1) => match b env s1 with
      | none => none
      | some (y, s2) => match ixV x y s2 with | none => none | some v => some (v, s2)
def vSli (a : VF) (lo hi : En → Sto → R (List PV)) : VF := fun env st => match a env st with
    | none => none
    | some (x, s1) => match lo env s1 with
      | none => none
      | some (l, s2) => match hi env s2 with
        | none => none
        | some (h, s3) => match sxI l with
          | none => none
          | some l' => match sxI h with | none => none | some h' => slV x l' h' s3
def vCall (f : Nat) (es : En → Sto → R (List PV)) : VF := fun env st => match es env st with | none => none | some (xs, s1) => cf f xs s1
noncomputable def vBi (b : Bi) (es : En → Sto → R (List PV)) : VF := fun env st => match es env st with | none => none | some (xs, s1) => biV b xs s1
def vMet (m : Me) (a : VF) (es : En → Sto → R (List PV)) : VF := fun env st => match a env st with
    | none => none
    | some (x, s1) => if kindM m x s1 = true then (match es env s1 with | none => none | some (xs, s2) => meV m x xs s2) else none
def vIsi (a : VF) (ts : List Ty) : VF := fun env st => match a env st with
    | none => none
    | some (x, s1) => match tyAny x s1 ts with | none => none | some k => some (.bl k, s1)
noncomputable def vComp (elt : VF) (g : Tg) (k : ItK) (its : En → Sto → R (List PV)) (cond : TF) (own : List Nat) : VF := fun env st => match its env st with
    | none => none
    | some (vs, s1) => match iterV k vs s1 with
      | none => none
      | some it => match compL it.chk g cond elt (wipeE env own) it.items [] s1 with
        | none => none
        | some (ys, s2) => some (.ref s2.length, s2 ++ [.lst ys])
def fmtAll : List PV → Option (List Str)
  | [] => some []
  | x :: xs => match fmtV x with | none => none | some t => match fmtAll xs with | none => none | some ts => some (t :: ts)
def vFstr (es : En → Sto → R (List PV)) : VF := fun env st => match es env st with
    | none => none
    | some (xs, s1) => match fmtAll xs with
      | none => none
      | some ts => match joinF ts Str.empty with | none => none | some t => some (.str t, s1)
def vDict0 (t : Bool) : VF := fun _ st => some (.ref st.length, st ++ [if t then .dT [] else .dK []])
def vLvals (a : VF) : VF := fun env st => match a env st with
  | some (.ref n, s1) => match s1[n]? with
    | some (.dK kvs) => some (.ref s1.length, s1 ++ [.lst (kvs.map (·.2))])
    | _ => none
  | _ => none
def vNil : En → Sto → R (List PV) := fun _ st => some ([], st)
def vCons (b : Bool) (e : VF) (es : En → Sto → R (List PV)) : En → Sto → R (List PV) := fun env st => match e env st with
    | none => none
    | some (x, s1) => match es env s1 with | none => none | some (xs, s2) => some (spl b x ++ xs, s2)
def tNot (t : TF) : TF := fun env st => match t env st with | none => none | some (k, s1) => some (!k, s1)
def tAnd (a b : TF) : TF := fun env st => match a env st with | none => none | some (true, s1) => b env s1 | some (false, s1) => some (false, s1)
def tOr (a b : TF) : TF := fun env st => match a env st with | none => none | some (false, s1) => b env s1 | some (true, s1) => some (true, s1)
def pr (v : VF) : VF × TF := (v, tstOf v)

mutual
noncomputable def evX : E → VF × TF
  | .var i => pr fun env st => match env[i]? with | some (some v) => some (v, st) | _ => none
  | .cst c => pr fun _ st => some (c, st)
  | .bin o a b => pr (vBin o (evX a).1 (evX b).1)
  | .neg a => pr (vNeg (evX a).1)
  | .cmp o a b => pr (vCmp o (evX a).1 (evX b).1)
  | .isn n a => pr (vIsn n (evX a).1)
  | .isb n b a => pr (vIsb n b (evX a).1)
  | .and a b => (vAnd (evX a).1 (evX b).1, tAnd (evX a).2 (evX b).2)
  | .or a b => (vOr (evX a).1 (evX b).1, tOr (evX a).2 (evX b).2)
  | .not a => (vNot (evX a).1, tNot (evX a).2)
  | .ife t a b => pr (vIfe (evX t).2 (evX a).1 (evX b).1)
  | .tup es => pr (vTup (evs es))
  | .lst es => pr (vLst (evs es))
  | .star a => pr (vStar (evX a).1)
  | .ix a b => pr (vIx (evX a).1 (evX b).1)
  | .sli a lo hi => pr (vSli (evX a).1 (evs lo) (evs hi))
  | .call f es => pr (vCall cf f (evs es))
  | .bi b es => pr (vBi b (evs es))
  | .met m a es => pr (vMet m (evX a).1 (evs es))
  | .isi a ts => pr (vIsi (evX a).1 ts)
  | .comp elt g k its cond own => pr (vComp (evX elt).1 g k (evs its) (condOf (evt cond)) own)
  | .fstr es => pr (vFstr (evs es))
  | .dict0 t => pr (vDict0 t)
  | .lvals a => pr (vLvals (evX a).1)
noncomputable def evs : List E → En → Sto → R (List PV)
  | [] => vNil
  | e :: es => vCons (isStar e) (evX e).1 (evs es)
noncomputable def evt : List E → List TF
  | [] => []
  | e :: es => (evX e).2 :: evt es
end
noncomputable abbrev evE (e : E) : VF := (evX cf e).1
noncomputable abbrev evT (e : E) : TF := (evX cf e).2

/-! ### statements -/
abbrev SF := En → Sto → RS_
def sNext : SF := fun env st => some (.nx, env, st)
def sSeq (a b : SF) : SF := fun env st => match a env st with
  | none => none
  | some (.nx, e1, s1) => b e1 s1
  | some r => some r
def sAsg (g : Tg) (v : VF) : SF := fun env st => match v env st with
  | none => none
  | some (x, s1) => match bindT g x env with | none => none | some e1 => some (.nx, e1, s1)
def sSet (a i v : VF) : SF := fun env st => match v env st with
  | none => none
  | some (x, s1) => match a env s1 with
    | none => none
    | some (o, s2) => match i env s2 with
      | none => none
      | some (k, s3) => match setV o k x s3 with | none => none | some s4 => some (.nx, env, s4)
def sAug (i : Nat) (o : Bop) (v : VF) : SF := fun env st => match env[i]? with
  | some (some x) => match v env st with
    | none => none
    | some (y, s1) => match x, y, o with
      | .int a, .int b, .add => some (.nx, env.set i (some (.int (a + b))), s1)
      | .int a, .int b, .sub => some (.nx, env.set i (some (.int (a - b))), s1)
      | _, _, _ => none
  | _ => none
def sExpr (v : VF) : SF := fun env st => match v env st with | none => none | some (_, s1) => some (.nx, env, s1)
def sRet (v : VF) : SF := fun env st => match v env st with | none => none | some (x, s1) => some (.rt x, env, s1)
def sIf (t : TF) (a b : SF) : SF := fun env st => match t env st with | none => none | some (true, s1) => a env s1 | some (false, s1) => b env s1
noncomputable def sFor (g : Tg) (k : ItK) (its : En → Sto → R (List PV)) (body : SF) : SF := fun env st => match its env st with
  | none => none
  | some (vs, s1) => match iterV k vs s1 with
    | none => none
    | some it => forL it.chk g body it.items env s1
open Classical in
noncomputable def sWhl (t : TF) (body : SF) : SF := fun env st => if h : ∃ n, (whileL t body n env st).isSome = true then whileL t body (Classical.choose h) env st else none

mutual
noncomputable def exS : S → SF
  | .asg g e => sAsg g (evX cf e).1
  | .setix a i e => sSet (evX cf a).1 (evX cf i).1 (evX cf e).1
  | .aug i o e => sAug i o (evX cf e).1
  | .expr e => sExpr (evX cf e).1
  | .ret e => sRet (evX cf e).1
  | .retN => fun env st => some (.rt .non, env, st)
  | .ifs t a b => sIf (evX cf t).2 (exSs a) (exSs b)
  | .fr g k its body => sFor g k (evs cf its) (exSs body)
  | .whl t body => sWhl (evX cf t).2 (exSs body)
  | .pass => sNext
  | .brk => fun env st => some (.bk, env, st)
  | .cont => fun env st => some (.ct, env, st)
noncomputable def exSs : List S → SF
  | [] => sNext
  | s :: r => sSeq (exS s) (exSs r)
end
end

/-- a def: how many names, how many of them parameters, the body -/
structure Def where
  names : Nat
  params : Nat
  body : List S

def startE (names : Nat) (xs : List PV) : En := xs.map some ++ List.replicate (names - xs.length) none
/-- a call, n deep at most -/
noncomputable def callF (P : List Def) : Nat → CF
  | 0 => fun _ _ _ => none
  | n + 1 => fun f xs st => match P[f]? with
    | none => none
    | some d => if xs.length = d.params then
        match exSs (callF P n) d.body (startE d.names xs) st with
        | some (.nx, _, s1) => some (.non, s1)
        | some (.rt v, _, s1) => some (v, s1)
        | _ => none
      else none
end Kg
/-! PvRel: how my values and stores stand for the hand layer's. -/
namespace Kg
open PySem PySem.Spec PyProof.Rows L2

/-- a list that is read only: the script -/
def Ro (K : PySem.W.Frag) (H : Hp) (a : Addr) (xs : List V) : Prop :=
  (∃ o, H a = some (.frz o (.lst xs))) ∨
    ∃ (o : Obj) (its : Array Value) (n : Nat), K.lookup a = some o ∧ o.cls = .type "list" ∧ o.dict = none ∧ o.data = .seq its n ∧ its.size ≤ sizeLine ∧ Vals xs its.toList
theorem Ro.sql {K : PySem.W.Frag} {H : Hp} {a : Addr} {xs : List V} (h : Ro K H a xs) : SqL K H a xs := by
  rcases h with ⟨o, h⟩ | h
  · exact .inl (.inr ⟨o, h⟩)
  · exact .inr h
theorem Ro.keep {K : PySem.W.Frag} {H H' : Hp} {a : Addr} {vs : List V} (h : Ro K H a vs) (k : ∀ b o u, H b = some (.frz o u) → H' b = some (.frz o u)) : Ro K H' a vs := by
  rcases h with ⟨o, h⟩ | h
  · exact .inl ⟨o, k _ _ _ h⟩
  · exact .inr h

theorem sqt_frz {K : PySem.W.Frag} {H : Hp} {a : Addr} {vs : List V} {o : Obj} (h : H a = some (.frz o (.tup vs))) : SqT K H a vs := .inl (.inr ⟨_, h⟩)

section
variable (K : PySem.W.Frag) (ρ : List Addr) (H : Hp)
mutual
inductive RV : PV → V → Prop
  | non : RV .non .non
  | bl (b : Bool) : RV (.bl b) (.bl b)
  | int (i : Int) : RV (.int i) (.int i)
  | str (x : Str) : RV (.str x) (.str x)
  | tup {xs : List PV} {a : Addr} {vs : List V} {o : Obj} (h : H a = some (.frz o (.tup vs))) (hd : o.dict = none) (r : RVs xs vs) : RV (.tup xs) (.ref a)
  | tuk {xs : List PV} {a : Addr} {vs : List V} (h : H a = some (.tup vs)) (r : RVs xs vs) : RV (.tuk xs) (.ref a)
  | ref {n : Nat} {a : Addr} (h : ρ[n]? = some a) : RV (.ref n) (.ref a)
  | rol {xs : List PV} {a : Addr} {vs : List V} (h : Ro K H a vs) (r : RVs xs vs) : RV (.rol xs) (.ref a)
inductive RVs : List PV → List V → Prop
  | nil : RVs [] []
  | cons {x : PV} {xs : List PV} {v : V} {vs : List V} (h : RV x v) (r : RVs xs vs) : RVs (x :: xs) (v :: vs)
end
end

/-- what values lean on stays -/
structure Mon (ρ : List Addr) (H : Hp) (ρ' : List Addr) (H' : Hp) : Prop where
  pre : ∀ (n : Nat) (a : Addr), ρ[n]? = some a → ρ'[n]? = some a
  tup : ∀ (a : Addr) (vs : List V), H a = some (.tup vs) → H' a = some (.tup vs)
  frz : ∀ (a : Addr) (o : Obj) (u : HO), H a = some (.frz o u) → H' a = some (.frz o u)
/-- .. and all that is tracked outside of the store -/
structure Ext (ρ : List Addr) (H : Hp) (ρ' : List Addr) (H' : Hp) : Prop extends Mon ρ H ρ' H' where
  frm : ∀ (b : Addr) (u : HO), H b = some u → (∀ n : Nat, ρ[n]? ≠ some b) → H' b = some u ∧ ∀ n : Nat, ρ'[n]? ≠ some b

variable {K : PySem.W.Frag} {ρ ρ' ρ'' : List Addr} {H H' H'' : Hp}
theorem Mon.refl : Mon ρ H ρ H := ⟨fun _ _ h => h, fun _ _ h => h, fun _ _ _ h => h⟩
theorem Mon.trans (a : Mon ρ H ρ' H') (b : Mon ρ' H' ρ'' H'') : Mon ρ H ρ'' H'' := ⟨fun n x h => b.pre n x (a.pre n x h), fun n x h => b.tup n x (a.tup n x h), fun n x u h => b.frz n x u (a.frz n x u h)⟩
theorem Ext.refl : Ext ρ H ρ H := ⟨.refl, fun _ _ h k => ⟨h, k⟩⟩
theorem Ext.trans (a : Ext ρ H ρ' H') (b : Ext ρ' H' ρ'' H'') : Ext ρ H ρ'' H'' := ⟨a.toMon.trans b.toMon, fun c u h k => let ⟨h1, k1⟩ := a.frm c u h k; b.frm c u h1 k1⟩

theorem Mon.rd {a : Addr} {vs : List V} (e : Mon ρ H ρ' H') (h : Rd H a (.tup vs)) : Rd H' a (.tup vs) := h.elim (fun h => .inl (e.tup _ _ h)) fun ⟨o, h⟩ => .inr ⟨o, e.frz _ _ _ h⟩

mutual
theorem RV.mon (e : Mon ρ H ρ' H') : ∀ {x : PV} {v : V}, RV K ρ H x v → RV K ρ' H' x v
  | _, _, .non => .non
  | _, _, .bl b => .bl b
  | _, _, .int i => .int i
  | _, _, .str x => .str x
  | _, _, .tup h hd r => .tup (e.frz _ _ _ h) hd (RVs.mon e r)
  | _, _, .tuk h r => .tuk (e.tup _ _ h) (RVs.mon e r)
  | _, _, .ref h => .ref (e.pre _ _ h)
  | _, _, .rol h r => .rol (h.keep e.frz) (RVs.mon e r)
theorem RVs.mon (e : Mon ρ H ρ' H') : ∀ {x : List PV} {v : List V}, RVs K ρ H x v → RVs K ρ' H' x v
  | _, _, .nil => .nil
  | _, _, .cons h r => .cons (RV.mon e h) (RVs.mon e r)
end
theorem RV.mono {x : PV} {v : V} (r : RV K ρ H x v) (e : Ext ρ H ρ' H') : RV K ρ' H' x v := r.mon e.toMon
theorem RVs.mono {x : List PV} {v : List V} (r : RVs K ρ H x v) (e : Ext ρ H ρ' H') : RVs K ρ' H' x v := r.mon e.toMon

theorem RVs.length : ∀ {xs : List PV} {vs : List V}, RVs K ρ H xs vs → xs.length = vs.length
  | _, _, .nil => rfl
  | _, _, .cons _ r => by simp [RVs.length r]
theorem RVs.append : ∀ {xs ys : List PV} {vs ws : List V}, RVs K ρ H xs vs → RVs K ρ H ys ws → RVs K ρ H (xs ++ ys) (vs ++ ws)
  | _, _, _, _, .nil, s => s
  | _, _, _, _, .cons h r, s => .cons h (RVs.append r s)
theorem RVs.get : ∀ {xs : List PV} {vs : List V} {i : Nat} {x : PV}, RVs K ρ H xs vs → xs[i]? = some x → ∃ v, vs[i]? = some v ∧ RV K ρ H x v
  | _, _, i, _, .nil, e => by simp at e
  | _, _, 0, x, .cons h r, e => by simp at e; subst e; exact ⟨_, rfl, h⟩
  | _, _, i + 1, x, .cons h r, e => by
    obtain ⟨v, e1, h1⟩ := RVs.get (i := i) r (by simpa using e)
    exact ⟨v, by simpa using e1, h1⟩
theorem RVs.getR : ∀ {xs : List PV} {vs : List V} {i : Nat} {v : V}, RVs K ρ H xs vs → vs[i]? = some v → ∃ x, xs[i]? = some x ∧ RV K ρ H x v
  | _, _, i, _, .nil, e => by simp at e
  | _, _, 0, x, .cons h r, e => by simp at e; subst e; exact ⟨_, rfl, h⟩
  | _, _, i + 1, x, .cons h r, e => by
    obtain ⟨v, e1, h1⟩ := RVs.getR (i := i) r (by simpa using e)
    exact ⟨v, by simpa using e1, h1⟩
theorem RVs.set : ∀ {xs : List PV} {vs : List V} {x : PV} {v : V} (i : Nat), RVs K ρ H xs vs → RV K ρ H x v → RVs K ρ H (xs.set i x) (vs.set i v)
  | _, _, _, _, _, .nil, _ => .nil
  | _, _, _, _, 0, .cons _ r, h => .cons h r
  | _, _, _, _, i + 1, .cons q r, h => .cons q (RVs.set i r h)
theorem RVs.take : ∀ {xs : List PV} {vs : List V} (n : Nat), RVs K ρ H xs vs → RVs K ρ H (xs.take n) (vs.take n)
  | _, _, 0, _ => .nil
  | _, _, _ + 1, .nil => .nil
  | _, _, n + 1, .cons h r => .cons h (RVs.take n r)
theorem RVs.drop : ∀ {xs : List PV} {vs : List V} (n : Nat), RVs K ρ H xs vs → RVs K ρ H (xs.drop n) (vs.drop n)
  | _, _, 0, r => r
  | _, _, _ + 1, .nil => .nil
  | _, _, n + 1, .cons _ r => RVs.drop n r
theorem RVs.dropLast : ∀ {xs : List PV} {vs : List V}, RVs K ρ H xs vs → RVs K ρ H xs.dropLast vs.dropLast := fun {xs vs} r => by
  rw [List.dropLast_eq_take, List.dropLast_eq_take, ← r.length]
  exact RVs.take _ r
theorem RVs.rep {xs : List PV} {vs : List V} (r : RVs K ρ H xs vs) : ∀ k : Nat, RVs K ρ H (List.replicate k xs).flatten (List.replicate k vs).flatten
  | 0 => .nil
  | k + 1 => by
    rw [List.replicate_succ, List.replicate_succ, List.flatten_cons, List.flatten_cons]
    exact RVs.append r (RVs.rep r k)
theorem RVs.mem {xs : List PV} {vs : List V} (r : RVs K ρ H xs vs) {v : V} (h : v ∈ vs) : ∃ x ∈ xs, RV K ρ H x v := by
  obtain ⟨i, hi⟩ := List.getElem?_of_mem h
  obtain ⟨x, e, q⟩ := r.getR hi
  exact ⟨x, List.mem_of_getElem? e, q⟩

def RKv {κ : Type} (K : PySem.W.Frag) (ρ : List Addr) (H : Hp) : List (κ × PV) → List (κ × V) → Prop := Paired fun p q => p.1 = q.1 ∧ RV K ρ H p.2 q.2
/-- what a store's object is -/
def RO (K : PySem.W.Frag) (g : Nat → Addr) (ρ : List Addr) (H : Hp) (o : Ob) (a : Addr) : Prop := match o with
  | .lst xs => ∃ vs, H a = some (.lst vs) ∧ RVs K ρ H xs vs
  | .dK kvs => ∃ ks, H a = some (.dK ks) ∧ RKv K ρ H kvs ks
  | .dT kvs => ∃ ks, H a = some (.dT ks) ∧ RKv K ρ H kvs ks
  | .ins c fs => ∃ dx gs, H a = some (.ins (g c) dx gs) ∧ RKv K ρ H fs gs

theorem RKv.mon {κ : Type} (e : Mon ρ H ρ' H') {kvs : List (κ × PV)} {ks : List (κ × V)} (r : RKv K ρ H kvs ks) : RKv K ρ' H' kvs ks := Paired.mapP r fun _ _ h => ⟨h.1, h.2.mon e⟩
theorem RKv.mono {κ : Type} (e : Ext ρ H ρ' H') {kvs : List (κ × PV)} {ks : List (κ × V)} (r : RKv K ρ H kvs ks) : RKv K ρ' H' kvs ks := r.mon e.toMon

variable {g : Nat → Addr} {st : Sto} {o : Ob} {a : Addr}
/-- the object itself stays, all else it tells may grow -/
theorem RO.mono (h : RO K g ρ H o a) (e : Mon ρ H ρ' H') (k : H' a = H a) : RO K g ρ' H' o a := by
  cases o with
  | lst xs => obtain ⟨vs, h1, h2⟩ := h; exact ⟨vs, by rw [k]; exact h1, h2.mon e⟩
  | dK kvs => obtain ⟨ks, h1, h2⟩ := h; exact ⟨ks, by rw [k]; exact h1, h2.mon e⟩
  | dT kvs => obtain ⟨ks, h1, h2⟩ := h; exact ⟨ks, by rw [k]; exact h1, h2.mon e⟩
  | ins c fs => obtain ⟨dx, gs, h1, h2⟩ := h; exact ⟨dx, gs, by rw [k]; exact h1, h2.mon e⟩
theorem RO.has (h : RO K g ρ H o a) : ∃ u, H a = some u ∧ Mut (some u) := by
  cases o with
  | lst xs => obtain ⟨vs, h1, h2⟩ := h; exact ⟨_, h1, trivial⟩
  | dK kvs => obtain ⟨ks, h1, h2⟩ := h; exact ⟨_, h1, trivial⟩
  | dT kvs => obtain ⟨ks, h1, h2⟩ := h; exact ⟨_, h1, trivial⟩
  | ins c fs => obtain ⟨dx, gs, h1, h2⟩ := h; exact ⟨_, h1, trivial⟩

structure RS (K : PySem.W.Frag) (g : Nat → Addr) (ρ : List Addr) (H : Hp) (st : Sto) : Prop where
  len : ρ.length = st.length
  inj : ∀ (i j : Nat) (a : Addr), ρ[i]? = some a → ρ[j]? = some a → i = j
  obj : ∀ (n : Nat) (o : Ob) (a : Addr), st[n]? = some o → ρ[n]? = some a → RO K g ρ H o a

theorem RS.at (S : RS K g ρ H st) {n : Nat} {o : Ob} (h : st[n]? = some o) : ∃ a, ρ[n]? = some a ∧ RO K g ρ H o a := by
  have hn : n < ρ.length := by rw [S.len]; exact (List.getElem?_eq_some_iff.mp h).1
  exact ⟨ρ[n], List.getElem?_eq_getElem hn, S.obj n o _ h (List.getElem?_eq_getElem hn)⟩
theorem RS.has (S : RS K g ρ H st) {n : Nat} (h : ρ[n]? = some a) : ∃ u, H a = some u ∧ Mut (some u) := by
  have hn : n < st.length := by rw [← S.len]; exact (List.getElem?_eq_some_iff.mp h).1
  exact (S.obj n _ a (List.getElem?_eq_getElem hn) h).has
theorem RS.out (S : RS K g ρ H st) {p : Addr} (hp : H p = none) : ∀ n : Nat, ρ[n]? ≠ some p := fun n h => by
  obtain ⟨u, hu, _⟩ := S.has h
  rw [hp] at hu; cases hu

theorem mon_new {p : Addr} {u : HO} {more : List Addr} (hp : H p = none) : Mon ρ H (ρ ++ more) (upd H p u) := by
  refine ⟨fun n a h => ?_, fun b vs h => ?_, fun b o v h => ?_⟩
  · have hn : n < ρ.length := (List.getElem?_eq_some_iff.mp h).1
    rw [List.getElem?_append_left hn]; exact h
  · rw [upd_ne (ne_of_none h hp)]; exact h
  · rw [upd_ne (ne_of_none h hp)]; exact h
/-- a fresh place: nothing known is hurt -/
theorem ext_new {p : Addr} {u : HO} (hp : H p = none) : Ext ρ H (ρ ++ [p]) (upd H p u) := by
  refine ⟨mon_new hp, fun b v h k => ⟨by rw [upd_ne (ne_of_none h hp)]; exact h, fun n q => ?_⟩⟩
  by_cases hn : n < ρ.length
  · rw [List.getElem?_append_left hn] at q; exact k n q
  · rw [List.getElem?_append_right (by omega)] at q
    have hz : n - ρ.length = 0 := by
      by_cases hz : n - ρ.length = 0
      · exact hz
      · rw [List.getElem?_eq_none (by simp; omega)] at q; cases q
    rw [hz] at q
    simp at q
    subst q
    rw [hp] at h; cases h
theorem ext_tup {p : Addr} {u : HO} (hp : H p = none) : Ext ρ H ρ (upd H p u) := by
  refine ⟨?_, fun b v h k => ⟨by rw [upd_ne (ne_of_none h hp)]; exact h, k⟩⟩
  have := mon_new (ρ := ρ) (more := []) (u := u) hp
  rwa [List.append_nil] at this
theorem mon_mut {p : Addr} {u : HO} (hp : Mut (H p)) : Mon ρ H ρ (upd H p u) := by
  refine ⟨fun _ _ h => h, fun b vs h => ?_, fun b o vs h => ?_⟩
  · have : b ≠ p := by rintro rfl; rw [h] at hp; exact hp
    rw [upd_ne this]; exact h
  · have : b ≠ p := by rintro rfl; rw [h] at hp; exact hp
    rw [upd_ne this]; exact h
theorem ext_mut {p : Addr} {u : HO} {n : Nat} (hn : ρ[n]? = some p) (hp : Mut (H p)) : Ext ρ H ρ (upd H p u) :=
  ⟨mon_mut hp, fun b v h k => ⟨by rw [upd_ne (fun e => k n (by rw [e]; exact hn))]; exact h, k⟩⟩

/-- something new that is not the store's -/
theorem RS.other (S : RS K g ρ H st) {p : Addr} {u : HO} (hp : H p = none) : RS K g ρ (upd H p u) st := by
  refine ⟨S.len, S.inj, fun n o a h1 h2 => ?_⟩
  have e : Mon ρ H ρ (upd H p u) := (ext_tup hp).toMon
  exact (S.obj n o a h1 h2).mono e (upd_ne fun z => S.out hp n (by rw [← z]; exact h2))
theorem RS.tup (S : RS K g ρ H st) {p : Addr} {vs : List V} (hp : H p = none) : RS K g ρ (upd H p (.tup vs)) st := S.other hp
/-- something else that is not the store's, changed -/
theorem RS.beside (S : RS K g ρ H st) {p : Addr} {u : HO} (hm : Mut (H p)) (hp : ∀ n : Nat, ρ[n]? ≠ some p) : RS K g ρ (upd H p u) st := by
  refine ⟨S.len, S.inj, fun n o a h1 h2 => ?_⟩
  exact (S.obj n o a h1 h2).mono (mon_mut hm) (upd_ne fun z => hp n (by rw [← z]; exact h2))
/-- an object taken into the store -/
theorem RS.add (S : RS K g ρ H st) {p : Addr} (hp : ∀ n : Nat, ρ[n]? ≠ some p) (h : RO K g (ρ ++ [p]) H o p) : RS K g (ρ ++ [p]) H (st ++ [o]) := by
  have cases : ∀ {n : Nat} {b : Addr}, (ρ ++ [p])[n]? = some b → ρ[n]? = some b ∨ (n = ρ.length ∧ b = p) := fun {n b} h1 => by
    by_cases hn : n < ρ.length
    · rw [List.getElem?_append_left hn] at h1
      exact .inl h1
    · rw [List.getElem?_append_right (by omega)] at h1
      have hz : n - ρ.length = 0 := by
        by_cases hz : n - ρ.length = 0
        · exact hz
        · rw [List.getElem?_eq_none (by simp; omega)] at h1; cases h1
      rw [hz] at h1
      simp at h1
      exact .inr ⟨by omega, h1.symm⟩
  have m : Mon ρ H (ρ ++ [p]) H := ⟨fun n a h => by rw [List.getElem?_append_left (List.getElem?_eq_some_iff.mp h).1]; exact h, fun _ _ h => h, fun _ _ _ h => h⟩
  refine ⟨by simp [S.len], fun i j b h1 h2 => ?_, fun n ob b h1 h2 => ?_⟩
  · rcases cases h1 with a1 | ⟨a1, a2⟩
    · rcases cases h2 with b1 | ⟨b1, b2⟩
      · exact S.inj i j b a1 b1
      · rw [b2] at a1; exact absurd a1 (hp i)
    · rcases cases h2 with b1 | ⟨b1, b2⟩
      · rw [a2] at b1; exact absurd b1 (hp j)
      · omega
  · rcases cases h2 with a1 | ⟨a1, a2⟩
    · have hn : n < st.length := by rw [← S.len]; exact (List.getElem?_eq_some_iff.mp a1).1
      rw [List.getElem?_append_left hn] at h1
      exact (S.obj n ob b h1 a1).mono m rfl
    · rw [a1, S.len] at h1
      simp at h1
      subst h1
      rw [a2]; exact h
/-- a new object -/
theorem RS.new (S : RS K g ρ H st) {p : Addr} {u : HO} (hp : H p = none) (h : RO K g (ρ ++ [p]) (upd H p u) o p) : RS K g (ρ ++ [p]) (upd H p u) (st ++ [o]) := (S.other hp).add (S.out hp) h
/-- an object written -/
theorem RS.wr (S : RS K g ρ H st) {n : Nat} {o₀ : Ob} {p : Addr} {u : HO} (hn : st[n]? = some o₀) (hρ : ρ[n]? = some p) (h : RO K g ρ (upd H p u) o p) : RS K g ρ (upd H p u) (st.set n o) := by
  obtain ⟨w, hw, mu⟩ := S.has hρ
  have hmut : Mut (H p) := by rw [hw]; exact mu
  have hlt : n < st.length := (List.getElem?_eq_some_iff.mp hn).1
  refine ⟨by simp [S.len], S.inj, fun m ob b h1 h2 => ?_⟩
  by_cases e1 : n = m
  · subst e1
    rw [List.getElem?_set_self hlt] at h1
    cases h1
    rw [hρ] at h2; cases h2
    exact h
  · rw [List.getElem?_set_ne e1] at h1
    exact (S.obj m ob b h1 h2).mono (mon_mut hmut) (upd_ne fun z => e1 (S.inj n m p hρ (by rw [← z]; exact h2)))

/-- names -/
structure REn (K : PySem.W.Frag) (ρ : List Addr) (H : Hp) (env : En) (σ : L2.St) : Prop where
  len : env.length = σ.length
  at_ : ∀ (i : Nat) (x : PV), env[i]? = some (some x) → ∃ v, σ[i]? = some (some v) ∧ RV K ρ H x v
theorem REn.mono {env : En} {σ : L2.St} (N : REn K ρ H env σ) (e : Ext ρ H ρ' H') : REn K ρ' H' env σ := ⟨N.len, fun i x h => let ⟨v, h1, h2⟩ := N.at_ i x h; ⟨v, h1, h2.mono e⟩⟩
theorem REn.set {env : En} {σ : L2.St} {x : PV} {v : V} (N : REn K ρ H env σ) (i : Nat) (h : RV K ρ H x v) : REn K ρ H (env.set i (some x)) (σ.set i (some v)) := by
  refine ⟨by simp [N.len], fun j y e => ?_⟩
  by_cases hj : i = j
  · subst hj
    by_cases hl : i < env.length
    · rw [List.getElem?_set_self hl] at e
      cases e
      exact ⟨v, by rw [List.getElem?_set_self (by rw [← N.len]; exact hl)], h⟩
    · rw [List.getElem?_eq_none (by simp; omega)] at e; cases e
  · rw [List.getElem?_set_ne hj] at e
    obtain ⟨w, e1, e2⟩ := N.at_ j y e
    exact ⟨w, by rw [List.getElem?_set_ne hj]; exact e1, e2⟩

theorem wipeE_length (env : En) : ∀ vs : List Nat, (wipeE env vs).length = env.length
  | [] => rfl
  | v :: vs => by unfold wipeE; rw [List.length_set, wipeE_length env vs]
theorem wipe_get {σ : L2.St} {i : Nat} : ∀ (vs : List Nat), (wipe σ vs)[i]? = if i ∈ vs ∧ i < σ.length then some none else σ[i]?
  | [] => by simp [wipe]
  | v :: vs => by
    unfold wipe
    by_cases h : v = i
    · subst h
      by_cases hl : v < σ.length
      · rw [List.getElem?_set_self (by rw [wipe_length]; exact hl), if_pos ⟨List.mem_cons_self, hl⟩]
      · rw [if_neg (fun q => hl q.2), List.getElem?_eq_none (by rw [List.length_set, wipe_length]; omega), List.getElem?_eq_none (by omega)]
    · rw [List.getElem?_set_ne h, wipe_get vs]
      have : (i ∈ v :: vs ∧ i < σ.length) ↔ (i ∈ vs ∧ i < σ.length) := by
        simp [show ¬ i = v from fun e => h e.symm]
      by_cases q : i ∈ vs ∧ i < σ.length
      · rw [if_pos q, if_pos (this.mpr q)]
      · rw [if_neg q, if_neg (fun z => q (this.mp z))]
theorem wipeE_get {σ : En} {i : Nat} : ∀ (vs : List Nat), (wipeE σ vs)[i]? = if i ∈ vs ∧ i < σ.length then some none else σ[i]?
  | [] => by simp [wipeE]
  | v :: vs => by
    unfold wipeE
    by_cases h : v = i
    · subst h
      by_cases hl : v < σ.length
      · rw [List.getElem?_set_self (by rw [wipeE_length]; exact hl), if_pos ⟨List.mem_cons_self, hl⟩]
      · rw [if_neg (fun q => hl q.2), List.getElem?_eq_none (by rw [List.length_set, wipeE_length]; omega), List.getElem?_eq_none (by omega)]
    · rw [List.getElem?_set_ne h, wipeE_get vs]
      have : (i ∈ v :: vs ∧ i < σ.length) ↔ (i ∈ vs ∧ i < σ.length) := by
        simp [show ¬ i = v from fun e => h e.symm]
      by_cases q : i ∈ vs ∧ i < σ.length
      · rw [if_pos q, if_pos (this.mpr q)]
      · rw [if_neg q, if_neg (fun z => q (this.mp z))]
theorem REn.wipe {env : En} {σ : L2.St} (N : REn K ρ H env σ) (vs : List Nat) : REn K ρ H (wipeE env vs) (wipe σ vs) := by
  refine ⟨by rw [wipeE_length, wipe_length, N.len], fun i x h => ?_⟩
  rw [wipeE_get] at h
  rw [wipe_get]
  by_cases q : i ∈ vs ∧ i < env.length
  · rw [if_pos q] at h; cases h
  · rw [if_neg q] at h
    rw [if_neg (fun z => q ⟨z.1, by rw [N.len]; exact z.2⟩)]
    exact N.at_ i x h
theorem wipe_set {σ : L2.St} {i : Nat} {x : Option V} {vs : List Nat} (h : i ∈ vs) : wipe (σ.set i x) vs = wipe σ vs := by
  apply List.ext_getElem?
  intro j
  rw [wipe_get, wipe_get, List.length_set]
  by_cases q : j ∈ vs ∧ j < σ.length
  · rw [if_pos q, if_pos q]
  · rw [if_neg q, if_neg q]
    by_cases e : i = j
    · subst e
      have : ¬ i < σ.length := fun z => q ⟨h, z⟩
      rw [List.getElem?_eq_none (by simp; omega), List.getElem?_eq_none (by omega)]
    · exact List.getElem?_set_ne e
theorem wipe_wipe {σ : L2.St} {vs : List Nat} : wipe (wipe σ vs) vs = wipe σ vs := by
  apply List.ext_getElem?
  intro j
  rw [wipe_get, wipe_get, wipe_length]
  by_cases q : j ∈ vs ∧ j < σ.length
  · rw [if_pos q, if_pos q]
  · rw [if_neg q]
end Kg
/-! PvTup: new tuples, known to have no dict of their own. -/
namespace Kg
open PySem PySem.Spec PyProof.Rows L2

section
variable {X : Cx} {pins : List (Addr × Obj)} {σ : L2.St} {H : Hp} {s : Shared}
/-- what a new tuple is -/
def NewT (H : Hp) (vs : List V) (Q : VK) : Prop := ∀ p o, H p = none → o.dict = none → Q (.ref p) (upd H p (.frz o (.tup vs)))
theorem tup_laid {vs : List V} {us : List Value} {Q : VK} (I : Inv X pins σ H s) (r : Vals vs us) (hz : vs.length ≤ sizeLine) (q : NewT H vs Q) :
    EP X pins σ Q (.ref s.heap.objs.size) { s with heap := s.heap.push { cls := .type "tuple", data := .seq us.toArray } } := by
  have hf : H s.heap.objs.size = none := I.hok.fresh (Nat.le_refl _)
  refine ⟨.ref s.heap.objs.size, _, I.laid (t' := s.toks) (o := .frz { cls := .type "tuple", data := .seq us.toArray } (.tup vs)) (fun b ob q => Heap.get?_push_of_some _ q) (Nat.le_refl _) ?_, rfl, q _ _ hf rfl⟩
  exact ⟨Heap.get?_push_size _ rfl, hz, us, r, IsTup.new _ _⟩

variable {es : List Expr} {t : TA} {pos : Pos}
def tTupF (t : TA) : TE := fun σ H Q => t σ H fun xs H1 => xs.length ≤ sizeLine ∧ NewT H1 xs Q
theorem pe_tupF {x1} (h : PA X es t) : PE X (.Tuple es x1 pos) (tTupF t) := by
  refine ⟨fun pins s σ H Q I hq => ?_⟩
  exact wpAny_Tuple_spliced (thn (h.run pos pins s σ H _ I hq) fun us s1 ⟨xs, H1, I1, r, z, q⟩ => ⟨by rw [← r.length]; exact z, tup_laid I1 r z q⟩)
def rCatF (K : PySem.W.Frag) : R2 := fun x y H Q => ∃ a b xs ys, x = .ref a ∧ y = .ref b ∧ SqT K H a xs ∧ SqT K H b ys ∧ xs.length + ys.length ≤ sizeLine ∧
  (xs = [] → Q (.ref b) H) ∧ (xs ≠ [] → ys = [] → Q (.ref a) H) ∧ (xs ≠ [] → ys ≠ [] → NewT H (xs ++ ys) Q)
theorem op_catF : OpR X (binaryOp .Add) (rCatF X.K) := by
  intro pins s σ H x y v u Q I rx ry h
  obtain ⟨a, b, xs, ys, rfl, rfl, ha, hb, hz, q0, q1, q2⟩ := h
  cases rx
  cases ry
  obtain ⟨its, r1, p1, _⟩ := I.tuple ha
  obtain ⟨its2, r2, p2, _⟩ := I.tuple hb
  by_cases hx : xs = []
  · subst hx
    cases r1
    exact cat_tup0 p1 p2 ⟨.ref b, H, I, rfl, q0 rfl⟩
  · refine HT.cat_tup p1 p2 (fun z => hx (r1.nil_iff.mp z)) (fun z => ⟨.ref a, H, I, rfl, q1 hx (r2.nil_iff.mp z)⟩) (fun z => ?_) (by rw [← r1.length, ← r2.length]; exact hz)
    exact tup_laid I (r1.append r2) (by rw [List.length_append]; exact hz) (q2 hx fun w => z (r2.nil_iff.mpr w))
def rSlF (K : PySem.W.Frag) : V → Option Int → Option Int → Hp → VK → Prop := fun x lo hi H Q => ∃ a xs, x = .ref a ∧ SqT K H a xs ∧
  (HT.sIx xs.length 0 lo = 0 ∧ HT.sIx xs.length xs.length hi = xs.length → Q (.ref a) H) ∧ (¬ (HT.sIx xs.length 0 lo = 0 ∧ HT.sIx xs.length xs.length hi = xs.length) → NewT H (cutV xs lo hi) Q)
theorem sl_tupF : SlR X (rSlF X.K) := by
  intro pins s σ H x v vl vu lo hi sl Q I rx hs pl pu h
  obtain ⟨a, xs, rfl, hx, q1, q2⟩ := h
  cases rx
  obtain ⟨its, r, ht, hz⟩ := I.tuple hx
  have hlen : its.toArray.size = xs.length := by rw [List.size_toArray]; exact r.length.symm
  refine ⟨"tuple", _, PyProof.Rows.slot_tuple_getitem.lookup, ht.typeIs, ?_⟩
  by_cases hw : HT.sIx xs.length 0 lo = 0 ∧ HT.sIx xs.length xs.length hi = xs.length
  · exact getItem_tuple_whole ht hs pl pu (by rw [hlen]; exact hw) ⟨.ref a, H, I, rfl, q1 hw⟩
  · refine HT.getItem_tuple_cut ht hs pl pu (by rw [hlen]; exact hw) ?_ (by rw [hlen]; exact hz)
    rw [hlen]
    exact tup_laid I ((r.drop (HT.sIx xs.length 0 lo)).take (HT.sIx xs.length xs.length hi - HT.sIx xs.length 0 lo)) (Nat.le_trans (cutV_length xs lo hi) hz) (q2 hw)
theorem call_tupleF : CallR X (.type "tuple") (fun xs H Q => ∃ p ys, xs = [.ref p] ∧ ((SqL X.K H p ys ∧ NewT H ys Q) ∨ (SqT X.K H p ys ∧ Q (.ref p) H))) := by
  intro pins s σ H xs us Q I r h
  obtain ⟨p, ys, rfl, h⟩ := h
  obtain ⟨u, rfl, rx⟩ := vals1 r
  cases rx
  rcases h with ⟨hq, q⟩ | ⟨hq, q⟩
  · obtain ⟨its, r', pl, hz⟩ := I.list hq
    have hlen := r'.length
    refine call_tuple_list pl.isList (fun h' kp => ?_) (by simp only [List.size_toArray] <;> omega)
    have I1 : Inv X pins σ H { s with heap := h' } := I.kept (t' := s.toks) kp
    exact tup_laid I1 r' hz q
  · obtain ⟨its, r', pl, hz⟩ := I.tuple hq
    exact call_tuple_same pl ⟨.ref p, H, I, rfl, q⟩
/-! ### t * k -/
theorem tuple_mul1 (l : Addr) (items : Array Value) (n : Nat) (dd : Option Addr) (sl : Array (Option Value)) (x : Int) (u : Tok) (c0 : (decide (x < -(2 ^ 63)) || decide (x ≥ 2 ^ 63)) = false) (c1 : (items.isEmpty || x == 1) = true) :
    Meets (Builtin.«tuple.__mul__» ⟨[.ref l, .int x u], []⟩) (fun _ R s => s.heap.get? l = some { cls := .type "tuple", dict := dd, data := .seq items n, slots := sl } ∧ R (.ok (.ret (Value.ref l))) s) :=
  .of_wp fun prog w A R s h => by
    obtain ⟨hp, g, d, tk, os⟩ := s
    obtain ⟨hl, h⟩ := h
    have f1 := AutoSeq1.idx_int
    wp_walk using wpAny_loadPart' hl
    repeat (first
      | (refine wpAny_ite_false (decide_eq_false (by rw [c0]; exact Bool.false_ne_true)) ?_; wp_walk using wpAny_loadPart' hl)
      | (refine wpAny_ite_true (decide_eq_true (by rw [c1])) ?_; wp_walk using wpAny_loadPart' hl))
    exact ⟨_, rfl, h⟩
theorem tuple_mul0 (l : Addr) (items : Array Value) (n : Nat) (dd : Option Addr) (sl : Array (Option Value)) (x : Int) (u : Tok) (c0 : (decide (x < -(2 ^ 63)) || decide (x ≥ 2 ^ 63)) = false) (c1 : (items.isEmpty || x == 1) = false) (c2 : (decide (x ≤ 0) || items.isEmpty) = true) :
    Meets (Builtin.«tuple.__mul__» ⟨[.ref l, .int x u], []⟩) (fun _ R s => s.heap.get? l = some { cls := .type "tuple", dict := dd, data := .seq items n, slots := sl } ∧
      R (.ok (.ret (Value.ref s.heap.objs.size))) { s with heap := s.heap.push { cls := Value.type "tuple", data := Data.seq #[] }, toks := s.toks }) :=
  .of_wp fun prog w A R s h => by
    obtain ⟨hp, g, d, tk, os⟩ := s
    obtain ⟨hl, h⟩ := h
    have f1 := AutoSeq1.idx_int
    have hsz : (#[] : Array Value).size ≤ sizeLine := Nat.zero_le _
    wp_walk using wpAny_loadPart' hl
    repeat (first
      | (refine wpAny_ite_false (decide_eq_false (by rw [c0]; exact Bool.false_ne_true)) ?_; wp_walk using wpAny_loadPart' hl)
      | (refine wpAny_ite_false (decide_eq_false (by rw [c1]; exact Bool.false_ne_true)) ?_; wp_walk using wpAny_loadPart' hl)
      | (refine wpAny_ite_true (decide_eq_true (by rw [c2])) ?_; wp_walk using wpAny_loadPart' hl)
      | (refine wpAny_ite_false (decide_eq_false (Nat.not_lt.mpr hsz)) ?_; wp_walk using wpAny_loadPart' hl))
    exact ⟨_, rfl, h⟩
def rRepF (K : PySem.W.Frag) : R2 := fun x y H Q => ∃ l k xs, x = .ref l ∧ y = .int k ∧ SqT K H l xs ∧ -1000 ≤ k ∧ k ≤ 1000 ∧ xs.length ≤ 1000 ∧ (xs = [] ∨ k = 1 → Q (.ref l) H) ∧ (xs ≠ [] → k ≠ 1 → NewT H (List.replicate k.toNat xs).flatten Q)
theorem op_repF : OpR X (binaryOp .Mult) (rRepF X.K) := by
  intro pins s σ H x y v u Q I rx ry h
  obtain ⟨l, k, xs, rfl, rfl, hT, h1, h2, hz, q1, q2⟩ := h
  cases rx
  obtain ⟨t, rfl⟩ := ry
  obtain ⟨its, r, ⟨⟨cls, dd, data, sl⟩, ho, hc, n, hd⟩, hs⟩ := I.tuple hT
  simp only at hc hd
  subst hc hd
  have hle : its.length = xs.length := r.length.symm
  have c0 : (decide (k < -(2 ^ 63)) || decide (k ≥ 2 ^ 63)) = false := by
    rw [decide_eq_false (by omega), decide_eq_false (by omega)] <;> rfl
  have hemp : its.toArray.isEmpty = true ↔ xs = [] := by
    rw [List.isEmpty_toArray, List.isEmpty_iff]
    exact r.nil_iff
  have go : ∀ (hB : wpAny (model X.prog X.w) X.A (call (.builtin "tuple.__mul__") [.ref l, .int k t]) (EP X pins σ Q) X.xe s), wpAny (model X.prog X.w) X.A (binaryOp .Mult (.ref l) (.int k t)) (EP X pins σ Q) X.xe s := fun hB =>
    wpAny_binaryOp_repeat_ref (T := "tuple") (U := "int") (by decide) ⟨_, ho, rfl⟩ (fun s' => typeIs_int s' k t) noFill_tuple_mul F.fills_int_mul F.slot_int_rmul repeat_tuple F.slot_int_index.lookup
      (call_meets F.slot_int_rmul (typeIs_int s k t) F.entry_int_rmul (F.args_int_rmul_2 _ _) (int_rmul_tuple k t l its.toArray n dd sl)
        ⟨ho, rfl, ⟨_, ho, rfl⟩, hB⟩)
  by_cases e1 : xs = [] ∨ k = 1
  · refine go (call_meets F.slot_tuple_mul ⟨_, ho, rfl⟩ F.entry_tuple_mul (F.args_tuple_mul_2 _ _) (tuple_mul1 l its.toArray n dd sl k t c0 ?_) ⟨ho, ?_⟩)
    · rcases e1 with e | e
      · rw [hemp.mpr e]; rfl
      · subst e; simp
    · exact ⟨.ref l, H, I, rfl, q1 e1⟩
  · have e2 : xs ≠ [] := fun z => e1 (.inl z)
    have e3 : k ≠ 1 := fun z => e1 (.inr z)
    have hi : its.toArray.isEmpty = false := by
      cases hb : its.toArray.isEmpty with
      | false => rfl
      | true => exact absurd (hemp.mp hb) e2
    have c1 : (its.toArray.isEmpty || k == 1) = false := by
      rw [hi, Bool.false_or]
      exact beq_eq_false_iff_ne.mpr e3
    by_cases hk : k ≤ 0
    · have c2 : (decide (k ≤ 0) || its.toArray.isEmpty) = true := by rw [decide_eq_true hk]; rfl
      refine go (call_meets F.slot_tuple_mul ⟨_, ho, rfl⟩ F.entry_tuple_mul (F.args_tuple_mul_2 _ _) (tuple_mul0 l its.toArray n dd sl k t c0 c1 c2) ⟨ho, ?_⟩)
      have q := q2 e2 e3
      rw [show k.toNat = 0 from Int.toNat_of_nonpos hk] at q
      exact tup_laid I .nil (Nat.zero_le _) q
    · have hsz0 : its.toArray.size = xs.length := by rw [List.size_toArray, hle]
      have hm : ((its.toArray.size : Nat) : Int) * k ≤ 1000000 := by
        rw [hsz0]
        have a1 : ((xs.length : Nat) : Int) * k ≤ 1000 * k := Int.mul_le_mul_of_nonneg_right (by omega) (by omega)
        omega
      have flen : (List.replicate k.toNat its).flatten.length ≤ sizeLine := by
        rw [PyProof.Rows.lm_len_rep_flat, hle, sizeLine_eq]
        have a1 : k.toNat * xs.length ≤ 1000 * 1000 := Nat.mul_le_mul (by omega) hz
        omega
      have c2 : (decide (k ≤ 0) || its.toArray.isEmpty) = false := by
        rw [hi, Bool.or_false]
        exact decide_eq_false (by omega)
      have c4 : Builtin.Tuple.tupleTooMany (((its.toArray.size : Nat) : Int) * k) = false := by
        unfold Builtin.Tuple.tupleTooMany
        rw [sizeLine_eq]
        exact decide_eq_false (by omega)
      refine go (call_meets F.slot_tuple_mul ⟨_, ho, rfl⟩ F.entry_tuple_mul (F.args_tuple_mul_2 _ _) (tuple_mulW l its.toArray n dd sl k t c0 c1 c2 (by omega) c4 (by rw [size_rep, List.size_toArray]; exact flen)) ⟨ho, ?_⟩)
      rw [size_rep]
      exact tup_laid I (r.rep k.toNat) (by rw [PyProof.Rows.lm_len_rep_flat, sizeLine_eq]; have a1 : k.toNat * xs.length ≤ 1000 * 1000 := Nat.mul_le_mul (by omega) hz; omega) (q2 e2 e3)
/-! ### methods of such a tuple -/
/-- the value is of that builtin type: a tuple too -/
def tyW (K : PySem.W.Frag) (T : String) (x : V) (H : Hp) : Prop := tyV K T x H ∨ (T = "tuple" ∧ ∃ a o vs, x = .ref a ∧ o.dict = none ∧ H a = some (.frz o (.tup vs)))
theorem tyW_is {T : String} {x : V} {v : Value} (I : Inv X pins σ H s) (r : RelV x v) (ty : tyW X.K T x H) : s.TypeIs v T ∧ ∀ a, v = .ref a → ∃ ob, s.heap.get? a = some ob ∧ ob.dict = none := by
  rcases ty with ty | ⟨rfl, a, o, vs, rfl, hd, h⟩
  · exact tyV_is I r ty
  · cases r
    obtain ⟨g, _, its, _, o', g', hc, _⟩ := I.hok a _ h
    rw [g] at g'
    cases g'
    exact ⟨⟨o, g, hc⟩, fun b e => by cases e; exact ⟨o, g, hd⟩⟩
def tBW0 (K : PySem.W.Frag) (T : String) (r : V → List V → Hp → VK → Prop) (to : TE) : TE := fun σ H Q => to σ H fun x H1 => tyW K T x H1 ∧ r x [] H1 Q
def tBW (K : PySem.W.Frag) (T : String) (r : V → List V → Hp → VK → Prop) (to : TE) (t : TA) : TE := fun σ H Q => to σ H fun x H1 => tyW K T x H1 ∧ t σ H1 fun xs H2 => r x xs H2 Q
variable {o e : Expr} {to : TE} {name : Str} {apos cpos : Pos} {T id : String} {r : V → List V → Hp → VK → Prop}
theorem pe_bw0 (pa : PlainAttrs T) (slot : Slot T name id) (hty : typeOf (.builtin id) = pure (.type "method_descriptor")) (hm : MtR X id r) (ho : PE X o to)
    (hbase : attributeBase o name X.env (eval o X.env) = eval o X.env) (hline : (apos.endLine == cpos.line) = true) : PE X (.Call (.Attribute o name apos) [] [] cpos) (tBW0 X.K T r to) := by
  refine ⟨fun pins s σ H Q I h => ?_⟩
  refine wpAny_Call_method0_late hbase hline (thn (ho.run pins s σ H _ I h) fun v s1 ⟨x, H1, I1, r1, ty, q1⟩ => ?_)
  obtain ⟨h1, h2⟩ := tyW_is I1 r1 ty
  exact ⟨T, id, pa, slot, hty, h1, h2, Calls.callWith_builtin rfl (PySem.evalArgs_none (hm pins s1 σ H1 x [] v [] Q I1 r1 .nil q1))⟩
theorem pe_bw (pa : PlainAttrs T) (slot : Slot T name id) (hty : typeOf (.builtin id) = pure (.type "method_descriptor")) (hm : MtR X id r) (ho : PE X o to) (ha : PA X (e :: es) t)
    (hbase : attributeBase o name X.env (eval o X.env) = eval o X.env)
    (hfew : ((backTo cpos (starEach (e :: es) X.env)).all (fun x => !x.1) && (backToKw cpos (keywordEach [] X.env)).all (fun x => x.1.isSome)
      && decide ((e :: es).length + ([] : List Keyword).length + (if ([] : List Keyword).isEmpty then 0 else 1) < 30)) = true)
    (hline : (apos.endLine == cpos.line) = true) (hs : starEach (e :: es) X.env = (false, eval e X.env) :: starEach es X.env) (hplain : (backTo cpos (starEach es X.env)).any (·.1) = false) :
    PE X (.Call (.Attribute o name apos) (e :: es) [] cpos) (tBW X.K T r to t) := by
  refine ⟨fun pins s σ H Q I h => ?_⟩
  refine wpAny_Call_method_late hbase hfew hline rfl (thn (ho.run pins s σ H _ I h) fun v s1 ⟨x, H1, I1, r1, ty, q1⟩ => ?_)
  obtain ⟨h1, h2⟩ := tyW_is I1 r1 ty
  refine ⟨T, id, pa, slot, hty, h1, h2, ?_⟩
  have hA := ha.run cpos pins s1 σ H1 _ I1 q1
  rw [hs] at hA ⊢
  refine Calls.callWith_builtin (by show (false || (backTo cpos (starEach es X.env)).any (·.1)) = false; rw [hplain] <;> rfl) (Calls.evalArgs_plain ?_)
  exact thn hA fun us s2 ⟨vs, H2, I2, r2, q2⟩ => hm pins s2 σ H2 x vs v us Q I2 r1 r2 q2
end
end Kg
/-! PvOps: operators, comparisons, truth, by values. -/
namespace Kg
open PySem PySem.Spec PyProof.Rows L2

variable {K : PySem.W.Frag} {g : Nat → Addr} {ρ ρ' : List Addr} {H H' : Hp} {st st' : Sto} {X : Cx}

/-- what is wanted of a value and the store behind it -/
def Post (K : PySem.W.Frag) (g : Nat → Addr) (ρ : List Addr) (H : Hp) (v : PV) (st : Sto) (Q : VK) : Prop :=
  ∀ ρ' H' w, Ext ρ H ρ' H' → RS K g ρ' H' st → RV K ρ' H' v w → Q w H'
theorem Post.mono {v : PV} {Q : VK} (p : Post K g ρ H v st Q) (e : Ext ρ H ρ' H') : Post K g ρ' H' v st Q := fun r h w e2 => p r h w (e.trans e2)

theorem post_tup {vs : List V} {xs : List PV} {Q : VK} (S : RS K g ρ H st) (r : RVs K ρ H xs vs) (q : Post K g ρ H (.tup xs) st Q) : NewT H vs Q := fun p o hp hd =>
  q ρ _ _ (ext_tup hp) (S.other hp) (.tup upd_same hd (r.mono (ext_tup hp)))
theorem post_new {u : HO} {o : Ob} {Q : VK} (S : RS K g ρ H st) (q : Post K g ρ H (.ref st.length) (st ++ [o]) Q) {p : Addr} (hp : H p = none) (h : RO K g (ρ ++ [p]) (upd H p u) o p) : Q (.ref p) (upd H p u) :=
  q _ _ _ (ext_new hp) (S.new hp h) (.ref (by rw [← S.len]; simp))
theorem post_lst {vs : List V} {xs : List PV} {Q : VK} (S : RS K g ρ H st) (r : RVs K ρ H xs vs) (q : Post K g ρ H (.ref st.length) (st ++ [.lst xs]) Q) : ∀ p, H p = none → Q (.ref p) (upd H p (.lst vs)) := fun p hp =>
  post_new S q hp ⟨vs, upd_same, r.mono (ext_new hp)⟩

/-- a list or a tuple, as the layer reads it -/
theorem sq_of {x : PV} {v : V} {ys : List PV} (S : RS K g ρ H st) (r : RV K ρ H x v) (e : sqOf st x = some ys) : ∃ a vs, v = .ref a ∧ (SqL K H a vs ∨ SqT K H a vs) ∧ RVs K ρ H ys vs := by
  cases r with
  | @tup xs a vs o h hd r => simp only [sqOf] at e; cases e; exact ⟨a, vs, rfl, .inr (sqt_frz h), r⟩
  | @tuk xs a vs h r => simp only [sqOf] at e; cases e; exact ⟨a, vs, rfl, .inr (.of h), r⟩
  | @ref n a h =>
    simp only [sqOf] at e
    split at e
    · rename_i xs hs
      cases e
      obtain ⟨vs, h1, h2⟩ := S.obj n _ a hs h
      exact ⟨a, vs, rfl, .inl (.of h1), h2⟩
    · cases e
  | @rol xs a vs h r => cases e; exact ⟨a, vs, rfl, .inl h.sql, r⟩
  | _ => cases e
theorem lst_of {n : Nat} {v : V} {ys : List PV} (S : RS K g ρ H st) (r : RV K ρ H (.ref n) v) (e : st[n]? = some (.lst ys)) : ∃ a vs, v = .ref a ∧ ρ[n]? = some a ∧ H a = some (.lst vs) ∧ RVs K ρ H ys vs := by
  cases r with
  | @ref n a h =>
    obtain ⟨vs, h1, h2⟩ := S.obj n _ a e h
    exact ⟨a, vs, rfl, h, h1, h2⟩

/-! ### operators -/
def rBop (K : PySem.W.Frag) (g : Nat → Addr) (o : Bop) : R2 := fun x y H Q => ∃ ρ st px py v st', RS K g ρ H st ∧ RV K ρ H px x ∧ RV K ρ H py y ∧ bop o px py st = some (v, st') ∧ Post K g ρ H v st' Q
def Bop.op : Bop → Operator | .add => .Add | .sub => .Sub | .mul => .Mult | .fdiv => .FloorDiv | .mod => .Mod | .pow => .Pow

theorem bop_add : OpR X (binaryOp .Add) (rBop X.K g .add) := by
  intro pins s σ H x y v u Q I rx ry h
  obtain ⟨ρ, st, px, py, r, st', S, rpx, rpy, e, q⟩ := h
  cases rpx with
  | int i =>
    cases rpy with
    | int j => cases e; exact op_add pins s σ H _ _ v u Q I rx ry ⟨i, j, rfl, rfl, q _ _ _ .refl S (.int _)⟩
    | _ => cases e
  | str i =>
    cases rpy with
    | str j =>
      simp only [bop] at e
      split at e
      · rename_i hz; cases e; exact op_add_str pins s σ H _ _ v u Q I rx ry ⟨i, j, rfl, rfl, hz, q _ _ _ .refl S (.str _)⟩
      · cases e
    | _ => cases e
  | @tup xs a vs o1 h1 d1 r1 =>
    cases rpy with
    | @tup ys b ws o2 h2 d2 r2 =>
      simp only [bop] at e
      split at e
      · rename_i hz
        cases e
        refine op_catF pins s σ H _ _ v u Q I rx ry ⟨a, b, vs, ws, rfl, rfl, sqt_frz h1, sqt_frz h2, by rw [← r1.length, ← r2.length]; exact hz, fun e => ?_, fun _ e => ?_, fun _ _ => ?_⟩
        · subst e; cases r1
          exact q _ _ _ .refl S (.tup h2 d2 (by simpa using r2))
        · subst e; cases r2
          exact q _ _ _ .refl S (.tup h1 d1 (by simpa using r1))
        · exact post_tup S (r1.append r2) q
      · cases e
    | _ => cases e
  | @ref n a h1 =>
    cases rpy with
    | @ref m b h2 =>
      simp only [bop] at e
      split at e
      · rename_i xs ys e1 e2
        split at e
        · rename_i hz
          cases e
          obtain ⟨vs, a1, a2⟩ := S.obj n _ a e1 h1
          obtain ⟨ws, b1, b2⟩ := S.obj m _ b e2 h2
          exact op_cat pins s σ H _ _ v u Q I rx ry ⟨a, b, vs, ws, rfl, rfl, a1, b1, by rw [← a2.length, ← b2.length]; exact hz, post_lst S (a2.append b2) q⟩
        · cases e
      · cases e
    | _ => cases e
  | _ => cases e
theorem bop_sub : OpR X (binaryOp .Sub) (rBop X.K g .sub) := by
  intro pins s σ H x y v u Q I rx ry h
  obtain ⟨ρ, st, px, py, r, st', S, rpx, rpy, e, q⟩ := h
  cases rpx with
  | int i =>
    cases rpy with
    | int j => cases e; exact op_sub pins s σ H _ _ v u Q I rx ry ⟨i, j, rfl, rfl, q _ _ _ .refl S (.int _)⟩
    | _ => cases e
  | _ => cases e
theorem bop_mul : OpR X (binaryOp .Mult) (rBop X.K g .mul) := by
  intro pins s σ H x y v u Q I rx ry h
  obtain ⟨ρ, st, px, py, r, st', S, rpx, rpy, e, q⟩ := h
  cases rpx with
  | int i =>
    cases rpy with
    | int j =>
      simp only [bop] at e
      split at e
      · rename_i hz; cases e; exact op_mul pins s σ H _ _ v u Q I rx ry ⟨i, j, rfl, rfl, hz, q _ _ _ .refl S (.int _)⟩
      · cases e
    | _ => cases e
  | @tup xs a vs o1 h1 d1 r1 =>
    cases rpy with
    | int k =>
      simp only [bop] at e
      split at e
      · rename_i hz
        obtain ⟨z2, z3, z4⟩ := hz
        cases e
        refine op_repF pins s σ H _ _ v u Q I rx ry ⟨a, k, vs, rfl, rfl, sqt_frz h1, z2, z3, by rw [← r1.length]; exact z4, fun e => ?_, fun _ _ => post_tup S (r1.rep _) q⟩
        refine q _ _ _ .refl S (.tup h1 d1 ?_)
        rcases e with e | e
        · subst e; cases r1
          rw [List.flatten_replicate_nil]
          exact .nil
        · subst e
          rw [show Int.toNat 1 = 1 from rfl, List.replicate_one, List.flatten_cons, List.flatten_nil, List.append_nil]
          exact r1
      · cases e
    | _ => cases e
  | @ref n a h1 =>
    cases rpy with
    | int k =>
      simp only [bop] at e
      split at e
      · rename_i xs e1
        split at e
        · rename_i hz
          cases e
          obtain ⟨vs, a1, a2⟩ := S.obj n _ a e1 h1
          exact op_rep pins s σ H _ _ v u Q I rx ry ⟨a, k, vs, rfl, rfl, a1, hz.1, hz.2.1, by rw [← a2.length]; exact hz.2.2, post_lst S (a2.rep _) q⟩
        · cases e
      · cases e
    | _ => cases e
  | _ => cases e
theorem bop_fdiv : OpR X (binaryOp .FloorDiv) (rBop X.K g .fdiv) := by
  intro pins s σ H x y v u Q I rx ry h
  obtain ⟨ρ, st, px, py, r, st', S, rpx, rpy, e, q⟩ := h
  cases rpx with
  | int i =>
    cases rpy with
    | int j =>
      simp only [bop] at e
      split at e
      · rename_i hz; cases e; exact op_fdiv pins s σ H _ _ v u Q I rx ry ⟨i, j, rfl, rfl, hz, q _ _ _ .refl S (.int _)⟩
      · cases e
    | _ => cases e
  | _ => cases e
theorem bop_mod : OpR X (binaryOp .Mod) (rBop X.K g .mod) := by
  intro pins s σ H x y v u Q I rx ry h
  obtain ⟨ρ, st, px, py, r, st', S, rpx, rpy, e, q⟩ := h
  cases rpx with
  | int i =>
    cases rpy with
    | int j =>
      simp only [bop] at e
      split at e
      · rename_i hz; cases e; exact op_mod pins s σ H _ _ v u Q I rx ry ⟨i, j, rfl, rfl, hz, q _ _ _ .refl S (.int _)⟩
      · cases e
    | _ => cases e
  | _ => cases e
theorem bop_pow : OpR X (binaryOp .Pow) (rBop X.K g .pow) := by
  intro pins s σ H x y v u Q I rx ry h
  obtain ⟨ρ, st, px, py, r, st', S, rpx, rpy, e, q⟩ := h
  cases rpx with
  | int i =>
    cases rpy with
    | int j =>
      simp only [bop] at e
      split at e
      · rename_i hz; cases e; exact op_pow pins s σ H _ _ v u Q I rx ry ⟨i, j, rfl, rfl, hz, q _ _ _ .refl S (.int _)⟩
      · cases e
    | _ => cases e
  | _ => cases e
theorem bop_ok : ∀ o : Bop, OpR X (binaryOp o.op) (rBop X.K g o)
  | .add => bop_add | .sub => bop_sub | .mul => bop_mul | .fdiv => bop_fdiv | .mod => bop_mod | .pow => bop_pow

/-! ### truth -/
theorem tru_of {x : PV} {v : V} {k : Bool} (S : RS K g ρ H st) (r : RV K ρ H x v) (e : tru x st = some k) : TruV K v H k := by
  cases r with
  | non => cases e; rfl
  | bl b => cases e; rfl
  | int i => cases e; rfl
  | str y =>
    simp only [tru] at e
    split at e
    · rename_i hz; cases e; exact ⟨hz, rfl⟩
    · cases e
  | @tup xs a vs o h hd r =>
    cases e
    refine .inr (.inl ⟨vs, sqt_frz h, ?_⟩)
    cases r <;> rfl
  | @tuk xs a vs h r =>
    cases e
    refine .inr (.inl ⟨vs, .of h, ?_⟩)
    cases r <;> rfl
  | @ref n a h =>
    simp only [tru] at e
    split at e
    · rename_i xs hs
      cases e
      obtain ⟨vs, h1, h2⟩ := S.obj n _ a hs h
      refine .inl ⟨vs, .of h1, ?_⟩
      cases h2 <;> rfl
    · rename_i kvs hs
      cases e
      obtain ⟨ks, h1, h2⟩ := S.obj n _ a hs h
      refine .inr (.inr ⟨ks, h1, ?_⟩)
      cases h2 <;> rfl
    · cases e
  | @rol xs a vs h r =>
    cases e
    refine .inl ⟨vs, h.sql, ?_⟩
    cases r <;> rfl

/-! ### data -/
mutual
theorem dp_of : ∀ {x : PV} {v : V}, RV K ρ H x v → okD x = true → Dp K H v (dD x)
  | _, _, .non, _ => by simp only [dD]; constructor
  | _, _, .bl b, _ => by simp only [dD]; constructor
  | _, _, .int b, _ => by simp only [dD]; constructor
  | _, _, .str b, _ => by simp only [dD]; constructor
  | _, _, .tup h1 _ r, e => by
    simp only [okD] at e
    simp only [dD]
    exact .tup (sqt_frz h1) (dps_of r e)
  | _, _, .tuk h1 r, e => by
    simp only [okD] at e
    simp only [dD]
    exact .tup (.of h1) (dps_of r e)
  | _, _, .ref _, e => by simp [okD] at e
  | _, _, .rol _ _, e => by simp [okD] at e
theorem dps_of : ∀ {x : List PV} {v : List V}, RVs K ρ H x v → okDs x = true → DpAll K H v (dDs x)
  | _, _, .nil, _ => by simp only [dDs]; exact .nil
  | _, _, .cons h1 r, e => by
    simp only [okDs, Bool.and_eq_true] at e
    simp only [dDs]
    exact .cons (dp_of h1 e.1) (dps_of r e.2)
end
mutual
theorem okD_lay : ∀ x : PV, okD x = true → (dD x).canLay0 = true
  | .non, _ => by simp [dD, PyData.canLay0]
  | .bl _, _ => by simp [dD, PyData.canLay0]
  | .int _, _ => by simp [dD, PyData.canLay0]
  | .str x, h => by simpa [dD, PyData.canLay0, okD] using h
  | .tup xs, h => by
    simp only [okD] at h
    simp only [dD, PyData.canLay0]
    exact okDs_lay xs h
  | .tuk xs, h => by
    simp only [okD] at h
    simp only [dD, PyData.canLay0]
    exact okDs_lay xs h
  | .ref _, h => by simp [okD] at h
  | .rol _, h => by simp [okD] at h
theorem okDs_lay : ∀ x : List PV, okDs x = true → PyData.canLayAll0 (dDs x) = true
  | [], _ => by simp [dDs, PyData.canLayAll0]
  | x :: xs, h => by
    simp only [okDs, Bool.and_eq_true] at h
    simp only [dDs, PyData.canLayAll0, Bool.and_eq_true]
    exact ⟨okD_lay x h.1, okDs_lay xs h.2⟩
end
theorem dpL_of {x : PV} {v : V} {d : PyData} (S : RS K g ρ H st) (r : RV K ρ H x v) (e : topD st x = some d) : Dp K H v d ∧ d.canLay0 = true := by
  have plain : okD x = true → dD x = d → Dp K H v d ∧ d.canLay0 = true := fun h1 h2 => by
    subst h2
    exact ⟨dp_of r h1, okD_lay x h1⟩
  cases r with
  | @ref n a h =>
    simp only [topD] at e
    split at e
    · rename_i xs hs
      split at e
      · rename_i hk
        cases e
        obtain ⟨vs, h1, h2⟩ := S.obj n _ a hs h
        exact ⟨.lst (.of h1) (dps_of h2 hk), by simp only [PyData.canLay0]; exact okDs_lay xs hk⟩
      · cases e
    · cases e
  | @rol xs a vs h r =>
    simp only [topD] at e
    split at e
    · rename_i hk
      cases e
      exact ⟨.lst h.sql (dps_of r hk), by simp only [PyData.canLay0]; exact okDs_lay xs hk⟩
    · cases e
  | _ =>
    simp only [topD] at e
    split at e
    · rename_i hk; cases e; exact plain hk rfl
    · cases e

/-! ### comparisons -/
def Cop.op : Cop → CmpOp | .eq => .Eq | .ne => .NotEq | .lt => .Lt | .le => .LtE | .gt => .Gt | .ge => .GtE | .isin => .In | .notin => .NotIn
def rCop (K : PySem.W.Frag) (g : Nat → Addr) (o : Cop) : R2 := fun x y H Q => ∃ ρ st px py k, RS K g ρ H st ∧ RV K ρ H px x ∧ RV K ρ H py y ∧ cop o px py st = some k ∧ Q (.bl k) H
theorem cop_eq (hu : X.A.units + 1600 < cLine) : OpR X (compareOp .Eq) (rCop X.K g .eq) := by
  intro pins s σ H x y v u Q I rx ry h
  obtain ⟨ρ, st, px, py, k, S, rpx, rpy, e, q⟩ := h
  simp only [cop, eqV] at e
  split at e
  · cases e
  rename_i d e1
  split at e
  · cases e
  rename_i d2 e2
  split at e
  · rename_i hm
    cases e
    obtain ⟨p1, l1⟩ := dpL_of S rpx e1
    obtain ⟨p2, l2⟩ := dpL_of S rpy e2
    obtain ⟨as, r1⟩ := Dp.reads I d x v p1 rx
    obtain ⟨bs, r2⟩ := Dp.reads I d2 y u p2 ry
    exact SeqAt.compareEq_reads r1 r2 l1 l2 (by unfold dLim at hm; omega) ⟨.bl _, H, I, rfl, q⟩
  · cases e
theorem cop_ne (hu : X.A.units + 1600 < cLine) : OpR X (compareOp .NotEq) (rCop X.K g .ne) := by
  intro pins s σ H x y v u Q I rx ry h
  obtain ⟨ρ, st, px, py, k, S, rpx, rpy, e, q⟩ := h
  simp only [cop, eqV] at e
  split at e
  · cases e
  rename_i d e1
  split at e
  · cases e
  rename_i d2 e2
  split at e
  · rename_i hm
    cases e
    obtain ⟨p1, l1⟩ := dpL_of S rpx e1
    obtain ⟨p2, l2⟩ := dpL_of S rpy e2
    obtain ⟨as, r1⟩ := Dp.reads I d x v p1 rx
    obtain ⟨bs, r2⟩ := Dp.reads I d2 y u p2 ry
    exact SeqAt.compareNe_reads r1 r2 l1 l2 (by unfold dLim at hm; omega) ⟨.bl _, H, I, rfl, q⟩
  · cases e
theorem cop_int {o : Cop} {p : Int → Int → Bool} (ho : OpR X (compareOp o.op) (rI0 fun i j => .bl (p i j)))
    (he : ∀ px py st k, cop o px py st = some k → ∃ i j, px = .int i ∧ py = .int j ∧ k = p i j) : OpR X (compareOp o.op) (rCop X.K g o) := by
  intro pins s σ H x y v u Q I rx ry h
  obtain ⟨ρ, st, px, py, k, S, rpx, rpy, e, q⟩ := h
  obtain ⟨i, j, rfl, rfl, rfl⟩ := he _ _ _ _ e
  cases rpx
  cases rpy
  exact ho pins s σ H _ _ v u Q I rx ry ⟨i, j, rfl, rfl, q⟩
theorem cop_lt : OpR X (compareOp .Lt) (rCop X.K g .lt) := cop_int (o := .lt) (p := fun i j => decide (i < j)) op_lt fun px py st k e => by
  cases px <;> cases py <;> first | (cases e; done) | (cases e; exact ⟨_, _, rfl, rfl, rfl⟩)
theorem cop_le : OpR X (compareOp .LtE) (rCop X.K g .le) := cop_int (o := .le) (p := fun i j => decide (i ≤ j)) op_le fun px py st k e => by
  cases px <;> cases py <;> first | (cases e; done) | (cases e; exact ⟨_, _, rfl, rfl, rfl⟩)
theorem cop_gt : OpR X (compareOp .Gt) (rCop X.K g .gt) := cop_int (o := .gt) (p := fun i j => decide (j < i)) op_gt fun px py st k e => by
  cases px <;> cases py <;> first | (cases e; done) | (cases e; exact ⟨_, _, rfl, rfl, rfl⟩)
theorem cop_ge : OpR X (compareOp .GtE) (rCop X.K g .ge) := cop_int (o := .ge) (p := fun i j => decide (j ≤ i)) op_ge fun px py st k e => by
  cases px <;> cases py <;> first | (cases e; done) | (cases e; exact ⟨_, _, rfl, rfl, rfl⟩)

/-- dicts: keys -/
theorem key_of' {x : PV} {v : V} {k : Key} (r : RV K ρ H x v) (e : keyOf x = some k) : v = kV k := by
  cases r with
  | int i => cases e; rfl
  | str i => cases e; rfl
  | _ => cases e
theorem keys_of' : ∀ {x : List PV} {v : List V} {k : List Key}, RVs K ρ H x v → keysOf x = some k → v = k.map kV
  | _, _, _, .nil, e => by cases e; rfl
  | _, _, _, .cons h r, e => by
    simp only [keysOf] at e
    split at e
    · rename_i k ks e1 e2
      cases e
      rw [List.map_cons, key_of' h e1, keys_of' r e2]
    · cases e
def RVo (K : PySem.W.Frag) (ρ : List Addr) (H : Hp) : Option PV → Option V → Prop
  | some x, some v => RV K ρ H x v
  | none, none => True
  | _, _ => False
theorem RKv.val {κ : Type} [DecidableEq κ] (k : κ) : ∀ {kvs : List (κ × PV)} {ks : List (κ × V)}, RKv K ρ H kvs ks → RVo K ρ H ((kvs.find? fun p => decide (p.1 = k)).map (·.2)) (valV ks k)
  | _, _, .nil => trivial
  | (a, x) :: _, (b, v) :: _, .cons h r => by
    obtain ⟨h1, h2⟩ := h
    cases h1
    by_cases e : a = k
    · subst e
      simp only [valV, List.find?_cons, decide_true]
      exact h2
    · simp only [valV, List.find?_cons, decide_eq_false e]
      exact RKv.val k r
theorem dget_of {o : Ob} {x : PV} {v : V} {a : Addr} {r : Option PV} (h : RO K g ρ H o a) (rx : RV K ρ H x v) (e : dget o x = some r) : ∃ w, DGet H a v w ∧ RVo K ρ H r w := by
  cases o with
  | dK kvs =>
    obtain ⟨ks, h1, h2⟩ := h
    simp only [dget, Option.map_eq_some_iff] at e
    obtain ⟨k, e1, e2⟩ := e
    subst e2
    rw [key_of' rx e1]
    exact ⟨_, .k h1, h2.val k⟩
  | dT kvs =>
    obtain ⟨ks, h1, h2⟩ := h
    cases rx with
    | @tuk xs b vs hb rb =>
      simp only [dget, Option.map_eq_some_iff] at e
      obtain ⟨k, e1, e2⟩ := e
      subst e2
      have hv := keys_of' rb e1
      subst hv
      exact ⟨_, .t h1 hb, h2.val k⟩
    | _ => cases e
  | _ => cases x <;> cases e
theorem cop_isin (hu : X.A.units + 1600 < cLine) : OpR X (compareOp .In) (rCop X.K g .isin) := by
  intro pins s σ H x y v u Q I rx ry h
  obtain ⟨ρ, st, px, py, k, S, rpx, rpy, e, q⟩ := h
  simp only [cop, memV] at e
  have seq : ∀ {ys : List PV} {a : Addr} {vs : List V}, (SqL X.K H a vs ∨ SqT X.K H a vs) → RVs X.K ρ H ys vs → y = .ref a → inD px ys = some k → wpAny (model X.prog X.w) X.A (compareOp .In v u) (EP X pins σ Q) X.xe s := by
    intro ys a vs ha r2 hy e
    subst hy
    unfold inD at e
    split at e
    · rename_i hz
      obtain ⟨z1, z2, z3⟩ := hz
      cases e
      obtain ⟨as, r1⟩ := Dp.reads I _ x v (dp_of rpx z1) rx
      rcases ha with ha | ha
      · obtain ⟨bs, r3⟩ := Dp.reads I (.list (dDs ys)) _ u (.lst ha (dps_of r2 z2)) ry
        exact SeqAt.in_list_reads r3 r1 (okDs_lay _ z2) (okD_lay _ z1) (by unfold dLim at z3; omega) ⟨.bl _, H, I, rfl, q⟩
      · obtain ⟨bs, r3⟩ := Dp.reads I (.tuple (dDs ys)) _ u (.tup ha (dps_of r2 z2)) ry
        exact SeqAt.in_tuple_reads r3 r1 (okDs_lay _ z2) (okD_lay _ z1) (by unfold dLim at z3; omega) ⟨.bl _, H, I, rfl, q⟩
    · cases e
  cases rpy with
  | @tup ys a vs o h1 hd r1 => exact seq (.inr (sqt_frz h1)) r1 rfl e
  | @ref n a h1 =>
    simp only at e
    split at e
    · rename_i ys hs
      obtain ⟨vs, h2, h3⟩ := S.obj n _ a hs h1
      exact seq (.inl (.of h2)) h3 rfl e
    · rename_i o hne hs
      obtain ⟨r, e1, e2⟩ := Option.map_eq_some_iff.mp e
      obtain ⟨w, hg, hr⟩ := dget_of (S.obj n _ a hs h1) rpx e1
      cases ry
      have hk : k = w.isSome := by
        subst e2
        cases r <;> cases w <;> first | rfl | exact absurd hr id
      subst hk
      exact d_in (by omega) I hg rx fun s' I' => ⟨.bl _, H, I', rfl, q⟩
    · cases e
  | _ => cases e
theorem cop_notin (hu : X.A.units + 1600 < cLine) : OpR X (compareOp .NotIn) (rCop X.K g .notin) := by
  intro pins s σ H x y v u Q I rx ry h
  obtain ⟨ρ, st, px, py, k, S, rpx, rpy, e, q⟩ := h
  simp only [cop, Option.map_eq_some_iff] at e
  obtain ⟨k0, e, hk0⟩ := e
  subst hk0
  simp only [memV] at e
  have seq : ∀ {ys : List PV} {a : Addr} {vs : List V}, (SqL X.K H a vs ∨ SqT X.K H a vs) → RVs X.K ρ H ys vs → y = .ref a → inD px ys = some k0 → wpAny (model X.prog X.w) X.A (compareOp .NotIn v u) (EP X pins σ Q) X.xe s := by
    intro ys a vs ha r2 hy e
    subst hy
    unfold inD at e
    split at e
    · rename_i hz
      obtain ⟨z1, z2, z3⟩ := hz
      cases e
      obtain ⟨as, r1⟩ := Dp.reads I _ x v (dp_of rpx z1) rx
      rcases ha with ha | ha
      · obtain ⟨bs, r3⟩ := Dp.reads I (.list (dDs ys)) _ u (.lst ha (dps_of r2 z2)) ry
        exact SeqAt.notIn_list_reads r3 r1 (okDs_lay _ z2) (okD_lay _ z1) (by unfold dLim at z3; omega) ⟨.bl _, H, I, rfl, q⟩
      · obtain ⟨bs, r3⟩ := Dp.reads I (.tuple (dDs ys)) _ u (.tup ha (dps_of r2 z2)) ry
        exact SeqAt.notIn_tuple_reads r3 r1 (okDs_lay _ z2) (okD_lay _ z1) (by unfold dLim at z3; omega) ⟨.bl _, H, I, rfl, q⟩
    · cases e
  cases rpy with
  | @tup ys a vs o h1 hd r1 => exact seq (.inr (sqt_frz h1)) r1 rfl e
  | @ref n a h1 =>
    simp only at e
    split at e
    · rename_i ys hs
      obtain ⟨vs, h2, h3⟩ := S.obj n _ a hs h1
      exact seq (.inl (.of h2)) h3 rfl e
    · rename_i o hne hs
      obtain ⟨r, e1, e2⟩ := Option.map_eq_some_iff.mp e
      obtain ⟨w, hg, hr⟩ := dget_of (S.obj n _ a hs h1) rpx e1
      cases ry
      have hk : k0 = w.isSome := by
        subst e2
        cases r <;> cases w <;> first | rfl | exact absurd hr id
      subst hk
      exact d_notIn (by omega) I hg rx fun s' I' => ⟨.bl _, H, I', rfl, q⟩
    · cases e
  | _ => cases e
theorem cop_ok (hu : X.A.units + 1600 < cLine) : ∀ o : Cop, OpR X (compareOp o.op) (rCop X.K g o)
  | .eq => cop_eq hu | .ne => cop_ne hu | .lt => cop_lt | .le => cop_le | .gt => cop_gt | .ge => cop_ge | .isin => cop_isin hu | .notin => cop_notin hu

/-! ### subscripts, slices -/
theorem RVs.atI {xs : List PV} {vs : List V} {i : Int} {x : PV} (r : RVs K ρ H xs vs) (e : L2.atI xs i = some x) : ∃ v, L2.atI vs i = some v ∧ RV K ρ H x v := by
  unfold L2.atI at e ⊢
  rw [← r.length]
  cases h : ixN xs.length i with
  | none => rw [h] at e; cases e
  | some j => rw [h] at e; exact r.get e
def rIxV (K : PySem.W.Frag) (g : Nat → Addr) : R2 := fun x y H Q => ∃ ρ st px py v, RS K g ρ H st ∧ RV K ρ H px x ∧ RV K ρ H py y ∧ ixV px py st = some v ∧ Post K g ρ H v st Q
theorem cut_eq {xs : List PV} {vs : List V} (r : RVs K ρ H xs vs) (lo hi : Option Int) : RVs K ρ H (cutP xs lo hi) (cutV vs lo hi) := by
  unfold cutP cutV
  rw [r.length]
  exact (r.drop _).take _
theorem sl_ok : SlR X (fun x lo hi H Q => ∃ ρ st px v st', RS X.K g ρ H st ∧ RV X.K ρ H px x ∧ slV px lo hi st = some (v, st') ∧ Post X.K g ρ H v st' Q) := by
  intro pins s σ H x v vl vu lo hi sl Q I rx hs pl pu h
  obtain ⟨ρ, st, px, r, st', S, rpx, e, q⟩ := h
  cases rpx with
  | @tup xs a vs o h1 hd r1 =>
    cases e
    refine sl_tupF pins s σ H _ v vl vu lo hi sl Q I rx hs pl pu ⟨a, vs, rfl, sqt_frz h1, fun hw => ?_, fun _ => post_tup S (cut_eq r1 lo hi) q⟩
    refine q _ _ _ .refl S (.tup h1 hd ?_)
    have : cutP xs lo hi = xs := by
      unfold cutP
      rw [r1.length, hw.1, hw.2]
      rw [List.drop_zero, Nat.sub_zero, ← r1.length, List.take_length]
    rw [this]; exact r1
  | @ref n a h1 =>
    simp only [slV] at e
    split at e
    · rename_i xs hs'
      cases e
      obtain ⟨vs, h2, h3⟩ := S.obj n _ a hs' h1
      exact sl_list pins s σ H _ v vl vu lo hi sl Q I rx hs pl pu ⟨a, vs, rfl, .of h2, post_lst S (cut_eq h3 lo hi) q⟩
    · cases e
  | @rol xs a vs h1 r1 =>
    cases e
    exact sl_list pins s σ H _ v vl vu lo hi sl Q I rx hs pl pu ⟨a, vs, rfl, h1.sql, post_lst S (cut_eq r1 lo hi) q⟩
  | _ => cases e
end Kg
/-! PvBi: built-ins and methods, by values. -/
namespace Kg
open PySem PySem.Spec PyProof.Rows L2

section
variable {prog : Program} {w : World} {A : Around} {E : Value → Shared → Prop} {s : Shared}
theorem collect_tuple {l : Addr} {vs : List Value} {Q : List Value → Shared → Prop} (hl : IsTup s.heap l vs.toArray)
    (h : Q vs { s with heap := (s.heap.push (seqObj "list" #[] 0)).update s.heap.objs.size (Obj.mapSeq (· ++ vs.toArray)) }) (hsz : vs.length ≤ sizeLine) :
    wpAny (model prog w) A (collect (.ref l)) Q E s := by
  obtain ⟨o, ho, hc, n, hd⟩ := id hl
  unfold collect
  refine wpAny_bind (wpAny_runValue (codeAny_builtin entry_proto_collect' ?_))
  show wpAny _ _ (do again (.builtin "list.__iadd__" ⟨[← newList [], .ref l], []⟩)) _ _ s
  refine wpAny_bind (wpAny_newList (wpAny_pure ⟨Code.quiet_builtin _ (by decide +kernel), codeAny_builtin entry_list_iadd' ?_⟩))
  show wpAny _ _ (Builtin.List.listExtendWith (.ref s.heap.objs.size) (.ref l) (.ref s.heap.objs.size)) _ _ { s with heap := s.heap.push (seqObj "list" #[] 0) }
  unfold Builtin.List.listExtendWith
  have ho' : (s.heap.push (seqObj "list" #[] 0)).get? l = some o := Heap.get?_push_of_some _ ho
  refine wpAny_bind (wpAny_typeOf (T := "tuple") ⟨o, ho', hc⟩ ?_)
  have ht : (Value.type "tuple" == Value.type "tuple") = true := by rfl
  rw [if_pos (by rw [ht]; simp)]
  refine wpAny_bind (listItems_at ho' hd ?_)
  refine wpAny_bind (listItems_at (xs := #[]) (n := 0) (Heap.get?_push_size _ rfl) rfl ?_)
  rw [if_neg (by simp)]
  refine wpAny_bind (listUpdate_at (xs := #[]) (n := 0) (Heap.get?_push_size _ rfl) rfl ?_ (Nat.zero_le _) (by show (#[] ++ vs.toArray).size ≤ sizeLine + 1; simp only [Array.size_append, List.size_toArray, List.length_nil]; omega))
  refine wpAny_pure ?_
  show wpAny (model prog w) A (do
      let o ← load s.heap.objs.size
      match o.data with
      | .seq xs _ => pure xs.toList
      | _ => unsupported "internal:collect") Q E { s with heap := (s.heap.push (seqObj "list" #[] 0)).update s.heap.objs.size (Obj.mapSeq (· ++ vs.toArray)) }
  refine wpAny_bind (wpAny_load (get?_update_seq (Heap.get?_push_size _ rfl) _) ?_)
  show wpAny _ _ (pure ((#[] : Array Value) ++ vs.toArray).toList) Q E _
  rw [show ((#[] : Array Value) ++ vs.toArray).toList = vs by simp]
  exact wpAny_pure h

open PySem.W in
theorem sortedT_of_sort {l : Addr} {vs : List Value} {Q : Value → Shared → Prop} (hl : IsTup s.heap l vs.toArray) (hL : vs.length ≤ sizeLine)
    (body : ∀ E' : Value → Shared → Prop, wpAny (model prog w) A.in1.in1 (Builtin.«list.sort» ⟨[.ref (s.heap.objs.size + 1)], []⟩) (fun f s' => f = .done (.ret .none) ∧ Q (.ref (s.heap.objs.size + 1)) s') E' { s with heap := copyHeap s.heap vs }) :
    wpAny (model prog w) A (call (.builtin "sorted") [.ref l]) Q E s := by
  refine call_function_entry_kw kind_sorted plain_sorted entry_sorted (args_sorted1 _) ?_
  unfold Builtin.«sorted»
  refine wpAny_bind (m := checkCount "sorted" 1 1 _) (wpAny_pure ?_)
  refine wpAny_bind (collect_tuple hl ?_ hL)
  refine wpAny_bind (wpAny_newList ?_ hL)
  have hsz : ((s.heap.push (seqObj "list" #[] 0)).update s.heap.objs.size (Obj.mapSeq (· ++ vs.toArray))).objs.size = s.heap.objs.size + 1 := by
    rw [Heap.size_update, size_push']
  show wpAny _ _ _ _ _ { s with heap := copyHeap s.heap vs }
  rw [hsz]
  refine wpAny_bind (wpAny_holding (wpAny_call_entry_kw slot_list_sort ⟨_, copyHeap_at s.heap vs, rfl⟩ entry_list_sort ?body (args_list_sort _)))
  case body =>
    show wpAny (model prog w) A.in1.in1 (Builtin.«list.sort» ⟨[.ref (s.heap.objs.size + 1)], []⟩) _ _ _
    refine wpAny_mono (body _) (fun f s' hf => ?_) fun _ _ e => e
    obtain ⟨rfl, hq⟩ := hf
    exact ⟨_, rfl, wpAny_pure ⟨_, rfl, hq⟩⟩
open PySem.W in
theorem sortedT_data {β : Type} {vs : List Value} {bs : List β} {enc : β → PyData} {R : Value → β → Prop} {l : Addr} {Q : Value → Shared → Prop} (hl : IsTup s.heap l vs.toArray) (e : EachIs R vs bs) (er : EachIs (fun v b => ∃ as, Reads s.heap v (enc b) as) vs bs) (hal : AllAlike (bs.map enc)) (hk : Sortable (bs.map enc)) (hL : bs.length ≤ sizeLine)
    (hu : ∀ b, b ∈ bs → A.units + 2 + (enc b).depth < cLine) (h : ∀ out, out.length = bs.length → EachIs R out (bs.mergeSort (dataLe false enc)) → Q (.ref (s.heap.objs.size + 1)) { s with heap := sortedAll s.heap vs (List.toArray out) }) :
    wpAny (model prog w) A (call (.builtin "sorted") [.ref l]) Q E s := by
  have er' : EachIs (fun v b => ∃ as, Reads (sortingHeap (copyHeap s.heap vs) (s.heap.objs.size + 1) vs) v (enc b) as) vs bs := er.mono fun _ _ ⟨as, r⟩ => ⟨as, PyProof.Rows.Reads.keeps (fun _ _ => sorting_copy_old) r⟩
  have hL' : vs.length ≤ sizeLine := by rw [e.length]; exact hL
  refine sortedT_of_sort hl hL' fun E' => list_sort_vals (s := { s with heap := copyHeap s.heap vs }) (copyHeap_at s.heap vs) (SortsAt.data (s := { s with heap := sortingHeap (copyHeap s.heap vs) (s.heap.objs.size + 1) vs }) (each_map (R := fun v d => ∃ as, Reads (sortingHeap (copyHeap s.heap vs) (s.heap.objs.size + 1) vs) v d as) enc er') hal hk (bound_map hu)) hL' ⟨rfl, ?_⟩
  exact h _ (by rw [sortVals_length false rfl]; exact e.length) (sortVals_data false e er' hal)
end

variable {K : PySem.W.Frag} {g : Nat → Addr} {ρ ρ' : List Addr} {H H' : Hp} {st st' : Sto} {X : Cx}

def rBi (K : PySem.W.Frag) (g : Nat → Addr) (b : Bi) : List V → Hp → VK → Prop := fun vs H Q => ∃ ρ st xs v st', RS K g ρ H st ∧ RVs K ρ H xs vs ∧ biV b xs st = some (v, st') ∧ Post K g ρ H v st' Q

theorem RVs.one {x : PV} {vs : List V} (h : RVs K ρ H [x] vs) : ∃ v, vs = [v] ∧ RV K ρ H x v := by
  cases h with
  | cons h r => cases r; exact ⟨_, rfl, h⟩
theorem RVs.two {x y : PV} {vs : List V} (h : RVs K ρ H [x, y] vs) : ∃ v w, vs = [v, w] ∧ RV K ρ H x v ∧ RV K ρ H y w := by
  cases h with
  | cons h r =>
    cases r with
    | cons h2 r => cases r; exact ⟨_, _, rfl, h, h2⟩

theorem bi_len : CallR X (.builtin "len") (rBi X.K g .len) := by
  intro pins s σ H vs us Q I rv h
  obtain ⟨ρ, st, xs, v, st', S, rx, e, q⟩ := h
  match xs, e with
  | [x], e =>
    obtain ⟨v1, rfl, r1⟩ := rx.one
    simp only [biV] at e
    split at e
    · rename_i ys hs
      cases e
      obtain ⟨a, ws, rfl, hq, r2⟩ := sq_of S r1 hs
      exact call_len_seq pins s σ H _ us Q I rv ⟨a, ws, rfl, hq, by rw [← r2.length]; exact q _ _ _ .refl S (.int _)⟩
    · rename_i y hs
      split at e
      · rename_i hz
        cases e
        cases r1
        exact call_len_str pins s σ H _ us Q I rv ⟨y, rfl, hz, q _ _ _ .refl S (.int _)⟩
      · cases e
    · rename_i n hs
      split at e
      · rename_i kvs hk
        cases e
        cases r1 with
        | @ref n a h =>
          obtain ⟨ks, h1, h2⟩ := S.obj n _ a hk h
          obtain ⟨u, rfl, ru⟩ := vals1 rv
          cases ru
          refine d_len I (.inl h1) fun t s' I' => ⟨.int kvs.length, H, I', ⟨t, ?_⟩, q _ _ _ .refl S (.int _)⟩
          rw [← Paired.length h2]
      · cases e
    · cases e
theorem bi_int : CallR X (.type "int") (rBi X.K g .int) := by
  intro pins s σ H vs us Q I rv h
  obtain ⟨ρ, st, xs, v, st', S, rx, e, q⟩ := h
  simp only [biV] at e
  split at e
  all_goals first | cases e; done | skip
  all_goals try (rename_i i; cases e; obtain ⟨v1, rfl, r1⟩ := rx.one; cases r1)
  all_goals first
    | exact call_int1 pins s σ H _ us Q I rv (.inl ⟨_, rfl, q _ _ _ .refl S (.int _)⟩)
    | exact call_int1 pins s σ H _ us Q I rv (.inr ⟨_, rfl, q _ _ _ .refl S (.int _)⟩)
    | simp at *
theorem bi_abs : CallR X (.builtin "abs") (rBi X.K g .abs) := by
  intro pins s σ H vs us Q I rv h
  obtain ⟨ρ, st, xs, v, st', S, rx, e, q⟩ := h
  match xs, e with
  | [.int i], e =>
    cases e
    obtain ⟨v1, rfl, r1⟩ := rx.one
    cases r1
    exact call_abs pins s σ H _ us Q I rv ⟨i, rfl, q _ _ _ .refl S (.int _)⟩
theorem bi_list : CallR X (.type "list") (rBi X.K g .list) := by
  intro pins s σ H vs us Q I rv h
  obtain ⟨ρ, st, xs, v, st', S, rx, e, q⟩ := h
  match xs, e with
  | [x], e =>
    simp only [biV] at e
    split at e
    · rename_i ys hs
      cases e
      obtain ⟨v1, rfl, r1⟩ := rx.one
      obtain ⟨a, ws, rfl, hq, r2⟩ := sq_of S r1 hs
      exact call_list_of pins s σ H _ us Q I rv ⟨a, ws, rfl, hq, post_lst S r2 q⟩
    · cases e
theorem bi_tuple : CallR X (.type "tuple") (rBi X.K g .tuple) := by
  intro pins s σ H vs us Q I rv h
  obtain ⟨ρ, st, xs, v, st', S, rx, e, q⟩ := h
  match xs, e with
  | [x], e =>
    obtain ⟨v1, rfl, r1⟩ := rx.one
    cases r1 with
    | @tup zs a ws o h1 hd r2 =>
      cases e
      exact call_tupleF pins s σ H _ us Q I rv ⟨a, ws, rfl, .inr ⟨sqt_frz h1, q _ _ _ .refl S (.tup h1 hd r2)⟩⟩
    | @ref n a h1 =>
      simp only [biV, sqOf] at e
      split at e
      · rename_i ys hs
        split at hs
        · rename_i zs hz
          cases hs
          cases e
          obtain ⟨ws, h2, h3⟩ := S.obj n _ a hz h1
          exact call_tupleF pins s σ H _ us Q I rv ⟨a, ws, rfl, .inl ⟨.of h2, post_tup S h3 q⟩⟩
        · cases hs
      · cases e
    | @rol zs a ws h1 r2 =>
      cases e
      exact call_tupleF pins s σ H _ us Q I rv ⟨a, ws, rfl, .inl ⟨h1.sql, post_tup S r2 q⟩⟩
    | _ => cases e
theorem intsP_of : ∀ {xs : List PV} {vs : List V} {ns : List Int}, RVs K ρ H xs vs → intsP xs = some ns → vs = ns.map V.int
  | [], _, _, .nil, e => by cases e; rfl
  | .int i :: r, _, _, .cons h t, e => by
    simp only [intsP, Option.map_eq_some_iff] at e
    obtain ⟨ns, e1, e2⟩ := e
    subst e2
    cases h
    rw [List.map_cons, intsP_of t e1]
  | .non :: r, _, _, .cons h t, e => by cases e
  | .bl _ :: r, _, _, .cons h t, e => by cases e
  | .str _ :: r, _, _, .cons h t, e => by cases e
  | .tup _ :: r, _, _, .cons h t, e => by cases e
  | .tuk _ :: r, _, _, .cons h t, e => by cases e
  | .ref _ :: r, _, _, .cons h t, e => by cases e
  | .rol _ :: r, _, _, .cons h t, e => by cases e
theorem boolsP_of : ∀ {xs : List PV} {vs : List V} {ns : List Bool}, RVs K ρ H xs vs → boolsP xs = some ns → vs = ns.map V.bl
  | [], _, _, .nil, e => by cases e; rfl
  | .bl i :: r, _, _, .cons h t, e => by
    simp only [boolsP, Option.map_eq_some_iff] at e
    obtain ⟨ns, e1, e2⟩ := e
    subst e2
    cases h
    rw [List.map_cons, boolsP_of t e1]
  | .non :: r, _, _, .cons h t, e => by cases e
  | .int _ :: r, _, _, .cons h t, e => by cases e
  | .str _ :: r, _, _, .cons h t, e => by cases e
  | .tup _ :: r, _, _, .cons h t, e => by cases e
  | .tuk _ :: r, _, _, .cons h t, e => by cases e
  | .ref _ :: r, _, _, .cons h t, e => by cases e
  | .rol _ :: r, _, _, .cons h t, e => by cases e
theorem strsP_of : ∀ {xs : List PV} {vs : List V} {ns : List Str}, RVs K ρ H xs vs → strsP xs = some ns → vs = ns.map V.str
  | [], _, _, .nil, e => by cases e; rfl
  | .str i :: r, _, _, .cons h t, e => by
    simp only [strsP, Option.map_eq_some_iff] at e
    obtain ⟨ns, e1, e2⟩ := e
    subst e2
    cases h
    rw [List.map_cons, strsP_of t e1]
  | .non :: r, _, _, .cons h t, e => by cases e
  | .int _ :: r, _, _, .cons h t, e => by cases e
  | .bl _ :: r, _, _, .cons h t, e => by cases e
  | .tup _ :: r, _, _, .cons h t, e => by cases e
  | .tuk _ :: r, _, _, .cons h t, e => by cases e
  | .ref _ :: r, _, _, .cons h t, e => by cases e
  | .rol _ :: r, _, _, .cons h t, e => by cases e
theorem bi_sum (hc : X.calm = true) : CallR X (.builtin "sum") (rBi X.K g .sum) := by
  intro pins s σ H vs us Q I rv h
  obtain ⟨ρ, st, xs, v, st', S, rx, e, q⟩ := h
  match xs, e with
  | [.ref n], e =>
    simp only [biV] at e
    split at e
    · rename_i ys hs
      obtain ⟨ns, e1, e2⟩ := Option.map_eq_some_iff.mp e
      cases e2
      obtain ⟨v1, rfl, r1⟩ := rx.one
      obtain ⟨a, ws, rfl, h1, h2, h3⟩ := lst_of S r1 hs
      have hw := intsP_of h3 e1
      subst hw
      exact cr_sum hc pins s σ H _ us Q I rv ⟨a, ns, rfl, .of h2, q _ _ _ .refl S (.int _)⟩
    · cases e
theorem bi_all (hc : X.calm = true) : CallR X (.builtin "all") (rBi X.K g .all) := by
  intro pins s σ H vs us Q I rv h
  obtain ⟨ρ, st, xs, v, st', S, rx, e, q⟩ := h
  match xs, e with
  | [.ref n], e =>
    simp only [biV] at e
    split at e
    · rename_i ys hs
      obtain ⟨ns, e1, e2⟩ := Option.map_eq_some_iff.mp e
      cases e2
      obtain ⟨v1, rfl, r1⟩ := rx.one
      obtain ⟨a, ws, rfl, h1, h2, h3⟩ := lst_of S r1 hs
      have hw := boolsP_of h3 e1
      subst hw
      exact cr_all hc pins s σ H _ us Q I rv ⟨a, ns, rfl, .of h2, q _ _ _ .refl S (.bl _)⟩
    · cases e
theorem bi_any (hc : X.calm = true) : CallR X (.builtin "any") (rBi X.K g .any) := by
  intro pins s σ H vs us Q I rv h
  obtain ⟨ρ, st, xs, v, st', S, rx, e, q⟩ := h
  match xs, e with
  | [.ref n], e =>
    simp only [biV] at e
    split at e
    · rename_i ys hs
      obtain ⟨ns, e1, e2⟩ := Option.map_eq_some_iff.mp e
      cases e2
      obtain ⟨v1, rfl, r1⟩ := rx.one
      obtain ⟨a, ws, rfl, h1, h2, h3⟩ := lst_of S r1 hs
      have hw := boolsP_of h3 e1
      subst hw
      exact cr_any hc pins s σ H _ us Q I rv ⟨a, ns, rfl, .of h2, q _ _ _ .refl S (.bl _)⟩
    · cases e
theorem bi_min (hc : X.calm = true) : CallR X (.builtin "min") (rBi X.K g .min) := by
  intro pins s σ H vs us Q I rv h
  obtain ⟨ρ, st, xs, v, st', S, rx, e, q⟩ := h
  match xs, e with
  | [.int i, .int j], e =>
    cases e
    obtain ⟨v1, v2, rfl, r1, r2⟩ := rx.two
    cases r1
    cases r2
    exact call_min2 hc pins s σ H _ us Q I rv ⟨i, j, rfl, q _ _ _ .refl S (.int _)⟩
theorem bi_max (hc : X.calm = true) : CallR X (.builtin "max") (rBi X.K g .max) := by
  intro pins s σ H vs us Q I rv h
  obtain ⟨ρ, st, xs, v, st', S, rx, e, q⟩ := h
  match xs, e with
  | [.int i, .int j], e =>
    cases e
    obtain ⟨v1, v2, rfl, r1, r2⟩ := rx.two
    cases r1
    cases r2
    exact call_max2 hc pins s σ H _ us Q I rv ⟨i, j, rfl, q _ _ _ .refl S (.int _)⟩
theorem bi_str : CallR X (.type "str") (rBi X.K g .str) := by
  intro pins s σ H vs us Q I rv h
  obtain ⟨ρ, st, xs, v, st', S, rx, e, q⟩ := h
  match xs, e with
  | [.int i], e =>
    simp only [biV] at e
    split at e
    · rename_i hz
      cases e
      obtain ⟨v1, rfl, r1⟩ := rx.one
      cases r1
      exact call_str_int pins s σ H _ us Q I rv ⟨i, rfl, hz, q _ _ _ .refl S (.str _)⟩
    · cases e
end Kg
/-! PvMe: sorted, methods, stores, by values. -/
namespace Kg
open PySem PySem.Spec PyProof.Rows L2

section
set_option maxRecDepth 8000 in
theorem extend_tuple (l : Addr) (items : Array Value) (n : Nat) (b : Addr) (items2 : Array Value) (n2 : Nat) (dd : Option Addr) (sl : Array (Option Value)) (hs0 : ¬(!items.isEmpty && Builtin.List.listTooLong (items.size + items2.size)) = true) (hs1 : items.size ≤ sizeLine) (hs2 : items.size + items2.size ≤ sizeLine + 1) :
    Meets (Builtin.«list.extend» ⟨[.ref l, .ref b], []⟩) (fun _ R s => s.heap.get? l = some { cls := .type "list", dict := none, data := .seq items n, slots := #[] } ∧ s.heap.get? b = some { cls := .type "tuple", dict := dd, data := .seq items2 n2, slots := sl } ∧ R (.ok (.ret Value.none)) { s with heap := s.heap.update l (Obj.mapSeq fun x => x ++ items2), toks := s.toks }) :=
  .of_wp fun prog w A R s h => by
    obtain ⟨hp, g, d, tk, os⟩ := s; obtain ⟨hl, hb, h⟩ := h; have f1 := AutoSeq1.idx_int; have f2 := AutoSeq1.sub_tuple_tuple; have f3 := AutoSeq1.sub_list_list; have f4 := AutoSeq1.sub_tuple_list; have f5 := AutoSeq1.sub_list_tuple;
    have hz' : (items ++ items2).size ≤ sizeLine + 1 := by rw [Array.size_append]; exact hs2
    wp_walk using (wpAny_updateSeq hl rfl (hz := hs1) (_hz' := hz')), AutoSeq1.wpAny_loadPart' hl, AutoSeq1.wpAny_loadPart' hb; exact ⟨_, rfl, h⟩
end

variable {K : PySem.W.Frag} {g : Nat → Addr} {ρ ρ' : List Addr} {H H' : Hp} {st st' : Sto} {X : Cx}

/-- an object changed -/
theorem post_wr {n : Nat} {o o' : Ob} {p : Addr} {u : HO} {v : PV} {w : V} {Q : VK} (S : RS K g ρ H st) (hn : st[n]? = some o) (hρ : ρ[n]? = some p) (h : RO K g ρ (upd H p u) o' p)
    (rv : RV K ρ (upd H p u) v w) (q : Post K g ρ H v (st.set n o') Q) : Q w (upd H p u) := by
  obtain ⟨z, hz, mu⟩ := S.has hρ
  exact q ρ _ w (ext_mut hρ (by rw [hz]; exact mu)) (S.wr hn hρ h) rv
theorem post_lwr {n : Nat} {ys ys' : List PV} {p : Addr} {vs vs' : List V} {v : PV} {w : V} {Q : VK} (S : RS K g ρ H st) (hn : st[n]? = some (.lst ys)) (hρ : ρ[n]? = some p) (hp : H p = some (.lst vs)) (r : RVs K ρ H ys' vs')
    (rv : RV K ρ H v w) (q : Post K g ρ H v (st.set n (.lst ys')) Q) : Q w (upd H p (.lst vs')) := by
  have hm : Mut (H p) := by rw [hp]; trivial
  exact post_wr (o' := .lst ys') S hn hρ ⟨vs', upd_same, r.mon (mon_mut hm)⟩ (rv.mon (mon_mut hm)) q

def rMe (K : PySem.W.Frag) (g : Nat → Addr) (m : Me) : V → List V → Hp → VK → Prop := fun x vs H Q => ∃ ρ st px xs v st', RS K g ρ H st ∧ RV K ρ H px x ∧ RVs K ρ H xs vs ∧ meV m px xs st = some (v, st') ∧ Post K g ρ H v st' Q

theorem me_append : MtR X "list.append" (rMe X.K g .append) := by
  intro pins s σ H x vs v us Q I rx rv h
  obtain ⟨ρ, st, px, xs, v, st', S, r1, r2, e, q⟩ := h
  match px, xs, e with
  | .ref n, [y], e =>
    simp only [meV] at e
    split at e
    · rename_i ys hs
      split at e
      · rename_i hz
        cases e
        obtain ⟨a, ws, rfl, h1, h2, h3⟩ := lst_of S r1 hs
        obtain ⟨w, rfl, r4⟩ := r2.one
        exact mt_append pins s σ H _ _ _ us Q I rx rv ⟨a, ws, w, rfl, rfl, h2, by rw [← h3.length]; exact hz, post_lwr S hs h1 h2 (h3.append (.cons r4 .nil)) .non q⟩
      · cases e
    · cases e
theorem me_pop : MtR X "list.pop" (rMe X.K g .pop) := by
  intro pins s σ H x vs v us Q I rx rv h
  obtain ⟨ρ, st, px, xs, v, st', S, r1, r2, e, q⟩ := h
  match px, xs, e with
  | .ref n, [], e =>
    simp only [meV] at e
    split at e
    · rename_i ys hs
      split at e
      · rename_i y hy
        cases e
        obtain ⟨a, ws, rfl, h1, h2, h3⟩ := lst_of S r1 hs
        cases r2
        obtain ⟨w, hw, r4⟩ := h3.get hy
        rw [h3.length] at hw
        exact mt_pop pins s σ H _ _ _ us Q I rx rv ⟨a, ws, w, rfl, rfl, h2, hw, post_lwr S hs h1 h2 h3.dropLast r4 q⟩
      · cases e
    · cases e
theorem me_extend : MtR X "list.extend" (rMe X.K g .extend) := by
  intro pins s σ H x vs v us Q I rx rv h
  obtain ⟨ρ, st, px, xs, v, st', S, r1, r2, e, q⟩ := h
  match px, xs, e with
  | .ref n, [.ref m], e =>
    simp only [meV] at e
    split at e
    · rename_i ys zs hs hm
      split at e
      · rename_i hz
        cases e
        obtain ⟨a, ws, rfl, h1, h2, h3⟩ := lst_of S r1 hs
        obtain ⟨w, rfl, r4⟩ := r2.one
        obtain ⟨b, ws2, rfl, k1, k2, k3⟩ := lst_of S r4 hm
        exact mt_extend pins s σ H _ _ _ us Q I rx rv ⟨a, b, ws, ws2, rfl, rfl, h2, k2, by rw [← h3.length, ← k3.length]; exact hz, post_lwr S hs h1 h2 (h3.append k3) .non q⟩
      · cases e
    · cases e
  | .ref n, [.tup zs], e =>
    simp only [meV] at e
    split at e
    · rename_i ys hs
      split at e
      · rename_i hz
        cases e
        obtain ⟨a, ws, rfl, h1, h2, h3⟩ := lst_of S r1 hs
        obtain ⟨w, rfl, r4⟩ := r2.one
        cases r4 with
        | @tup _ b ws2 o2 k2 kd k3 =>
          cases rx
          obtain ⟨u, rfl, ru⟩ := rv.one
          cases ru
          obtain ⟨z, its, n', r, hl, e'⟩ := I.lstM h2
          obtain ⟨its2, rr2, ⟨⟨cls, dd, data, sl⟩, e2, hc, n2, hd⟩, z2⟩ := I.tuple (sqt_frz k2)
          simp only at hc hd
          subst hc hd
          have hsz : its.toArray.size + its2.toArray.size ≤ sizeLine := by rw [List.size_toArray, List.size_toArray, ← r.length, ← rr2.length, ← h3.length, ← k3.length]; exact hz
          have hlong : ¬ (!its.toArray.isEmpty && Builtin.List.listTooLong (its.toArray.size + its2.toArray.size)) = true := by
            rw [notLongL hsz, Bool.and_false]
            exact Bool.false_ne_true
          refine call_meets F.slot_list_extend ⟨_, e', rfl⟩ F.entry_list_extend (F.args_list_extend_2 _ _)
            (extend_tuple a its.toArray n' b its2.toArray n2 dd sl hlong (by rw [List.size_toArray]; omega) (by omega)) ⟨e', e2, ?_⟩
          refine ⟨.non, _, I.lset (xs := ws) (its' := its ++ its2) (ys := ws ++ ws2) h2 e' (by simp) (r.append rr2) ?_, rfl, post_lwr S hs h1 h2 (h3.append k3) .non q⟩
          rw [List.length_append, ← h3.length, ← k3.length]
          exact hz
      · cases e
    · cases e

/-! ### count -/
theorem readOf_count {s : Shared} {vs : List Value} {ds : List PyData} {as : List Addr} {d : PyData} (rs : ReadsAll s.heap vs ds as) (hxs : PyData.canLayAll0 ds = true) :
    vs.countP (fun y => PyData.eqv (SeqAt.readOf s.heap y) d) = ds.countP (fun y => PyData.eqv y d) := by
  rw [← SeqAt.readsAll_map ds _ _ hxs rs, List.countP_map]
  rfl
theorem count_args {y : PV} {x : V} {ys : List PV} {vs : List V} {v : PV} {st1 : Sto} {px : PV} {xs : List PV} (r2 : RVs K ρ H xs vs) (e : meV .count px xs st = some (v, st1)) : ∃ y w ys, xs = [y] ∧ vs = [w] ∧ RV K ρ H y w ∧ sqOf st px = some ys ∧ okD y = true ∧ okDs ys = true ∧ min (PyData.depthAll (dDs ys)) (dD y).depth ≤ dLim ∧
    v = .int ((dDs ys).countP fun e => PyData.eqv e (dD y)) ∧ st1 = st := by
  match xs, e with
  | [y], e =>
    simp only [meV] at e
    split at e
    · rename_i ys hs
      split at e
      · rename_i hz
        obtain ⟨z1, z2, z3⟩ := hz
        cases e
        obtain ⟨w, rfl, r4⟩ := r2.one
        exact ⟨y, w, ys, rfl, rfl, r4, hs, z1, z2, z3, rfl, rfl⟩
      · cases e
    · cases e
theorem me_countL (hu : X.A.units + 1600 < cLine) : MtR X "list.count" (fun x vs H Q => (∃ a xs, x = .ref a ∧ SqL X.K H a xs) ∧ rMe X.K g .count x vs H Q) := by
  intro pins s σ H x vs v us Q I rx rv h
  obtain ⟨⟨a0, ws0, rfl, hl0⟩, ρ, st, px, xs, v, st', S, r1, r2, e, q⟩ := h
  obtain ⟨y, w, ys, rfl, rfl, r4, hs, z1, z2, z3, rfl, rfl⟩ := count_args (x := .non) (ys := []) (y := .non) r2 e
  obtain ⟨a, ws, e1, hq, r3⟩ := sq_of S r1 hs
  cases e1
  obtain ⟨u, rfl, ru⟩ := rv.one
  cases rx
  obtain ⟨bs, rd⟩ := Dp.reads I _ w u (dp_of r4 z1) ru
  have hq' : SqL X.K H a0 ws := by
    rcases hq with hq | hq
    · exact hq
    · obtain ⟨its, _, ⟨o, e1, c1, _⟩, _⟩ := I.tuple hq
      obtain ⟨its', _, ⟨o', n', e2, c2, _⟩, _⟩ := I.list hl0
      rw [e1] at e2; cases e2
      rw [c1] at c2; exact absurd c2 (by decide)
  obtain ⟨its, rr, ⟨⟨cls, dd, data, sl⟩, n, ho, hc, hdn, hd⟩, hlen⟩ := I.list hq'
  simp only at hc hd
  subst hc hd
  obtain ⟨as, rds⟩ := Dp.readsAll I _ ws its (dps_of r3 z2) rr
  refine call_meets F.slot_list_count ⟨_, ho, rfl⟩ F.entry_list_count (F.args_list_count_2 _ _) (SeqAt.list_countAt a0 its.toArray n dd sl u (fun z => PyData.eqv (SeqAt.readOf s.heap z) (dD y)))
    ⟨ho, SeqAt.items_eqAt (vs := its.toArray) (show ReadsAll s.heap its.toArray.toList (dDs ys) as by simpa using rds) rd (okDs_lay _ z2) (okD_lay _ z1) (by unfold dLim at z3; omega), ?_⟩
  show EP X pins σ Q _ _
  refine ⟨.int _, H, I.tok _, ⟨s.toks, ?_⟩, q _ _ _ .refl S (.int _)⟩
  rw [show its.toArray.toList = its by simp, readOf_count rds (okDs_lay _ z2)]
theorem me_countT (hu : X.A.units + 1600 < cLine) : MtR X "tuple.count" (fun x vs H Q => (∃ a xs, x = .ref a ∧ SqT X.K H a xs) ∧ rMe X.K g .count x vs H Q) := by
  intro pins s σ H x vs v us Q I rx rv h
  obtain ⟨⟨a0, ws0, rfl, hl0⟩, ρ, st, px, xs, v, st', S, r1, r2, e, q⟩ := h
  obtain ⟨y, w, ys, rfl, rfl, r4, hs, z1, z2, z3, rfl, rfl⟩ := count_args (x := .non) (ys := []) (y := .non) r2 e
  obtain ⟨a, ws, e1, hq, r3⟩ := sq_of S r1 hs
  cases e1
  obtain ⟨u, rfl, ru⟩ := rv.one
  cases rx
  obtain ⟨bs, rd⟩ := Dp.reads I _ w u (dp_of r4 z1) ru
  have hq' : SqT X.K H a0 ws := by
    rcases hq with hq | hq
    · obtain ⟨its, _, ⟨o, e1, c1, _⟩, _⟩ := I.tuple hl0
      obtain ⟨its', _, ⟨o', n', e2, c2, _⟩, _⟩ := I.list hq
      rw [e1] at e2; cases e2
      rw [c1] at c2; exact absurd c2 (by decide)
    · exact hq
  obtain ⟨its, rr, ⟨⟨cls, dd, data, sl⟩, ho, hc, n, hd⟩, hlen⟩ := I.tuple hq'
  simp only at hc hd
  subst hc hd
  obtain ⟨as, rds⟩ := Dp.readsAll I _ ws its (dps_of r3 z2) rr
  refine call_meets F.slot_tuple_count ⟨_, ho, rfl⟩ F.entry_tuple_count (F.args_tuple_count_2 _ _) (SeqAt.tuple_countAt a0 its.toArray n dd sl u (fun z => PyData.eqv (SeqAt.readOf s.heap z) (dD y)))
    ⟨ho, SeqAt.items_eqAt (vs := its.toArray) (show ReadsAll s.heap its.toArray.toList (dDs ys) as by simpa using rds) rd (okDs_lay _ z2) (okD_lay _ z1) (by unfold dLim at z3; omega), ?_⟩
  show EP X pins σ Q _ _
  refine ⟨.int _, H, I.tok _, ⟨s.toks, ?_⟩, q _ _ _ .refl S (.int _)⟩
  rw [show its.toArray.toList = its by simp, readOf_count rds (okDs_lay _ z2)]

/-! ### join -/
theorem me_join : MtR X "str.join" (rMe X.K g .join) := by
  intro pins s σ H x vs v us Q I rx rv h
  obtain ⟨ρ, st, px, xs, v, st', S, r1, r2, e, q⟩ := h
  match px, xs, e with
  | .str sep, [.ref n], e =>
    simp only [meV] at e
    split at e
    · rename_i ys hs
      split at e
      · rename_i ts ht
        split at e
        · rename_i hz
          cases e
          obtain ⟨w, rfl, r4⟩ := r2.one
          obtain ⟨a, ws, rfl, h1, h2, h3⟩ := lst_of S r4 hs
          have hw := strsP_of h3 ht
          subst hw
          cases r1
          refine mt_join pins s σ H _ _ _ us Q I rx rv ⟨sep, a, ts, rfl, rfl, .inl (.of h2), hz, ?_⟩
          rw [TL.join_eq]
          exact q _ _ _ .refl S (.str _)
        · cases e
      · cases e
    · cases e

/-! ### sorted -/
theorem each_of {s : Shared} : ∀ {ys : List PV} {ws : List V} {its : List Value}, RVs K ρ H ys ws → Vals ws its → PySem.W.EachIs (fun (v : Value) (b : PV × V) => RelV b.2 v ∧ RV K ρ H b.1 b.2) its (ys.zip ws)
  | _, _, _, .nil, .nil => .nil
  | _, _, _, .cons h t, .cons h' t' => .cons ⟨h', h⟩ (each_of (s := s) t t')
theorem each_reads {pins : List (Addr × Obj)} {σ : L2.St} {s : Shared} (I : Inv X pins σ H s) : ∀ {ys : List PV} {ws : List V} {its : List Value}, RVs X.K ρ H ys ws → Vals ws its → okDs ys = true → PySem.W.EachIs (fun (v : Value) (b : PV × V) => ∃ as, Reads s.heap v (dD b.1) as) its (ys.zip ws)
  | _, _, _, .nil, .nil, _ => .nil
  | _, _, _, .cons h t, .cons h' t', e => by
    simp only [okDs, Bool.and_eq_true] at e
    exact .cons (Dp.reads I _ _ _ (dp_of h e.1) h') (each_reads I t t' e.2)
theorem each_out : ∀ {out : List Value} {bs : List (PV × V)}, PySem.W.EachIs (fun (v : Value) (b : PV × V) => RelV b.2 v ∧ RV K ρ H b.1 b.2) out bs → Vals (bs.map (·.2)) out ∧ RVs K ρ H (bs.map (·.1)) (bs.map (·.2))
  | _, _, .nil => ⟨.nil, .nil⟩
  | _, _, .cons h t => ⟨.cons h.1 (each_out t).1, .cons h.2 (each_out t).2⟩
theorem zip_fst : ∀ {ys : List PV} {ws : List V}, ys.length = ws.length → (ys.zip ws).map (·.1) = ys := fun {ys ws} h => List.map_fst_zip (by omega)
theorem srt_zip {ys : List PV} {ws : List V} (h : ys.length = ws.length) : ((ys.zip ws).mergeSort (PySem.W.dataLe false fun b => dD b.1)).map (·.1) = srt ys := by
  unfold srt
  rw [PySem.W.sort_maps (s := leP) Prod.fst (fun p hp q hq => by rw [PySem.W.dataLe_eq]; rfl), zip_fst h]
theorem bi_sorted (hu : X.A.units + 1600 < cLine) : CallR X (.builtin "sorted") (rBi X.K g .sorted) := by
  intro pins s σ H vs us Q I rv h
  obtain ⟨ρ, st, xs, v, st', S, rx, e, q⟩ := h
  match xs, e with
  | [x], e =>
    simp only [biV] at e
    split at e
    · rename_i ys hs
      split at e
      · rename_i hz
        obtain ⟨z1, z2, z3, z4, z5⟩ := hz
        cases e
        obtain ⟨v1, rfl, r1⟩ := rx.one
        obtain ⟨a, ws, rfl, hq, r2⟩ := sq_of S r1 hs
        obtain ⟨u, rfl, ru⟩ := vals1 rv
        cases ru
        have hl := r2.length
        have hmem : ∀ b, b ∈ ys.zip ws → b.1 ∈ ys := fun b hb => (List.of_mem_zip hb).1
        have hal : PySem.W.AllAlike ((ys.zip ws).map fun b => dD b.1) := by
          intro d hd d' hd'
          obtain ⟨b, hb, rfl⟩ := List.mem_map.mp hd
          obtain ⟨b', hb', rfl⟩ := List.mem_map.mp hd'
          exact z2 _ (hmem b hb) _ (hmem b' hb')
        have hk : PySem.W.Sortable ((ys.zip ws).map fun b => dD b.1) := by
          rcases z3 with z3 | z3
          · refine .inl fun d hd => ?_
            obtain ⟨b, hb, rfl⟩ := List.mem_map.mp hd
            have := z3 _ (hmem b hb)
            revert this
            cases dD b.1 with
            | tuple l => cases l with
              | nil => intro h; cases h
              | cons p r => intro _; exact ⟨p, r, rfl⟩
            | _ => intro h; cases h
          · refine .inr fun d hd => ?_
            obtain ⟨b, hb, rfl⟩ := List.mem_map.mp hd
            have := z3 _ (hmem b hb)
            revert this
            cases dD b.1 with
            | tuple l => intro h; cases h
            | none => intro h; cases h
            | _ => intro _; exact ⟨(fun z => nomatch z), fun xs z => nomatch z⟩
        have hL : (ys.zip ws).length ≤ sizeLine := by rw [List.length_zip, ← hl, Nat.min_self]; exact z5
        have hdp : ∀ b, b ∈ ys.zip ws → X.A.units + 2 + ((fun b : PV × V => dD b.1) b).depth < cLine := fun b hb => by
          have := z4 _ (hmem b hb)
          unfold dLim at this
          show X.A.units + 2 + (dD b.1).depth < cLine
          omega
        have fin : ∀ {its : List Value}, Vals ws its → ∀ out : List Value, out.length = (ys.zip ws).length → PySem.W.EachIs (fun (v : Value) (b : PV × V) => RelV b.2 v ∧ RV X.K ρ H b.1 b.2) out ((ys.zip ws).mergeSort (PySem.W.dataLe false fun b => dD b.1)) →
            EP X pins σ Q (.ref (s.heap.objs.size + 1)) { s with heap := sortedAll s.heap its (List.toArray out) } := by
          intro its hv out ho eo
          obtain ⟨o1, o2⟩ := each_out eo
          rw [srt_zip hl] at o2
          obtain ⟨c, hc⟩ := PyProof.Rows.sortedAll_at s.heap its out.toArray
          have hfree : H (s.heap.objs.size + 1) = none := I.hok.fresh (Nat.le_succ _)
          refine ⟨.ref _, _, I.laid (t' := s.toks) (o := .lst (((ys.zip ws).mergeSort (PySem.W.dataLe false fun b => dD b.1)).map (·.2))) (fun b ob q => PyProof.Rows.sortedAll_old q) (Nat.le_succ _) ?_, rfl, post_lst S o2 q _ hfree⟩
          refine ⟨?_, out, c, o1, hc⟩
          rw [← o2.length]
          unfold srt
          rw [List.length_mergeSort]
          exact z5
        rcases hq with hq | hq
        · obtain ⟨its, rr, pl, hlen⟩ := I.list hq
          exact PySem.W.sorted_data pl.isList (each_of (s := s) r2 rr) (each_reads I r2 rr z1) hal hk hL hdp (fin rr)
        · obtain ⟨its, rr, pl, hlen⟩ := I.tuple hq
          exact sortedT_data pl (each_of (s := s) r2 rr) (each_reads I r2 rr z1) hal hk hL hdp (fin rr)
      · cases e
    · cases e

/-! ### stores -/
theorem RKv.length {κ : Type} {kvs : List (κ × PV)} {ks : List (κ × V)} (r : RKv K ρ H kvs ks) : kvs.length = ks.length := Paired.length r
theorem RKv.any {κ : Type} [DecidableEq κ] (k : κ) : ∀ {kvs : List (κ × PV)} {ks : List (κ × V)}, RKv K ρ H kvs ks → (kvs.any fun p => decide (p.1 = k)) = ks.any fun p => decide (p.1 = k)
  | _, _, .nil => rfl
  | _, _, .cons h r => by rw [List.any_cons, List.any_cons, h.1, RKv.any k r]
theorem RKv.repl {κ : Type} [DecidableEq κ] (k : κ) {x : PV} {v : V} (hv : RV K ρ H x v) : ∀ {kvs : List (κ × PV)} {ks : List (κ × V)}, RKv K ρ H kvs ks → RKv K ρ H (kvs.map fun p => if p.1 = k then (p.1, x) else p) (ks.map fun p => if p.1 = k then (p.1, v) else p)
  | _, _, .nil => .nil
  | (a, y) :: _, (b, z) :: _, .cons h r => by
    obtain ⟨h1, h2⟩ := h
    cases h1
    refine .cons ?_ (RKv.repl k hv r)
    by_cases e : a = k
    · simp only [e, if_true]; exact ⟨trivial, hv⟩
    · simp only [if_neg e]; exact ⟨trivial, h2⟩
theorem RKv.put {κ : Type} [DecidableEq κ] (k : κ) {x : PV} {v : V} (hv : RV K ρ H x v) {kvs : List (κ × PV)} {ks : List (κ × V)} (r : RKv K ρ H kvs ks) : RKv K ρ H (putP kvs k x) (putK ks k v) := by
  unfold putP putK
  rw [RKv.any k r]
  split
  · exact RKv.repl k hv r
  · have app : ∀ {as : List (κ × PV)} {bs : List (κ × V)}, RKv K ρ H as bs → RKv K ρ H (as ++ [(k, x)]) (bs ++ [(k, v)]) := by
      intro as bs h
      induction h with
      | nil => exact .cons ⟨rfl, hv⟩ .nil
      | cons h t ih => exact .cons h ih
    exact app r
end Kg
/-! PvExp: expressions. -/
namespace Kg
open PySem PySem.Spec PyProof.Rows L2

section
variable {X : Cx} {e : Expr} {t t' : TE}
theorem PE.imp (h : PE X e t) (k : ∀ σ H Q, t' σ H Q → t σ H Q) : PE X e t' := ⟨fun pins s σ H Q I q => h.run pins s σ H Q I (k _ _ _ q)⟩
theorem PT.imp {t t' : TT} (h : PT X e t) (k : ∀ σ H Q, t' σ H Q → t σ H Q) : PT X e t' := ⟨fun pins s σ H Q I q => h.run pins s σ H Q I (k _ _ _ q)⟩
theorem PW.imp {t t' : TT} (h : PW X e t) (k : ∀ σ H Q, t' σ H Q → t σ H Q) : PW X e t' := ⟨fun wh pins s σ H Q I q => h.run wh pins s σ H Q I (k _ _ _ q)⟩
theorem PA.imp {es : List Expr} {t t' : TA} (h : PA X es t) (k : ∀ σ H Q, t' σ H Q → t σ H Q) : PA X es t' := ⟨fun pos pins s σ H Q I q => h.run pos pins s σ H Q I (k _ _ _ q)⟩
theorem PE.or (h : PE X e t) (h' : PE X e t') : PE X e (fun σ H Q => t σ H Q ∨ t' σ H Q) := ⟨fun pins s σ H Q I q => q.elim (h.run pins s σ H Q I) (h'.run pins s σ H Q I)⟩
end

variable {K : PySem.W.Frag} {g : Nat → Addr} {ρ ρ' : List Addr} {H H' : Hp} {st st' : Sto} {X : Cx}

def semE (K : PySem.W.Frag) (g : Nat → Addr) (f : VF) : TE := fun σ H Q => ∃ ρ env st v st', RS K g ρ H st ∧ REn K ρ H env σ ∧ f env st = some (v, st') ∧ Post K g ρ H v st' Q
def semT (K : PySem.W.Frag) (g : Nat → Addr) (f : TF) : TT := fun σ H Q => ∃ ρ env st k st', RS K g ρ H st ∧ REn K ρ H env σ ∧ f env st = some (k, st') ∧ ∀ ρ' H', Ext ρ H ρ' H' → RS K g ρ' H' st' → Q k H'
def semA (K : PySem.W.Frag) (g : Nat → Addr) (f : En → Sto → R (List PV)) : TA := fun σ H Q => ∃ ρ env st xs st', RS K g ρ H st ∧ REn K ρ H env σ ∧ f env st = some (xs, st') ∧ ∀ ρ' H' vs, Ext ρ H ρ' H' → RS K g ρ' H' st' → RVs K ρ' H' xs vs → Q vs H'
abbrev PEv (X : Cx) (g : Nat → Addr) (e : Expr) (f : VF) : Prop := PE X e (semE X.K g f)
abbrev PTv (X : Cx) (g : Nat → Addr) (e : Expr) (f : TF) : Prop := PT X e (semT X.K g f)
abbrev PAv (X : Cx) (g : Nat → Addr) (es : List Expr) (f : En → Sto → R (List PV)) : Prop := PA X es (semA X.K g f)

variable {a b c e o : Expr} {es : List Expr} {fa fb fc fe : VF} {fs : En → Sto → R (List PV)} {ft : TF} {pos : Pos}

/-! ### names, constants -/
def vVar (i : Nat) : VF := fun env st => match env[i]? with | some (some v) => some (v, st) | _ => none
theorem pev_var {i : Nat} {x : Str} (hN : X.N[i]? = some x) (hv : Vis X.env.scope x) (hd : (x == ("__debug__" : Str)) = false) (hcd : (x == ("__classdict__" : Str)) = false) : PEv X g (.Name x pos) (vVar i) := by
  refine PE.imp (pe_var hN hv hd hcd) fun σ H Q h => ?_
  obtain ⟨ρ, env, st, v, st', S, N, e, q⟩ := h
  unfold vVar at e
  split at e
  · rename_i v hv
    cases e
    obtain ⟨w, h1, h2⟩ := N.at_ i v hv
    exact ⟨w, h1, q _ _ _ .refl S h2⟩
  · cases e
def vCst (c : PV) : VF := fun _ st => some (c, st)
theorem pev_int {i : Int} {k : Nat} : PEv X g (.Constant (.int i) k pos) (vCst (.int i)) := PE.imp pe_int fun σ H Q h => by
  obtain ⟨ρ, env, st, v, st', S, N, e, q⟩ := h; cases e; exact q _ _ _ .refl S (.int _)
theorem pev_bl {i : Bool} {k : Nat} : PEv X g (.Constant (.bool i) k pos) (vCst (.bl i)) := PE.imp pe_bl fun σ H Q h => by
  obtain ⟨ρ, env, st, v, st', S, N, e, q⟩ := h; cases e; exact q _ _ _ .refl S (.bl _)
theorem pev_non {k : Nat} : PEv X g (.Constant .none k pos) (vCst .non) := PE.imp pe_non fun σ H Q h => by
  obtain ⟨ρ, env, st, v, st', S, N, e, q⟩ := h; cases e; exact q _ _ _ .refl S .non
theorem pev_str {i : Str} {k : Nat} : PEv X g (.Constant (.str i) k pos) (vCst (.str i)) := PE.imp pe_str fun σ H Q h => by
  obtain ⟨ρ, env, st, v, st', S, N, e, q⟩ := h; cases e; exact q _ _ _ .refl S (.str _)

/-! ### two parts -/
theorem pev_bin (op : Bop) (ha : PEv X g a fa) (hb : PEv X g b fb) : PEv X g (.BinOp a op.op b pos) (vBin op fa fb) := by
  refine PE.imp (pe_op (bop_ok (g := g) op) ha hb) fun σ H Q h => ?_
  obtain ⟨ρ, env, st, v, st', S, N, e, q⟩ := h
  unfold vBin at e
  split at e
  · cases e
  rename_i x s1 ea
  split at e
  · cases e
  rename_i y s2 eb
  refine ⟨ρ, env, st, x, s1, S, N, ea, fun ρ1 H1 w1 E1 S1 R1 => ⟨ρ1, env, s1, y, s2, S1, N.mono E1, eb, fun ρ2 H2 w2 E2 S2 R2 => ?_⟩⟩
  exact ⟨ρ2, s2, x, y, v, st', S2, R1.mono E2, R2, e, q.mono (E1.trans E2)⟩
theorem pev_neg (ha : PEv X g a fa) : PEv X g (.UnaryOp .USub a pos) (vNeg fa) := by
  refine PE.imp (pe_un un_neg ha) fun σ H Q h => ?_
  obtain ⟨ρ, env, st, v, st', S, N, e, q⟩ := h
  unfold vNeg at e
  split at e
  · rename_i i s1 ea
    cases e
    refine ⟨ρ, env, st, _, _, S, N, ea, fun ρ1 H1 w1 E1 S1 R1 => ?_⟩
    cases R1
    exact ⟨i, rfl, q _ _ _ E1 S1 (.int _)⟩
  · cases e
theorem pev_cmp (hu : X.A.units + 1600 < cLine) (op : Cop) (hm : behindInMarks op.op b = false) (ha : PEv X g a fa) (hb : PEv X g b fb) : PEv X g (.Compare a [op.op] [b] pos) (vCmp op fa fb) := by
  refine PE.imp (pe_cmpR (cop_ok (g := g) hu op) ha hb hm) fun σ H Q h => ?_
  obtain ⟨ρ, env, st, v, st', S, N, e, q⟩ := h
  unfold vCmp at e
  split at e
  · cases e
  rename_i x s1 ea
  split at e
  · cases e
  rename_i y s2 eb
  split at e
  · cases e
  rename_i k ek
  cases e
  refine ⟨ρ, env, st, x, s1, S, N, ea, fun ρ1 H1 w1 E1 S1 R1 => ⟨ρ1, env, s1, y, _, S1, N.mono E1, eb, fun ρ2 H2 w2 E2 S2 R2 => ?_⟩⟩
  exact ⟨ρ2, _, x, y, k, S2, R1.mono E2, R2, ek, q _ _ _ (E1.trans E2) S2 (.bl _)⟩
theorem ptv_cmp (hu : X.A.units + 1600 < cLine) (op : Cop) (hm : behindInMarks op.op b = false) (ha : PEv X g a fa) (hb : PEv X g b fb) : PTv X g (.Compare a [op.op] [b] pos) (tstOf (vCmp op fa fb)) := by
  refine PT.imp (pt_cmpR (cop_ok (g := g) hu op) ha hb hm) fun σ H Q h => ?_
  obtain ⟨ρ, env, st, k, st', S, N, e, q⟩ := h
  unfold tstOf vCmp at e
  cases ea : fa env st with
  | none => rw [ea] at e; cases e
  | some p =>
    obtain ⟨x, s1⟩ := p
    rw [ea] at e
    simp only at e
    cases eb : fb env s1 with
    | none => rw [eb] at e; cases e
    | some p =>
      obtain ⟨y, s2⟩ := p
      rw [eb] at e
      simp only at e
      cases ek : cop op x y s2 with
      | none => rw [ek] at e; cases e
      | some k2 =>
        rw [ek] at e
        cases e
        refine ⟨ρ, env, st, x, s1, S, N, ea, fun ρ1 H1 w1 E1 S1 R1 => ⟨ρ1, env, s1, y, _, S1, N.mono E1, eb, fun ρ2 H2 w2 E2 S2 R2 => ?_⟩⟩
        exact ⟨ρ2, _, x, y, k, S2, R1.mono E2, R2, ek, k, rfl, q _ _ (E1.trans E2) S2⟩
theorem isNon_of {x : PV} {w : V} (r : RV K ρ H x w) : decide (w = .non) = isNon x := by
  cases r <;> simp [isNon]
theorem pev_is {k : Nat} {p2 : Pos} (ha : PEv X g a fa) : PEv X g (.Compare a [.Is] [.Constant .none k p2] pos) (vIsn false fa) := by
  refine PE.imp (pe_cmp (pc_isN ha)) fun σ H Q h => ?_
  obtain ⟨ρ, env, st, v, st', S, N, e, q⟩ := h
  unfold vIsn at e
  split at e
  · cases e
  rename_i x s1 ea
  cases e
  refine ⟨ρ, env, st, x, _, S, N, ea, fun ρ1 H1 w1 E1 S1 R1 => ?_⟩
  show Q (.bl (decide (w1 = .non))) H1
  rw [isNon_of R1]
  have := q _ _ _ E1 S1 (.bl _)
  simpa using this
theorem pev_isnot {k : Nat} {p2 : Pos} (ha : PEv X g a fa) : PEv X g (.Compare a [.IsNot] [.Constant .none k p2] pos) (vIsn true fa) := by
  refine PE.imp (pe_cmp (pc_notN ha)) fun σ H Q h => ?_
  obtain ⟨ρ, env, st, v, st', S, N, e, q⟩ := h
  unfold vIsn at e
  split at e
  · cases e
  rename_i x s1 ea
  cases e
  refine ⟨ρ, env, st, x, _, S, N, ea, fun ρ1 H1 w1 E1 S1 R1 => ?_⟩
  show Q (.bl (!decide (w1 = .non))) H1
  rw [isNon_of R1]
  have := q _ _ _ E1 S1 (.bl _)
  simpa using this
theorem isN_test {k : Nat} {p2 : Pos} {n : Bool} (hc : PC X (if n then .IsNot else .Is) a (.Constant .none k p2) (semE X.K g (vIsn n fa))) : PTv X g (.Compare a [if n then .IsNot else .Is] [.Constant .none k p2] pos) (tstOf (vIsn n fa)) := by
  refine PT.imp (pt_cmp hc (nobehind _ (by cases n <;> decide) (by cases n <;> decide))) fun σ H Q h => ?_
  obtain ⟨ρ, env, st, k, st', S, N, e, q⟩ := h
  unfold tstOf at e
  split at e
  · cases e
  rename_i x s1 ea
  split at e
  · cases e
  rename_i k2 ek
  cases e
  have hx : x = .bl k := by
    unfold vIsn at ea
    split at ea
    · cases ea
    · cases ea; cases ek; rfl
  subst hx
  exact ⟨ρ, env, st, _, _, S, N, ea, fun ρ1 H1 w1 E1 S1 R1 => by cases R1; exact ⟨k, rfl, q _ _ E1 S1⟩⟩
theorem pcv_is {k : Nat} {p2 : Pos} (ha : PEv X g a fa) : PC X .Is a (.Constant .none k p2) (semE X.K g (vIsn false fa)) := by
  have h0 := pc_isN (j := k) (pos' := p2) ha
  refine ⟨fun pins s σ H Q I h => h0.run pins s σ H Q I ?_⟩
  obtain ⟨ρ, env, st, v, st', S, N, e, q⟩ := h
  unfold vIsn at e
  split at e
  · cases e
  rename_i x s1 ea
  cases e
  refine ⟨ρ, env, st, x, _, S, N, ea, fun ρ1 H1 w1 E1 S1 R1 => ?_⟩
  show Q (.bl (decide (w1 = .non))) H1
  rw [isNon_of R1]
  have := q _ _ _ E1 S1 (.bl _)
  simpa using this
theorem pcv_isnot {k : Nat} {p2 : Pos} (ha : PEv X g a fa) : PC X .IsNot a (.Constant .none k p2) (semE X.K g (vIsn true fa)) := by
  have h0 := pc_notN (j := k) (pos' := p2) ha
  refine ⟨fun pins s σ H Q I h => h0.run pins s σ H Q I ?_⟩
  obtain ⟨ρ, env, st, v, st', S, N, e, q⟩ := h
  unfold vIsn at e
  split at e
  · cases e
  rename_i x s1 ea
  cases e
  refine ⟨ρ, env, st, x, _, S, N, ea, fun ρ1 H1 w1 E1 S1 R1 => ?_⟩
  show Q (.bl (!decide (w1 = .non))) H1
  rw [isNon_of R1]
  have := q _ _ _ E1 S1 (.bl _)
  simpa using this
theorem ptv_is {k : Nat} {p2 : Pos} (ha : PEv X g a fa) : PTv X g (.Compare a [.Is] [.Constant .none k p2] pos) (tstOf (vIsn false fa)) := isN_test (n := false) (pcv_is ha)
theorem ptv_isnot {k : Nat} {p2 : Pos} (ha : PEv X g a fa) : PTv X g (.Compare a [.IsNot] [.Constant .none k p2] pos) (tstOf (vIsn true fa)) := isN_test (n := true) (pcv_isnot ha)

/-! ### is True, is False -/
theorem is_bool_gen {prog : Program} {w : World} {A : Around} {E : Value → Shared → Prop} {s : Shared} {Q : Value → Shared → Prop} {x : V} {v : Value} {b : Bool} (r : RelV x v) (hx : ∀ T, x ≠ .ty T) (h : Q (.bool (decide (x = .bl b))) s) : wpAny (model prog w) A (compareOp .Is v (.bool b)) Q E s := by
  cases x with
  | non => cases r; exact wpAny_pure (show Q (Value.bool false) s by simpa using h)
  | bl k =>
    cases r
    have e : ((Value.bool k == Value.bool b) : Bool) = decide (V.bl k = V.bl b) := by cases k <;> cases b <;> rfl
    exact wpAny_pure (by rw [e]; exact h)
  | int i => obtain ⟨t, rfl⟩ := r; exact wpAny_pure (show Q (Value.bool false) s by simpa using h)
  | str i => obtain ⟨t, rfl⟩ := r; exact wpAny_pure (show Q (Value.bool false) s by simpa using h)
  | byt i => obtain ⟨t, rfl⟩ := r; exact wpAny_pure (show Q (Value.bool false) s by simpa using h)
  | flt i => obtain ⟨t, rfl⟩ := r; exact wpAny_pure (show Q (Value.bool false) s by simpa using h)
  | ref a => cases r; exact wpAny_pure (show Q (Value.bool false) s by simpa using h)
  | ty T => exact absurd rfl (hx T)
theorem isnt_bool_gen {prog : Program} {w : World} {A : Around} {E : Value → Shared → Prop} {s : Shared} {Q : Value → Shared → Prop} {x : V} {v : Value} {b : Bool} (r : RelV x v) (hx : ∀ T, x ≠ .ty T) (h : Q (.bool (!decide (x = .bl b))) s) : wpAny (model prog w) A (compareOp .IsNot v (.bool b)) Q E s := by
  cases x with
  | non => cases r; exact wpAny_pure (show Q (Value.bool true) s by simpa using h)
  | bl k =>
    cases r
    have e : (!(Value.bool k == Value.bool b) : Bool) = !decide (V.bl k = V.bl b) := by cases k <;> cases b <;> rfl
    exact wpAny_pure (by rw [e]; exact h)
  | int i => obtain ⟨t, rfl⟩ := r; exact wpAny_pure (show Q (Value.bool true) s by simpa using h)
  | str i => obtain ⟨t, rfl⟩ := r; exact wpAny_pure (show Q (Value.bool true) s by simpa using h)
  | byt i => obtain ⟨t, rfl⟩ := r; exact wpAny_pure (show Q (Value.bool true) s by simpa using h)
  | flt i => obtain ⟨t, rfl⟩ := r; exact wpAny_pure (show Q (Value.bool true) s by simpa using h)
  | ref a => cases r; exact wpAny_pure (show Q (Value.bool true) s by simpa using h)
  | ty T => exact absurd rfl (hx T)
theorem rv_noty {x : PV} {w : V} (r : RV K ρ H x w) : ∀ T, w ≠ .ty T := fun T e => by subst e; cases r
theorem isBl_of {x : PV} {w : V} {b : Bool} (r : RV K ρ H x w) : decide (w = .bl b) = isBl b x := by
  cases r <;> simp [isBl, Bool.beq_eq_decide_eq]
theorem pcv_isb {k : Nat} {p2 : Pos} {bb : Bool} (ha : PEv X g a fa) : PC X .Is a (.Constant (.bool bb) k p2) (semE X.K g (vIsb false bb fa)) := by
  refine ⟨fun pins s σ H Q I h => ?_⟩
  obtain ⟨ρ, env, st, v, st', S, N, e, q⟩ := h
  unfold vIsb at e
  split at e
  · cases e
  rename_i x s1 ea
  cases e
  refine thn (ha.run pins s σ H _ I ⟨ρ, env, st, x, _, S, N, ea, fun ρ1 H1 w1 E1 S1 R1 => (⟨rv_noty R1, isBl_of R1, q _ _ _ E1 S1 (.bl _)⟩ : (∀ T, w1 ≠ .ty T) ∧ decide (w1 = .bl bb) = isBl bb x ∧ Q (.bl (isBl bb x != false)) H1)⟩) fun v s1 ⟨y, H1, I1, r1, q1, q2, q3⟩ => ?_
  exact Constant_bool (is_bool_gen r1 q1 ⟨.bl _, H1, I1, by rw [q2]; rfl, by simpa using q3⟩)
theorem pcv_isntb {k : Nat} {p2 : Pos} {bb : Bool} (ha : PEv X g a fa) : PC X .IsNot a (.Constant (.bool bb) k p2) (semE X.K g (vIsb true bb fa)) := by
  refine ⟨fun pins s σ H Q I h => ?_⟩
  obtain ⟨ρ, env, st, v, st', S, N, e, q⟩ := h
  unfold vIsb at e
  split at e
  · cases e
  rename_i x s1 ea
  cases e
  refine thn (ha.run pins s σ H _ I ⟨ρ, env, st, x, _, S, N, ea, fun ρ1 H1 w1 E1 S1 R1 => (⟨rv_noty R1, isBl_of R1, q _ _ _ E1 S1 (.bl _)⟩ : (∀ T, w1 ≠ .ty T) ∧ decide (w1 = .bl bb) = isBl bb x ∧ Q (.bl (isBl bb x != true)) H1)⟩) fun v s1 ⟨y, H1, I1, r1, q1, q2, q3⟩ => ?_
  exact Constant_bool (isnt_bool_gen r1 q1 ⟨.bl _, H1, I1, by rw [q2]; rfl, by simpa using q3⟩)
theorem pev_isb {n : Bool} {bb : Bool} {k : Nat} {p2 : Pos} (ha : PEv X g a fa) : PEv X g (.Compare a [if n then .IsNot else .Is] [.Constant (.bool bb) k p2] pos) (vIsb n bb fa) := by
  cases n
  · exact pe_cmp (pcv_isb ha)
  · exact pe_cmp (pcv_isntb ha)
theorem isB_test {k : Nat} {p2 : Pos} {n bb : Bool} (hc : PC X (if n then .IsNot else .Is) a (.Constant (.bool bb) k p2) (semE X.K g (vIsb n bb fa))) : PTv X g (.Compare a [if n then .IsNot else .Is] [.Constant (.bool bb) k p2] pos) (tstOf (vIsb n bb fa)) := by
  refine PT.imp (pt_cmp hc (nobehind _ (by cases n <;> decide) (by cases n <;> decide))) fun σ H Q h => ?_
  obtain ⟨ρ, env, st, k, st', S, N, e, q⟩ := h
  unfold tstOf at e
  split at e
  · cases e
  rename_i x s1 ea
  split at e
  · cases e
  rename_i k2 ek
  cases e
  have hx : x = .bl k := by
    unfold vIsb at ea
    split at ea
    · cases ea
    · cases ea; cases ek; rfl
  subst hx
  exact ⟨ρ, env, st, _, _, S, N, ea, fun ρ1 H1 w1 E1 S1 R1 => by cases R1; exact ⟨k, rfl, q _ _ E1 S1⟩⟩
theorem ptv_isb {n : Bool} {bb : Bool} {k : Nat} {p2 : Pos} (ha : PEv X g a fa) : PTv X g (.Compare a [if n then .IsNot else .Is] [.Constant (.bool bb) k p2] pos) (tstOf (vIsb n bb fa)) := by
  cases n
  · exact isB_test (n := false) (pcv_isb ha)
  · exact isB_test (n := true) (pcv_isntb ha)

/-! ### truth -/
/-- a value as a test -/
theorem ptv_val (ha : PEv X g a fa) (he : ∀ whole, isTrue a X.env whole = (do let v ← whole; standAt a.pos; holding [v] (truthy v))) : PTv X g a (tstOf fa) := by
  refine PT.imp (pt_truth ha he) fun σ H Q h => ?_
  obtain ⟨ρ, env, st, k, st', S, N, e, q⟩ := h
  unfold tstOf at e
  split at e
  · cases e
  rename_i x s1 ea
  split at e
  · cases e
  rename_i k2 ek
  cases e
  exact ⟨ρ, env, st, x, _, S, N, ea, fun ρ1 H1 w1 E1 S1 R1 => ⟨_, tru_of S1 R1 ek, q _ _ E1 S1⟩⟩
theorem ptv_not (ha : PTv X g a ft) : PTv X g (.UnaryOp .Not a pos) (tNot ft) := by
  refine PT.imp (pt_not ha) fun σ H Q h => ?_
  obtain ⟨ρ, env, st, k, st', S, N, e, q⟩ := h
  unfold tNot at e
  split at e
  · cases e
  rename_i k2 s1 ea
  cases e
  exact ⟨ρ, env, st, k2, _, S, N, ea, fun ρ1 H1 E1 S1 => q _ _ E1 S1⟩
theorem pev_not (ha : PEv X g a fa) : PEv X g (.UnaryOp .Not a pos) (vNot fa) := by
  refine PE.imp (pe_notT ha) fun σ H Q h => ?_
  obtain ⟨ρ, env, st, v, st', S, N, e, q⟩ := h
  unfold vNot at e
  split at e
  · cases e
  rename_i x s1 ea
  split at e
  · cases e
  rename_i k2 ek
  cases e
  exact ⟨ρ, env, st, x, _, S, N, ea, fun ρ1 H1 w1 E1 S1 R1 => ⟨_, tru_of S1 R1 ek, q _ _ _ E1 S1 (.bl _)⟩⟩
abbrev PWv (X : Cx) (g : Nat → Addr) (e : Expr) (f : TF) : Prop := PW X e (semT X.K g f)
theorem pwv_and {rest : List Expr} {fu : TF} (ha : PTv X g a ft) (hb : PWv X g (.BoolOp .And (b :: rest) pos) fu) : PWv X g (.BoolOp .And (a :: b :: rest) pos) (tAnd ft fu) := by
  refine PW.imp (pw_and ha hb) fun σ H Q h => ?_
  obtain ⟨ρ, env, st, k, st', S, N, e, q⟩ := h
  unfold tAnd at e
  split at e
  · cases e
  · rename_i s1 ea
    refine ⟨ρ, env, st, true, s1, S, N, ea, fun ρ1 H1 E1 S1 => ?_⟩
    exact iteT ⟨ρ1, env, s1, k, st', S1, N.mono E1, e, fun ρ2 H2 E2 S2 => q _ _ (E1.trans E2) S2⟩
  · rename_i s1 ea
    cases e
    exact ⟨ρ, env, st, false, _, S, N, ea, fun ρ1 H1 E1 S1 => iteF <| by exact q _ _ E1 S1⟩
theorem pwv_or {rest : List Expr} {fu : TF} (ha : PTv X g a ft) (hb : PWv X g (.BoolOp .Or (b :: rest) pos) fu) : PWv X g (.BoolOp .Or (a :: b :: rest) pos) (tOr ft fu) := by
  refine PW.imp (pw_or ha hb) fun σ H Q h => ?_
  obtain ⟨ρ, env, st, k, st', S, N, e, q⟩ := h
  unfold tOr at e
  split at e
  · cases e
  · rename_i s1 ea
    refine ⟨ρ, env, st, false, s1, S, N, ea, fun ρ1 H1 E1 S1 => ?_⟩
    exact iteF ⟨ρ1, env, s1, k, st', S1, N.mono E1, e, fun ρ2 H2 E2 S2 => q _ _ (E1.trans E2) S2⟩
  · rename_i s1 ea
    cases e
    exact ⟨ρ, env, st, true, _, S, N, ea, fun ρ1 H1 E1 S1 => iteT <| by exact q _ _ E1 S1⟩
theorem pev_and {rest : List Expr} (ha : PEv X g a fa) (hb : PEv X g (.BoolOp .And (b :: rest) pos) fb) : PEv X g (.BoolOp .And (a :: b :: rest) pos) (vAnd fa fb) := by
  refine PE.imp (pe_andT ha hb) fun σ H Q h => ?_
  obtain ⟨ρ, env, st, v, st', S, N, e, q⟩ := h
  unfold vAnd at e
  split at e
  · cases e
  rename_i x s1 ea
  split at e
  · cases e
  · rename_i ek
    refine ⟨ρ, env, st, x, s1, S, N, ea, fun ρ1 H1 w1 E1 S1 R1 => ⟨true, tru_of S1 R1 ek, ?_⟩⟩
    exact iteT ⟨ρ1, env, s1, v, st', S1, N.mono E1, e, q.mono E1⟩
  · rename_i ek
    cases e
    exact ⟨ρ, env, st, _, _, S, N, ea, fun ρ1 H1 w1 E1 S1 R1 => ⟨false, tru_of S1 R1 ek, iteF <| by exact q _ _ _ E1 S1 R1⟩⟩
theorem pev_or {rest : List Expr} (ha : PEv X g a fa) (hb : PEv X g (.BoolOp .Or (b :: rest) pos) fb) : PEv X g (.BoolOp .Or (a :: b :: rest) pos) (vOr fa fb) := by
  refine PE.imp (pe_orT ha hb) fun σ H Q h => ?_
  obtain ⟨ρ, env, st, v, st', S, N, e, q⟩ := h
  unfold vOr at e
  split at e
  · cases e
  rename_i x s1 ea
  split at e
  · cases e
  · rename_i ek
    refine ⟨ρ, env, st, x, s1, S, N, ea, fun ρ1 H1 w1 E1 S1 R1 => ⟨false, tru_of S1 R1 ek, ?_⟩⟩
    exact iteF ⟨ρ1, env, s1, v, st', S1, N.mono E1, e, q.mono E1⟩
  · rename_i ek
    cases e
    exact ⟨ρ, env, st, _, _, S, N, ea, fun ρ1 H1 w1 E1 S1 R1 => ⟨true, tru_of S1 R1 ek, iteT <| by exact q _ _ _ E1 S1 R1⟩⟩
theorem pev_ife (hc : PTv X g c ft) (ha : PEv X g a fa) (hb : PEv X g b fb) : PEv X g (.IfExp c a b pos) (vIfe ft fa fb) := by
  refine PE.imp (pe_ifExp hc ha hb) fun σ H Q h => ?_
  obtain ⟨ρ, env, st, v, st', S, N, e, q⟩ := h
  unfold vIfe at e
  split at e
  · cases e
  · rename_i s1 ea
    refine ⟨ρ, env, st, true, s1, S, N, ea, fun ρ1 H1 E1 S1 => ?_⟩
    exact iteT ⟨ρ1, env, s1, v, st', S1, N.mono E1, e, q.mono E1⟩
  · rename_i s1 ea
    refine ⟨ρ, env, st, false, s1, S, N, ea, fun ρ1 H1 E1 S1 => ?_⟩
    exact iteF ⟨ρ1, env, s1, v, st', S1, N.mono E1, e, q.mono E1⟩

/-! ### arguments and displays -/
theorem pav_nil : PAv X g [] vNil := by
  refine PA.imp pa_nil fun σ H Q h => ?_
  obtain ⟨ρ, env, st, xs, st', S, N, e, q⟩ := h
  cases e
  exact q _ _ _ .refl S .nil
theorem pav_cons (ha : PEv X g a fa) (hr : PAv X g es fs) (hs : starEach (a :: es) X.env = (false, eval a X.env) :: starEach es X.env) : PAv X g (a :: es) (vCons false fa fs) := by
  refine PA.imp (pa_cons ha hr hs) fun σ H Q h => ?_
  obtain ⟨ρ, env, st, xs, st', S, N, e, q⟩ := h
  unfold vCons at e
  split at e
  · cases e
  rename_i x s1 ea
  split at e
  · cases e
  rename_i ys s2 eb
  cases e
  exact ⟨ρ, env, st, x, s1, S, N, ea, fun ρ1 H1 w1 E1 S1 R1 => ⟨ρ1, env, s1, ys, _, S1, N.mono E1, eb, fun ρ2 H2 w2 E2 S2 R2 => q _ _ _ (E1.trans E2) S2 (.cons (R1.mono E2) R2)⟩⟩
def tStarC (K : PySem.W.Frag) (te : TE) (t : TA) : TA := fun σ H Q => te σ H fun x H1 => ∃ a ys, x = .ref a ∧ (SqL K H1 a ys ∨ SqT K H1 a ys) ∧ t σ H1 fun zs H2 => Q (ys ++ zs) H2
theorem pa_star {te : TE} {t : TA} {p : Pos} (ha : PE X a te) (hr : PA X es t) : PA X (.Starred a p :: es) (tStarC X.K te t) := by
  refine ⟨fun pos pins s σ H Q I h => ?_⟩
  refine PySem.W.items_star (thn (ha.run pins s σ H _ I h) fun v s1 ⟨x, H1, I1, r1, q1⟩ => ?_)
  obtain ⟨b, ys, rfl, hq, q1⟩ := q1
  cases r1
  have fin : ∀ {T : String} {o : Obj} {its : List Value} {n : Nat}, (T = "list" ∨ T = "tuple") → s1.heap.get? b = some o → o.cls = .type T → o.data = .seq its.toArray n → its.toArray.size ≤ sizeLine → Vals ys its →
      PySem.W.StarOf (model X.prog X.w) X.A X.xe (.ref b) (fun here s₂ => wpAny (model X.prog X.w) X.A (spliced (backTo pos (starEach es X.env))) (fun vs s₃ => AP X pins σ Q (here ++ vs) s₃) X.xe s₂) s1 := by
    intro T o its n hT ho hc hd hz rv
    have z : wpAny (model X.prog X.w) X.A (collect (.ref b)) (fun here s₂ => wpAny (model X.prog X.w) X.A (spliced (backTo pos (starEach es X.env))) (fun vs s₃ => AP X pins σ Q (here ++ vs) s₃) X.xe s₂) X.xe s1 := by
      refine PySem.wpAny_collect_seq b hT ho hc hd (fun h' hk => ?_) hz
      have I2 : Inv X pins σ H1 { s1 with heap := h' } := I1.kept (t' := s1.toks) hk
      refine thn (hr.run pos pins _ σ H1 _ I2 q1) fun us s3 ⟨zs, H3, I3, r3, q3⟩ => ?_
      rw [show its.toArray.toList = its by simp]
      exact ⟨ys ++ zs, H3, I3, rv.append r3, q3⟩
    have hT' : s1.TypeIs (.ref b) T := ⟨o, ho, hc⟩
    unfold PySem.W.StarOf notIterableAtAll
    rcases hT with rfl | rfl
    · exact wpAny_bind (wpAny_specialOf hT' PySem.F.slot_list_iter.lookup (wpAny_pure ⟨rfl, z⟩))
    · exact wpAny_bind (wpAny_specialOf hT' PySem.F.slot_tuple_iter.lookup (wpAny_pure ⟨rfl, z⟩))
  rcases hq with hq | hq
  · obtain ⟨its, rv, ⟨o, n, ho, hc, _, hd⟩, hz⟩ := I1.list hq
    exact fin (.inl rfl) ho hc hd (by rw [List.size_toArray, ← rv.length]; exact hz) rv
  · obtain ⟨its, rv, ⟨o, ho, hc, n, hd⟩, hz⟩ := I1.tuple hq
    exact fin (.inr rfl) ho hc hd (by rw [List.size_toArray, ← rv.length]; exact hz) rv
theorem pav_star {p : Pos} (ha : PEv X g a fa) (hr : PAv X g es fs) : PAv X g (.Starred a p :: es) (vCons true (vStar fa) fs) := by
  refine PA.imp (pa_star ha hr) fun σ H Q h => ?_
  obtain ⟨ρ, env, st, xs, st', S, N, e, q⟩ := h
  unfold vCons vStar at e
  cases ea : fa env st with
  | none => rw [ea] at e; cases e
  | some p =>
    obtain ⟨x, s1⟩ := p
    rw [ea] at e
    simp only at e
    cases es : sqOf s1 x with
    | none => rw [es] at e; cases e
    | some ys =>
      rw [es] at e
      simp only at e
      split at e
      · cases e
      rename_i zs s2 eb
      cases e
      refine ⟨ρ, env, st, x, s1, S, N, ea, fun ρ1 H1 w1 E1 S1 R1 => ?_⟩
      obtain ⟨b, ws, rfl, hq, r2⟩ := sq_of S1 R1 es
      exact ⟨b, ws, rfl, hq, ρ1, env, s1, zs, _, S1, N.mono E1, eb, fun ρ2 H2 w2 E2 S2 R2 => q _ _ _ (E1.trans E2) S2 ((r2.mono E2).append R2)⟩
theorem pev_tup {k : Nat} (h : PAv X g es fs) : PEv X g (.Tuple es k pos) (vTup fs) := by
  refine PE.imp (pe_tupF h) fun σ H Q h => ?_
  obtain ⟨ρ, env, st, v, st', S, N, e, q⟩ := h
  unfold vTup at e
  split at e
  · cases e
  rename_i xs s1 ea
  split at e
  · rename_i hz
    cases e
    exact ⟨ρ, env, st, xs, _, S, N, ea, fun ρ1 H1 w1 E1 S1 R1 => ⟨by rw [← R1.length]; exact hz, post_tup S1 R1 (q.mono E1)⟩⟩
  · cases e
theorem pev_lst (h : PAv X g es fs) : PEv X g (.List es pos) (vLst fs) := by
  refine PE.imp (pe_lst h) fun σ H Q h => ?_
  obtain ⟨ρ, env, st, v, st', S, N, e, q⟩ := h
  unfold vLst at e
  split at e
  · cases e
  rename_i xs s1 ea
  split at e
  · rename_i hz
    cases e
    exact ⟨ρ, env, st, xs, s1, S, N, ea, fun ρ1 H1 w1 E1 S1 R1 => ⟨by rw [← R1.length]; exact hz, post_lst S1 R1 (q.mono E1)⟩⟩
  · cases e

/-! ### subscripts -/
theorem pev_ix (hu : X.A.units + 1600 < cLine) (ha : PEv X g a fa) (hb : PEv X g b fb) (hp : PlainIx b) : PEv X g (.Subscript a b pos) (vIx fa fb) := by
  refine PE.imp (PE.or (pe_ix ix_seq ha hb hp) (pe_dget (by omega) ha hb hp)) fun σ H Q h => ?_
  obtain ⟨ρ, env, st, v, st', S, N, e, q⟩ := h
  unfold vIx at e
  split at e
  · cases e
  rename_i x s1 ea
  split at e
  · cases e
  rename_i y s2 eb
  split at e
  · cases e
  rename_i z ez
  cases e
  unfold ixV at ez
  split at ez
  · rename_i xs h1
    split at ez
    · rename_i i
      refine .inl ⟨ρ, env, st, x, s1, S, N, ea, fun ρ1 H1 w1 E1 S1 R1 => ⟨ρ1, env, s1, _, _, S1, N.mono E1, eb, fun ρ2 H2 w2 E2 S2 R2 => ?_⟩⟩
      obtain ⟨p, ws, rfl, hq, r2⟩ := sq_of S2 (R1.mono E2) h1
      obtain ⟨w, hw, rw'⟩ := r2.atI ez
      cases R2
      rcases hq with hq | hq
      · exact .inl ⟨p, ws, i, w, rfl, rfl, hq, hw, q _ _ _ (E1.trans E2) S2 rw'⟩
      · exact .inr (.inl ⟨p, ws, i, w, rfl, rfl, hq, hw, q _ _ _ (E1.trans E2) S2 rw'⟩)
    · cases ez
  · split at ez
    · split at ez
      · rename_i o hs
        split at ez
        · rename_i z' hg
          cases ez
          refine .inr ⟨ρ, env, st, _, s1, S, N, ea, fun ρ1 H1 w1 E1 S1 R1 => ⟨ρ1, env, s1, _, _, S1, N.mono E1, eb, fun ρ2 H2 w2 E2 S2 R2 => ?_⟩⟩
          have R1' := R1.mono E2
          cases R1' with
          | @ref n p h1 =>
            obtain ⟨w, h2, h3⟩ := dget_of (S2.obj _ _ p hs h1) R2 hg
            cases w with
            | none => exact absurd h3 id
            | some w => exact ⟨p, w, rfl, h2, q _ _ _ (E1.trans E2) S2 h3⟩
        · cases ez
      · cases ez
    · cases ez

/-! ### slices -/
/-- a slice's part: none or one expression -/
def poE : Option Expr → List Expr | none => [] | some e => [e]
def tPo (K : PySem.W.Frag) (g : Nat → Addr) (f : En → Sto → R (List PV)) : TO := fun σ H Q => ∃ ρ env st xs st' o, RS K g ρ H st ∧ REn K ρ H env σ ∧ f env st = some (xs, st') ∧ sxI xs = some o ∧ ∀ ρ' H', Ext ρ H ρ' H' → RS K g ρ' H' st' → Q o H'
abbrev POv (X : Cx) (g : Nat → Addr) (e : Option Expr) (f : En → Sto → R (List PV)) : Prop := PO X e (tPo X.K g f)
theorem pov_none : POv X g none vNil := by
  refine ⟨fun pins s σ H Q I h => po_none.run pins s σ H Q I ?_⟩
  obtain ⟨ρ, env, st, xs, st', o, S, N, e, eo, q⟩ := h
  cases e
  cases eo
  exact q _ _ .refl S
theorem pov_some (ha : PEv X g a fa) : POv X g (some a) (vCons false fa vNil) := by
  refine ⟨fun pins s σ H Q I h => (po_some ha).run pins s σ H Q I ?_⟩
  obtain ⟨ρ, env, st, xs, st', o, S, N, e, eo, q⟩ := h
  unfold vCons vNil at e
  split at e
  · cases e
  rename_i x s1 ea
  cases e
  refine ⟨ρ, env, st, x, _, S, N, ea, fun ρ1 H1 w1 E1 S1 R1 => ?_⟩
  cases x with
  | int i => cases eo; cases R1; exact ⟨i, rfl, q _ _ E1 S1⟩
  | _ => cases eo
theorem pev_sli {lo hi : Option Expr} {fl fh : En → Sto → R (List PV)} {p2 : Pos} (ha : PEv X g a fa) (hl : POv X g lo fl) (hh : POv X g hi fh) : PEv X g (.Subscript a (.Slice lo hi none p2) pos) (vSli fa fl fh) := by
  refine PE.imp (pe_slice (sl_ok (g := g)) ha hl hh) fun σ H Q h => ?_
  obtain ⟨ρ, env, st, v, st', S, N, e, q⟩ := h
  unfold vSli at e
  split at e
  · cases e
  rename_i x s1 ea
  split at e
  · cases e
  rename_i l s2 el
  split at e
  · cases e
  rename_i h s3 eh
  split at e
  · cases e
  rename_i l' el'
  split at e
  · cases e
  rename_i h' eh'
  refine ⟨ρ, env, st, x, s1, S, N, ea, fun ρ1 H1 w1 E1 S1 R1 => ⟨ρ1, env, s1, l, s2, l', S1, N.mono E1, el, el', fun ρ2 H2 E2 S2 => ⟨ρ2, env, s2, h, s3, h', S2, N.mono (E1.trans E2), eh, eh', fun ρ3 H3 E3 S3 => ?_⟩⟩⟩
  exact ⟨ρ3, s3, x, v, st', S3, R1.mono (E2.trans E3), e, q.mono (E1.trans (E2.trans E3))⟩

/-! ### f-strings -/
/-- one part -/
def tFm (K : PySem.W.Frag) (g : Nat → Addr) (f : VF) : TE := fun σ H Q => ∃ ρ env st x st' t, RS K g ρ H st ∧ REn K ρ H env σ ∧ f env st = some (x, st') ∧ fmtV x = some t ∧ ∀ ρ' H', Ext ρ H ρ' H' → RS K g ρ' H' st' → Q (.str t) H'
theorem pfm_fmt (ha : PEv X g a fa) : PE X (.FormattedValue a (-1) none pos) (tFm X.K g fa) := by
  refine PE.imp (pe_fmt ha) fun σ H Q h => ?_
  obtain ⟨ρ, env, st, x, st', t, S, N, e, et, q⟩ := h
  refine ⟨ρ, env, st, x, st', S, N, e, fun ρ1 H1 w1 E1 S1 R1 => ?_⟩
  cases R1 with
  | str y =>
    simp only [fmtV] at et
    split at et
    · rename_i hz; cases et; exact .inl ⟨_, rfl, hz, q _ _ E1 S1⟩
    · cases et
  | int i =>
    simp only [fmtV] at et
    split at et
    · rename_i hz; cases et; exact .inr ⟨i, rfl, hz, q _ _ E1 S1⟩
    · cases et
  | _ => cases et
theorem pfm_str {y : Str} {k : Nat} : PE X (.Constant (.str y) k pos) (tFm X.K g (vCst (.str y))) := by
  refine PE.imp pe_str fun σ H Q h => ?_
  obtain ⟨ρ, env, st, x, st', t, S, N, e, et, q⟩ := h
  cases e
  simp only [fmtV] at et
  split at et
  · cases et; exact q _ _ .refl S
  · cases et

/-! ### calls -/
/-- how a def is called: from my values -/
def spC (K : PySem.W.Frag) (g : Nat → Addr) (cf : CF) (f : Nat) (n : Nat) : Sp := fun vs H Q _ => vs.length = n ∧ ∃ ρ st xs v st', RS K g ρ H st ∧ RVs K ρ H xs vs ∧ cf f xs st = some (v, st') ∧ Post K g ρ H v st' Q
theorem pev_call {cf : CF} {f : Nat} {x : Str} {fd : FuncData} {fad : Addr} {ps : List Str} {k : Nat} {p : Pos} (F : FnOk X.prog X.w X.K X.mg X.base CX0 k fad fd ps (spC X.K g cf f ps.length)) (hr : Room k X.A) (hg : Gl X x) (hm : X.mg x = some (.ref fad)) (hk : PySem.W.keepIn X.K (.ref fad) = true)
    (hb : Binds X.K fd ps []) (ha : PAv X g (e :: es) fs) (hdb : (x == ("__debug__" : Str)) = false) (he : starEach (e :: es) X.env = (false, eval e X.env) :: starEach es X.env) (hpl : (backTo pos (starEach es X.env)).any (·.1) = false)
    (hn : ∀ env st xs st', fs env st = some (xs, st') → xs.length = ps.length) : PEv X g (.Call (.Name x p) (e :: es) [] pos) (vCall cf f fs) := by
  refine PE.imp (pe_call F hr hg hm hk hb .nil pass0 ha hdb he hpl) fun σ H Q h => ?_
  obtain ⟨ρ, env, st, v, st', S, N, e, q⟩ := h
  unfold vCall at e
  split at e
  · cases e
  rename_i xs s1 ea
  refine ⟨ρ, env, st, xs, s1, S, N, ea, fun ρ1 H1 w1 E1 S1 R1 => ?_⟩
  show spC X.K g cf f ps.length (w1 ++ []) H1 Q E0
  rw [List.append_nil]
  exact ⟨by rw [← R1.length]; exact hn _ _ _ _ ea, ρ1, s1, xs, v, st', S1, R1, e, q.mono E1⟩
theorem pev_call0 {cf : CF} {f : Nat} {x : Str} {fd : FuncData} {fad : Addr} {k : Nat} {p : Pos} (F : FnOk X.prog X.w X.K X.mg X.base CX0 k fad fd [] (spC X.K g cf f 0)) (hr : Room k X.A) (hg : Gl X x) (hm : X.mg x = some (.ref fad)) (hk : PySem.W.keepIn X.K (.ref fad) = true)
    (hb : Binds X.K fd [] []) (hdb : (x == ("__debug__" : Str)) = false) : PEv X g (.Call (.Name x p) [] [] pos) (vCall cf f vNil) := by
  refine PE.imp (pe_call0 F hr hg hm hk hb .nil pass0 hdb) fun σ H Q h => ?_
  obtain ⟨ρ, env, st, v, st', S, N, e, q⟩ := h
  unfold vCall vNil at e
  exact ⟨rfl, ρ, st, [], v, st', S, .nil, e, q⟩
theorem pev_bi {bi : Bi} {id : String} {x : Str} {p : Pos} (hc : CallR X (.builtin id) (rBi X.K g bi)) (hg : Gl X x) (hm : X.mg x = none) (hv : bootBuiltins x = some (.builtin id)) (ha : PAv X g (e :: es) fs) (hn : x ≠ "__name__") (hdb : (x == ("__debug__" : Str)) = false)
    (he : starEach (e :: es) X.env = (false, eval e X.env) :: starEach es X.env) (hpl : (backTo pos (starEach es X.env)).any (·.1) = false) : PEv X g (.Call (.Name x p) (e :: es) [] pos) (vBi bi fs) := by
  refine PE.imp (pe_callB hc hg hm hv ha hn hdb he hpl) fun σ H Q h => ?_
  obtain ⟨ρ, env, st, v, st', S, N, e, q⟩ := h
  unfold vBi at e
  split at e
  · cases e
  rename_i xs s1 ea
  exact ⟨ρ, env, st, xs, s1, S, N, ea, fun ρ1 H1 w1 E1 S1 R1 => ⟨ρ1, s1, xs, v, st', S1, R1, e, q.mono E1⟩⟩
theorem pev_biT {bi : Bi} {T : String} {x : Str} {p : Pos} (hc : CallR X (.type T) (rBi X.K g bi)) (hg : Gl X x) (hm : X.mg x = none) (hv : bootBuiltins x = some (.type T)) (ha : PAv X g (e :: es) fs) (hn : x ≠ "__name__") (hdb : (x == ("__debug__" : Str)) = false)
    (he : starEach (e :: es) X.env = (false, eval e X.env) :: starEach es X.env) (hpl : (backTo pos (starEach es X.env)).any (·.1) = false) : PEv X g (.Call (.Name x p) (e :: es) [] pos) (vBi bi fs) := by
  refine PE.imp (pe_callTy hc hg hm hv ha hn hdb he hpl) fun σ H Q h => ?_
  obtain ⟨ρ, env, st, v, st', S, N, e, q⟩ := h
  unfold vBi at e
  split at e
  · cases e
  rename_i xs s1 ea
  exact ⟨ρ, env, st, xs, s1, S, N, ea, fun ρ1 H1 w1 E1 S1 R1 => ⟨ρ1, s1, xs, v, st', S1, R1, e, q.mono E1⟩⟩
end Kg
/-! PvIter: what a loop or a comprehension walks; f-strings, isinstance, methods. -/
namespace Kg
open PySem PySem.Spec PyProof.Rows L2

/-! ### enumerate(tuple) -/
theorem meets_enumerate_newT (l : Addr) (items : Array Value) (n : Nat) (dct : Option Addr) (sl : Array (Option Value)) :
    Meets (Builtin.«enumerate.__new__» ⟨[.type "enumerate", .ref l], []⟩) (fun _ R s => s.heap.get? l = some { cls := .type "tuple", dict := dct, data := .seq items n, slots := sl } ∧
      R (.ok (.ret (.ref (s.heap.push { cls := .type "tuple_iterator", data := .fields #[.ref l, .int 0 0] }).objs.size)))
        { s with heap := (s.heap.push { cls := .type "tuple_iterator", data := .fields #[.ref l, .int 0 0] }).push { cls := .type "enumerate", data := .fields #[.none, .bool false, .ref s.heap.objs.size, rawInt 0, .none, .none] } }) :=
  .of_wp fun prog w A R s h => by
    obtain ⟨hp, g, d, tk, os⟩ := s; obtain ⟨hl, h⟩ := h
    have hsub := sub_enumerate
    have hL : Heap.IsTuple (Shared.heap ⟨hp, g, d, tk, os⟩) l items := ⟨_, hl, rfl, n, rfl⟩
    wp_walk using AutoSeq1.wpAny_loadPart' hl
    refine wpAny_stack_any fun st => wpAny_pure ?_
    split
    · rename_i c _ _ _ _ _
      cases (c == Value.type "enumerate")
      · wp_walk using AutoSeq1.wpAny_loadPart' hl, wpAny_pyIter_tuple hL
        exact ⟨_, rfl, h⟩
      · wp_walk using AutoSeq1.wpAny_loadPart' hl, wpAny_pyIter_tuple hL
        exact ⟨_, rfl, h⟩
    · wp_walk using AutoSeq1.wpAny_loadPart' hl, wpAny_pyIter_tuple hL
      exact ⟨_, rfl, h⟩
section
variable {prog : Program} {w : World} {A : Around} {E : Value → Shared → Prop} {s : Shared}
theorem call_enumerate_tuple {l : Addr} {items : Array Value} {Q : Value → Shared → Prop} (hL : IsTup s.heap l items)
    (h : ∀ h', IsEnum h' (s.heap.objs.size + 1) s.heap.objs.size 0 .none → h'.IsTupleIter s.heap.objs.size l 0 → h'.objs.size = s.heap.objs.size + 2 →
      (∀ b o, s.heap.get? b = some o → h'.get? b = some o) → Q (.ref (s.heap.objs.size + 1)) { s with heap := h' }) :
    wpAny (model prog w) A (call (.type "enumerate") [.ref l]) Q E s := by
  obtain ⟨⟨c, dct, dt, sl⟩, hl, hc, n, hd⟩ := hL
  replace hc : c = .type "tuple" := hc
  replace hd : dt = .seq items n := hd
  subst hc hd
  refine callType_new F.called_enumerate (by decide) (F.typeCall_enumerate_1 _) (F.newCall_enumerate_1 _) (fun obj => F.args_object_init_2 obj _) F.entry_enumerate_new
    (meets_enumerate_newT l items n dct sl) ⟨hl, ?_⟩
  have hz : (s.heap.push { cls := .type "tuple_iterator", data := .fields #[.ref l, .int 0 0] }).objs.size = s.heap.objs.size + 1 := Heap.size_push ..
  show _ ∧ _
  rw [hz]
  have he : IsEnum ((s.heap.push { cls := .type "tuple_iterator", data := .fields #[.ref l, .int 0 0] }).push
      { cls := .type "enumerate", data := .fields #[.none, .bool false, .ref s.heap.objs.size, rawInt 0, .none, .none] }) (s.heap.objs.size + 1) s.heap.objs.size 0 .none := by
    have := Heap.get?_push_size (s.heap.push { cls := .type "tuple_iterator", data := .fields #[.ref l, .int 0 0] })
      (o := { cls := .type "enumerate", data := .fields #[.none, .bool false, .ref s.heap.objs.size, rawInt 0, .none, .none] }) rfl
    rw [hz] at this; exact this
  refine ⟨⟨_, he, rfl⟩, h _ he ⟨_, Heap.get?_push_of_some _ (Heap.get?_push_size _ rfl), rfl, rfl⟩ (by rw [Heap.size_push, hz]) fun b o x => Heap.get?_push_of_some _ (Heap.get?_push_of_some _ x)⟩
theorem enumT_end {e it l : Addr} {i : Nat} {items : Array Value} {old : Value} {Q : Option Value → Shared → Prop} (hh : A.handled = none)
    (he : IsEnum s.heap e it i old) (hit : s.heap.IsTupleIter it l i) (hl : s.heap.IsTuple l items) (hx : items[i]? = none)
    (hQ : ∀ h', Heap.ExtBut it s.heap h' → Q none { s with heap := h' }) : wpAny (model prog w) A (pyNext (.ref e)) Q E s := by
  have hT : s.TypeIs (.ref e) "enumerate" := ⟨_, he, rfl⟩
  unfold pyNext
  refine wpAny_bind (wpAny_attempt (wpAny_callSpecial?_slot (name := Str.ofString "__next__") hT F.slot_enumerate_next
    (wpAny_call_entry F.slot_enumerate_next hT F.entry_enumerate_next ?_ (F.args_enumerate_next_1 _))))
  show wpAny _ _ (field (.ref e) 2 >>= _) _ _ _
  refine wpAny_bind (wpAny_field he rfl (x := .ref it) rfl ?_)
  refine wpAny_bind (wpAny_nextOf_tuple_end hh hit hl hx fun h' x he' hx' => ?_)
  obtain ⟨o, ho, hc⟩ := hx'
  refine wpAny_bind (wpAny_isInstance (T := "StopIteration") (b := true) ⟨o, ho, hc⟩ isSubtype_stop ?_)
  exact wpAny_pure (hQ _ he')
end
/-- a tuple, each item in a new pair -/
def IteT (a : Addr) (vs : List V) : It :=
  ⟨fun i H => Rd H a (.tup vs) ∧ i < vs.length, fun i H v H' => ∃ T x, v = .ref T ∧ H T = none ∧ H' = upd H T (.tup [.int (i : Nat), x]) ∧ vs[i]? = some x, fun i H => Rd H a (.tup vs) ∧ vs.length ≤ i⟩
theorem turn_enumT {P : Program} {w : World} {K : PySem.W.Frag} {elts : List Expr} {kk : Nat} {tpos : Pos} (a e it : Addr) (vs : List V) :
    Turn P w K (.Tuple elts kk tpos) (IteT a vs) [e, it] e (fun i h => (∃ old, IsEnum h e it ((i : Nat) : Int) old) ∧ h.IsTupleIter it a i ∧ e ≠ it) where
  mem := by simp
  obj := fun i h st b hb => by
    obtain ⟨⟨old, he⟩, ⟨o, ho, hc, hd⟩, _⟩ := st
    have e' : b = e ∨ b = it := by simpa using hb
    rcases e' with z | z
    · rw [z]; exact ⟨_, he, fun v q => nomatch q⟩
    · rw [z]; exact ⟨o, ho, fun v q => by rw [hd] at q; cases q⟩
  keep := fun i h h' st k => let ⟨⟨old, he⟩, hi, hne⟩ := st; ⟨⟨old, k e (by simp) _ he⟩, hi.at fun o q => k it (by simp) o q, hne⟩
  item := by
    intro X hP hw hK hc i pins s σ H E I hf st hg
    subst hP hw hK
    obtain ⟨⟨old, he⟩, hit, hne⟩ := st
    obtain ⟨hq, hlt⟩ := hg
    obtain ⟨its, rv, p, hz⟩ := I.tuple (.inl hq)
    have hae : a ≠ e := fun z => by have := (hf e (by simp)).1; rw [← z] at this; rcases hq with hq | ⟨_, hq⟩ <;> (rw [hq] at this; cases this)
    have hai : a ≠ it := fun z => by have := (hf it (by simp)).1; rw [← z] at this; rcases hq with hq | ⟨_, hq⟩ <;> (rw [hq] at this; cases this)
    obtain ⟨v, hv⟩ : ∃ v, vs[i]? = some v := ⟨vs[i], List.getElem?_eq_getElem hlt⟩
    obtain ⟨u, hu, ru⟩ := rv.get hv
    have hel : e < s.heap.objs.size := Heap.lt_size he
    have hil : it < s.heap.objs.size := by obtain ⟨_, q, _⟩ := hit; exact Heap.lt_size q
    have D := Draws.tuple (prog := X.prog) (w := X.w) (A := X.A.in1) (I.ok.hd hc) it a hai its.toArray
    have hl := rv.length
    refine wpAny_pyNext_enum_itemD D he ⟨hit, show s.heap.IsTuple a its.toArray from p⟩ (by simp; omega) hne (by simp; exact ⟨hne, fun z => hae z.symm⟩) fun x h' tk hx ho hst' hT hsz hk => ?_
    have hxu : x = u := by
      have : its[i]? = some x := by simpa using hx
      rw [hu] at this
      exact (Option.some.inj this).symm
    subst hxu
    refine ⟨_, rfl, wpAny_letOwnedTupleGo_enum (s := { s with heap := h', toks := tk + 1 }) ho fun h'' he' sb => ?_⟩
    have hT2 : h''.get? s.heap.objs.size = some { cls := .type "tuple", data := .seq #[.int i tk, x] } := (sb.2 _ (Nat.ne_of_gt hel)).trans hT
    have new : ObjOk X.prog X.w (upd H s.heap.objs.size (.tup [.int (i : Nat), v])) h'' s.heap.objs.size (.tup [.int (i : Nat), v]) :=
      ⟨by show 2 ≤ sizeLine; decide, [.int i tk, x], .cons ⟨_, rfl⟩ (.cons ru .nil), ⟨_, hT2, rfl, _, rfl⟩⟩
    have I1 : Inv X pins σ (upd H s.heap.objs.size (.tup [.int (i : Nat), v])) { s with heap := h'', toks := tk + 1 } :=
      I.turnedNew (ch := [e, it]) (fun b ob hb q => (sb.2 b (fun z => hb (by simp [z]))).trans (hk b ob (fun z => hb (by simp [z])) (fun z => hb (by simp [z])) q)) hf (Nat.le_refl _) new
    refine ⟨.ref s.heap.objs.size, _, I1, rfl, ⟨_, v, rfl, I.hok.fresh (Nat.le_refl _), rfl, hv⟩, ⟨⟨x, ?_⟩, hst'.1.at fun o q => (sb.2 it (Ne.symm hne)).trans q, hne⟩, fun b hb => ?_⟩
    · have e1 : ((i + 1 : Nat) : Int) = (i : Int) + 1 := by omega
      rw [e1]; exact he'
    · have hb' : b < s.heap.objs.size := by
        have e' : b = e ∨ b = it := by simpa using hb
        rcases e' with z | z
        · rw [z]; exact hel
        · rw [z]; exact hil
      rw [upd_ne (Nat.ne_of_lt hb')]
      exact (hf b hb).1
  done := by
    intro X hP hw hK hc i pins s σ H E I hf st hg
    subst hP hw hK
    obtain ⟨⟨old, he⟩, hit, hne⟩ := st
    obtain ⟨hq, hx⟩ := hg
    obtain ⟨its, rv, p, hz⟩ := I.tuple (.inl hq)
    obtain ⟨f0, f1, f2, f3, f4, f5⟩ := hf it (by simp)
    have hai : a ≠ it := fun z => by rw [← z] at f0; rcases hq with hq | ⟨_, hq⟩ <;> (rw [hq] at f0; cases f0)
    have hl := rv.length
    have D := Draws.tuple (prog := X.prog) (w := X.w) (A := X.A.in1) (I.ok.hd hc) it a hai its.toArray
    refine enumT_end (I.ok.hd hc) he hit (show s.heap.IsTuple a its.toArray from p) (by simp; omega) fun h' eb => ⟨rfl, I.turned (t' := s.toks) (fun b o hb q => eb b o hb q) f0 f1 f3 f4 f5⟩
  self := fun A i s Q E st h => let ⟨⟨_, he⟩, _⟩ := st; wpAny_pyIter_enum he h

variable {K : PySem.W.Frag} {g : Nat → Addr} {ρ ρ' : List Addr} {H H' : Hp} {st st' : Sto} {X : Cx}

/-- J yields these items, while ok holds -/
structure Yields (K : PySem.W.Frag) (J : It) (items : List PV) (ok : List Addr → Hp → Prop) : Prop where
  go : ∀ i ρ H, ok ρ H → i < items.length → J.go i H
  yld : ∀ i ρ H x H', ok ρ H → J.yld i H x H' → i < items.length → ∃ y, items[i]? = some y ∧ RV K ρ H' y x ∧ (H' = H ∨ ∃ T vs, H T = none ∧ H' = upd H T (.tup vs))
  stop : ∀ i ρ H, ok ρ H → items.length ≤ i → J.stop i H
/-- what stands of an iterator's source: the checked list is as it was -/
def chkO (K : PySem.W.Frag) (g : Nat → Addr) (c : Option (Nat × Ob)) (ρ : List Addr) (H : Hp) : Prop := match c with | none => True | some (n, o) => ∃ a, ρ[n]? = some a ∧ RO K g ρ H o a
def okI (K : PySem.W.Frag) (g : Nat → Addr) (c : Option (Nat × Ob)) (ρ₀ : List Addr) (H₀ : Hp) (ρ : List Addr) (H : Hp) : Prop := Mon ρ₀ H₀ ρ H ∧ chkO K g c ρ H
def semI (K : PySem.W.Frag) (g : Nat → Addr) (k : ItK) (f : En → Sto → R (List PV)) : TI := fun σ H R => ∃ ρ env st vs st' it, RS K g ρ H st ∧ REn K ρ H env σ ∧ f env st = some (vs, st') ∧ iterV k vs st' = some it ∧
  ∀ ρ' H' J, Ext ρ H ρ' H' → RS K g ρ' H' st' → Yields K J it.items (okI K g it.chk ρ' H') → R J H'
abbrev PIv (X : Cx) (g : Nat → Addr) (tg : Expr) (e : Expr) (k : ItK) (f : En → Sto → R (List PV)) : Prop := PI X tg e (semI X.K g k f)

theorem yields_tup {a : Addr} {vs : List V} {xs : List PV} {ρ : List Addr} {H : Hp} (h : Rd H a (.tup vs)) (r : RVs K ρ H xs vs) : Yields K (Itt K a) xs (okI K g none ρ H) where
  go := fun i ρ' H' ok hi => by
    obtain ⟨v, hv, _⟩ := r.get (List.getElem?_eq_getElem hi)
    exact ⟨vs, v, .inl (ok.1.rd h), hv⟩
  yld := fun i ρ' H' x H2 ok y hi => by
    obtain ⟨rfl, y⟩ := y
    have hv := y vs (.inl (ok.1.rd h))
    obtain ⟨p, hp, rp⟩ := r.getR hv
    exact ⟨p, hp, rp.mon ok.1, .inl rfl⟩
  stop := fun i ρ' H' ok hi => ⟨vs, .inl (ok.1.rd h), by rw [← r.length]; exact hi⟩
theorem yields_lst {n : Nat} {a : Addr} {xs : List PV} {ρ : List Addr} {H : Hp} (hρ : ρ[n]? = some a) : Yields K (Itl K a) xs (okI K g (some (n, .lst xs)) ρ H) where
  go := fun i ρ' H' ok hi => by
    obtain ⟨b, hb, vs, h1, h2⟩ := ok.2
    rw [ok.1.pre _ _ hρ] at hb; cases hb
    obtain ⟨v, hv, _⟩ := h2.get (List.getElem?_eq_getElem hi)
    exact ⟨vs, v, .of h1, hv⟩
  yld := fun i ρ' H' x H2 ok y hi => by
    obtain ⟨rfl, y⟩ := y
    obtain ⟨b, hb, vs, h1, h2⟩ := ok.2
    rw [ok.1.pre _ _ hρ] at hb; cases hb
    obtain ⟨p, hp, rp⟩ := h2.getR (y vs (.of h1))
    exact ⟨p, hp, rp, .inl rfl⟩
  stop := fun i ρ' H' ok hi => by
    obtain ⟨b, hb, vs, h1, h2⟩ := ok.2
    rw [ok.1.pre _ _ hρ] at hb; cases hb
    exact ⟨vs, .of h1, by rw [← h2.length]; exact hi⟩
theorem yields_ro {a : Addr} {vs : List V} {xs : List PV} {ρ : List Addr} {H : Hp} (h : Ro K H a vs) (r : RVs K ρ H xs vs) : Yields K (Itl K a) xs (okI K g none ρ H) where
  go := fun i ρ' H' ok hi => by
    obtain ⟨v, hv, _⟩ := r.get (List.getElem?_eq_getElem hi)
    exact ⟨vs, v, (h.keep ok.1.frz).sql, hv⟩
  yld := fun i ρ' H' x H2 ok y hi => by
    obtain ⟨rfl, y⟩ := y
    obtain ⟨p, hp, rp⟩ := r.getR (y vs (h.keep ok.1.frz).sql)
    exact ⟨p, hp, rp.mon ok.1, .inl rfl⟩
  stop := fun i ρ' H' ok hi => ⟨vs, (h.keep ok.1.frz).sql, by rw [← r.length]; exact hi⟩
theorem yields_rng {lo : Int} {n : Nat} {ρ : List Addr} {H : Hp} : Yields K (Itr lo n) ((List.range n).map fun k => .int (lo + (k : Nat))) (okI K g none ρ H) where
  go := fun i ρ' H' ok hi => by show i < n; simpa using hi
  yld := fun i ρ' H' x H2 ok y hi => by
    obtain ⟨rfl, rfl⟩ := y
    have hi' : i < n := by simpa using hi
    exact ⟨.int (lo + i), by simp [hi'], .int _, .inl rfl⟩
  stop := fun i ρ' H' ok hi => by show n ≤ i; simpa using hi
theorem enumI_get {xs : List PV} {i : Nat} {x : PV} (h : xs[i]? = some x) : (enumI xs)[i]? = some (.tuk [.int (i : Nat), x]) := by
  unfold enumI
  rw [List.getElem?_map, List.getElem?_zipIdx, h]
  simp
theorem enumI_len (xs : List PV) : (enumI xs).length = xs.length := by simp [enumI]
theorem yields_enumT {a : Addr} {vs : List V} {xs : List PV} {ρ : List Addr} {H : Hp} (h : Rd H a (.tup vs)) (r : RVs K ρ H xs vs) : Yields K (IteT a vs) (enumI xs) (okI K g none ρ H) where
  go := fun i ρ' H' ok hi => ⟨ok.1.rd h, by rw [enumI_len] at hi; rw [← r.length]; exact hi⟩
  yld := fun i ρ' H' x H2 ok y hi => by
    obtain ⟨T, v, rfl, hT, rfl, hv⟩ := y
    obtain ⟨p, hp, rp⟩ := r.getR hv
    have e2 : Ext ρ' H' ρ' (upd H' T (.tup [.int (i : Nat), v])) := ext_tup hT
    exact ⟨_, enumI_get hp, .tuk upd_same (.cons (.int _) (.cons ((rp.mon ok.1).mono e2) .nil)), .inr ⟨T, _, hT, rfl⟩⟩
  stop := fun i ρ' H' ok hi => ⟨ok.1.rd h, by rw [enumI_len] at hi; rw [← r.length]; exact hi⟩
theorem yields_enumRo {a : Addr} {vs : List V} {xs : List PV} {ρ : List Addr} {H : Hp} (h : Ro K H a vs) (r : RVs K ρ H xs vs) : Yields K (Ite K a) (enumI xs) (okI K g none ρ H) where
  go := fun i ρ' H' ok hi => by
    rw [enumI_len] at hi
    obtain ⟨v, hv, _⟩ := r.get (List.getElem?_eq_getElem hi)
    exact ⟨vs, v, (h.keep ok.1.frz).sql, hv⟩
  yld := fun i ρ' H' x H2 ok y hi => by
    obtain ⟨T, v, rfl, hT, rfl, y⟩ := y
    obtain ⟨p, hp, rp⟩ := r.getR (y vs (h.keep ok.1.frz).sql)
    have e2 : Ext ρ' H' ρ' (upd H' T (.tup [.int (i : Nat), v])) := ext_tup hT
    exact ⟨_, enumI_get hp, .tuk upd_same (.cons (.int _) (.cons ((rp.mon ok.1).mono e2) .nil)), .inr ⟨T, _, hT, rfl⟩⟩
  stop := fun i ρ' H' ok hi => by
    rw [enumI_len] at hi
    exact ⟨vs, (h.keep ok.1.frz).sql, by rw [← r.length]; exact hi⟩
theorem yields_enumL {n : Nat} {a : Addr} {xs : List PV} {ρ : List Addr} {H : Hp} (hρ : ρ[n]? = some a) : Yields K (Ite K a) (enumI xs) (okI K g (some (n, .lst xs)) ρ H) where
  go := fun i ρ' H' ok hi => by
    rw [enumI_len] at hi
    obtain ⟨b, hb, vs, h1, h2⟩ := ok.2
    rw [ok.1.pre _ _ hρ] at hb; cases hb
    obtain ⟨v, hv, _⟩ := h2.get (List.getElem?_eq_getElem hi)
    exact ⟨vs, v, .of h1, hv⟩
  yld := fun i ρ' H' x H2 ok y hi => by
    obtain ⟨T, v, rfl, hT, rfl, y⟩ := y
    obtain ⟨b, hb, vs, h1, h2⟩ := ok.2
    rw [ok.1.pre _ _ hρ] at hb; cases hb
    obtain ⟨p, hp, rp⟩ := h2.getR (y vs (.of h1))
    have e2 : Ext ρ' H' ρ' (upd H' T (.tup [.int (i : Nat), v])) := ext_tup hT
    exact ⟨_, enumI_get hp, .tuk upd_same (.cons (.int _) (.cons (rp.mono e2) .nil)), .inr ⟨T, _, hT, rfl⟩⟩
  stop := fun i ρ' H' ok hi => by
    rw [enumI_len] at hi
    obtain ⟨b, hb, vs, h1, h2⟩ := ok.2
    rw [ok.1.pre _ _ hρ] at hb; cases hb
    exact ⟨vs, .of h1, by rw [← h2.length]; exact hi⟩
variable {e : Expr} {fe : VF} {tg : Expr} {pos : Pos}
theorem PI.or {wi wi' : TI} (h : PI X tg e wi) (h' : PI X tg e wi') : PI X tg e (fun σ H R => wi σ H R ∨ wi' σ H R) := ⟨fun pins s σ H R I q => q.elim (h.run pins s σ H R I) (h'.run pins s σ H R I)⟩
theorem PI.imp {wi wi' : TI} (h : PI X tg e wi) (k : ∀ σ H R, wi' σ H R → wi σ H R) : PI X tg e wi' := ⟨fun pins s σ H R I q => h.run pins s σ H R I (k _ _ _ q)⟩
theorem one_arg' {env : En} {st st' : Sto} {vs : List PV} (e : vCons false fe vNil env st = some (vs, st')) : ∃ x, vs = [x] ∧ fe env st = some (x, st') := by
  unfold vCons vNil at e
  split at e
  · cases e
  rename_i x s1 ea
  cases e
  exact ⟨x, rfl, ea⟩
theorem piv_seq (he : PEv X g e fe) : PIv X g tg e .seq (vCons false fe vNil) := by
  refine PI.imp (PI.or (pi_list he) (pi_tup he)) fun σ H R h => ?_
  obtain ⟨ρ, env, st, vs, st', it, S, N, ev, ei, q⟩ := h
  obtain ⟨x, rfl, ea⟩ := one_arg' ev
  simp only [iterV, Option.map_eq_some_iff] at ei
  obtain ⟨⟨xs, c⟩, e1, e2⟩ := ei
  subst e2
  cases x with
  | tup ys =>
    cases e1
    refine .inr ⟨ρ, env, st, _, _, S, N, ea, fun ρ1 H1 w1 E1 S1 R1 => ?_⟩
    cases R1 with
    | @tup _ a vs o h1 hd r1 => exact ⟨a, rfl, ⟨vs, sqt_frz h1⟩, q _ _ _ E1 S1 (yields_tup (.inr ⟨o, h1⟩) r1)⟩
  | tuk ys =>
    cases e1
    refine .inr ⟨ρ, env, st, _, _, S, N, ea, fun ρ1 H1 w1 E1 S1 R1 => ?_⟩
    cases R1 with
    | @tuk _ a vs h1 r1 => exact ⟨a, rfl, ⟨vs, .of h1⟩, q _ _ _ E1 S1 (yields_tup (.inl h1) r1)⟩
  | ref n =>
    simp only [sqC] at e1
    split at e1
    · rename_i ys hs
      cases e1
      refine .inl ⟨ρ, env, st, _, _, S, N, ea, fun ρ1 H1 w1 E1 S1 R1 => ?_⟩
      cases R1 with
      | @ref _ a h1 =>
        obtain ⟨vs, h2, h3⟩ := S1.obj n _ a hs h1
        exact ⟨a, rfl, ⟨vs, .of h2⟩, q _ _ _ E1 S1 (yields_lst h1)⟩
    · cases e1
  | rol ys =>
    cases e1
    refine .inl ⟨ρ, env, st, _, _, S, N, ea, fun ρ1 H1 w1 E1 S1 R1 => ?_⟩
    cases R1 with
    | @rol _ a vs h1 r1 => exact ⟨a, rfl, ⟨vs, h1.sql⟩, q _ _ _ E1 S1 (yields_ro h1 r1)⟩
  | _ => cases e1
theorem two_arg' {fb : VF} {env : En} {st st' : Sto} {vs : List PV} (e : vCons false fe (vCons false fb vNil) env st = some (vs, st')) : ∃ x y, vs = [x, y] := by
  unfold vCons at e
  split at e
  · cases e
  rename_i x s1 ea
  split at e
  · cases e
  rename_i ys s2 eb
  cases e
  obtain ⟨y, rfl, _⟩ := one_arg' (fe := fb) eb
  exact ⟨x, y, rfl⟩
theorem piv_range1 {p : Pos} (hg : Gl X "range") (hm : X.mg "range" = none) (ha : PAv X g [e] (vCons false fe vNil)) (hs : starEach [e] X.env = [(false, eval e X.env)]) : PIv X g tg (.Call (.Name "range" p) [e] [] pos) .range (vCons false fe vNil) := by
  refine PI.imp (pi_range1 hg hm ha hs) fun σ H R h => ?_
  obtain ⟨ρ, env, st, vs, st', it, S, N, ev, ei, q⟩ := h
  obtain ⟨x, rfl, ea⟩ := one_arg' ev
  refine ⟨ρ, env, st, _, st', S, N, ev, fun ρ1 H1 ws E1 S1 R1 => ?_⟩
  cases x with
  | int j =>
    simp only [iterV] at ei
    split at ei
    · rename_i hz
      cases ei
      obtain ⟨w, rfl, r1⟩ := R1.one
      cases r1
      refine ⟨j, rfl, hz.1, hz.2, q _ _ _ E1 S1 ?_⟩
      have := yields_rng (K := X.K) (g := g) (lo := 0) (n := j.toNat) (ρ := ρ1) (H := H1)
      unfold rangeI
      rw [Int.sub_zero]
      exact this
    · cases ei
  | _ => cases ei
theorem piv_range2 {e2 : Expr} {fb : VF} {p : Pos} (hg : Gl X "range") (hm : X.mg "range" = none) (ha : PAv X g [e, e2] (vCons false fe (vCons false fb vNil))) (hs : starEach [e, e2] X.env = [(false, eval e X.env), (false, eval e2 X.env)]) (hs2 : starEach [e2] X.env = [(false, eval e2 X.env)]) :
    PIv X g tg (.Call (.Name "range" p) [e, e2] [] pos) .range (vCons false fe (vCons false fb vNil)) := by
  refine PI.imp (pi_range2 hg hm ha hs hs2) fun σ H R h => ?_
  obtain ⟨ρ, env, st, vs, st', it, S, N, ev, ei, q⟩ := h
  obtain ⟨x, y, rfl⟩ := two_arg' ev
  refine ⟨ρ, env, st, _, st', S, N, ev, fun ρ1 H1 ws E1 S1 R1 => ?_⟩
  cases x with
  | int i =>
    cases y with
    | int j =>
      simp only [iterV] at ei
      split at ei
      · rename_i hz
        cases ei
        obtain ⟨w, w', rfl, r1, r2⟩ := R1.two
        cases r1
        cases r2
        exact ⟨i, j, rfl, hz, q _ _ _ E1 S1 (yields_rng (K := X.K) (g := g) (lo := i) (n := (j - i).toNat) (ρ := ρ1) (H := H1))⟩
      · cases ei
    | _ => cases ei
  | _ => cases ei
def iEnumT (ta : TA) : TI := fun σ H R => ta σ H fun vs H1 => ∃ a xs, vs = [.ref a] ∧ Rd H1 a (.tup xs) ∧ R (IteT a xs) H1
theorem pi_enumT {ta : TA} {p tpos : Pos} {elts : List Expr} {kk : Nat} (hg : Gl X "enumerate") (hm : X.mg "enumerate" = none) (ha : PA X [e] ta) (hs : starEach [e] X.env = [(false, eval e X.env)]) :
    PI X (.Tuple elts kk tpos) (.Call (.Name "enumerate" p) [e] [] pos) (iEnumT ta) := by
  refine ⟨fun pins s σ H R I h => ?_⟩
  refine Call_ (ld_blt I hg hm boot_enumerate (PyProof.Rows.callWith_type1 (thn (ha.run pos pins s σ H _ I h) fun us s1 ⟨vs, H1, I1, r1, q1⟩ => ?_) hs rfl))
  obtain ⟨a, xs, ex, hq, q⟩ := q1
  subst ex
  cases r1 with
  | cons r rr =>
    cases rr
    cases r
    obtain ⟨its, rv, p', hz⟩ := I1.tuple (.inl hq)
    refine call_enumerate_tuple p' fun h' he hit hsz hk => wpAny_pyIter_enum he ?_
    have I2 : Inv X pins σ H1 { s1 with heap := h' } := I1.kept (t' := s1.toks) hk
    refine ⟨s1.heap.objs.size + 1, [s1.heap.objs.size + 1, s1.heap.objs.size], _, _, H1, rfl, I2, turn_enumT a (s1.heap.objs.size + 1) s1.heap.objs.size xs, ⟨⟨.none, he⟩, hit, Nat.succ_ne_self _⟩, fun b hb => ?_, q⟩
    have e' : b = s1.heap.objs.size + 1 ∨ b = s1.heap.objs.size := by simpa using hb
    have hle : s1.heap.objs.size ≤ b := by
      rcases e' with z | z
      · rw [z]; exact Nat.le_add_right _ _
      · rw [z]; exact Nat.le_refl _
    exact I1.fpOk hle (I1.hok.fresh hle)
theorem piv_enum {p tpos : Pos} {elts : List Expr} {kk : Nat} (hg : Gl X "enumerate") (hm : X.mg "enumerate" = none) (ha : PAv X g [e] (vCons false fe vNil)) (hs : starEach [e] X.env = [(false, eval e X.env)]) :
    PIv X g (.Tuple elts kk tpos) (.Call (.Name "enumerate" p) [e] [] pos) .enum (vCons false fe vNil) := by
  refine PI.imp (PI.or (pi_enum hg hm ha hs) (pi_enumT hg hm ha hs)) fun σ H R h => ?_
  obtain ⟨ρ, env, st, vs, st', it, S, N, ev, ei, q⟩ := h
  obtain ⟨x, rfl, ea⟩ := one_arg' ev
  simp only [iterV, Option.map_eq_some_iff] at ei
  obtain ⟨⟨xs, c⟩, e1, e2⟩ := ei
  subst e2
  cases x with
  | tup ys =>
    cases e1
    refine .inr ⟨ρ, env, st, _, _, S, N, ev, fun ρ1 H1 w1 E1 S1 R1 => ?_⟩
    obtain ⟨w, rfl, r1⟩ := R1.one
    cases r1 with
    | @tup _ a vs o h1 hd r1 => exact ⟨a, vs, rfl, .inr ⟨o, h1⟩, q _ _ _ E1 S1 (yields_enumT (.inr ⟨o, h1⟩) r1)⟩
  | tuk ys =>
    cases e1
    refine .inr ⟨ρ, env, st, _, _, S, N, ev, fun ρ1 H1 w1 E1 S1 R1 => ?_⟩
    obtain ⟨w, rfl, r1⟩ := R1.one
    cases r1 with
    | @tuk _ a vs h1 r1 => exact ⟨a, vs, rfl, .inl h1, q _ _ _ E1 S1 (yields_enumT (.inl h1) r1)⟩
  | ref n =>
    simp only [sqC] at e1
    split at e1
    · rename_i ys hs
      cases e1
      refine .inl ⟨ρ, env, st, _, _, S, N, ev, fun ρ1 H1 w1 E1 S1 R1 => ?_⟩
      obtain ⟨w, rfl, r1⟩ := R1.one
      cases r1 with
      | @ref _ a h1 =>
        obtain ⟨vs, h2, h3⟩ := S1.obj n _ a hs h1
        exact ⟨a, vs, rfl, .of h2, q _ _ _ E1 S1 (yields_enumL h1)⟩
    · cases e1
  | rol ys =>
    cases e1
    refine .inl ⟨ρ, env, st, _, _, S, N, ev, fun ρ1 H1 w1 E1 S1 R1 => ?_⟩
    obtain ⟨w, rfl, r1⟩ := R1.one
    cases r1 with
    | @rol _ a vs h1 r1 => exact ⟨a, vs, rfl, h1.sql, q _ _ _ E1 S1 (yields_enumRo h1 r1)⟩
  | _ => cases e1
end Kg
/-! PvComp: targets, list comprehensions. -/
namespace Kg
open PySem PySem.Spec PyProof.Rows L2

variable {K : PySem.W.Frag} {g : Nat → Addr} {ρ ρ' : List Addr} {H H' : Hp} {st st' : Sto} {X : Cx}

mutual
def tgS : Tg → List Nat
  | .nm i => [i]
  | .tu ts => tgSs ts
def tgSs : List Tg → List Nat
  | [] => []
  | t :: ts => tgS t ++ tgSs ts
end
/-- a target set: the names after it -/
def semG (K : PySem.W.Frag) (t : Tg) : TG := fun v σ H Q => ∃ ρ env x env', REn K ρ H env σ ∧ RV K ρ H x v ∧ bindT t x env = some env' ∧
  ∀ σ', REn K ρ H env' σ' → (∀ vs, (∀ i ∈ tgS t, i ∈ vs) → wipe σ' vs = wipe σ vs) → Q σ' H
def semGs (K : PySem.W.Frag) (t : List Tg) : TGs := fun v σ H Q => ∃ ρ env x env', REn K ρ H env σ ∧ RVs K ρ H x v ∧ bindTs t x env = some env' ∧
  ∀ σ', REn K ρ H env' σ' → (∀ vs, (∀ i ∈ tgSs t, i ∈ vs) → wipe σ' vs = wipe σ vs) → Q σ' H
abbrev PGv (X : Cx) (e : Expr) (t : Tg) : Prop := PG X e (semG X.K t)
abbrev PGsv (X : Cx) (e : List Expr) (t : List Tg) : Prop := PGs X e (semGs X.K t)
theorem PG.imp {e : Expr} {t t' : TG} (h : PG X e t) (k : ∀ v σ H Q, t' v σ H Q → t v σ H Q) : PG X e t' := ⟨fun pins s σ H v u Q I r q => h.run pins s σ H v u Q I r (k _ _ _ _ q)⟩
theorem PGs.imp {e : List Expr} {t t' : TGs} (h : PGs X e t) (k : ∀ v σ H Q, t' v σ H Q → t v σ H Q) : PGs X e t' := ⟨fun pins s σ H v u Q I r q => h.run pins s σ H v u Q I r (k _ _ _ _ q)⟩
variable {pos : Pos}
theorem pgv_name {i : Nat} {x : Str} (hN : X.N.Nodup) (hi : X.N[i]? = some x) (hx : Loc X.env.scope x) (hf : X.fn x = true ∨ X.env.scope.names.lookup x = some .local) : PGv X (.Name x pos) (.nm i) := by
  refine PG.imp (pg_name hN hi hx hf) fun v σ H Q h => ?_
  obtain ⟨ρ, env, x, env', N, r, e, q⟩ := h
  simp only [bindT] at e
  cases e
  exact q _ (N.set i r) fun vs h => wipe_set (h i (by simp [tgS]))
theorem pgsv_nil : PGsv X [] [] := by
  refine PGs.imp pgs_nil fun v σ H Q h => ?_
  obtain ⟨ρ, env, x, env', N, r, e, q⟩ := h
  cases r with
  | nil =>
    simp only [bindTs] at e
    cases e
    exact ⟨rfl, q _ N fun _ _ => rfl⟩
  | cons _ _ => simp [bindTs] at e
theorem pgsv_cons {e : Expr} {es : List Expr} {t : Tg} {ts : List Tg} (h1 : PGv X e t) (h2 : PGsv X es ts) (hs : (assignEach (e :: es) X.env).map (·.2) = assign e X.env :: (assignEach es X.env).map (·.2)) : PGsv X (e :: es) (t :: ts) := by
  refine PGs.imp (pgs_cons h1 h2 hs) fun v σ H Q h => ?_
  obtain ⟨ρ, env, x, env', N, r, e, q⟩ := h
  cases r with
  | nil => simp [bindTs] at e
  | cons r rr =>
    simp only [bindTs] at e
    split at e
    · rename_i e1 he1
      refine ⟨_, _, rfl, ρ, env, _, e1, N, r, he1, fun σ1 N1 w1 => ⟨ρ, e1, _, env', N1, rr, e, fun σ2 N2 w2 => q σ2 N2 fun vs hv => ?_⟩⟩
      exact (w2 vs fun i hi => hv i (by simp [tgSs, hi])).trans (w1 vs fun i hi => hv i (by simp [tgSs, hi]))
    · cases e
theorem bindTs_len : ∀ {ts : List Tg} {xs : List PV} {env env' : En}, bindTs ts xs env = some env' → xs.length = ts.length
  | [], [], _, _, _ => rfl
  | _ :: _, [], _, _, h => by simp [bindTs] at h
  | [], _ :: _, _, _, h => by simp [bindTs] at h
  | t :: ts, x :: xs, env, env', h => by
    simp only [bindTs] at h
    split at h
    · rw [List.length_cons, List.length_cons, bindTs_len h]
    · cases h
theorem pgv_tup {es : List Expr} {k : Nat} {ts : List Tg} (hc : X.calm = true) (h : PGsv X es ts) (hn : (assignEach es X.env).length = ts.length) (hst : (assignEach es X.env).findIdx? (·.1) = none) : PGv X (.Tuple es k pos) (.tu ts) := by
  refine PG.imp (pg_tup hc h hn hst) fun v σ H Q h => ?_
  obtain ⟨ρ, env, x, env', N, r, e, q⟩ := h
  simp only [bindT] at e
  split at e
  · rename_i xs
    cases r with
    | @tup _ a vs o h1 hd r1 =>
      refine ⟨a, vs, rfl, sqt_frz h1, ?_, ρ, env, xs, env', N, r1, e, fun σ' N' w => q σ' N' fun vs hv => w vs fun i hi => hv i (by simp [tgS, hi])⟩
      rw [← r1.length]; exact bindTs_len e
  · rename_i xs
    cases r with
    | @tuk _ a vs h1 r1 =>
      refine ⟨a, vs, rfl, .of h1, ?_, ρ, env, xs, env', N, r1, e, fun σ' N' w => q σ' N' fun vs hv => w vs fun i hi => hv i (by simp [tgS, hi])⟩
      rw [← r1.length]; exact bindTs_len e
  · cases e

/-! ### comprehensions -/
theorem ext_d {ρ1 : List Addr} {H1 : Hp} {D : Addr} {u : HO} (e : Ext ρ1 H1 ρ H) (hD : H1 D = none) (hm : Mut (H D)) : Ext ρ1 H1 ρ (upd H D u) :=
  ⟨e.toMon.trans (mon_mut hm), fun b v h k => let ⟨h1, k1⟩ := e.frm b v h k; ⟨by rw [upd_ne (fun z => by rw [z, hD] at h; cases h)]; exact h1, k1⟩⟩
theorem ext_in {ρ1 : List Addr} {H1 : Hp} {D : Addr} (e : Ext ρ1 H1 ρ H) (hD : H1 D = none) : Ext ρ1 H1 (ρ ++ [D]) H :=
  ⟨⟨fun n a h => by have := e.pre n a h; rw [List.getElem?_append_left (List.getElem?_eq_some_iff.mp this).1]; exact this, e.tup, e.frz⟩, fun b v h k => by
    obtain ⟨h1, k1⟩ := e.frm b v h k
    refine ⟨h1, fun n q => ?_⟩
    by_cases hn : n < ρ.length
    · rw [List.getElem?_append_left hn] at q; exact k1 n q
    · rw [List.getElem?_append_right (by omega)] at q
      have hz : n - ρ.length = 0 := by
        by_cases hz : n - ρ.length = 0
        · exact hz
        · rw [List.getElem?_eq_none (by simp; omega)] at q; cases q
      rw [hz] at q
      simp at q
      subst q
      rw [hD] at h; cases h⟩
theorem chk_of {c : Option (Nat × Ob)} (S : RS K g ρ H st) (h : itOk c st) : chkO K g c ρ H := by
  cases c with
  | none => trivial
  | some p => obtain ⟨n, o⟩ := p; exact S.at h
theorem yld_ext {ρ : List Addr} {H H' : Hp} (S : RS K g ρ H st) (h : H' = H ∨ ∃ T vs, H T = none ∧ H' = upd H T (.tup vs)) : Ext ρ H ρ H' ∧ RS K g ρ H' st := by
  rcases h with rfl | ⟨T, vs, hT, rfl⟩
  · exact ⟨.refl, S⟩
  · exact ⟨ext_tup hT, S.tup hT⟩
theorem lc_imp {fs : En → Sto → R (List PV)} {ft : TF} {fe : VF} {t : Tg} {k : ItK} {vs : List Nat} (ht : ∀ i ∈ tgS t, i ∈ vs) (σ : L2.St) (H : Hp) (Q : VK) (h : semE K g (vComp fe t k fs ft vs) σ H Q) :
    tLc (semI K g k fs) (semG K t) (semT K g ft) (semE K g fe) vs σ H Q := by
  obtain ⟨ρ, env, st, v, st', S, N, e, q⟩ := h
  unfold vComp at e
  split at e
  · cases e
  rename_i xs s1 e1
  split at e
  · cases e
  rename_i it e2
  split at e
  · cases e
  rename_i ys s2 e3
  cases e
  refine ⟨ρ, env, st, xs, s1, it, S, N, e1, e2, fun ρ1 H1 J E1 S1 Y D hD => ?_⟩
  refine ⟨fun i m Hc => i ≤ it.items.length ∧ m = it.items.length - i ∧ ∃ ρc stc acc vacc, Ext ρ1 H1 ρc Hc ∧ RS K g ρc Hc stc ∧ Hc D = some (.lst vacc) ∧ (∀ n : Nat, ρc[n]? ≠ some D) ∧ RVs K ρc Hc acc vacc ∧
    compL it.chk t ft fe (wipeE env vs) (it.items.drop i) acc stc = some (ys, s2), ⟨it.items.length, Nat.zero_le _, by simp, ρ1, s1, [], [], ext_tup hD, S1.other hD, upd_same, S1.out hD, .nil, by simpa using e3⟩, ?_⟩
  rintro i m Hc ⟨hi, rfl, ρc, stc, acc, vacc, Ec, Sc, hDc, nDc, Rc, ec⟩
  by_cases hlt : i < it.items.length
  · rw [List.drop_eq_getElem_cons hlt] at ec
    unfold compL at ec
    split at ec
    · rename_i hck
      split at ec
      · cases ec
      rename_i env' eb
      split at ec
      · cases ec
      · rename_i st1 et
        -- the test says no
        refine .inr ⟨Y.go i ρc Hc ⟨Ec.toMon, chk_of Sc hck⟩ hlt, _, fun H' h => ⟨it.items.length - (i + 1), by omega, h⟩, fun x H' hy => ?_⟩
        obtain ⟨y, ey, ry, hH⟩ := Y.yld i ρc Hc x H' ⟨Ec.toMon, chk_of Sc hck⟩ hy hlt
        rw [List.getElem?_eq_getElem hlt] at ey
        cases ey
        obtain ⟨E', S'⟩ := yld_ext Sc hH
        refine ⟨ρc, wipeE env vs, _, env', ((N.mono (E1.trans (Ec.trans E'))).wipe vs), ry, eb, fun σ2 N2 w2 => ⟨(w2 vs ht).trans wipe_wipe, ρc, env', stc, false, st1, S', N2, et, fun ρ2 H3 E2 S2 => iteF ?_⟩⟩
        obtain ⟨d1, d2⟩ := E'.frm D _ hDc nDc
        obtain ⟨d3, d4⟩ := E2.frm D _ d1 d2
        exact ⟨hlt, rfl, ρ2, st1, acc, vacc, Ec.trans (E'.trans E2), S2, d3, d4, Rc.mono (E'.trans E2), ec⟩
      · rename_i st1 et
        split at ec
        · cases ec
        rename_i y0 st2 ee
        split at ec
        · rename_i hz
          refine .inr ⟨Y.go i ρc Hc ⟨Ec.toMon, chk_of Sc hck⟩ hlt, _, fun H' h => ⟨it.items.length - (i + 1), by omega, h⟩, fun x H' hy => ?_⟩
          obtain ⟨y, ey, ry, hH⟩ := Y.yld i ρc Hc x H' ⟨Ec.toMon, chk_of Sc hck⟩ hy hlt
          rw [List.getElem?_eq_getElem hlt] at ey
          cases ey
          obtain ⟨E', S'⟩ := yld_ext Sc hH
          refine ⟨ρc, wipeE env vs, _, env', ((N.mono (E1.trans (Ec.trans E'))).wipe vs), ry, eb, fun σ2 N2 w2 => ⟨(w2 vs ht).trans wipe_wipe, ρc, env', stc, true, st1, S', N2, et, fun ρ2 H3 E2 S2 => iteT ?_⟩⟩
          obtain ⟨d1, d2⟩ := E'.frm D _ hDc nDc
          obtain ⟨d3, d4⟩ := E2.frm D _ d1 d2
          refine ⟨ρ2, env', st1, y0, st2, S2, N2.mono E2, ee, fun ρ3 H4 w E3 S3 R3 => ?_⟩
          obtain ⟨d5, d6⟩ := E3.frm D _ d3 d4
          have hm : Mut (H4 D) := by rw [d5]; trivial
          refine ⟨vacc, d5, by rw [← Rc.length]; exact hz, hlt, rfl, ρ3, st2, acc ++ [y0], vacc ++ [w], ?_, S3.beside hm d6, upd_same, d6, ?_, ec⟩
          · exact ext_d (Ec.trans (E'.trans (E2.trans E3))) hD hm
          · exact ((Rc.mono (E'.trans (E2.trans E3))).append (.cons R3 .nil)).mon (mon_mut hm)
        · cases ec
    · cases ec
  · have hi' : i = it.items.length := by omega
    subst hi'
    rw [List.drop_length] at ec
    unfold compL at ec
    split at ec
    · rename_i hck
      cases ec
      refine .inl ⟨Y.stop _ ρc Hc ⟨Ec.toMon, chk_of Sc hck⟩ (Nat.le_refl _), q (ρc ++ [D]) Hc _ (E1.trans (ext_in Ec hD)) (Sc.add nDc ⟨vacc, hDc, Rc.mon ⟨fun n a h => by rw [List.getElem?_append_left (List.getElem?_eq_some_iff.mp h).1]; exact h, fun _ _ h => h, fun _ _ _ h => h⟩⟩) (.ref ?_)⟩
      rw [← Sc.len]; simp
    · cases ec
section
variable {elt tg iter : Expr} {ifs : List Expr} {scope : Scope} {own : List (Str × Nat)} {fs : En → Sto → R (List PV)} {ft : TF} {fe : VF} {t : Tg} {k : ItK}
theorem pev_comp (hc : X.calm = true) (hN : X.N.Nodup) (hi : PIv X g tg iter k fs) (ok : BlkOk X.N X.env.scope scope own)
    (hg : ∀ (s : Shared) (H : Hp) (C : Addr) (cl : List (Str × Addr)) (fp : List Addr), PGv (X.blk s H scope (compEnvC scope cl C X.env) fp) tg t) (ht : ∀ (s : Shared) (H : Hp) (C : Addr) (cl : List (Str × Addr)) (fp : List Addr), PTs (X.blk s H scope (compEnvC scope cl C X.env) fp) ifs (semT X.K g ft))
    (he : ∀ (s : Shared) (H : Hp) (C : Addr) (cl : List (Str × Addr)) (fp : List Addr), PEv (X.blk s H scope (compEnvC scope cl C X.env) fp) g elt fe) (hs : ∀ x, foldedSetIterable iter X.env x = pure x) (hv : ∀ i ∈ tgS t, i ∈ own.map (·.2)) :
    PEv X g (.ListComp elt [⟨tg, iter, ifs, 0⟩] scope pos) (vComp fe t k fs ft (own.map (·.2))) :=
  PE.imp (pe_lc hc hN hi ok hg ht he hs) (lc_imp hv)
theorem psv_setLc {i : Nat} {y : Str} {py spos : Pos} (hc : X.calm = true) (hN : X.N.Nodup) (hy : X.N[i]? = some y) (hyl : X.env.scope.names.lookup y = some .local)
    (hsw : swapsWith (.ListComp elt [⟨tg, iter, ifs, 0⟩] scope pos) (some (.Name y py)) spos.line X.env = pure true) (hi : PIv X g tg iter k fs) (ok : BlkOk X.N X.env.scope scope own)
    (hg : ∀ (s : Shared) (H : Hp) (C : Addr) (cl : List (Str × Addr)) (fp : List Addr), PGv (X.blk s H scope (compEnvC scope cl C X.env) fp) tg t) (ht : ∀ (s : Shared) (H : Hp) (C : Addr) (cl : List (Str × Addr)) (fp : List Addr), PTs (X.blk s H scope (compEnvC scope cl C X.env) fp) ifs (semT X.K g ft))
    (he : ∀ (s : Shared) (H : Hp) (C : Addr) (cl : List (Str × Addr)) (fp : List Addr), PEv (X.blk s H scope (compEnvC scope cl C X.env) fp) g elt fe) (hs : ∀ x, foldedSetIterable iter X.env x = pure x) (hv : ∀ i ∈ tgS t, i ∈ own.map (·.2)) :
    PS X (.Assign [.Name y py] (.ListComp elt [⟨tg, iter, ifs, 0⟩] scope pos) spos) (tAsg (semE X.K g (vComp fe t k fs ft (own.map (·.2)))) (gName i)) := by
  have h := ps_setLc (pos := pos) (te := semE X.K g fe) (g := semG X.K t) hc hN hy hyl hsw hi ok hg ht he hs
  exact ⟨fun pins s σ H D I q => h.run pins s σ H D I (lc_imp hv σ H _ q)⟩
/-- the tests -/
theorem ptsv_nil : PTs X [] (semT X.K g (condOf [])) := ⟨fun pins s σ H Q I h => pts_nil.run pins s σ H Q I (by
  obtain ⟨ρ, env, st, k, st', S, N, e, q⟩ := h
  cases e
  exact q _ _ .refl S)⟩
theorem ptsv_one {c : Expr} {f : TF} (h : PTv X g c f) : PTs X [c] (semT X.K g (condOf [f])) := ⟨fun pins s σ H Q I hw => (pts_one h).run pins s σ H Q I hw⟩
end
end Kg
/-! PvMore: f-strings, isinstance, methods, dicts. -/
namespace Kg
open PySem PySem.Spec PyProof.Rows L2

variable {K : PySem.W.Frag} {g : Nat → Addr} {ρ ρ' : List Addr} {H H' : Hp} {st st' : Sto} {X : Cx}
variable {a b c e o : Expr} {es : List Expr} {fa fb fc fe fo : VF} {fs : En → Sto → R (List PV)} {ft : TF} {pos : Pos}

/-! ### f-strings -/
inductive PJv (X : Cx) (g : Nat → Addr) : List Expr → (En → Sto → R (List PV)) → Prop where
  | nil : PJv X g [] vNil
  | cons {e : Expr} {f : VF} {es : List Expr} {fs : En → Sto → R (List PV)} (h : PE X e (tFm X.K g f)) (r : PJv X g es fs) : PJv X g (e :: es) (vCons false f fs)
theorem pjv_pj (h : PJv X g es fs) : ∃ ts, PJ X es ts ∧ ∀ acc ρ env st σ H xs st' tx t (Q : Str → Hp → Prop), RS X.K g ρ H st → REn X.K ρ H env σ → fs env st = some (xs, st') → fmtAll xs = some tx → joinF tx acc = some t →
    (∀ ρ' H', Ext ρ H ρ' H' → RS X.K g ρ' H' st' → Q t H') → tJs ts acc σ H Q := by
  induction h with
  | nil =>
    refine ⟨[], .nil, fun acc ρ env st σ H xs st' tx t Q S N e1 e2 e3 q => ?_⟩
    cases e1
    cases e2
    cases e3
    exact q _ _ .refl S
  | @cons e f es fs h r ih =>
    obtain ⟨ts, j, k⟩ := ih
    refine ⟨_ :: ts, .cons h j, fun acc ρ env st σ H xs st' tx t Q S N e1 e2 e3 q => ?_⟩
    unfold vCons at e1
    split at e1
    · cases e1
    rename_i x s1 ea
    split at e1
    · cases e1
    rename_i ys s2 eb
    cases e1
    simp only [spl, Bool.false_eq_true, if_false, List.singleton_append, fmtAll] at e2
    split at e2
    · cases e2
    rename_i y ey
    split at e2
    · cases e2
    rename_i tx2 e4
    cases e2
    simp only [joinF] at e3
    split at e3
    · rename_i hz
      exact ⟨ρ, env, st, x, s1, y, S, N, ea, ey, fun ρ1 H1 E1 S1 => ⟨y, rfl, hz, k _ ρ1 env s1 σ H1 ys _ tx2 t Q S1 (N.mono E1) eb e4 e3 fun ρ2 H2 E2 S2 => q _ _ (E1.trans E2) S2⟩⟩
    · cases e3
theorem pev_fstr {v1 v2 : Expr} {rest : List Expr} (h : PJv X g (v1 :: v2 :: rest) fs) : PEv X g (.JoinedStr (v1 :: v2 :: rest) pos) (vFstr fs) := by
  obtain ⟨ts, j, k⟩ := pjv_pj h
  refine PE.imp (pe_joined j) fun σ H Q h => ?_
  obtain ⟨ρ, env, st, v, st', S, N, e, q⟩ := h
  unfold vFstr at e
  split at e
  · cases e
  rename_i xs s1 e1
  split at e
  · cases e
  rename_i tx e2
  split at e
  · cases e
  rename_i t e3
  cases e
  exact k _ ρ env st σ H xs _ tx t _ S N e1 e2 e3 fun ρ' H' E S' => q _ _ _ E S' (.str _)
theorem empty_app (y : Str) : Str.empty ++ y = y := by
  show Str.append _ _ = _
  cases y
  simp [Str.append, Str.empty]
theorem pev_fstr1 (h : PJv X g [e] fs) : PEv X g (.JoinedStr [e] pos) (vFstr fs) := by
  cases h with
  | @cons _ f _ _ h r =>
    cases r
    refine PE.imp (pe_joined1 h) fun σ H Q h => ?_
    obtain ⟨ρ, env, st, v, st', S, N, e, q⟩ := h
    unfold vFstr vCons vNil at e
    cases ea : f env st with
    | none => rw [ea] at e; cases e
    | some p =>
      obtain ⟨x, s1⟩ := p
      rw [ea] at e
      simp only [spl, Bool.false_eq_true, if_false, List.append_nil, fmtAll] at e
      cases ey : fmtV x with
      | none => rw [ey] at e; cases e
      | some y =>
        rw [ey] at e
        simp only [joinF, empty_app] at e
        by_cases hz : y.length ≤ sizeLine
        · rw [if_pos hz] at e
          cases e
          exact ⟨ρ, env, st, x, _, y, S, N, ea, ey, fun ρ1 H1 E1 S1 => q _ _ _ E1 S1 (.str _)⟩
        · rw [if_neg hz] at e
          cases e

/-! ### isinstance -/
def Ty.nm : Ty → String | .int => "int" | .bool => "bool" | .str => "str" | .list => "list" | .tuple => "tuple" | .dict => "dict"
theorem kitB_none : ∀ t : Ty, kitB "NoneType" t.nm = some false := fun t => by cases t <;> decide +kernel
theorem kitB_bool : ∀ t : Ty, kitB "bool" t.nm = some (decide (t = .bool ∨ t = .int)) := fun t => by cases t <;> decide +kernel
theorem kitB_int : ∀ t : Ty, kitB "int" t.nm = some (decide (t = .int)) := fun t => by cases t <;> decide +kernel
theorem kitB_str : ∀ t : Ty, kitB "str" t.nm = some (decide (t = .str)) := fun t => by cases t <;> decide +kernel
theorem kitB_list : ∀ t : Ty, kitB "list" t.nm = some (decide (t = .list)) := fun t => by cases t <;> decide +kernel
theorem kitB_tuple : ∀ t : Ty, kitB "tuple" t.nm = some (decide (t = .tuple)) := fun t => by cases t <;> decide +kernel
theorem kitB_dict : ∀ t : Ty, kitB "dict" t.nm = some (decide (t = .dict)) := fun t => by cases t <;> decide +kernel
theorem ty_at {x : PV} {v : V} (S : RS K g ρ H st) (r : RV K ρ H x v) (h : ∃ t b, tyIs x st t = some b) : ∃ A, TyX K H v (.type A) ∧ ∀ t b, tyIs x st t = some b → kitB A t.nm = some b := by
  cases r with
  | non => exact ⟨_, .base .non, fun t b e => by cases e; exact kitB_none t⟩
  | bl k => exact ⟨_, .base (.bl k), fun t b e => by rw [kitB_bool]; cases t <;> (cases e; rfl)⟩
  | int k => exact ⟨_, .base (.int k), fun t b e => by rw [kitB_int]; cases t <;> (cases e; rfl)⟩
  | str k => exact ⟨_, .base (.str k), fun t b e => by rw [kitB_str]; cases t <;> (cases e; rfl)⟩
  | @tup xs a vs o h1 hd r => exact ⟨_, .fTuple h1, fun t b e => by rw [kitB_tuple]; cases t <;> (cases e; rfl)⟩
  | @tuk xs a vs h1 r => exact ⟨_, .base (.tup h1), fun t b e => by rw [kitB_tuple]; cases t <;> (cases e; rfl)⟩
  | @rol xs a vs h1 r =>
    have k : ∀ t b, tyIs (.rol xs) st t = some b → kitB "list" t.nm = some b := fun t b e => by rw [kitB_list]; cases t <;> (cases e; rfl)
    rcases h1 with ⟨o, h1⟩ | ⟨o, its, n, h1, h2, _⟩
    · exact ⟨_, .base (.frz h1), k⟩
    · exact ⟨_, .kList h1 h2, k⟩
  | @ref n a h1 =>
    obtain ⟨t0, b0, h0⟩ := h
    cases hs : st[n]? with
    | none => simp [tyIs, hs] at h0
    | some ob =>
      have S1 := S.obj n ob a hs h1
      cases ob with
      | lst xs =>
        obtain ⟨vs, q1, q2⟩ := S1
        exact ⟨_, .base (.lst q1), fun t b e => by rw [kitB_list]; cases t <;> (simp only [tyIs, hs] at e; cases e; rfl)⟩
      | dK kvs =>
        obtain ⟨vs, q1, q2⟩ := S1
        exact ⟨_, .base (.dK q1), fun t b e => by rw [kitB_dict]; cases t <;> (simp only [tyIs, hs] at e; cases e; rfl)⟩
      | dT kvs =>
        obtain ⟨vs, q1, q2⟩ := S1
        exact ⟨_, .base (.dT q1), fun t b e => by rw [kitB_dict]; cases t <;> (simp only [tyIs, hs] at e; cases e; rfl)⟩
      | ins c fs => simp [tyIs, hs] at h0
theorem kit_any {x : PV} {A : String} (h : ∀ t b, tyIs x st t = some b → kitB A t.nm = some b) : ∀ {ts : List Ty} {b : Bool}, tyAny x st ts = some b → PySem.W.kitAny K (.type A) (ts.map fun t => .type t.nm) = some b
  | [], _, e => by cases e; exact kitAny_nil
  | t :: ts, b, e => by
    simp only [tyAny] at e
    split at e
    · rename_i e1
      cases e
      exact kitAny_cons (kit_ty (h t _ e1)) (fun z => nomatch z) (fun _ => rfl)
    · rename_i e1
      exact kitAny_cons (kit_ty (h t _ e1)) (fun _ => kit_any h e) (fun z => nomatch z)
    · cases e
theorem cls_tys : ∀ ts : List Ty, Paired ClsV (ts.map fun t => V.ty t.nm) (ts.map fun t => Value.type t.nm)
  | [] => .nil
  | _ :: ts => .cons (.ty _) (cls_tys ts)
/-- one class -/
theorem pev_isi1 {x : Str} {t : Ty} {p p1 : Pos} (hg : Gl X "isinstance") (hm : X.mg "isinstance" = none) (hg2 : Gl X x) (hm2 : X.mg x = none) (hv : bootBuiltins x = some (.type t.nm)) (hn : x ≠ "__name__") (hd : (x == ("__debug__" : Str)) = false)
    (ha : PEv X g a fa) (he : starEach [a, .Name x p1] X.env = (false, eval a X.env) :: starEach [.Name x p1] X.env) (he2 : starEach [.Name x p1] X.env = (false, eval (.Name x p1) X.env) :: starEach [] X.env) (hpl : (backTo pos (starEach [.Name x p1] X.env)).any (·.1) = false) :
    PEv X g (.Call (.Name "isinstance" p) [a, .Name x p1] [] pos) (vIsi fa [t]) := by
  refine PE.imp (pe_callB call_isi hg hm (by decide +kernel) (pa_cons ha (pa_cons (pe_bltn hg2 hm2 hv (v := .ty t.nm) rfl hn hd) pa_nil he2) he) (by decide) (by decide) he hpl) fun σ H Q h => ?_
  obtain ⟨ρ, env, st, v, st', S, N, e, q⟩ := h
  unfold vIsi at e
  split at e
  · cases e
  rename_i y s1 e1
  split at e
  · cases e
  rename_i k ek
  cases e
  refine ⟨ρ, env, st, y, _, S, N, e1, fun ρ1 H1 w E1 S1 R1 => ?_⟩
  have ek1 : tyIs y st' t = some k := by
    simp only [tyAny] at ek
    split at ek
    · rename_i z; cases ek; exact z
    · rename_i z; cases ek; exact z
    · cases ek
  obtain ⟨A, ty, hk⟩ := ty_at S1 R1 ⟨t, k, ek1⟩
  exact ⟨w, .ty t.nm, .type A, .type t.nm, k, rfl, .ty _, ty, kit_ty (hk t k ek1), q _ _ _ E1 S1 (.bl k)⟩
/-- several, in a tuple -/
theorem pa_tys {ts : List Ty} {es : List Expr} {ta : TA} : (∀ σ H (Q : List V → Hp → Prop), Q (ts.map fun t => V.ty t.nm) H → ta σ H Q) → PA X es ta → PA X es (fun σ H Q => Q (ts.map fun t => V.ty t.nm) H) := fun k h => PA.imp h fun σ H Q q => k σ H Q q
theorem pev_isiN {ts : List Ty} {p p1 : Pos} {kk : Nat} (hne : ts ≠ []) (hg : Gl X "isinstance") (hm : X.mg "isinstance" = none) (hts : PA X es (fun σ H Q => Q (ts.map fun t => V.ty t.nm) H)) (hl : ts.length ≤ sizeLine)
    (ha : PEv X g a fa) (he : starEach [a, .Tuple es kk p1] X.env = (false, eval a X.env) :: starEach [.Tuple es kk p1] X.env) (he2 : starEach [.Tuple es kk p1] X.env = (false, eval (.Tuple es kk p1) X.env) :: starEach [] X.env) (hpl : (backTo pos (starEach [.Tuple es kk p1] X.env)).any (·.1) = false) :
    PEv X g (.Call (.Name "isinstance" p) [a, .Tuple es kk p1] [] pos) (vIsi fa ts) := by
  refine PE.imp (pe_callB call_isiT hg hm (by decide +kernel) (pa_cons ha (pa_cons (pe_tup hts) pa_nil he2) he) (by decide) (by decide) he hpl) fun σ H Q h => ?_
  obtain ⟨ρ, env, st, v, st', S, N, e, q⟩ := h
  unfold vIsi at e
  split at e
  · cases e
  rename_i y s1 e1
  split at e
  · cases e
  rename_i k ek
  cases e
  refine ⟨ρ, env, st, y, _, S, N, e1, fun ρ1 H1 w E1 S1 R1 => ?_⟩
  refine ⟨by rw [List.length_map]; exact hl, fun tp htp => ?_⟩
  have E2 : Ext ρ1 H1 ρ1 (upd H1 tp (.tup (ts.map fun t => V.ty t.nm))) := ext_tup htp
  have S2 := S1.other (u := .tup (ts.map fun t => V.ty t.nm)) htp
  have ek1 : ∃ t b, tyIs y st' t = some b := by
    cases ts with
    | nil => exact absurd rfl hne
    | cons t ts =>
      simp only [tyAny] at ek
      split at ek
      · rename_i z; exact ⟨t, _, z⟩
      · rename_i z; exact ⟨t, _, z⟩
      · cases ek
  obtain ⟨A, ty, hk⟩ := ty_at S2 (R1.mono E2) ek1
  exact ⟨w, tp, _, .type A, _, k, rfl, upd_same, cls_tys ts, ty, kit_any hk ek, q _ _ _ (E1.trans E2) S2 (.bl k)⟩

/-! ### methods -/
section
variable {name : Str} {apos cpos : Pos} {T id : String} {m : Me}
def tyP (T : String) (x : PV) (st : Sto) : Prop := match x with
  | .str _ => T = "str"
  | .tup _ => T = "tuple"
  | .rol _ => T = "list"
  | .ref n => match st[n]? with | some (.lst _) => T = "list" | some (.dK _) => T = "dict" | some (.dT _) => T = "dict" | _ => False
  | _ => False
theorem tyP_W {x : PV} {w : V} (S : RS K g ρ H st) (r : RV K ρ H x w) (h : tyP T x st) : tyW K T w H := by
  cases r with
  | str y => exact .inl h
  | @tup xs a vs o h1 hd r => exact .inr ⟨h, a, o, vs, rfl, hd, h1⟩
  | @rol xs a vs h1 r => exact .inl (.inl ⟨h, vs, h1.sql⟩)
  | @ref n a h1 =>
    simp only [tyP] at h
    split at h
    · rename_i xs hs
      obtain ⟨vs, q1, q2⟩ := S.obj n _ a hs h1
      exact .inl (.inl ⟨h, vs, .of q1⟩)
    · rename_i xs hs
      obtain ⟨vs, q1, q2⟩ := S.obj n _ a hs h1
      exact .inl (.inr (.inr (.inl ⟨h, .inl ⟨vs, q1⟩⟩)))
    · rename_i xs hs
      obtain ⟨vs, q1, q2⟩ := S.obj n _ a hs h1
      exact .inl (.inr (.inr (.inl ⟨h, .inr ⟨vs, q1⟩⟩)))
    · exact h.elim
  | _ => exact h.elim
def tyM (m : Me) (x : PV) : String := match m with | .join => "str" | .count => (match x with | .tup _ => "tuple" | _ => "list") | .get => "dict" | _ => "list"
theorem kind_T {x : PV} (hT : T = tyM m x) (h : kindM m x st = true) : tyP T x st := by
  subst hT
  have l : ∀ {n : Nat}, isL st n = true → tyP "list" (.ref n) st := fun {n} h => by
    unfold isL at h
    unfold tyP
    split at h <;> simp_all
  have d : ∀ {n : Nat}, isDc st n = true → tyP "dict" (.ref n) st := fun {n} h => by
    unfold isDc at h
    unfold tyP
    split at h <;> simp_all
  cases m <;> cases x <;> simp only [kindM] at h <;> first | (cases h; done) | exact l h | exact d h | rfl
theorem pev_me {rT : V → Hp → Prop} {ok : PV → Prop} (pa : PlainAttrs T) (slot : Slot T name id) (hty : typeOf (.builtin id) = pure (.type "method_descriptor")) (hm : MtR X id (fun x vs H Q => rT x H ∧ rMe X.K g m x vs H Q)) (ho : PEv X g o fo) (ha : PAv X g (e :: es) fs)
    (hbase : attributeBase o name X.env (eval o X.env) = eval o X.env)
    (hfew : ((backTo cpos (starEach (e :: es) X.env)).all (fun x => !x.1) && (backToKw cpos (keywordEach [] X.env)).all (fun x => x.1.isSome)
      && decide ((e :: es).length + ([] : List Keyword).length + (if ([] : List Keyword).isEmpty then 0 else 1) < 30)) = true)
    (hline : (apos.endLine == cpos.line) = true) (hs : starEach (e :: es) X.env = (false, eval e X.env) :: starEach es X.env) (hplain : (backTo cpos (starEach es X.env)).any (·.1) = false)
    (hk : ∀ x st, ok x → kindM m x st = true → tyP T x st) (hr : ∀ x ρ st H w xs v st', ok x → (∃ s, kindM m x s = true) → RS X.K g ρ H st → RV X.K ρ H x w → meV m x xs st = some (v, st') → rT w H) :
    PE X (.Call (.Attribute o name apos) (e :: es) [] cpos) (fun σ H Q => ∃ ρ env st x s1 xs s2 v st', RS X.K g ρ H st ∧ REn X.K ρ H env σ ∧ fo env st = some (x, s1) ∧ ok x ∧ kindM m x s1 = true ∧ fs env s1 = some (xs, s2) ∧ meV m x xs s2 = some (v, st') ∧ Post X.K g ρ H v st' Q) := by
  refine PE.imp (pe_bw pa slot hty hm ho ha hbase hfew hline hs hplain) fun σ H Q h => ?_
  obtain ⟨ρ, env, st, x, s1, xs, s2, v, st', S, N, e1, o, t, e2, e3, q⟩ := h
  refine ⟨ρ, env, st, x, s1, S, N, e1, fun ρ1 H1 w1 E1 S1 R1 => ⟨tyP_W S1 R1 (hk _ _ o t), ρ1, env, s1, xs, s2, S1, N.mono E1, e2, fun ρ2 H2 ws E2 S2 R2 => ⟨hr _ _ _ _ _ _ _ _ o ⟨_, t⟩ S2 (R1.mono E2) e3, ρ2, s2, x, xs, v, st', S2, R1.mono E2, R2, e3, q.mono (E1.trans E2)⟩⟩⟩
/-- .. for every receiver -/
theorem pev_me1 (pa : PlainAttrs T) (slot : Slot T name id) (hty : typeOf (.builtin id) = pure (.type "method_descriptor")) (hm : MtR X id (rMe X.K g m)) (ho : PEv X g o fo) (ha : PAv X g (e :: es) fs)
    (hbase : attributeBase o name X.env (eval o X.env) = eval o X.env)
    (hfew : ((backTo cpos (starEach (e :: es) X.env)).all (fun x => !x.1) && (backToKw cpos (keywordEach [] X.env)).all (fun x => x.1.isSome)
      && decide ((e :: es).length + ([] : List Keyword).length + (if ([] : List Keyword).isEmpty then 0 else 1) < 30)) = true)
    (hline : (apos.endLine == cpos.line) = true) (hs : starEach (e :: es) X.env = (false, eval e X.env) :: starEach es X.env) (hplain : (backTo cpos (starEach es X.env)).any (·.1) = false)
    (hk : ∀ x st, kindM m x st = true → tyP T x st) : PEv X g (.Call (.Attribute o name apos) (e :: es) [] cpos) (vMet m fo fs) := by
  have hm' : MtR X id (fun x vs H Q => True ∧ rMe X.K g m x vs H Q) := fun pins s σ H x xs v us Q I r1 r2 h => hm pins s σ H x xs v us Q I r1 r2 h.2
  refine PE.imp (pev_me (rT := fun _ _ => True) (ok := fun _ => True) pa slot hty hm' ho ha hbase hfew hline hs hplain (fun x st _ => hk x st) (fun _ _ _ _ _ _ _ _ _ _ _ _ _ => trivial)) fun σ H Q h => ?_
  obtain ⟨ρ, env, st, v, st', S, N, e, q⟩ := h
  unfold vMet at e
  split at e
  · cases e
  rename_i x s1 e1
  split at e
  · rename_i hkd
    split at e
    · cases e
    rename_i xs s2 e2
    exact ⟨ρ, env, st, x, s1, xs, s2, v, st', S, N, e1, trivial, hkd, e2, e, q⟩
  · cases e
theorem pev_count (hu : X.A.units + 1600 < cLine) (ho : PEv X g o fo) (ha : PAv X g (e :: es) fs)
    (hbase : attributeBase o "count" X.env (eval o X.env) = eval o X.env)
    (hfew : ((backTo cpos (starEach (e :: es) X.env)).all (fun x => !x.1) && (backToKw cpos (keywordEach [] X.env)).all (fun x => x.1.isSome)
      && decide ((e :: es).length + ([] : List Keyword).length + (if ([] : List Keyword).isEmpty then 0 else 1) < 30)) = true)
    (hline : (apos.endLine == cpos.line) = true) (hs : starEach (e :: es) X.env = (false, eval e X.env) :: starEach es X.env) (hplain : (backTo cpos (starEach es X.env)).any (·.1) = false) :
    PEv X g (.Call (.Attribute o "count" apos) (e :: es) [] cpos) (vMet .count fo fs) := by
  refine PE.imp (PE.or
    (pev_me (g := g) (m := .count) (ok := fun x => match x with | .tup _ => False | _ => True) F.plainAttrs_list F.slot_list_count F.type_list_count (me_countL hu) ho ha hbase hfew hline hs hplain (fun x st h1 h2 => kind_T (by cases x <;> first | exact h1.elim | rfl) h2) ?_)
    (pev_me (g := g) (m := .count) (ok := fun x => match x with | .tup _ => True | _ => False) F.plainAttrs_tuple F.slot_tuple_count F.type_tuple_count (me_countT hu) ho ha hbase hfew hline hs hplain (fun x st h1 h2 => kind_T (by cases x <;> first | exact h1.elim | rfl) h2) ?_)) fun σ H Q h => ?_
  · intro x ρ st H w xs v st' h1 hkd S r e
    have hsq : ∃ ys, sqOf st x = some ys ∧ True := by
      match xs, e with
      | [y], e =>
        simp only [meV] at e
        split at e
        · rename_i ys hs; exact ⟨ys, hs, trivial⟩
        · cases e
    obtain ⟨ys, hy, _⟩ := hsq
    cases r with
    | @rol xs a vs h2 r => exact ⟨a, vs, rfl, h2.sql⟩
    | @ref n a h2 =>
      simp only [sqOf] at hy
      split at hy
      · rename_i zs hz
        obtain ⟨vs, q1, q2⟩ := S.obj n _ a hz h2
        exact ⟨a, vs, rfl, .of q1⟩
      · cases hy
    | tup => exact h1.elim
    | @tuk xs a vs h2 r =>
      obtain ⟨_, hk⟩ := hkd
      cases hk
    | _ => cases hy
  · intro x ρ st H w xs v st' h1 hkd S r e
    cases r with
    | @tup xs a vs o h2 hd r => exact ⟨a, vs, rfl, sqt_frz h2⟩
    | _ => exact h1.elim
  · obtain ⟨ρ, env, st, v, st', S, N, e, q⟩ := h
    unfold vMet at e
    split at e
    · cases e
    rename_i x s1 e1
    split at e
    · rename_i hkd
      split at e
      · cases e
      rename_i xs s2 e2
      cases x with
      | tup ys => exact .inr ⟨ρ, env, st, _, s1, xs, s2, v, st', S, N, e1, trivial, hkd, e2, e, q⟩
      | _ => exact .inl ⟨ρ, env, st, _, s1, xs, s2, v, st', S, N, e1, trivial, hkd, e2, e, q⟩
    · cases e
theorem pev_me0 (pa : PlainAttrs T) (slot : Slot T name id) (hty : typeOf (.builtin id) = pure (.type "method_descriptor")) (hm : MtR X id (rMe X.K g m)) (ho : PEv X g o fo)
    (hbase : attributeBase o name X.env (eval o X.env) = eval o X.env) (hline : (apos.endLine == cpos.line) = true) (hk : ∀ x st, kindM m x st = true → tyP T x st) : PEv X g (.Call (.Attribute o name apos) [] [] cpos) (vMet m fo vNil) := by
  refine PE.imp (pe_bw0 pa slot hty hm ho hbase hline) fun σ H Q h => ?_
  obtain ⟨ρ, env, st, v, st', S, N, e, q⟩ := h
  unfold vMet vNil at e
  split at e
  · cases e
  rename_i x s1 e1
  split at e
  · rename_i hkd
    exact ⟨ρ, env, st, x, s1, S, N, e1, fun ρ1 H1 w1 E1 S1 R1 => ⟨tyP_W S1 R1 (hk _ _ hkd), ρ1, s1, x, [], v, st', S1, R1, .nil, e, q.mono E1⟩⟩
  · cases e
end

/-! ### dicts -/
theorem pev_dict0K : PEv X g (.Dict [] [] pos) (vDict0 false) := PE.imp pe_dnewK fun σ H Q h => by
  obtain ⟨ρ, env, st, v, st', S, N, e, q⟩ := h
  cases e
  exact fun p hp => post_new S q hp ⟨[], upd_same, .nil⟩
theorem pev_dict0T : PEv X g (.Dict [] [] pos) (vDict0 true) := PE.imp pe_dnewT fun σ H Q h => by
  obtain ⟨ρ, env, st, v, st', S, N, e, q⟩ := h
  cases e
  exact fun p hp => post_new S q hp ⟨[], upd_same, .nil⟩
theorem isD_of {n : Nat} (S : RS K g ρ H st) {a : Addr} (h : ρ[n]? = some a) (k : isDc st n = true) : IsD H a := by
  unfold isDc at k
  split at k
  · rename_i kvs hs
    obtain ⟨ks, q1, q2⟩ := S.obj n _ a hs h
    exact .inl ⟨ks, .of q1⟩
  · rename_i kvs hs
    obtain ⟨ks, q1, q2⟩ := S.obj n _ a hs h
    exact .inr ⟨ks, .of q1⟩
  · cases k
theorem pev_get1 {apos cpos : Pos} (hu : X.A.units + 1600 < cLine) (ho : PEv X g o fo) (ha : PEv X g a fa) (m : M1 X o "get" apos a cpos) : PEv X g (.Call (.Attribute o "get" apos) [a] [] cpos) (vMet .get fo (vCons false fa vNil)) := by
  refine PE.imp (pe_dget1 (by omega) ho ha m) fun σ H Q h => ?_
  obtain ⟨ρ, env, st, v, st', S, N, e, q⟩ := h
  unfold vMet at e
  split at e
  · cases e
  rename_i x s1 e1
  split at e
  · rename_i hk
    cases x with
    | ref n =>
      split at e
      · cases e
      rename_i xs s2 e2
      obtain ⟨k, rfl, e3⟩ := one_arg' e2
      refine ⟨ρ, env, st, _, s1, S, N, e1, fun ρ1 H1 w1 E1 S1 R1 => ?_⟩
      cases R1 with
      | @ref _ p h1 =>
        refine ⟨p, rfl, isD_of S1 h1 hk, ρ1, env, s1, k, s2, S1, N.mono E1, e3, fun ρ2 H2 w2 E2 S2 R2 => ?_⟩
        simp only [meV] at e
        split at e
        · rename_i ob hs
          obtain ⟨r, h2, h3⟩ := Option.map_eq_some_iff.mp e
          cases h3
          obtain ⟨w, h4, h5⟩ := dget_of (S2.obj n _ p hs (E2.pre _ _ h1)) R2 h2
          refine ⟨w, h4, q _ _ _ (E1.trans E2) S2 ?_⟩
          cases r <;> cases w <;> first | exact h5.elim | exact .non | exact h5
        · cases e
    | _ => cases hk
  · cases e
theorem pev_get2 {apos cpos : Pos} (hu : X.A.units + 1600 < cLine) (ho : PEv X g o fo) (ha : PEv X g a fa) (hb : PEv X g b fb) (m : M2 X o "get" apos a b cpos) : PEv X g (.Call (.Attribute o "get" apos) [a, b] [] cpos) (vMet .get fo (vCons false fa (vCons false fb vNil))) := by
  refine PE.imp (pe_dget2 (by omega) ho ha hb m) fun σ H Q h => ?_
  obtain ⟨ρ, env, st, v, st', S, N, e, q⟩ := h
  unfold vMet at e
  split at e
  · cases e
  rename_i x s1 e1
  split at e
  · rename_i hk
    cases x with
    | ref n =>
      split at e
      · cases e
      rename_i xs s2 e2
      unfold vCons at e2
      split at e2
      · cases e2
      rename_i k s3 e3
      split at e2
      · cases e2
      rename_i ys s4 e4
      cases e2
      obtain ⟨z, rfl, e5⟩ := one_arg' e4
      refine ⟨ρ, env, st, _, s1, S, N, e1, fun ρ1 H1 w1 E1 S1 R1 => ?_⟩
      cases R1 with
      | @ref _ p h1 =>
        refine ⟨p, rfl, isD_of S1 h1 hk, ρ1, env, s1, k, s3, S1, N.mono E1, e3, fun ρ2 H2 w2 E2 S2 R2 => ⟨ρ2, env, s3, z, _, S2, N.mono (E1.trans E2), e5, fun ρ3 H3 w3 E3 S3 R3 => ?_⟩⟩
        simp only [spl, Bool.false_eq_true, if_false, List.singleton_append, meV] at e
        split at e
        · rename_i ob hs
          obtain ⟨r, h2, h3⟩ := Option.map_eq_some_iff.mp e
          cases h3
          obtain ⟨w, h4, h5⟩ := dget_of (S3.obj n _ p hs ((E2.trans E3).pre _ _ h1)) (R2.mono E3) h2
          refine ⟨w, h4, q _ _ _ (E1.trans (E2.trans E3)) S3 ?_⟩
          cases r <;> cases w <;> first | exact h5.elim | exact R3 | exact h5
        · cases e
    | _ => cases hk
  · cases e

/-! ### list(d.values()) -/
def tLvals (te : TE) : TE := fun σ H Q => te σ H fun x H1 => ∃ (d : Addr) (kvs : List (Key × V)), x = .ref d ∧ H1 d = some (.dK kvs) ∧ ∀ p, H1 p = none → Q (.ref p) (upd H1 p (.lst (kvs.map (·.2))))
theorem vals_of {P : Program} {w : World} {kvs : List (Key × V)} {vs : List (Key × Value)} {acc : List Value} (kv : KV kvs vs) (hl : acc.length = vs.length) (h : ∀ (j : Nat) (v : Value), acc[j]? = some v → ∃ k : Key, vs[j]? = some (k, v)) : Vals (kvs.map (·.2)) acc := by
  induction kv generalizing acc with
  | nil =>
    cases acc with
    | nil => exact .nil
    | cons x xs => simp at hl
  | @cons p q ps qs r t ih =>
    cases acc with
    | nil => simp at hl
    | cons x xs =>
      obtain ⟨k, hk⟩ := h 0 x rfl
      simp at hk
      refine .cons ?_ (ih (by simpa using hl) fun j v hj => by simpa using h (j + 1) v (by simpa using hj))
      have := r.2
      rw [hk] at this
      exact this
theorem pe_lvals {te : TE} {p apos cpos : Pos} (hc : X.calm = true) (he : PE X e te) (hg : Gl X "list") (hm : X.mg "list" = none) (hv : bootBuiltins "list" = some (.type "list")) (hbase : attributeBase e "values" X.env (eval e X.env) = eval e X.env) (hline : (apos.endLine == cpos.line) = true)
    (hs : starEach [.Call (.Attribute e "values" apos) [] [] cpos] X.env = (false, eval (.Call (.Attribute e "values" apos) [] [] cpos) X.env) :: starEach [] X.env) :
    PE X (.Call (.Name "list" p) [.Call (.Attribute e "values" apos) [] [] cpos] [] pos) (tLvals te) := by
  refine ⟨fun pins s σ H Q I hq => ?_⟩
  refine wpAny_Call_Name_kw (ld_blt I hg hm hv ?_)
  refine PyProof.Rows.callWith_type1 ?_ hs rfl
  rw [hs]
  show wpAny _ _ (spliced ((false, eval (.Call (.Attribute e "values" apos) [] [] cpos) X.env) :: backTo pos (starEach [] X.env))) _ _ s
  refine Calls.spliced_cons ?_
  refine wpAny_Call_method (T := "dict") (id := "dict.values") hbase rfl hline F.plainAttrs_dict F.slot_dict_values F.type_dict_values (thn (he.run pins s σ H _ I hq) fun u s1 ⟨x, H1, I1, rx, d, kvs, ex, hd, q⟩ => ?_)
  subst ex
  obtain rfl : u = Value.ref d := rx
  obtain ⟨hz, hs0, vs, kv, hdo⟩ := I1.hok d _ hd
  obtain ⟨ep, hat⟩ := hdo.dictAt
  have lk : kvs.length = vs.length := Paired.length kv
  have I2 : Inv X pins σ H1 { s1 with heap := s1.heap.push { cls := .type "dict_values", data := .fields #[.ref d] } } := I1.kept (t' := s1.toks) fun b ob q => Heap.get?_push_of_some _ q
  refine ⟨hdo.typeIs, hdo.mapOf.noDict, ?_⟩
  show wpAny _ _ (callWith cpos (.builtin "dict.values") [.ref d] [] []) _ X.xe s1
  refine method_meetsIn F.slot_dict_values F.entry_dict_values rfl (PySem.evalArgs_none ⟨rfl, hdo.typeIs, F.args_dict_values_1 _, _, meets_dict_values (mixKind X.prog X.w) d hs0, ⟨vs, hdo⟩, ?_⟩)
  refine Calls.spliced_nil ?_
  refine PySem.W.kdl_call (PySem.W.kdl_values (knd := mixKind X.prog X.w) (kvs := vs) (ep := ep)) (I1.ok.hd hc) ⟨⟨_, Heap.get?_push_size _ rfl, rfl, rfl⟩, hat.push _⟩ (by omega) fun h' tk acc c hk hS hacc => ?_
  refine ⟨.ref _, _, I2.laid (t' := tk) (o := .lst (kvs.map (·.2))) hk (Nat.le_refl _) ?_, rfl, q _ (I2.hok.fresh (Nat.le_refl _))⟩
  refine ⟨by rw [List.length_map]; exact hz, acc.toList, c, vals_of (P := X.prog) (w := X.w) kv (by rw [Array.length_toList]; exact hacc.1) (fun j v hj => hacc.2 j v (by rw [← Array.getElem?_toList]; exact hj)), ?_⟩
  rw [Array.toArray_toList]
  exact hS
theorem RKv.vals {κ : Type} : ∀ {kvs : List (κ × PV)} {ks : List (κ × V)}, RKv K ρ H kvs ks → RVs K ρ H (kvs.map (·.2)) (ks.map (·.2))
  | _, _, .nil => .nil
  | _, _, .cons h r => .cons h.2 (RKv.vals r)
theorem pev_lvals {p apos cpos : Pos} (hc : X.calm = true) (he : PEv X g e fe) (hg : Gl X "list") (hm : X.mg "list" = none) (hv : bootBuiltins "list" = some (.type "list")) (hbase : attributeBase e "values" X.env (eval e X.env) = eval e X.env) (hline : (apos.endLine == cpos.line) = true)
    (hs : starEach [.Call (.Attribute e "values" apos) [] [] cpos] X.env = (false, eval (.Call (.Attribute e "values" apos) [] [] cpos) X.env) :: starEach [] X.env) :
    PEv X g (.Call (.Name "list" p) [.Call (.Attribute e "values" apos) [] [] cpos] [] pos) (vLvals fe) := by
  refine PE.imp (pe_lvals hc he hg hm hv hbase hline hs) fun σ H Q h => ?_
  obtain ⟨ρ, env, st, v, st', S, N, e, q⟩ := h
  unfold vLvals at e
  split at e
  · rename_i n s1 e1
    split at e
    · rename_i kvs hk
      cases e
      refine ⟨ρ, env, st, _, s1, S, N, e1, fun ρ1 H1 w1 E1 S1 R1 => ?_⟩
      cases R1 with
      | @ref _ d h1 =>
        obtain ⟨ks, q1, q2⟩ := S1.obj n _ d hk h1
        exact ⟨d, ks, rfl, q1, post_lst S1 q2.vals (q.mono E1)⟩
    · cases e
  · cases e
end Kg
/-! PvStm: statements. -/
namespace Kg
open PySem PySem.Spec PyProof.Rows L2

variable {K : PySem.W.Frag} {g : Nat → Addr} {ρ ρ' : List Addr} {H H' : Hp} {st st' : Sto} {X : Cx}
variable {a b c e o i : Expr} {es : List Expr} {fa fb fc fe fo fi : VF} {fs : En → Sto → R (List PV)} {ft : TF} {pos : Pos}
theorem PS.imp {s : Stmt} {t t' : TS} (h : PS X s t) (k : ∀ D σ H, t' D σ H → t D σ H) : PS X s t' := ⟨fun pins s σ H D I q => h.run pins s σ H D I (k _ _ _ q)⟩
theorem PSs.imp {s : List Stmt} {t t' : TS} (h : PSs X s t) (k : ∀ D σ H, t' D σ H → t D σ H) : PSs X s t' := ⟨fun pins s σ H D I q => h.run pins s σ H D I (k _ _ _ q)⟩

/-- what is wanted at a statement's end -/
def PostS (K : PySem.W.Frag) (g : Nat → Addr) (ρ : List Addr) (H : Hp) (fl : Fl) (env : En) (st : Sto) (D : Ends) : Prop :=
  ∀ ρ' H' σ', Ext ρ H ρ' H' → RS K g ρ' H' st → REn K ρ' H' env σ' → match fl with
    | .nx => D.nx σ' H' | .bk => D.bk σ' H' | .ct => D.ct σ' H' | .rt v => ∀ w, RV K ρ' H' v w → D.rt w H'
theorem PostS.mono {fl : Fl} {env : En} {D : Ends} (p : PostS K g ρ H fl env st D) (e : Ext ρ H ρ' H') : PostS K g ρ' H' fl env st D := fun r h s e2 => p r h s (e.trans e2)
def semS (K : PySem.W.Frag) (g : Nat → Addr) (f : SF) : TS := fun D σ H => ∃ ρ env st fl env' st', RS K g ρ H st ∧ REn K ρ H env σ ∧ f env st = some (fl, env', st') ∧ PostS K g ρ H fl env' st' D
abbrev PSv (X : Cx) (g : Nat → Addr) (s : Stmt) (f : SF) : Prop := PS X s (semS X.K g f)
abbrev PSsv (X : Cx) (g : Nat → Addr) (s : List Stmt) (f : SF) : Prop := PSs X s (semS X.K g f)

theorem next_imp {D : Ends} {σ : L2.St} {H : Hp} (h : semS K g sNext D σ H) : D.nx σ H := by
  obtain ⟨ρ, env, st, fl, env', st', S, N, e, q⟩ := h
  cases e
  exact q _ _ _ .refl S N
theorem pssv_nil : PSsv X g [] sNext := PSs.imp pss_nil fun D σ H h => next_imp h
theorem psv_pass : PSv X g (.Pass pos) sNext := PS.imp ps_pass fun D σ H h => next_imp h
theorem psv_doc {x j pos'} : PSv X g (.Expr (.Constant (.str x) j pos) pos') sNext := PS.imp ps_doc fun D σ H h => next_imp h
def sBrk : SF := fun env st => some (.bk, env, st)
def sCnt : SF := fun env st => some (.ct, env, st)
def sRtN : SF := fun env st => some (.rt .non, env, st)
theorem psv_brk : PSv X g (.Break pos) sBrk := PS.imp ps_break fun D σ H h => by
  obtain ⟨ρ, env, st, fl, env', st', S, N, e, q⟩ := h
  cases e
  exact q _ _ _ .refl S N
theorem psv_cnt : PSv X g (.Continue pos) sCnt := PS.imp ps_continue fun D σ H h => by
  obtain ⟨ρ, env, st, fl, env', st', S, N, e, q⟩ := h
  cases e
  exact q _ _ _ .refl S N
theorem psv_retN : PSv X g (.Return none pos) sRtN := PS.imp ps_retN fun D σ H h => by
  obtain ⟨ρ, env, st, fl, env', st', S, N, e, q⟩ := h
  cases e
  exact q _ _ _ .refl S N _ .non
theorem pssv_cons {s : Stmt} {r : List Stmt} {f f' : SF} (h1 : PSv X g s f) (h2 : PSsv X g r f') : PSsv X g (s :: r) (sSeq f f') := by
  refine PSs.imp (pss_cons h1 h2) fun D σ H h => ?_
  obtain ⟨ρ, env, st, fl, env', st', S, N, e, q⟩ := h
  unfold sSeq at e
  split at e
  · cases e
  · rename_i e1 s1 ea
    exact ⟨ρ, env, st, .nx, e1, s1, S, N, ea, fun ρ1 H1 σ1 E1 S1 N1 => ⟨ρ1, e1, s1, fl, env', st', S1, N1, e, q.mono E1⟩⟩
  · rename_i r hne ea
    cases e
    refine ⟨ρ, env, st, fl, env', st', S, N, ea, fun ρ1 H1 σ1 E1 S1 N1 => ?_⟩
    have := q ρ1 H1 σ1 E1 S1 N1
    cases fl with
    | nx => exact absurd rfl (hne env' st')
    | _ => exact this
/-! ### assignments -/
theorem psv_asg {tg : Expr} {t : Tg} (he : PEv X g e fe) (hg : PGv X tg t) (hs : swapsWithSole [tg] e pos.line X.env = pure false) (hw : swappedStores [tg] e X.env = pure none)
    (h1 : (assignEach [tg] X.env).map (·.2) = [assign tg X.env]) : PSv X g (.Assign [tg] e pos) (sAsg t fe) := by
  refine PS.imp (ps_asg he hg hs hw h1) fun D σ H h => ?_
  obtain ⟨ρ, env, st, fl, env', st', S, N, e, q⟩ := h
  unfold sAsg at e
  split at e
  · cases e
  rename_i x s1 ea
  split at e
  · cases e
  rename_i e1 eb
  cases e
  exact ⟨ρ, env, st, x, _, S, N, ea, fun ρ1 H1 w1 E1 S1 R1 => ⟨ρ1, env, x, _, N.mono E1, R1, eb, fun σ' N' _ => q _ _ _ E1 S1 N'⟩⟩
theorem asg_name {k : Nat} {D : Ends} {σ : L2.St} {H : Hp} (h : semS K g (sAsg (.nm k) fe) D σ H) : tAsg (semE K g fe) (gName k) D σ H := by
  obtain ⟨ρ, env, st, fl, env', st', S, N, e, q⟩ := h
  unfold sAsg at e
  split at e
  · cases e
  rename_i x s1 ea
  simp only [bindT] at e
  cases e
  exact ⟨ρ, env, st, x, _, S, N, ea, fun ρ1 H1 w1 E1 S1 R1 => q _ _ _ E1 S1 ((N.mono E1).set k R1)⟩
theorem psv_set {k : Nat} {x : Str} {pos' : Pos} (hN : X.N.Nodup) (hi : X.N[k]? = some x) (hx : Loc X.env.scope x) (he : PEv X g e fe) (hs : swapsWith e (some (.Name x pos')) pos.line X.env = pure false) (hf : X.fn x = true ∨ X.env.scope.names.lookup x = some .local) :
    PSv X g (.Assign [.Name x pos'] e pos) (sAsg (.nm k) fe) := PS.imp (ps_set hN hi hx he hs hf) fun D σ H h => asg_name h
theorem psv_setComp {elt tg iter : Expr} {ifs : List Expr} {scope : Scope} {own : List (Str × Nat)} {t : Tg} {k : ItK} {n : Nat} {y : Str} {py spos : Pos} (hc : X.calm = true) (hN : X.N.Nodup) (hy : X.N[n]? = some y) (hyl : X.env.scope.names.lookup y = some .local)
    (hsw : swapsWith (.ListComp elt [⟨tg, iter, ifs, 0⟩] scope pos) (some (.Name y py)) spos.line X.env = pure true) (hi : PIv X g tg iter k fs) (ok : BlkOk X.N X.env.scope scope own)
    (hg : ∀ (s : Shared) (H : Hp) (C : Addr) (cl : List (Str × Addr)) (fp : List Addr), PGv (X.blk s H scope (compEnvC scope cl C X.env) fp) tg t) (ht : ∀ (s : Shared) (H : Hp) (C : Addr) (cl : List (Str × Addr)) (fp : List Addr), PTs (X.blk s H scope (compEnvC scope cl C X.env) fp) ifs (semT X.K g ft))
    (he : ∀ (s : Shared) (H : Hp) (C : Addr) (cl : List (Str × Addr)) (fp : List Addr), PEv (X.blk s H scope (compEnvC scope cl C X.env) fp) g elt fe) (hs : ∀ x, foldedSetIterable iter X.env x = pure x) (hv : ∀ i ∈ tgS t, i ∈ own.map (·.2)) :
    PSv X g (.Assign [.Name y py] (.ListComp elt [⟨tg, iter, ifs, 0⟩] scope pos) spos) (sAsg (.nm n) (vComp fe t k fs ft (own.map (·.2)))) :=
  PS.imp (psv_setLc hc hN hy hyl hsw hi ok hg ht he hs hv) fun D σ H h => asg_name h
/-- o[i] = v, by values -/
theorem PSet.or {t t' : TSet} (h : PSet X t) (h' : PSet X t') : PSet X (fun o i v H Q => t o i v H Q ∨ t' o i v H Q) := fun pins s σ H o i v ov iv u Q I r1 r2 r3 q => q.elim (h pins s σ H o i v ov iv u Q I r1 r2 r3) (h' pins s σ H o i v ov iv u Q I r1 r2 r3)
theorem dput_of {ob ob' : Ob} {x y : PV} {v w : V} {a : Addr} (h : RO K g ρ H ob a) (rx : RV K ρ H x v) (ry : RV K ρ H y w) (e : dput ob x y = some ob') : ∃ u, DPut H a v w (upd H a u) ∧ (Mut (H a) → RO K g ρ (upd H a u) ob' a) := by
  cases ob with
  | dK kvs =>
    obtain ⟨ks, h1, h2⟩ := h
    have e : (match keyOf x with | some q => if kvs.length < sizeLine then some (Ob.dK (putP kvs q y)) else none | none => none) = some ob' := e
    split at e
    · rename_i k ek
      split at e
      · rename_i hz
        cases e
        rw [key_of' rx ek]
        exact ⟨_, .k h1 (by rw [← Paired.length h2]; exact hz), fun hm => ⟨_, upd_same, (RKv.put k ry h2).mon (mon_mut hm)⟩⟩
      · cases e
    · cases e
  | dT kvs =>
    obtain ⟨ks, h1, h2⟩ := h
    cases rx with
    | @tuk xs b vs hb rb =>
      have e : (match keysOf xs with | some q => if kvs.length < sizeLine then some (Ob.dT (putP kvs q y)) else none | none => none) = some ob' := e
      split at e
      · rename_i k ek
        split at e
        · rename_i hz
          cases e
          have hv := keys_of' rb ek
          subst hv
          exact ⟨_, .t h1 hb (by rw [← Paired.length h2]; exact hz), fun hm => ⟨_, upd_same, (RKv.put k ry h2).mon (mon_mut hm)⟩⟩
        · cases e
      · cases e
    | _ => cases e
  | _ => cases x <;> cases e
theorem psv_setix {p2 : Pos} (hu : X.A.units + 1600 < cLine) (he : PEv X g e fe) (ho : PEv X g o fo) (hi : PEv X g i fi)
    (ha : ∀ v, assign (.Subscript o i p2) X.env v = (do
      let ov ← holding [v] (eval o X.env)
      let iv ← holding [v, ov] (eval i X.env)
      standAt p2
      holding [v, ov, iv] (setItem ov iv v)
      release [v, ov, iv] []))
    (hs : swapsWithSole [.Subscript o i p2] e pos.line X.env = pure false) (hw : swappedStores [.Subscript o i p2] e X.env = pure none)
    (h1 : (assignEach [.Subscript o i p2] X.env).map (·.2) = [assign (.Subscript o i p2) X.env]) : PSv X g (.Assign [.Subscript o i p2] e pos) (sSet fo fi fe) := by
  refine PS.imp (ps_asg he (pg_sub ho hi (PSet.or set_list (set_dict (by omega))) ha) hs hw h1) fun D σ H h => ?_
  obtain ⟨ρ, env, st, fl, env', st', S, N, e, q⟩ := h
  unfold sSet at e
  split at e
  · cases e
  rename_i x s1 e1
  split at e
  · cases e
  rename_i ov s2 e2
  split at e
  · cases e
  rename_i k s3 e3
  split at e
  · cases e
  rename_i s4 e4
  cases e
  refine ⟨ρ, env, st, x, s1, S, N, e1, fun ρ1 H1 w1 E1 S1 R1 => ⟨ρ1, env, s1, ov, s2, S1, N.mono E1, e2, fun ρ2 H2 w2 E2 S2 R2 => ⟨ρ2, env, s2, k, s3, S2, N.mono (E1.trans E2), e3, fun ρ3 H3 w3 E3 S3 R3 => ?_⟩⟩⟩
  have Rx := R1.mono (E2.trans E3)
  have Ro := R2.mono E3
  cases Ro with
  | @ref n p h1 =>
    obtain ⟨z, hz, mu⟩ := S3.has h1
    have hm : Mut (H3 p) := by rw [hz]; exact mu
    have fin : ∀ {u : HO} {ob : Ob} {ob' : Ob}, s3[n]? = some ob → st' = s3.set n ob' → RO X.K g ρ3 (upd H3 p u) ob' p → D.nx σ (upd H3 p u) := fun {u ob ob'} hs he hr => by
      subst he
      exact q ρ3 _ σ (E1.trans (E2.trans (E3.trans (ext_mut h1 hm)))) (S3.wr hs h1 hr) (((N.mono (E1.trans (E2.trans E3))).mono (ext_mut h1 hm)))
    simp only [setV] at e4
    split at e4
    · rename_i xs j hs
      obtain ⟨m, hj, hst⟩ := Option.map_eq_some_iff.mp e4
      obtain ⟨vs, q1, q2⟩ := S3.obj n _ p hs h1
      cases R3
      exact .inl ⟨p, vs, j, m, rfl, rfl, q1, by rw [← q2.length]; exact hj, fin hs hst.symm ⟨_, upd_same, (q2.set m Rx).mon (mon_mut hm)⟩⟩
    · rename_i kk ob hs hne
      obtain ⟨ob', hd, hst⟩ := Option.map_eq_some_iff.mp e4
      obtain ⟨u, hp, hr⟩ := dput_of (S3.obj n ob p hs h1) R3 Rx hd
      exact .inr ⟨p, _, rfl, hp, fin hs hst.symm (hr hm)⟩
    · cases e4
  | _ => cases e4
def tIpI (op : Operator) : TIp := fun x y H Q => ∃ i j, x = .int i ∧ y = .int j ∧ ((op = .Add ∧ Q (.int (i + j)) H) ∨ (op = .Sub ∧ Q (.int (i - j)) H))
theorem psv_aug {k : Nat} {x : Str} {op : Bop} {pos' : Pos} (hop : op = .add ∨ op = .sub) (hN : X.N.Nodup) (hi : X.N[k]? = some x) (hx : Loc X.env.scope x) (he : PEv X g e fe) (hf : X.fn x = true ∨ X.env.scope.names.lookup x = some .local) :
    PSv X g (.AugAssign (.Name x pos') op.op e pos) (sAug k op fe) := by
  have main : ∀ (f : Int → Int → Int), PIp X op.op (ipI f) → (∀ env st r, sAug k op fe env st = some r → ∃ a b s1, env[k]? = some (some (.int a)) ∧ fe env st = some (.int b, s1) ∧ r = (.nx, env.set k (some (.int (f a b))), s1)) → PSv X g (.AugAssign (.Name x pos') op.op e pos) (sAug k op fe) := fun f hp hr => by
    refine PS.imp (ps_aug hN hi hx he hp hf) fun D σ H h => ?_
    obtain ⟨ρ, env, st, fl, env', st', S, N, e, q⟩ := h
    obtain ⟨a, b, s1, e1, e2, e3⟩ := hr _ _ _ e
    cases e3
    obtain ⟨w, h1, h2⟩ := N.at_ _ _ e1
    cases h2
    exact ⟨_, h1, ρ, env, st, _, _, S, N, e2, fun ρ1 H1 w1 E1 S1 R1 => by cases R1; exact ⟨a, b, rfl, rfl, q _ _ _ E1 S1 ((N.mono E1).set k (.int _))⟩⟩
  rcases hop with rfl | rfl
  · refine main (fun i j => i + j) ip_add fun env st r h => ?_
    unfold sAug at h
    split at h
    · rename_i y hy
      split at h
      · cases h
      rename_i z s1 e1
      split at h
      · rename_i a b ho
        cases h
        exact ⟨a, b, s1, hy, e1, rfl⟩
      · rename_i a b ho; cases ho
      · cases h
    · cases h
  · refine main (fun i j => i - j) ip_sub fun env st r h => ?_
    unfold sAug at h
    split at h
    · rename_i y hy
      split at h
      · cases h
      rename_i z s1 e1
      split at h
      · rename_i a b ho; cases ho
      · rename_i a b ho
        cases h
        exact ⟨a, b, s1, hy, e1, rfl⟩
      · cases h
    · cases h
/-! ### expressions, returns, ifs -/
theorem psv_expr (he : PEv X g e fe) (hs : swapsWith e none pos.line X.env = pure false) : PSv X g (.Expr e pos) (sExpr fe) := by
  refine PS.imp (ps_expr he hs) fun D σ H h => ?_
  obtain ⟨ρ, env, st, fl, env', st', S, N, e, q⟩ := h
  unfold sExpr at e
  split at e
  · cases e
  rename_i x s1 e1
  cases e
  exact ⟨ρ, env, st, x, _, S, N, e1, fun ρ1 H1 w1 E1 S1 R1 => q _ _ _ E1 S1 (N.mono E1)⟩
theorem psv_ret (he : PEv X g e fe) : PSv X g (.Return (some e) pos) (sRet fe) := by
  refine PS.imp (ps_ret he) fun D σ H h => ?_
  obtain ⟨ρ, env, st, fl, env', st', S, N, e, q⟩ := h
  unfold sRet at e
  split at e
  · cases e
  rename_i x s1 e1
  cases e
  exact ⟨ρ, env, st, x, _, S, N, e1, fun ρ1 H1 w1 E1 S1 R1 => q _ _ _ E1 S1 (N.mono E1) _ R1⟩
theorem psv_if {p r : List Stmt} {f f' : SF} (hc : PTv X g c ft) (ha : PSsv X g p f) (hb : PSsv X g r f') : PSv X g (.If c p r pos) (sIf ft f f') := by
  refine PS.imp (ps_if hc ha hb) fun D σ H h => ?_
  obtain ⟨ρ, env, st, fl, env', st', S, N, e, q⟩ := h
  unfold sIf at e
  split at e
  · cases e
  · rename_i s1 e1
    exact ⟨ρ, env, st, true, s1, S, N, e1, fun ρ1 H1 E1 S1 => iteT ⟨ρ1, env, s1, fl, env', st', S1, N.mono E1, e, q.mono E1⟩⟩
  · rename_i s1 e1
    exact ⟨ρ, env, st, false, s1, S, N, e1, fun ρ1 H1 E1 S1 => iteF ⟨ρ1, env, s1, fl, env', st', S1, N.mono E1, e, q.mono E1⟩⟩
/-! ### loops -/
theorem psv_for {tg iter : Expr} {body : List Stmt} {t : Tg} {k : ItK} {fb : SF} (hp : PassesOwn (model X.prog X.w) X.A X.env X.xe) (hc : X.calm = true) (hi : PIv X g tg iter k fs) (hg : PGv X tg t) (hb : PSsv X g body fb)
    (hs : ∀ x, foldedSetIterable iter X.env x = pure x) : PSv X g (.For tg iter body [] pos) (sFor t k fs fb) := by
  refine PS.imp (ps_for hp hc hi hg hb hs) fun D σ H h => ?_
  obtain ⟨ρ, env, st, fl, env', st', S, N, e, q⟩ := h
  unfold sFor at e
  split at e
  · cases e
  rename_i xs s1 e1
  split at e
  · cases e
  rename_i it e2
  refine ⟨ρ, env, st, xs, s1, it, S, N, e1, e2, fun ρ1 H1 J E1 S1 Y => ?_⟩
  refine ⟨fun i m σc Hc => i ≤ it.items.length ∧ m = it.items.length - i ∧ ∃ ρc envc stc, Ext ρ1 H1 ρc Hc ∧ RS X.K g ρc Hc stc ∧ REn X.K ρc Hc envc σc ∧ forL it.chk t fb (it.items.drop i) envc stc = some (fl, env', st'),
    ⟨it.items.length, Nat.zero_le _, by simp, ρ1, env, s1, .refl, S1, N.mono E1, by simpa using e⟩, ?_⟩
  rintro i m σc Hc ⟨hi, rfl, ρc, envc, stc, Ec, Sc, Nc, ec⟩
  by_cases hlt : i < it.items.length
  · rw [List.drop_eq_getElem_cons hlt] at ec
    unfold forL at ec
    split at ec
    · rename_i hck
      split at ec
      · cases ec
      rename_i env1 eb
      have step : ∀ (Nx : L2.St → Hp → Prop) (P : L2.St → Hp → Prop), (∀ x H', J.yld i Hc x H' → ∀ ρ2 σ2, Ext ρc Hc ρ2 H' → RS X.K g ρ2 H' stc → REn X.K ρ2 H' env1 σ2 → semS X.K g fb { D with nx := Nx, ct := Nx, bk := D.nx } σ2 H') →
          ∀ x H', J.yld i Hc x H' → semG X.K t x σc H' fun σ2 H2 => semS X.K g fb { D with nx := Nx, ct := Nx, bk := D.nx } σ2 H2 := fun Nx P k x H' hy => by
        obtain ⟨y, ey, ry, hH⟩ := Y.yld i ρc Hc x H' ⟨Ec.toMon, chk_of Sc hck⟩ hy hlt
        rw [List.getElem?_eq_getElem hlt] at ey
        cases ey
        obtain ⟨E', S'⟩ := yld_ext Sc hH
        exact ⟨ρc, envc, _, env1, Nc.mono E', ry, eb, fun σ2 N2 _ => k x H' hy ρc σ2 E' S' N2⟩
      refine .inr ⟨Y.go i ρc Hc ⟨Ec.toMon, chk_of Sc hck⟩ hlt, _, fun σ' H' h => ⟨it.items.length - (i + 1), by omega, h⟩, step _ D.nx fun x H' hy ρ2 σ2 E2 S2 N2 => ?_⟩
      split at ec
      · cases ec
      · rename_i e3 s3 ef
        exact ⟨ρ2, env1, stc, .nx, e3, s3, S2, N2, ef, fun ρ3 H3 σ3 E3 S3 N3 => ⟨hlt, rfl, ρ3, e3, s3, Ec.trans (E2.trans E3), S3, N3, ec⟩⟩
      · rename_i e3 s3 ef
        exact ⟨ρ2, env1, stc, .ct, e3, s3, S2, N2, ef, fun ρ3 H3 σ3 E3 S3 N3 => ⟨hlt, rfl, ρ3, e3, s3, Ec.trans (E2.trans E3), S3, N3, ec⟩⟩
      · rename_i e3 s3 ef
        cases ec
        exact ⟨ρ2, env1, stc, .bk, _, _, S2, N2, ef, fun ρ3 H3 σ3 E3 S3 N3 => q _ _ _ (E1.trans (Ec.trans (E2.trans E3))) S3 N3⟩
      · rename_i v e3 s3 ef
        cases ec
        exact ⟨ρ2, env1, stc, .rt v, _, _, S2, N2, ef, fun ρ3 H3 σ3 E3 S3 N3 => q _ _ _ (E1.trans (Ec.trans (E2.trans E3))) S3 N3⟩
    · cases ec
  · have hi' : i = it.items.length := by omega
    subst hi'
    rw [List.drop_length] at ec
    unfold forL at ec
    split at ec
    · rename_i hck
      cases ec
      exact .inl ⟨Y.stop _ ρc Hc ⟨Ec.toMon, chk_of Sc hck⟩ (Nat.le_refl _), q _ _ _ (E1.trans Ec) Sc Nc⟩
    · cases ec
theorem psv_while {body : List Stmt} {fb : SF} (hp : PassesOwn (model X.prog X.w) X.A X.env X.xe) (hc : PTv X g c ft) (hb : PSsv X g body fb) : PSv X g (.While c body [] pos) (sWhl ft fb) := by
  refine PS.imp (ps_while hp hc hb) fun D σ H h => ?_
  obtain ⟨ρ, env, st, fl, env', st', S, N, e, q⟩ := h
  unfold sWhl at e
  split at e
  · rename_i hex
    refine ⟨fun m σc Hc => ∃ ρc envc stc, Ext ρ H ρc Hc ∧ RS X.K g ρc Hc stc ∧ REn X.K ρc Hc envc σc ∧ whileL ft fb m envc stc = some (fl, env', st'), ⟨_, ρ, env, st, .refl, S, N, e⟩, ?_⟩
    rintro m σc Hc ⟨ρc, envc, stc, Ec, Sc, Nc, ec⟩
    cases m with
    | zero => cases ec
    | succ m =>
      unfold whileL at ec
      split at ec
      · cases ec
      · rename_i s1 e1
        cases ec
        exact ⟨ρc, _, stc, false, _, Sc, Nc, e1, fun ρ1 H1 E1 S1 => iteF <| by exact q _ _ _ (Ec.trans E1) S1 (Nc.mono E1)⟩
      · rename_i s1 e1
        refine ⟨ρc, envc, stc, true, s1, Sc, Nc, e1, fun ρ1 H1 E1 S1 => iteT ⟨_, fun σ' H' h => ⟨m, Nat.lt_succ_self _, h⟩, ?_⟩⟩
        split at ec
        · cases ec
        · rename_i e2 s2 ef
          exact ⟨ρ1, envc, s1, .nx, e2, s2, S1, Nc.mono E1, ef, fun ρ2 H2 σ2 E2 S2 N2 => ⟨ρ2, e2, s2, Ec.trans (E1.trans E2), S2, N2, ec⟩⟩
        · rename_i e2 s2 ef
          exact ⟨ρ1, envc, s1, .ct, e2, s2, S1, Nc.mono E1, ef, fun ρ2 H2 σ2 E2 S2 N2 => ⟨ρ2, e2, s2, Ec.trans (E1.trans E2), S2, N2, ec⟩⟩
        · rename_i e2 s2 ef
          cases ec
          exact ⟨ρ1, envc, s1, .bk, _, _, S1, Nc.mono E1, ef, fun ρ2 H2 σ2 E2 S2 N2 => q _ _ _ (Ec.trans (E1.trans E2)) S2 N2⟩
        · rename_i v e2 s2 ef
          cases ec
          exact ⟨ρ1, envc, s1, .rt v, _, _, S1, Nc.mono E1, ef, fun ρ2 H2 σ2 E2 S2 N2 => q _ _ _ (Ec.trans (E1.trans E2)) S2 N2⟩
  · cases e
end Kg
/-! PvTr: from the program's text to mine: expressions. -/
namespace Kg
open PySem PySem.Spec PyProof.Rows L2

structure SC where
  N : List Str
  sc : Scope
  fn : Str → Bool
  fns : List (Str × Nat × Nat)
  free : List Str
  tk : List Nat

structure Ok (g : Nat → Addr) (cf : CF) (X : Cx) (C : SC) : Prop where
  N : X.N = C.N
  sc : X.env.scope = C.sc
  fn : X.fn = C.fn
  calm : X.calm = true
  nd : X.N.Nodup
  un : X.A.units + 1600 < cLine
  fns : ∀ p ∈ C.fns, ∃ fd fad ps k, FnOk X.prog X.w X.K X.mg X.base CX0 k fad fd ps (spC X.K g cf p.2.1 ps.length) ∧ Room k X.A ∧ X.mg p.1 = some (.ref fad) ∧ PySem.W.keepIn X.K (.ref fad) = true ∧ Binds X.K fd ps [] ∧ ps.length = p.2.2
  free : ∀ x ∈ C.free, X.mg x = none

def slot (C : SC) (x : Str) : Option Nat := match C.N.findIdx? (fun y => decide (y = x)) with
  | some i => if C.N[i]? = some x then some i else none
  | none => none
def visB (sc : Scope) (x : Str) : Bool := match sc.names.lookup x with | some .local => true | some .cell => true | some .free => true | _ => false
def locB (sc : Scope) (x : Str) : Bool := match sc.names.lookup x with | some .local => true | some .cell => true | _ => false
def lclB (sc : Scope) (x : Str) : Bool := match sc.names.lookup x with | some .local => true | _ => false
def glB (sc : Scope) (x : Str) : Bool := match sc.names.lookup x with | some .globalImplicit => true | _ => false
def dbg (x : Str) : Bool := (x == ("__debug__" : Str)) || (x == ("__classdict__" : Str)) || decide (x = ("__name__" : Str))
/-- no form that is read in a way of its own where it stands -/
def plainK : Expr → Bool
  | .Starred .. => false | .Set .. => false | .Slice .. => false | .SetComp .. => false | .DictComp .. => false | _ => true
def isLc : Expr → Bool
  | .ListComp .. => true | _ => false

abbrev Rc := SC → Expr → Option (E × Bool)
/-- what a translated expression keeps -/
structure Good (g : Nat → Addr) (cf : CF) (X : Cx) (e : Expr) (r : E × Bool) : Prop where
  ev : PEv X g e (evX cf r.1).1
  tv : r.2 = true → PTv X g e (evX cf r.1).2
def Sd (rec : Rc) : Prop := ∀ C e r, rec C e = some r → (plainK e = true ∧ isStar r.1 = false) ∧ ∀ g cf X, Ok g cf X C → Good g cf X e r

section
variable {g : Nat → Addr} {cf : CF} {X : Cx} {C : SC} {rec : Rc} {pos : Pos}
theorem slot_ok (h : slot C x = some i) (o : Ok g cf X C) : X.N[i]? = some x := by
  unfold slot at h
  split at h
  · split at h
    · cases h; rw [o.N]; assumption
    · cases h
  · cases h
theorem vis_ok (h : visB C.sc x = true) (o : Ok g cf X C) : Vis X.env.scope x := by
  rw [o.sc]
  unfold visB at h
  split at h
  · exact .inl (by assumption)
  · exact .inr (.inl (by assumption))
  · exact .inr (.inr (by assumption))
  · cases h
theorem loc_ok (h : locB C.sc x = true) (o : Ok g cf X C) : Loc X.env.scope x := by
  rw [o.sc]
  unfold locB at h
  split at h
  · exact .inl (by assumption)
  · exact .inr (by assumption)
  · cases h
theorem lcl_ok (h : lclB C.sc x = true) (o : Ok g cf X C) : X.env.scope.names.lookup x = some .local := by
  rw [o.sc]
  unfold lclB at h
  split at h
  · assumption
  · cases h
theorem gl_ok (h : glB C.sc x = true) (o : Ok g cf X C) : Gl X x := by
  unfold Gl Env.kindOf
  rw [o.sc]
  unfold glB at h
  split at h
  · assumption
  · cases h
theorem dbg_ok (h : dbg x = false) : (x == ("__debug__" : Str)) = false ∧ (x == ("__classdict__" : Str)) = false ∧ x ≠ ("__name__" : Str) := by
  unfold dbg at h
  simp only [Bool.or_eq_false_iff, decide_eq_false_iff_not] at h
  exact ⟨h.1.1, h.1.2, h.2⟩
theorem star_of {e : Expr} {es : List Expr} {env : Env} (h : plainK e = true) : starEach (e :: es) env = (false, eval e env) :: starEach es env := by
  cases e <;> first | (cases h; done) | rfl
def PlainT (e : Expr) : Prop := match e with | .UnaryOp .Not _ _ => False | .BoolOp .. => False | .IfExp .. => False | .Compare .. => False | _ => True
theorem istrue_of {e : Expr} {env : Env} (h : PlainT e) : ∀ whole, isTrue e env whole = (do let v ← whole; standAt e.pos; holding [v] (truthy v)) := by
  intro whole
  cases e with
  | UnaryOp op a p => cases op <;> first | exact h.elim | rfl
  | BoolOp => exact h.elim
  | IfExp => exact h.elim
  | Compare => exact h.elim
  | _ => rfl
theorem good_val {e : Expr} {r : E} {f : VF} (hr : evX cf r = pr f) (h : PEv X g e f) (hp : PlainT e) : Good g cf X e (r, true) :=
  ⟨by rw [hr]; exact h, fun _ => by rw [hr]; exact ptv_val h (istrue_of hp)⟩

/-! ### names, constants -/
def tName (C : SC) (x : Str) : Option (E × Bool) := if visB C.sc x = true ∧ dbg x = false then (match slot C x with | some i => some (.var i, true) | none => none) else none
theorem tName_ok {x : Str} {r} (h : tName C x = some r) : isStar r.1 = false ∧ ∀ g cf X, Ok g cf X C → Good g cf X (.Name x pos) r := by
  unfold tName at h
  split at h
  · rename_i hv
    split at h
    · rename_i i hi
      cases h
      refine ⟨rfl, fun g cf X o => ?_⟩
      obtain ⟨d1, d2, _⟩ := dbg_ok hv.2
      exact good_val (f := vVar i) (by simp only [evX]; rfl) (pev_var (slot_ok hi o) (vis_ok hv.1 o) d1 d2) trivial
    · cases h
  · cases h
def tCst (c : Const) : Option (E × Bool) := match c with
  | .none => some (.cst .non, true) | .bool b => some (.cst (.bl b), true) | .int i => some (.cst (.int i), true) | .str s => some (.cst (.str s), true) | _ => none
theorem tCst_ok {c : Const} {k : Nat} {r} (h : tCst c = some r) : isStar r.1 = false ∧ ∀ g cf X, Ok g cf X C → Good g cf X (.Constant c k pos) r := by
  unfold tCst at h
  split at h <;> first | (cases h; done) | skip
  all_goals cases h; refine ⟨rfl, fun g cf X o => ?_⟩
  · exact good_val (f := vCst .non) (by simp only [evX]; rfl) pev_non trivial
  · exact good_val (f := vCst (.bl _)) (by simp only [evX]; rfl) pev_bl trivial
  · exact good_val (f := vCst (.int _)) (by simp only [evX]; rfl) pev_int trivial
  · exact good_val (f := vCst (.str _)) (by simp only [evX]; rfl) pev_str trivial

/-! ### operators -/
def bopOf : Operator → Option Bop | .Add => some .add | .Sub => some .sub | .Mult => some .mul | .FloorDiv => some .fdiv | .Mod => some .mod | .Pow => some .pow | _ => none
theorem bopOf_op {o : Operator} {b : Bop} (h : bopOf o = some b) : o = b.op := by
  cases o <;> first | (cases h; done) | (cases h; rfl)
def tBin (rec : Rc) (C : SC) (o : Operator) (a b : Expr) : Option (E × Bool) := match bopOf o with
  | none => none
  | some q => match rec C a with
    | none => none
    | some x => match rec C b with | none => none | some y => some (.bin q x.1 y.1, true)
theorem tBin_ok {o : Operator} {a b : Expr} {r} (S : Sd rec) (h : tBin rec C o a b = some r) : isStar r.1 = false ∧ ∀ g cf X, Ok g cf X C → Good g cf X (.BinOp a o b pos) r := by
  unfold tBin at h
  split at h
  · cases h
  rename_i q hq
  split at h
  · cases h
  rename_i x hx
  split at h
  · cases h
  rename_i y hy
  cases h
  refine ⟨rfl, fun g cf X O => ?_⟩
  rw [bopOf_op hq]
  exact good_val (f := vBin q (evX cf x.1).1 (evX cf y.1).1) (by simp only [evX]) (pev_bin q ((S _ _ _ hx).2 g cf X O).ev ((S _ _ _ hy).2 g cf X O).ev) trivial
def tUn (rec : Rc) (C : SC) (o : UnaryOp) (a : Expr) : Option (E × Bool) := match rec C a with
  | none => none
  | some x => match o with | .USub => some (.neg x.1, true) | .Not => some (.not x.1, x.2) | _ => none
theorem tUn_ok {o : UnaryOp} {a : Expr} {r} (S : Sd rec) (h : tUn rec C o a = some r) : isStar r.1 = false ∧ ∀ g cf X, Ok g cf X C → Good g cf X (.UnaryOp o a pos) r := by
  unfold tUn at h
  split at h
  · cases h
  rename_i x hx
  split at h
  · cases h
    exact ⟨rfl, fun g cf X O => good_val (f := vNeg (evX cf x.1).1) (by simp only [evX]) (pev_neg ((S _ _ _ hx).2 g cf X O).ev) trivial⟩
  · cases h
    refine ⟨rfl, fun g cf X O => ⟨?_, fun hb => ?_⟩⟩
    · simp only [evX]; exact pev_not ((S _ _ _ hx).2 g cf X O).ev
    · simp only [evX]; exact ptv_not (((S _ _ _ hx).2 g cf X O).tv hb)
  · cases h
def tBools (rec : Rc) (C : SC) (an : Bool) : List Expr → Option (E × Bool)
  | [] => none
  | [a] => rec C a
  | a :: b :: r => match rec C a with
    | none => none
    | some x => match tBools rec C an (b :: r) with
      | none => none
      | some y => some (if an then .and x.1 y.1 else .or x.1 y.1, x.2 && y.2)
theorem tBools_ok {an : Bool} (S : Sd rec) : ∀ {vs : List Expr} {r}, tBools rec C an vs = some r → isStar r.1 = false ∧ ∀ g cf X, Ok g cf X C → PEv X g (.BoolOp (if an then .And else .Or) vs pos) (evX cf r.1).1 ∧ (r.2 = true → PWv X g (.BoolOp (if an then .And else .Or) vs pos) (evX cf r.1).2)
  | [], _, h => by cases h
  | [a], r, h => by
    have h : rec C a = some r := h
    refine ⟨(S _ _ _ h).1.2, fun g cf X O => ?_⟩
    have G := (S _ _ _ h).2 g cf X O
    refine ⟨pe_one G.ev, fun hb => ?_⟩
    cases an
    · exact pw_or1 (G.tv hb)
    · exact pw_and1 (G.tv hb)
  | a :: b :: vs, r, h => by
    unfold tBools at h
    split at h
    · cases h
    rename_i x hx
    split at h
    · cases h
    rename_i y hy
    have ih := tBools_ok S hy
    cases h
    refine ⟨by cases an <;> rfl, fun g cf X O => ?_⟩
    have G := (S _ _ _ hx).2 g cf X O
    obtain ⟨i1, i2⟩ := ih.2 g cf X O
    cases an
    · simp only [Bool.false_eq_true, if_false] at i1 i2 ⊢
      simp only [evX]
      exact ⟨pev_or G.ev i1, fun hb => by rw [Bool.and_eq_true] at hb; exact pwv_or (G.tv hb.1) (i2 hb.2)⟩
    · simp only [if_true] at i1 i2 ⊢
      simp only [evX]
      exact ⟨pev_and G.ev i1, fun hb => by rw [Bool.and_eq_true] at hb; exact pwv_and (G.tv hb.1) (i2 hb.2)⟩
def tBool (rec : Rc) (C : SC) (o : BoolOp) (vs : List Expr) : Option (E × Bool) := tBools rec C (match o with | .And => true | .Or => false) vs
theorem tBool_ok {o : BoolOp} {vs : List Expr} {r} (S : Sd rec) (h : tBool rec C o vs = some r) : isStar r.1 = false ∧ ∀ g cf X, Ok g cf X C → Good g cf X (.BoolOp o vs pos) r := by
  have k := tBools_ok (pos := pos) S h
  refine ⟨k.1, fun g cf X O => ?_⟩
  have := k.2 g cf X O
  cases o
  · exact ⟨this.1, fun hb => (this.2 hb).pt⟩
  · exact ⟨this.1, fun hb => (this.2 hb).pt⟩
def copOf : CmpOp → Option Cop | .Eq => some .eq | .NotEq => some .ne | .Lt => some .lt | .LtE => some .le | .Gt => some .gt | .GtE => some .ge | .In => some .isin | .NotIn => some .notin | _ => none
theorem copOf_op {o : CmpOp} {b : Cop} (h : copOf o = some b) : o = b.op := by
  cases o <;> first | (cases h; done) | (cases h; rfl)
def isNn : Expr → Bool | .Constant .none _ _ => true | _ => false
def isBc : Expr → Option Bool | .Constant (.bool b) _ _ => some b | _ => none
theorem isBc_eq {b : Expr} {v : Bool} (h : isBc b = some v) : ∃ k p, b = .Constant (.bool v) k p := by
  unfold isBc at h
  split at h
  · cases h; exact ⟨_, _, rfl⟩
  · cases h
def tCmp (rec : Rc) (C : SC) (a : Expr) (ops : List CmpOp) (bs : List Expr) : Option (E × Bool) := match ops, bs with
  | [o], [b] => match rec C a with
    | none => none
    | some x => match copOf o with
      | some q => (match rec C b with | none => none | some y => some (.cmp q x.1 y.1, true))
      | none => if isNn b = true then (match o with | .Is => some (.isn false x.1, true) | .IsNot => some (.isn true x.1, true) | _ => none) else match isBc b with
        | some k => (match o with | .Is => some (.isb false k x.1, true) | .IsNot => some (.isb true k x.1, true) | _ => none)
        | none => none
  | _, _ => none
theorem isNn_eq {b : Expr} (h : isNn b = true) : ∃ k p, b = .Constant .none k p := by
  unfold isNn at h
  split at h
  · exact ⟨_, _, rfl⟩
  · cases h
theorem behind_of {o : CmpOp} {b : Expr} (h : plainK b = true) : behindInMarks o b = false := by
  cases b <;> first | (cases h; done) | rfl
theorem tCmp_ok {a : Expr} {ops : List CmpOp} {bs : List Expr} {r} (S : Sd rec) (h : tCmp rec C a ops bs = some r) : isStar r.1 = false ∧ ∀ g cf X, Ok g cf X C → Good g cf X (.Compare a ops bs pos) r := by
  unfold tCmp at h
  split at h
  · rename_i o b
    split at h
    · cases h
    rename_i x hx
    split at h
    · rename_i q hq
      split at h
      · cases h
      rename_i y hy
      cases h
      refine ⟨rfl, fun g cf X O => ?_⟩
      rw [copOf_op hq]
      have hb := behind_of (o := q.op) (S _ _ _ hy).1.1
      exact ⟨by simp only [evX]; exact pev_cmp O.un q hb ((S _ _ _ hx).2 g cf X O).ev ((S _ _ _ hy).2 g cf X O).ev, fun _ => by simp only [evX]; exact ptv_cmp O.un q hb ((S _ _ _ hx).2 g cf X O).ev ((S _ _ _ hy).2 g cf X O).ev⟩
    · split at h
      · rename_i hn
        obtain ⟨k, p, rfl⟩ := isNn_eq hn
        split at h
        · cases h
          exact ⟨rfl, fun g cf X O => ⟨by simp only [evX]; exact pev_is ((S _ _ _ hx).2 g cf X O).ev, fun _ => by simp only [evX]; exact ptv_is ((S _ _ _ hx).2 g cf X O).ev⟩⟩
        · cases h
          exact ⟨rfl, fun g cf X O => ⟨by simp only [evX]; exact pev_isnot ((S _ _ _ hx).2 g cf X O).ev, fun _ => by simp only [evX]; exact ptv_isnot ((S _ _ _ hx).2 g cf X O).ev⟩⟩
        · cases h
      · split at h
        · rename_i k hk
          obtain ⟨kk, p, rfl⟩ := isBc_eq hk
          split at h
          · cases h
            exact ⟨rfl, fun g cf X O => ⟨by simp only [evX]; exact pev_isb (n := false) ((S _ _ _ hx).2 g cf X O).ev, fun _ => by simp only [evX]; exact ptv_isb (n := false) ((S _ _ _ hx).2 g cf X O).ev⟩⟩
          · cases h
            exact ⟨rfl, fun g cf X O => ⟨by simp only [evX]; exact pev_isb (n := true) ((S _ _ _ hx).2 g cf X O).ev, fun _ => by simp only [evX]; exact ptv_isb (n := true) ((S _ _ _ hx).2 g cf X O).ev⟩⟩
          · cases h
        · cases h
  · cases h
def tIfe (rec : Rc) (C : SC) (t a b : Expr) : Option (E × Bool) := match rec C t with
  | none => none
  | some x => if x.2 = true then (match rec C a with
    | none => none
    | some y => match rec C b with | none => none | some z => some (.ife x.1 y.1 z.1, false)) else none
theorem tIfe_ok {t a b : Expr} {r} (S : Sd rec) (h : tIfe rec C t a b = some r) : isStar r.1 = false ∧ ∀ g cf X, Ok g cf X C → Good g cf X (.IfExp t a b pos) r := by
  unfold tIfe at h
  split at h
  · cases h
  rename_i x hx
  split at h
  · rename_i hb
    split at h
    · cases h
    rename_i y hy
    split at h
    · cases h
    rename_i z hz
    cases h
    exact ⟨rfl, fun g cf X O => ⟨by simp only [evX]; exact pev_ife (((S _ _ _ hx).2 g cf X O).tv hb) ((S _ _ _ hy).2 g cf X O).ev ((S _ _ _ hz).2 g cf X O).ev, fun z => by cases z⟩⟩
  · cases h

/-! ### lists of expressions -/
/-- no stars -/
def tPl (rec : Rc) (C : SC) : List Expr → Option (List E)
  | [] => some []
  | e :: es => match rec C e with
    | none => none
    | some x => match tPl rec C es with | none => none | some xs => some (x.1 :: xs)
theorem evs_nil : evs cf [] = vNil := by simp only [evs]
theorem evs_cons {e : E} {es : List E} : evs cf (e :: es) = vCons (isStar e) (evX cf e).1 (evs cf es) := by simp only [evs]
theorem tPl_len : ∀ {es : List Expr} {xs : List E}, tPl rec C es = some xs → xs.length = es.length
  | [], _, h => by cases h; rfl
  | e :: es, xs, h => by
    unfold tPl at h
    split at h
    · cases h
    split at h
    · cases h
    rename_i ys hy
    cases h
    rw [List.length_cons, List.length_cons, tPl_len hy]
theorem tPl_ok (S : Sd rec) : ∀ {es : List Expr} {xs : List E}, tPl rec C es = some xs → (∀ env, (starEach es env) = es.map fun e => (false, eval e env)) ∧ (∀ x ∈ xs, isStar x = false) ∧ ∀ g cf X, Ok g cf X C → PAv X g es (evs cf xs)
  | [], _, h => by cases h; exact ⟨fun env => rfl, by simp, fun g cf X O => by rw [evs_nil]; exact pav_nil⟩
  | e :: es, xs, h => by
    unfold tPl at h
    split at h
    · cases h
    rename_i x hx
    split at h
    · cases h
    rename_i ys hy
    cases h
    obtain ⟨i1, i2, i3⟩ := tPl_ok S hy
    obtain ⟨⟨p1, p2⟩, p3⟩ := S _ _ _ hx
    refine ⟨fun env => by rw [star_of p1, i1]; rfl, fun z hz => ?_, fun g cf X O => ?_⟩
    · rcases List.mem_cons.mp hz with rfl | hz
      · exact p2
      · exact i2 z hz
    · rw [evs_cons, p2]
      exact pav_cons (p3 g cf X O).ev (i3 g cf X O) (star_of p1)
theorem evs_len : ∀ {xs : List E} (h : ∀ x ∈ xs, isStar x = false) (env : En) (st : Sto) (vs : List PV) (st' : Sto), evs cf xs env st = some (vs, st') → vs.length = xs.length
  | [], _, env, st, vs, st', h => by rw [evs_nil] at h; cases h; rfl
  | x :: xs, hx, env, st, vs, st', h => by
    rw [evs_cons, hx x List.mem_cons_self] at h
    unfold vCons at h
    split at h
    · cases h
    split at h
    · cases h
    rename_i ys s2 hy
    cases h
    have := evs_len (fun z hz => hx z (List.mem_cons_of_mem _ hz)) env _ ys _ hy
    simp [spl, this]
theorem noStars {es : List Expr} {env : Env} (h : starEach es env = es.map fun e => (false, eval e env)) : (backTo pos (starEach es env)).any (·.1) = false := by
  rw [h]
  unfold backTo
  simp
def stArg : Expr → Option Expr | .Starred a _ => some a | _ => none
/-- stars too -/
def tSt (rec : Rc) (C : SC) : List Expr → Option (List E)
  | [] => some []
  | e :: es => match stArg e with
    | some a => (match rec C a with
      | none => none
      | some x => match tSt rec C es with | none => none | some xs => some (.star x.1 :: xs))
    | none => match rec C e with
      | none => none
      | some x => match tSt rec C es with | none => none | some xs => some (x.1 :: xs)
theorem stArg_eq {e a : Expr} (h : stArg e = some a) : ∃ p, e = .Starred a p := by
  unfold stArg at h
  split at h
  · cases h; exact ⟨_, rfl⟩
  · cases h
theorem tSt_ok (S : Sd rec) : ∀ {es : List Expr} {xs : List E}, tSt rec C es = some xs → ∀ g cf X, Ok g cf X C → PAv X g es (evs cf xs)
  | [], _, h => by cases h; exact fun g cf X O => by rw [evs_nil]; exact pav_nil
  | e :: es, xs, h => by
    unfold tSt at h
    split at h
    · rename_i a ha
      obtain ⟨p, rfl⟩ := stArg_eq ha
      split at h
      · cases h
      rename_i x hx
      split at h
      · cases h
      rename_i ys hy
      cases h
      intro g cf X O
      rw [evs_cons]
      simp only [evX]
      exact pav_star ((S _ _ _ hx).2 g cf X O).ev (tSt_ok S hy g cf X O)
    · split at h
      · cases h
      rename_i x hx
      split at h
      · cases h
      rename_i ys hy
      cases h
      intro g cf X O
      obtain ⟨⟨p1, p2⟩, p3⟩ := S _ _ _ hx
      rw [evs_cons, p2]
      exact pav_cons (p3 g cf X O).ev (tSt_ok S hy g cf X O) (star_of p1)
def tTupE (rec : Rc) (C : SC) (es : List Expr) : Option (E × Bool) := match tSt rec C es with | none => none | some xs => some (.tup xs, true)
theorem tTupE_ok {es : List Expr} {k : Nat} {r} (S : Sd rec) (h : tTupE rec C es = some r) : isStar r.1 = false ∧ ∀ g cf X, Ok g cf X C → Good g cf X (.Tuple es k pos) r := by
  unfold tTupE at h
  split at h
  · cases h
  rename_i xs hx
  cases h
  exact ⟨rfl, fun g cf X O => good_val (f := vTup (evs cf xs)) (by simp only [evX]) (pev_tup (tSt_ok S hx g cf X O)) trivial⟩
def tLstE (rec : Rc) (C : SC) (es : List Expr) : Option (E × Bool) := match tSt rec C es with | none => none | some xs => some (.lst xs, true)
theorem tLstE_ok {es : List Expr} {r} (S : Sd rec) (h : tLstE rec C es = some r) : isStar r.1 = false ∧ ∀ g cf X, Ok g cf X C → Good g cf X (.List es pos) r := by
  unfold tLstE at h
  split at h
  · cases h
  rename_i xs hx
  cases h
  exact ⟨rfl, fun g cf X O => good_val (f := vLst (evs cf xs)) (by simp only [evX]) (pev_lst (tSt_ok S hx g cf X O)) trivial⟩

/-! ### subscripts -/
def tPart (rec : Rc) (C : SC) : Option Expr → Option (List E)
  | none => some []
  | some e => match rec C e with | none => none | some x => some [x.1]
theorem tPart_ok (S : Sd rec) {o : Option Expr} {xs : List E} (h : tPart rec C o = some xs) : ∀ g cf X, Ok g cf X C → POv X g o (evs cf xs) := by
  intro g cf X O
  cases o with
  | none => cases h; rw [evs_nil]; exact pov_none
  | some e =>
    simp only [tPart] at h
    split at h
    · cases h
    rename_i x hx
    cases h
    obtain ⟨⟨p1, p2⟩, p3⟩ := S _ _ _ hx
    rw [evs_cons, evs_nil, p2]
    exact pov_some (p3 g cf X O).ev
def slOf : Expr → Option (Option Expr × Option Expr) | .Slice lo hi none _ => some (lo, hi) | _ => none
theorem slOf_eq {s : Expr} {p} (h : slOf s = some p) : ∃ q, s = .Slice p.1 p.2 none q := by
  unfold slOf at h
  split at h
  · cases h; exact ⟨_, rfl⟩
  · cases h
def tSub (rec : Rc) (C : SC) (a s : Expr) : Option (E × Bool) := match rec C a with
  | none => none
  | some x => match slOf s with
    | some p => (match tPart rec C p.1 with
      | none => none
      | some lo => match tPart rec C p.2 with | none => none | some hi => some (.sli x.1 lo hi, true))
    | none => match rec C s with | none => none | some y => some (.ix x.1 y.1, true)
theorem plainIx_of {b : Expr} (h : plainK b = true) : PlainIx b := by
  intro o i
  cases b <;> first | (cases h; done) | rfl
theorem tSub_ok {a s : Expr} {r} (S : Sd rec) (h : tSub rec C a s = some r) : isStar r.1 = false ∧ ∀ g cf X, Ok g cf X C → Good g cf X (.Subscript a s pos) r := by
  unfold tSub at h
  split at h
  · cases h
  rename_i x hx
  split at h
  · rename_i p hp
    obtain ⟨q, rfl⟩ := slOf_eq hp
    split at h
    · cases h
    rename_i lo hlo
    split at h
    · cases h
    rename_i hi hhi
    cases h
    exact ⟨rfl, fun g cf X O => good_val (f := vSli (evX cf x.1).1 (evs cf lo) (evs cf hi)) (by simp only [evX]) (pev_sli ((S _ _ _ hx).2 g cf X O).ev (tPart_ok S hlo g cf X O) (tPart_ok S hhi g cf X O)) trivial⟩
  · split at h
    · cases h
    rename_i y hy
    cases h
    exact ⟨rfl, fun g cf X O => good_val (f := vIx (evX cf x.1).1 (evX cf y.1).1) (by simp only [evX]) (pev_ix O.un ((S _ _ _ hx).2 g cf X O).ev ((S _ _ _ hy).2 g cf X O).ev (plainIx_of (S _ _ _ hy).1.1)) trivial⟩
end
end Kg
/-! PvTr2: from the program's text to mine: calls, comprehensions, all expressions. -/
namespace Kg
open PySem PySem.Spec PyProof.Rows L2

section
variable {g : Nat → Addr} {cf : CF} {X : Cx} {C : SC} {rec : Rc} {pos : Pos}

/-! ### built-ins -/
def Bi.nm : Bi → Str
  | .len => "len" | .int => "int" | .abs => "abs" | .list => "list" | .tuple => "tuple" | .sorted => "sorted" | .sum => "sum" | .all => "all" | .any => "any" | .min => "min" | .max => "max" | .str => "str"
def Bi.id : Bi → String
  | .len => "len" | .int => "int" | .abs => "abs" | .list => "list" | .tuple => "tuple" | .sorted => "sorted" | .sum => "sum" | .all => "all" | .any => "any" | .min => "min" | .max => "max" | .str => "str"
def Bi.isT : Bi → Bool | .int => true | .list => true | .tuple => true | .str => true | _ => false
theorem bi_boot : ∀ b : Bi, bootBuiltins b.nm = some (if b.isT then .type b.id else .builtin b.id) := fun b => by cases b <;> decide +kernel
theorem bi_ok (hc : X.calm = true) (hu : X.A.units + 1600 < cLine) : ∀ b : Bi, CallR X (if b.isT then .type b.id else .builtin b.id) (rBi X.K g b)
  | .len => bi_len | .int => bi_int | .abs => bi_abs | .list => bi_list | .tuple => bi_tuple | .sorted => bi_sorted hu | .sum => bi_sum hc | .all => bi_all hc | .any => bi_any hc | .min => bi_min hc | .max => bi_max hc | .str => bi_str
def allBi : List Bi := [.len, .int, .abs, .list, .tuple, .sorted, .sum, .all, .any, .min, .max, .str]
def biOf (x : Str) : Option Bi := allBi.find? fun b => decide (x = b.nm)
theorem biOf_eq {x : Str} {b : Bi} (h : biOf x = some b) : x = b.nm := by
  have := List.find?_some h
  simpa using this
theorem bi_name : ∀ b : Bi, b.nm ≠ ("__name__" : Str) ∧ (b.nm == ("__debug__" : Str)) = false := fun b => by cases b <;> exact ⟨by decide, by decide⟩
theorem pev_biX {b : Bi} {e : Expr} {es : List Expr} {fs : En → Sto → R (List PV)} {p : Pos} (hc : X.calm = true) (hu : X.A.units + 1600 < cLine) (hg : Gl X b.nm) (hm : X.mg b.nm = none) (ha : PAv X g (e :: es) fs)
    (he : starEach (e :: es) X.env = (false, eval e X.env) :: starEach es X.env) (hpl : (backTo pos (starEach es X.env)).any (·.1) = false) : PEv X g (.Call (.Name b.nm p) (e :: es) [] pos) (vBi b fs) := by
  have h1 := bi_ok (g := g) hc hu b
  have h2 := bi_boot b
  obtain ⟨n1, n2⟩ := bi_name b
  cases ht : b.isT with
  | true =>
    rw [ht] at h1 h2
    exact pev_biT h1 hg hm h2 ha n1 n2 he hpl
  | false =>
    rw [ht] at h1 h2
    exact pev_bi h1 hg hm h2 ha n1 n2 he hpl
def fnOf (C : SC) (x : Str) : Option (Str × Nat × Nat) := C.fns.find? fun p => decide (p.1 = x)
theorem fnOf_ok {x : Str} {p} (h : fnOf C x = some p) : p ∈ C.fns ∧ p.1 = x := ⟨List.mem_of_find?_eq_some h, by have := List.find?_some h; simpa using this⟩
/-! ### isinstance -/
def allTy : List Ty := [.int, .bool, .str, .list, .tuple, .dict]
def Ty.st : Ty → Str | .int => "int" | .bool => "bool" | .str => "str" | .list => "list" | .tuple => "tuple" | .dict => "dict"
theorem ty_boot : ∀ b : Ty, bootBuiltins b.st = some (.type b.nm) := fun b => by cases b <;> decide +kernel
theorem ty_name : ∀ b : Ty, b.st ≠ ("__name__" : Str) ∧ (b.st == ("__debug__" : Str)) = false := fun b => by cases b <;> exact ⟨by decide, by decide⟩
def nmOf : Expr → Option Str | .Name x _ => some x | _ => none
theorem nmOf_eq {e : Expr} {x : Str} (h : nmOf e = some x) : ∃ p, e = .Name x p := by
  unfold nmOf at h
  split at h
  · cases h; exact ⟨_, rfl⟩
  · cases h
def tyOf (C : SC) (e : Expr) : Option Ty := match nmOf e with
  | none => none
  | some x => match allTy.find? fun b => decide (x = b.st) with
    | none => none
    | some t => if glB C.sc t.st = true ∧ t.st ∈ C.free then some t else none
theorem tyOf_ok {e : Expr} {t : Ty} (h : tyOf C e = some t) : ∃ p, e = .Name t.st p ∧ ∀ g cf X, Ok g cf X C → Gl X t.st ∧ X.mg t.st = none := by
  unfold tyOf at h
  split at h
  · cases h
  rename_i x hx
  obtain ⟨p, rfl⟩ := nmOf_eq hx
  split at h
  · cases h
  rename_i t' ht
  split at h
  · rename_i hc
    cases h
    have := List.find?_some ht
    have : x = t.st := by simpa using this
    subst this
    exact ⟨p, rfl, fun g cf X O => ⟨gl_ok hc.1 O, O.free _ hc.2⟩⟩
  · cases h
def tysOf (C : SC) : List Expr → Option (List Ty)
  | [] => some []
  | e :: es => match tyOf C e with
    | none => none
    | some t => match tysOf C es with | none => none | some ts => some (t :: ts)
theorem tysOf_ok : ∀ {es : List Expr} {ts : List Ty}, tysOf C es = some ts → ∀ g cf X, Ok g cf X C → PA X es (fun σ H Q => Q (ts.map fun t => V.ty t.nm) H)
  | [], _, h => by cases h; exact fun g cf X O => PA.imp pa_nil fun σ H Q q => q
  | e :: es, ts, h => by
    unfold tysOf at h
    split at h
    · cases h
    rename_i t ht
    split at h
    · cases h
    rename_i us hu
    cases h
    intro g cf X O
    obtain ⟨p, rfl, k⟩ := tyOf_ok ht
    obtain ⟨k1, k2⟩ := k g cf X O
    obtain ⟨n1, n2⟩ := ty_name t
    exact PA.imp (pa_cons (pe_bltn k1 k2 (ty_boot t) (v := .ty t.nm) rfl n1 n2) (tysOf_ok hu g cf X O) rfl) fun σ H Q q => q
def tupOf : Expr → Option (List Expr) | .Tuple es _ _ => some es | _ => none
theorem tupOf_eq {e : Expr} {x : List Expr} (h : tupOf e = some x) : ∃ k p, e = .Tuple x k p := by
  unfold tupOf at h
  split at h
  · cases h; exact ⟨_, _, rfl⟩
  · cases h
def isiN : Str := "isinstance"
def tIsi (rec : Rc) (C : SC) (args : List Expr) : Option (E × Bool) := if glB C.sc isiN = true ∧ isiN ∈ C.free then (match args with
  | [a, c] => match rec C a with
    | none => none
    | some x => match tupOf c with
      | some es => (match tysOf C es with | none => none | some ts => if ts ≠ [] ∧ ts.length < 100 then some (.isi x.1 ts, true) else none)
      | none => match tyOf C c with | none => none | some t => some (.isi x.1 [t], true)
  | _ => none) else none
theorem tIsi_ok {args : List Expr} {p : Pos} {r} (S : Sd rec) (h : tIsi rec C args = some r) : isStar r.1 = false ∧ ∀ g cf X, Ok g cf X C → Good g cf X (.Call (.Name isiN p) args [] pos) r := by
  unfold tIsi at h
  split at h
  · rename_i hc
    split at h
    · rename_i a c
      split at h
      · cases h
      rename_i x hx
      obtain ⟨⟨p1, p2⟩, p3⟩ := S _ _ _ hx
      split at h
      · rename_i es hes
        obtain ⟨k, q, rfl⟩ := tupOf_eq hes
        split at h
        · cases h
        rename_i ts hts
        split at h
        · rename_i hl
          cases h
          refine ⟨rfl, fun g cf X O => good_val (f := vIsi (evX cf x.1).1 ts) (by simp only [evX]) (pev_isiN hl.1 (gl_ok hc.1 O) (O.free _ hc.2) (tysOf_ok hts g cf X O) (by have := hl.2; rw [sizeLine_eq]; omega) (p3 g cf X O).ev (star_of p1) rfl rfl) trivial⟩
        · cases h
      · split at h
        · cases h
        rename_i t ht
        cases h
        obtain ⟨q, rfl, k⟩ := tyOf_ok ht
        refine ⟨rfl, fun g cf X O => ?_⟩
        obtain ⟨k1, k2⟩ := k g cf X O
        obtain ⟨n1, n2⟩ := ty_name t
        exact good_val (f := vIsi (evX cf x.1).1 [t]) (by simp only [evX]) (pev_isi1 (gl_ok hc.1 O) (O.free _ hc.2) k1 k2 (ty_boot t) n1 n2 (p3 g cf X O).ev (star_of p1) rfl rfl) trivial
    · cases h
  · cases h
/-! ### calls by name -/
def baseB (o : Expr) : Bool := match o with | .Call (.Name _ _) [] [] _ => false | _ => true
theorem base_of {o : Expr} {m : Str} {env : Env} {w : Sem Value} (h : baseB o = true) : attributeBase o m env w = w := by
  unfold attributeBase
  unfold baseB at h
  split
  · cases h
  · rfl
/-- list(d.values()) -/
def valsOf : List Expr → Option (Expr × Pos × Pos)
  | [.Call (.Attribute e m apos) [] [] cpos] => if m = ("values" : Str) then some (e, apos, cpos) else none
  | _ => none
theorem valsOf_eq {args : List Expr} {q} (h : valsOf args = some q) : args = [.Call (.Attribute q.1 "values" q.2.1) [] [] q.2.2] := by
  unfold valsOf at h
  split at h
  · split at h
    · rename_i hm; cases h; subst hm; rfl
    · cases h
  · cases h
def listN : Str := "list"
def tCall (rec : Rc) (C : SC) (x : Str) (args : List Expr) : Option (E × Bool) := match fnOf C x with
  | some p => if glB C.sc x = true ∧ dbg x = false then (match tPl rec C args with | none => none | some xs => if xs.length = p.2.2 then some (.call p.2.1 xs, true) else none) else none
  | none => if x = isiN then tIsi rec C args else match biOf x with
    | none => none
    | some b => if glB C.sc x = true ∧ x ∈ C.free then (match (if x = listN then valsOf args else none) with
      | some q => if baseB q.1 = true ∧ (q.2.1.endLine == q.2.2.line) = true then (match rec C q.1 with | none => none | some y => some (.lvals y.1, true)) else none
      | none => match tPl rec C args with
        | none => none
        | some [] => none
        | some (y :: ys) => some (.bi b (y :: ys), true)) else none
theorem tCall_ok {x : Str} {args : List Expr} {p : Pos} {r} (S : Sd rec) (h : tCall rec C x args = some r) : isStar r.1 = false ∧ ∀ g cf X, Ok g cf X C → Good g cf X (.Call (.Name x p) args [] pos) r := by
  unfold tCall at h
  split at h
  · rename_i q hq
    obtain ⟨hmem, rfl⟩ := fnOf_ok hq
    split at h
    · rename_i hc
      split at h
      · cases h
      rename_i xs hxs
      split at h
      · rename_i hl
        cases h
        refine ⟨rfl, fun g cf X O => good_val (f := vCall cf q.2.1 (evs cf xs)) (by simp only [evX]) ?_ trivial⟩
        obtain ⟨fd, fad, ps, k, F, hr, hm, hk, hb, hps⟩ := O.fns q hmem
        obtain ⟨i1, i2, i3⟩ := tPl_ok S hxs
        obtain ⟨d1, d2, _⟩ := dbg_ok hc.2
        cases args with
        | nil =>
          have : xs = [] := by have := tPl_len hxs; exact List.eq_nil_of_length_eq_zero this
          subst this
          have hp0 : ps = [] := List.eq_nil_of_length_eq_zero (by rw [hps, ← hl]; rfl)
          subst hp0
          rw [evs_nil]
          exact pev_call0 F hr (gl_ok hc.1 O) hm hk hb d1
        | cons e es =>
          have he := i1 X.env
          have hst : starEach (e :: es) X.env = (false, eval e X.env) :: starEach es X.env := by
            have : plainK e = true := by
              unfold tPl at hxs
              split at hxs
              · cases hxs
              rename_i y hy
              exact (S _ _ _ hy).1.1
            exact star_of this
          have hpl : (backTo pos (starEach es X.env)).any (·.1) = false := noStars (by rw [hst] at he; simpa using he)
          exact pev_call F hr (gl_ok hc.1 O) hm hk hb (i3 g cf X O) d1 hst hpl (fun env st vs st' e => by rw [evs_len i2 env st vs st' e, hl, hps])
      · cases h
    · cases h
  · split at h
    · rename_i hx
      subst hx
      exact tIsi_ok S h
    split at h
    · cases h
    rename_i b hb
    have hx := biOf_eq hb
    split at h
    · rename_i hc
      split at h
      · rename_i q hq
        split at hq
        · rename_i hxl
          have ha := valsOf_eq hq
          subst ha
          split at h
          · rename_i hbl
            split at h
            · cases h
            rename_i y hy
            cases h
            subst hxl
            refine ⟨rfl, fun g cf X O => good_val (f := vLvals (evX cf y.1).1) (by simp only [evX]) ?_ trivial⟩
            exact pev_lvals O.calm ((S _ _ _ hy).2 g cf X O).ev (gl_ok hc.1 O) (O.free _ hc.2) (by decide +kernel) (base_of hbl.1) hbl.2 rfl
          · cases h
        · cases hq
      · split at h
        · cases h
        · cases h
        · rename_i y ys hxs
          cases h
          refine ⟨rfl, fun g cf X O => good_val (f := vBi b (evs cf (y :: ys))) (by simp only [evX]) ?_ trivial⟩
          obtain ⟨i1, i2, i3⟩ := tPl_ok S hxs
          cases args with
          | nil => simp [tPl] at hxs
          | cons e es =>
            have he := i1 X.env
            have hst : starEach (e :: es) X.env = (false, eval e X.env) :: starEach es X.env := by
              have : plainK e = true := by
                unfold tPl at hxs
                split at hxs
                · cases hxs
                rename_i y hy
                exact (S _ _ _ hy).1.1
              exact star_of this
            have hpl : (backTo pos (starEach es X.env)).any (·.1) = false := noStars (by rw [hst] at he; simpa using he)
            subst hx
            exact pev_biX O.calm O.un (gl_ok hc.1 O) (O.free _ hc.2) (i3 g cf X O) hst hpl
    · cases h
/-! ### methods -/
def tMeth (rec : Rc) (C : SC) (o : Expr) (m : Str) (apos cpos : Pos) (args : List Expr) : Option (E × Bool) := if baseB o = true ∧ (apos.endLine == cpos.line) = true then (match rec C o with
  | none => none
  | some x => match args with
    | [] => if m = ("pop" : Str) then some (.met .pop x.1 [], true) else none
    | [a] => (match rec C a with
      | none => none
      | some y => if m = ("append" : Str) then some (.met .append x.1 [y.1], true) else if m = ("extend" : Str) then some (.met .extend x.1 [y.1], true) else if m = ("join" : Str) then some (.met .join x.1 [y.1], true)
        else if m = ("count" : Str) then some (.met .count x.1 [y.1], true) else if m = ("get" : Str) then some (.met .get x.1 [y.1], true) else none)
    | [a, b] => (match rec C a with
      | none => none
      | some y => match rec C b with | none => none | some z => if m = ("get" : Str) then some (.met .get x.1 [y.1, z.1], true) else none)
    | _ => none) else none
theorem tMeth_ok {o : Expr} {m : Str} {apos : Pos} {args : List Expr} {r} (S : Sd rec) (h : tMeth rec C o m apos pos args = some r) : isStar r.1 = false ∧ ∀ g cf X, Ok g cf X C → Good g cf X (.Call (.Attribute o m apos) args [] pos) r := by
  unfold tMeth at h
  split at h
  · rename_i hc
    split at h
    · cases h
    rename_i x hx
    obtain ⟨⟨p1, p2⟩, p3⟩ := S _ _ _ hx
    split at h
    · split at h
      · rename_i hm
        subst hm
        cases h
        refine ⟨rfl, fun g cf X O => good_val (f := vMet .pop (evX cf x.1).1 vNil) (by simp only [evX, evs]) (pev_me0 (m := .pop) F.plainAttrs_list F.slot_list_pop F.type_list_pop me_pop (p3 g cf X O).ev (base_of hc.1) hc.2 fun x st h => kind_T rfl h) trivial⟩
      · cases h
    · rename_i a
      split at h
      · cases h
      rename_i y hy
      obtain ⟨⟨q1, q2⟩, q3⟩ := S _ _ _ hy
      have few : ∀ env, ((backTo pos (starEach (a :: []) env)).all (fun x => !x.1) && (backToKw pos (keywordEach [] env)).all (fun x => x.1.isSome)
          && decide ((a :: []).length + ([] : List Keyword).length + (if ([] : List Keyword).isEmpty then 0 else 1) < 30)) = true := fun env => by rw [star_of q1]; rfl
      have av : ∀ g cf X, Ok g cf X C → PAv X g [a] (evs cf [y.1]) := fun g cf X O => by
        rw [evs_cons, evs_nil, q2]
        exact pav_cons (q3 g cf X O).ev pav_nil (star_of q1)
      split at h
      · rename_i hm; subst hm; cases h
        exact ⟨rfl, fun g cf X O => good_val (f := vMet .append (evX cf x.1).1 (evs cf [y.1])) (by simp only [evX]) (pev_me1 (m := .append) F.plainAttrs_list F.slot_list_append F.type_list_append me_append (p3 g cf X O).ev (av g cf X O) (base_of hc.1) (few _) hc.2 (star_of q1) rfl fun x st h => kind_T rfl h) trivial⟩
      split at h
      · rename_i hm; subst hm; cases h
        exact ⟨rfl, fun g cf X O => good_val (f := vMet .extend (evX cf x.1).1 (evs cf [y.1])) (by simp only [evX]) (pev_me1 (m := .extend) F.plainAttrs_list F.slot_list_extend F.type_list_extend me_extend (p3 g cf X O).ev (av g cf X O) (base_of hc.1) (few _) hc.2 (star_of q1) rfl fun x st h => kind_T rfl h) trivial⟩
      split at h
      · rename_i hm; subst hm; cases h
        exact ⟨rfl, fun g cf X O => good_val (f := vMet .join (evX cf x.1).1 (evs cf [y.1])) (by simp only [evX]) (pev_me1 (m := .join) F.plainAttrs_str F.slot_str_join F.type_str_join me_join (p3 g cf X O).ev (av g cf X O) (base_of hc.1) (few _) hc.2 (star_of q1) rfl fun x st h => kind_T rfl h) trivial⟩
      split at h
      · rename_i hm; subst hm; cases h
        exact ⟨rfl, fun g cf X O => good_val (f := vMet .count (evX cf x.1).1 (evs cf [y.1])) (by simp only [evX]) (pev_count O.un (p3 g cf X O).ev (av g cf X O) (base_of hc.1) (few _) hc.2 (star_of q1) rfl) trivial⟩
      split at h
      · rename_i hm; subst hm; cases h
        refine ⟨rfl, fun g cf X O => good_val (f := vMet .get (evX cf x.1).1 (evs cf [y.1])) (by simp only [evX]) ?_ trivial⟩
        rw [evs_cons, evs_nil, q2]
        exact pev_get1 O.un (p3 g cf X O).ev (q3 g cf X O).ev ⟨base_of hc.1, few _, hc.2, by rw [star_of q1]; rfl⟩
      · cases h
    · rename_i a b
      split at h
      · cases h
      rename_i y hy
      split at h
      · cases h
      rename_i z hz
      obtain ⟨⟨q1, q2⟩, q3⟩ := S _ _ _ hy
      obtain ⟨⟨w1, w2⟩, w3⟩ := S _ _ _ hz
      split at h
      · rename_i hm; subst hm; cases h
        refine ⟨rfl, fun g cf X O => good_val (f := vMet .get (evX cf x.1).1 (evs cf [y.1, z.1])) (by simp only [evX]) ?_ trivial⟩
        rw [evs_cons, evs_cons, evs_nil, q2, w2]
        exact pev_get2 O.un (p3 g cf X O).ev (q3 g cf X O).ev (w3 g cf X O).ev ⟨base_of hc.1, by rw [star_of q1, star_of w1]; rfl, hc.2, by rw [star_of q1, star_of w1]; rfl⟩
      · cases h
    · cases h
  · cases h
/-! ### f-strings -/
def fmOf : Expr → Option Expr | .FormattedValue e c none _ => if c = -1 then some e else none | _ => none
theorem fmOf_eq {e a : Expr} (h : fmOf e = some a) : ∃ p, e = .FormattedValue a (-1) none p := by
  unfold fmOf at h
  split at h
  · split at h
    · rename_i hc; cases h; subst hc; exact ⟨_, rfl⟩
    · cases h
  · cases h
def scOf : Expr → Option Str | .Constant (.str s) _ _ => some s | _ => none
theorem scOf_eq {e : Expr} {s : Str} (h : scOf e = some s) : ∃ k p, e = .Constant (.str s) k p := by
  unfold scOf at h
  split at h
  · cases h; exact ⟨_, _, rfl⟩
  · cases h
def tFs (rec : Rc) (C : SC) : List Expr → Option (List E)
  | [] => some []
  | e :: es => match fmOf e with
    | some a => (match rec C a with
      | none => none
      | some x => match tFs rec C es with | none => none | some xs => some (x.1 :: xs))
    | none => match scOf e with
      | none => none
      | some s => match tFs rec C es with | none => none | some xs => some (.cst (.str s) :: xs)
theorem tFs_ok (S : Sd rec) : ∀ {es : List Expr} {xs : List E}, tFs rec C es = some xs → ∀ g cf X, Ok g cf X C → PJv X g es (evs cf xs)
  | [], _, h => by cases h; exact fun g cf X O => by rw [evs_nil]; exact .nil
  | e :: es, xs, h => by
    unfold tFs at h
    split at h
    · rename_i a ha
      obtain ⟨p, rfl⟩ := fmOf_eq ha
      split at h
      · cases h
      rename_i x hx
      split at h
      · cases h
      rename_i ys hy
      cases h
      intro g cf X O
      obtain ⟨⟨p1, p2⟩, p3⟩ := S _ _ _ hx
      rw [evs_cons, p2]
      exact .cons (pfm_fmt (p3 g cf X O).ev) (tFs_ok S hy g cf X O)
    · split at h
      · cases h
      rename_i s hs
      obtain ⟨k, p, rfl⟩ := scOf_eq hs
      split at h
      · cases h
      rename_i ys hy
      cases h
      intro g cf X O
      rw [evs_cons]
      simp only [evX]
      exact .cons pfm_str (tFs_ok S hy g cf X O)
def tJoin (rec : Rc) (C : SC) (vs : List Expr) : Option (E × Bool) := match tFs rec C vs with
  | none => none
  | some [] => none
  | some (x :: xs) => some (.fstr (x :: xs), true)
theorem tJoin_ok {vs : List Expr} {r} (S : Sd rec) (h : tJoin rec C vs = some r) : isStar r.1 = false ∧ ∀ g cf X, Ok g cf X C → Good g cf X (.JoinedStr vs pos) r := by
  unfold tJoin at h
  split at h
  · cases h
  · cases h
  rename_i x xs hx
  cases h
  refine ⟨rfl, fun g cf X O => good_val (f := vFstr (evs cf (x :: xs))) (by simp only [evX]) ?_ trivial⟩
  have j := tFs_ok S hx g cf X O
  match vs, j with
  | [], j => simp [tFs] at hx
  | [e], j => exact pev_fstr1 j
  | a :: b :: r, j => exact pev_fstr j
/-! ### targets -/
mutual
def tTg (C : SC) : Nat → Expr → Option Tg
  | 0, _ => none
  | n + 1, .Name x _ => if locB C.sc x = true ∧ (C.fn x = true ∨ lclB C.sc x = true) then (match slot C x with | some i => some (.nm i) | none => none) else none
  | n + 1, .Tuple es _ _ => (match tTgs C n es with | none => none | some ts => some (.tu ts))
  | n + 1, _ => none
def tTgs (C : SC) : Nat → List Expr → Option (List Tg)
  | 0, _ => none
  | n + 1, [] => some []
  | n + 1, e :: es => match tTg C n e with
    | none => none
    | some t => match tTgs C n es with | none => none | some ts => some (t :: ts)
end
theorem tTg_ok : ∀ (n : Nat), (∀ e t, tTg C n e = some t → (∀ g cf X, Ok g cf X C → PGv X e t) ∧ plainK e = true) ∧ (∀ es ts, tTgs C n es = some ts → ∀ g cf X, Ok g cf X C → PGsv X es ts ∧ (assignEach es X.env).length = ts.length ∧ (assignEach es X.env).findIdx? (·.1) = none)
  | 0 => ⟨fun e t h => by simp [tTg] at h, fun e t h => by simp [tTgs] at h⟩
  | n + 1 => by
    obtain ⟨i1, i2⟩ := tTg_ok n
    refine ⟨fun e t h => ?_, fun es ts h => ?_⟩
    · cases e with
      | Name x p =>
        simp only [tTg] at h
        split at h
        · rename_i hc
          split at h
          · rename_i i hi
            cases h
            refine ⟨fun g cf X O => pgv_name O.nd (slot_ok hi O) (loc_ok hc.1 O) ?_, rfl⟩
            rcases hc.2 with k | k
            · exact .inl (by rw [O.fn]; exact k)
            · exact .inr (lcl_ok k O)
          · cases h
        · cases h
      | Tuple es k p =>
        simp only [tTg] at h
        split at h
        · cases h
        rename_i ts hts
        cases h
        refine ⟨fun g cf X O => ?_, rfl⟩
        obtain ⟨k1, k2, k3⟩ := i2 _ _ hts g cf X O
        exact pgv_tup O.calm k1 k2 k3
      | _ => simp [tTg] at h
    · cases es with
      | nil =>
        simp only [tTgs] at h
        cases h
        exact fun g cf X O => ⟨pgsv_nil, rfl, rfl⟩
      | cons e es =>
        simp only [tTgs] at h
        split at h
        · cases h
        rename_i t ht
        split at h
        · cases h
        rename_i us hu
        cases h
        intro g cf X O
        obtain ⟨k1, pk⟩ := i1 _ _ ht
        obtain ⟨k2, k3, k4⟩ := i2 _ _ hu g cf X O
        have ha : assignEach (e :: es) X.env = (false, assign e X.env) :: assignEach es X.env := by cases e <;> first | (cases pk; done) | rfl
        refine ⟨pgsv_cons (k1 g cf X O) k2 (by rw [ha]; rfl), by rw [ha, List.length_cons, k3]; rfl, ?_⟩
        rw [ha, List.findIdx?_cons, k4]
        rfl
/-! ### walks -/
def itOf (e : Expr) : Option (Bool × List Expr) := match e with
  | .Call (.Name x _) args [] _ => if x = ("range" : Str) then some (true, args) else if x = ("enumerate" : Str) then some (false, args) else none
  | _ => none
theorem itOf_eq {e : Expr} {p} (h : itOf e = some p) : ∃ q pos, e = .Call (.Name (if p.1 then "range" else "enumerate") q) p.2 [] pos := by
  unfold itOf at h
  split at h
  · split at h
    · rename_i hx; cases h; subst hx; exact ⟨_, _, rfl⟩
    · split at h
      · rename_i hx; cases h; subst hx; exact ⟨_, _, rfl⟩
      · cases h
  · cases h
def rangeN : Str := "range"
def enumN : Str := "enumerate"
def tIt (rec : Rc) (C : SC) (tg e : Expr) : Option (ItK × List E) := match itOf e with
  | some (true, args) => if glB C.sc rangeN = true ∧ rangeN ∈ C.free then (match args with
    | [a] => (match rec C a with | none => none | some x => some (.range, [x.1]))
    | [a, b] => (match rec C a with
      | none => none
      | some x => match rec C b with | none => none | some y => some (.range, [x.1, y.1]))
    | _ => none) else none
  | some (false, args) => if glB C.sc enumN = true ∧ enumN ∈ C.free then (match args with
    | [a] => (match tupOf tg with
      | none => none
      | some _ => match rec C a with | none => none | some x => some (.enum, [x.1]))
    | _ => none) else none
  | none => match rec C e with | none => none | some x => some (.seq, [x.1])
theorem tIt_ok {tg e : Expr} {r} (S : Sd rec) (h : tIt rec C tg e = some r) : (∀ (env : Env) x, foldedSetIterable e env x = pure x) ∧ ∀ g cf X, Ok g cf X C → PIv X g tg e r.1 (evs cf r.2) := by
  unfold tIt at h
  split at h
  · rename_i args hi
    obtain ⟨q, p, rfl⟩ := itOf_eq hi
    refine ⟨fun env x => rfl, ?_⟩
    split at h
    · rename_i hc
      split at h
      · rename_i a
        split at h
        · cases h
        rename_i x hx
        cases h
        intro g cf X O
        obtain ⟨⟨p1, p2⟩, p3⟩ := S _ _ _ hx
        show PIv X g tg _ .range (evs cf [x.1])
        rw [evs_cons, evs_nil, p2]
        exact piv_range1 (gl_ok hc.1 O) (O.free _ hc.2) (pav_cons (p3 g cf X O).ev pav_nil (star_of p1)) (star_of p1)
      · rename_i a b
        split at h
        · cases h
        rename_i x hx
        split at h
        · cases h
        rename_i y hy
        cases h
        intro g cf X O
        obtain ⟨⟨p1, p2⟩, p3⟩ := S _ _ _ hx
        obtain ⟨⟨q1, q2⟩, q3⟩ := S _ _ _ hy
        show PIv X g tg _ .range (evs cf [x.1, y.1])
        rw [evs_cons, evs_cons, evs_nil, p2, q2]
        exact piv_range2 (gl_ok hc.1 O) (O.free _ hc.2) (pav_cons (p3 g cf X O).ev (pav_cons (q3 g cf X O).ev pav_nil (star_of q1)) (star_of p1)) (by rw [star_of p1, star_of q1]; rfl) (star_of q1)
      · cases h
    · cases h
  · rename_i args hi
    obtain ⟨q, p, rfl⟩ := itOf_eq hi
    refine ⟨fun env x => rfl, ?_⟩
    split at h
    · rename_i hc
      split at h
      · rename_i a
        split at h
        · cases h
        rename_i es hes
        obtain ⟨kk, tp, rfl⟩ := tupOf_eq hes
        split at h
        · cases h
        rename_i x hx
        cases h
        intro g cf X O
        obtain ⟨⟨p1, p2⟩, p3⟩ := S _ _ _ hx
        show PIv X g _ _ .enum (evs cf [x.1])
        rw [evs_cons, evs_nil, p2]
        exact piv_enum (gl_ok hc.1 O) (O.free _ hc.2) (pav_cons (p3 g cf X O).ev pav_nil (star_of p1)) (star_of p1)
      · cases h
    · cases h
  · split at h
    · cases h
    rename_i x hx
    cases h
    obtain ⟨⟨p1, p2⟩, p3⟩ := S _ _ _ hx
    refine ⟨fun env y => by cases e <;> first | (cases p1; done) | rfl, fun g cf X O => ?_⟩
    show PIv X g tg e .seq (evs cf [x.1])
    rw [evs_cons, evs_nil, p2]
    exact piv_seq (p3 g cf X O).ev
/-! ### comprehensions -/
def ownOf (C : SC) : List (Str × NameKind) → List (Str × Nat)
  | [] => []
  | (n, k) :: r => match k with
    | .local => (match slot C n with | some i => (n, i) :: ownOf C r | none => ownOf C r)
    | .cell => (match slot C n with | some i => (n, i) :: ownOf C r | none => ownOf C r)
    | _ => ownOf C r
def inner (C : SC) (scope : Scope) : SC := { C with sc := relS scope C.sc, fn := fun x => scope.names.lookup x == some .cell }
theorem ok_blk {scope : Scope} (O : Ok g cf X C) (s : Shared) (H : Hp) (D : Addr) (cl : List (Str × Addr)) (fp : List Addr) : Ok g cf (X.blk s H scope (compEnvC scope cl D X.env) fp) (inner C scope) :=
  ⟨O.N, by show relS scope X.env.scope = _; rw [O.sc]; rfl, rfl, O.calm, O.nd, O.un, O.fns, O.free⟩
def tIfs (rec : Rc) (C : SC) : List Expr → Option (List E)
  | [] => some []
  | [c] => (match rec C c with | none => none | some x => if x.2 = true then some [x.1] else none)
  | _ => none
theorem tIfs_ok {ifs : List Expr} {cs : List E} (S : Sd rec) (h : tIfs rec C ifs = some cs) : ∀ g cf X, Ok g cf X C → PTs X ifs (semT X.K g (condOf (evt cf cs))) := by
  unfold tIfs at h
  split at h
  · cases h
    intro g cf X O
    simp only [evt]
    exact ptsv_nil
  · split at h
    · cases h
    rename_i x hx
    split at h
    · rename_i hb
      cases h
      intro g cf X O
      simp only [evt]
      exact ptsv_one (((S _ _ _ hx).2 g cf X O).tv hb)
    · cases h
  · cases h
def tComp (rec : Rc) (C : SC) (elt : Expr) (gs : List Comprehension) (scope : Scope) : Option E := match gs with
  | [⟨tg, iter, ifs, a⟩] => if a = 0 ∧ blkC C.N C.sc scope (ownOf C scope.names) = true then (match tIt rec C tg iter with
    | none => none
    | some (k, its) => match tTg (inner C scope) 20 tg with
      | none => none
      | some t => match tIfs rec (inner C scope) ifs with
        | none => none
        | some cs => match rec (inner C scope) elt with
          | none => none
          | some x => if (tgS t).all (fun i => ((ownOf C scope.names).map (·.2)).contains i) = true then some (.comp x.1 t k its cs ((ownOf C scope.names).map (·.2))) else none) else none
  | _ => none
structure CompOk (g : Nat → Addr) (cf : CF) (X : Cx) (C : SC) (elt tg iter : Expr) (ifs : List Expr) (scope : Scope) (r : E) : Prop where
  ex : ∃ (x : E) (t : Tg) (k : ItK) (its cs : List E), r = .comp x t k its cs ((ownOf C scope.names).map (·.2)) ∧ PIv X g tg iter k (evs cf its) ∧ BlkOk X.N X.env.scope scope (ownOf C scope.names) ∧
    (∀ (s : Shared) (H : Hp) (D : Addr) (cl : List (Str × Addr)) (fp : List Addr), PGv (X.blk s H scope (compEnvC scope cl D X.env) fp) tg t) ∧
    (∀ (s : Shared) (H : Hp) (D : Addr) (cl : List (Str × Addr)) (fp : List Addr), PTs (X.blk s H scope (compEnvC scope cl D X.env) fp) ifs (semT X.K g (condOf (evt cf cs)))) ∧
    (∀ (s : Shared) (H : Hp) (D : Addr) (cl : List (Str × Addr)) (fp : List Addr), PEv (X.blk s H scope (compEnvC scope cl D X.env) fp) g elt (evX cf x).1) ∧ (∀ x, foldedSetIterable iter X.env x = pure x) ∧ ∀ i ∈ tgS t, i ∈ (ownOf C scope.names).map (·.2)
theorem tComp_ok {elt : Expr} {gs : List Comprehension} {scope : Scope} {r : E} (S : Sd rec) (h : tComp rec C elt gs scope = some r) : isStar r = false ∧ ∃ tg iter ifs, gs = [⟨tg, iter, ifs, 0⟩] ∧ ∀ g cf X, Ok g cf X C → CompOk g cf X C elt tg iter ifs scope r := by
  unfold tComp at h
  split at h
  · rename_i tg iter ifs a
    split at h
    · rename_i hc
      obtain ⟨rfl, hblk⟩ := hc
      split at h
      · cases h
      rename_i k its hit
      split at h
      · cases h
      rename_i t ht
      split at h
      · cases h
      rename_i cs hcs
      split at h
      · cases h
      rename_i x hx
      split at h
      · rename_i hall
        cases h
        refine ⟨rfl, tg, iter, ifs, rfl, fun g cf X O => ⟨x.1, t, k, its, cs, rfl, (tIt_ok S hit).2 g cf X O, ?_, fun s H D cl fp => ?_, fun s H D cl fp => ?_, fun s H D cl fp => ?_, (tIt_ok S hit).1 X.env, ?_⟩⟩
        · rw [O.N, O.sc]; exact blkOk_by hblk
        · exact ((tTg_ok 20).1 _ _ ht).1 g cf _ (ok_blk O s H D cl fp)
        · exact tIfs_ok S hcs g cf _ (ok_blk O s H D cl fp)
        · exact ((S _ _ _ hx).2 g cf _ (ok_blk O s H D cl fp)).ev
        · intro i hi
          have := List.all_eq_true.mp hall i hi
          simpa using this
      · cases h
    · cases h
  · cases h
theorem comp_good {elt tg iter : Expr} {ifs : List Expr} {scope : Scope} {r : E} (O : Ok g cf X C) (h : CompOk g cf X C elt tg iter ifs scope r) : Good g cf X (.ListComp elt [⟨tg, iter, ifs, 0⟩] scope pos) (r, true) := by
  obtain ⟨x, t, k, its, cs, rfl, h1, h2, h3, h4, h5, h6, h7⟩ := h.ex
  exact good_val (f := vComp (evX cf x).1 t k (evs cf its) (condOf (evt cf cs)) ((ownOf C scope.names).map (·.2))) (by simp only [evX]) (pev_comp O.calm O.nd h1 h2 h3 h4 h5 h6 h7) trivial
/-! ### all -/
def trE1 (rec : Rc) (C : SC) (e : Expr) : Option (E × Bool) := match e with
  | .Name x _ => tName C x
  | .Constant c _ _ => tCst c
  | .BinOp a o b _ => tBin rec C o a b
  | .UnaryOp o a _ => tUn rec C o a
  | .BoolOp o vs _ => tBool rec C o vs
  | .Compare a ops bs _ => tCmp rec C a ops bs
  | .IfExp t a b _ => tIfe rec C t a b
  | .Tuple es _ _ => tTupE rec C es
  | .List es _ => tLstE rec C es
  | .Subscript a s _ => tSub rec C a s
  | .Call (.Name x _) args [] _ => tCall rec C x args
  | .Call (.Attribute o m apos) args [] cpos => tMeth rec C o m apos cpos args
  | .ListComp elt gs scope _ => (match tComp rec C elt gs scope with | none => none | some x => some (x, true))
  | .JoinedStr vs _ => tJoin rec C vs
  | .Dict [] [] p => some (.dict0 (C.tk.contains p.line), true)
  | _ => none
theorem trE1_ok (S : Sd rec) : Sd (trE1 rec) := by
  intro C e r h
  unfold trE1 at h
  split at h
  · exact ⟨⟨rfl, (tName_ok (pos := default) h).1⟩, (tName_ok h).2⟩
  · exact ⟨⟨rfl, (tCst_ok (C := C) (pos := default) (k := 0) h).1⟩, (tCst_ok h).2⟩
  · exact ⟨⟨rfl, (tBin_ok (pos := default) S h).1⟩, (tBin_ok S h).2⟩
  · exact ⟨⟨rfl, (tUn_ok (pos := default) S h).1⟩, (tUn_ok S h).2⟩
  · exact ⟨⟨rfl, (tBool_ok (pos := default) S h).1⟩, (tBool_ok S h).2⟩
  · exact ⟨⟨rfl, (tCmp_ok (pos := default) S h).1⟩, (tCmp_ok S h).2⟩
  · exact ⟨⟨rfl, (tIfe_ok (pos := default) S h).1⟩, (tIfe_ok S h).2⟩
  · exact ⟨⟨rfl, (tTupE_ok (pos := default) (k := 0) S h).1⟩, (tTupE_ok S h).2⟩
  · exact ⟨⟨rfl, (tLstE_ok (pos := default) S h).1⟩, (tLstE_ok S h).2⟩
  · exact ⟨⟨rfl, (tSub_ok (pos := default) S h).1⟩, (tSub_ok S h).2⟩
  · exact ⟨⟨rfl, (tCall_ok (pos := default) (p := default) S h).1⟩, (tCall_ok S h).2⟩
  · exact ⟨⟨rfl, (tMeth_ok S h).1⟩, (tMeth_ok S h).2⟩
  · split at h
    · cases h
    rename_i x hx
    cases h
    obtain ⟨k1, tg, iter, ifs, rfl, k2⟩ := tComp_ok S hx
    exact ⟨⟨rfl, k1⟩, fun g cf X O => comp_good O (k2 g cf X O)⟩
  · exact ⟨⟨rfl, (tJoin_ok (pos := default) S h).1⟩, (tJoin_ok S h).2⟩
  · rename_i p
    cases h
    refine ⟨⟨rfl, rfl⟩, fun g cf X O => good_val (f := vDict0 (C.tk.contains p.line)) (by simp only [evX]) ?_ trivial⟩
    cases C.tk.contains p.line
    · exact pev_dict0K
    · exact pev_dict0T
  · cases h
def trE : Nat → Rc
  | 0 => fun _ _ => none
  | n + 1 => trE1 (trE n)
theorem trE_ok : ∀ n, Sd (trE n)
  | 0 => fun C e r h => by cases h
  | n + 1 => trE1_ok (trE_ok n)
end
end Kg
/-! PvTr3: statements, defs. -/
namespace Kg
open PySem PySem.Spec PyProof.Rows L2

abbrev Rs := SC → List Stmt → Option (List S)
/-- the body of a def: what its context gives -/
structure OkS (g : Nat → Addr) (cf : CF) (X : Cx) (C : SC) : Prop extends Ok g cf X C where
  own : PassesOwn (model X.prog X.w) X.A X.env X.xe
  kind : X.env.scope.kind = .function
def SdS (rec : Rs) : Prop := ∀ C ss r, rec C ss = some r → ∀ g cf X, OkS g cf X C → PSsv X g ss (exSs cf r)
def Sd1 (f : SC → Stmt → Option S) : Prop := ∀ C s r, f C s = some r → ∀ g cf X, OkS g cf X C → PSv X g s (exS cf r)

section
variable {g : Nat → Addr} {cf : CF} {X : Cx} {C : SC} {rec : Rc} {rs : Rs} {pos : Pos}
def noSw (e : Expr) : Bool := match e with | .ListComp .. => false | .SetComp .. => false | .DictComp .. => false | _ => true
theorem sw_no {e : Expr} {t : Option Expr} {l : Nat} {env : Env} (h : noSw e = true) : swapsWith e t l env = pure false := by
  cases e <;> first | (cases h; done) | rfl
def isNm : Expr → Bool | .Name .. => true | _ => false
theorem sw_other {elt : Expr} {gs : List Comprehension} {sc : Scope} {p : Pos} {t : Expr} {l : Nat} {env : Env} (h : isNm t = false) : swapsWith (.ListComp elt gs sc p) (some t) l env = pure false := by
  cases t <;> first | (cases h; done) | rfl
/-- an assignment to a name -/
def tAsgN (rec : Rc) (C : SC) (x : Str) (py : Pos) (e : Expr) (pos : Pos) : Option S := if locB C.sc x = true ∧ (C.fn x = true ∨ lclB C.sc x = true) then (match slot C x with
  | none => none
  | some i => match e with
    | .ListComp elt gs scope p => (match tComp rec C elt gs scope with
      | none => none
      | some r => if lclB C.sc x = true ∧ (py.line == p.line) = true ∧ (scope.names.any fun (n, k) => n == x && (k == .local || k == .cell)) = false then some (.asg (.nm i) r)
        else if (py.line == p.line) = false then some (.asg (.nm i) r) else none)
    | e => if noSw e = true then (match rec C e with | none => none | some r => some (.asg (.nm i) r.1)) else none) else none
theorem tAsgN_ok {x : Str} {py : Pos} {e : Expr} {r} (S : Sd rec) (h : tAsgN rec C x py e pos = some r) : ∀ g cf X, OkS g cf X C → PSv X g (.Assign [.Name x py] e pos) (exS cf r) := by
  unfold tAsgN at h
  split at h
  · rename_i hc
    split at h
    · cases h
    rename_i i hi
    split at h
    · rename_i elt gs scope p
      split at h
      · cases h
      rename_i y hy
      obtain ⟨k1, tg, iter, ifs, rfl, k2⟩ := tComp_ok S hy
      split at h
      · rename_i hsw
        cases h
        intro g cf X O
        obtain ⟨z, t, k, its, cs, rfl, h1, h2, h3, h4, h5, h6, h7⟩ := (k2 g cf X O.toOk).ex
        have ev : (evX cf (.comp z t k its cs ((ownOf C scope.names).map (·.2)))).1 = vComp (evX cf z).1 t k (evs cf its) (condOf (evt cf cs)) ((ownOf C scope.names).map (·.2)) := by simp only [evX]; rfl
        simp only [exS]
        rw [ev]
        have hloc := lcl_ok hsw.1 O.toOk
        exact psv_setComp O.calm O.nd (slot_ok hi O.toOk) hloc (sw_true O.kind hloc hsw.2.1 hsw.2.2) h1 h2 h3 h4 h5 h6 h7
      · split at h
        · rename_i hnl
          cases h
          intro g cf X O
          simp only [exS]
          refine psv_set O.nd (slot_ok hi O.toOk) (loc_ok hc.1 O.toOk) (comp_good O.toOk (k2 g cf X O.toOk)).ev ?_ ?_
          · show (pure _ : Sem Bool) = pure false
            have : (py.line == (Expr.ListComp elt [⟨tg, iter, ifs, 0⟩] scope p).pos.line) = false := hnl
            rw [this]
            simp
          · rcases hc.2 with k | k
            · exact .inl (by rw [O.fn]; exact k)
            · exact .inr (lcl_ok k O.toOk)
        · cases h
    · split at h
      · rename_i hsw
        split at h
        · cases h
        rename_i y hy
        cases h
        intro g cf X O
        simp only [exS]
        refine psv_set O.nd (slot_ok hi O.toOk) (loc_ok hc.1 O.toOk) ((S _ _ _ hy).2 g cf X O.toOk).ev (sw_no hsw) ?_
        rcases hc.2 with k | k
        · exact .inl (by rw [O.fn]; exact k)
        · exact .inr (lcl_ok k O.toOk)
      · cases h
  · cases h
def isTp : Expr → Bool | .Tuple .. => true | .List .. => true | _ => false
theorem swp_no {tg e : Expr} {env : Env} (h : isTp e = false) : swappedStores [tg] e env = pure none := by
  cases e <;> first | (cases h; done) | (cases tg <;> rfl)
/-- an assignment to something else -/
def tAsgT (rec : Rc) (C : SC) (tg e : Expr) : Option S := match tTg C 20 tg with
  | none => none
  | some t => if isNm tg = false ∧ isTp e = false ∧ (noSw e = true ∨ isLc e = true) then (match rec C e with | none => none | some r => some (.asg t r.1)) else none
theorem lc_eq {e : Expr} (h : isLc e = true) : ∃ a b c d, e = .ListComp a b c d := by
  unfold isLc at h
  split at h
  · exact ⟨_, _, _, _, rfl⟩
  · cases h
theorem tAsgT_ok {tg e : Expr} {r} (S : Sd rec) (h : tAsgT rec C tg e = some r) : ∀ g cf X, OkS g cf X C → PSv X g (.Assign [tg] e pos) (exS cf r) := by
  unfold tAsgT at h
  split at h
  · cases h
  rename_i t ht
  split at h
  · rename_i hc
    split at h
    · cases h
    rename_i y hy
    cases h
    intro g cf X O
    simp only [exS]
    obtain ⟨k1, pk⟩ := (tTg_ok 20).1 _ _ ht
    refine psv_asg ((S _ _ _ hy).2 g cf X O.toOk).ev (k1 g cf X O.toOk) ?_ (swp_no hc.2.1) (by cases tg <;> first | (cases pk; done) | rfl)
    show swapsWith e (some tg) pos.line X.env = pure false
    rcases hc.2.2 with k | k
    · exact sw_no k
    · obtain ⟨a, b, c, d, rfl⟩ := lc_eq k
      exact sw_other hc.1
  · cases h
def tSetix (rec : Rc) (C : SC) (o i e : Expr) : Option S := if isTp e = false ∨ True then (if noSw e = true ∨ isLc e = true then (match rec C o with
  | none => none
  | some x => match rec C i with
    | none => none
    | some y => match rec C e with | none => none | some z => some (.setix x.1 y.1 z.1)) else none) else none
theorem swp_sub {o i e : Expr} {p : Pos} {env : Env} : swappedStores [.Subscript o i p] e env = pure none := by
  cases e <;> rfl
theorem asg_sub {o i : Expr} {p : Pos} {env : Env} (h : plainK i = true) : ∀ v, assign (.Subscript o i p) env v = (do
      let ov ← holding [v] (eval o env)
      let iv ← holding [v, ov] (eval i env)
      standAt p
      holding [v, ov, iv] (setItem ov iv v)
      release [v, ov, iv] []) := by
  intro v
  cases i <;> first | (cases h; done) | rfl
theorem tSetix_ok {o i e : Expr} {p : Pos} {r} (S : Sd rec) (h : tSetix rec C o i e = some r) : ∀ g cf X, OkS g cf X C → PSv X g (.Assign [.Subscript o i p] e pos) (exS cf r) := by
  unfold tSetix at h
  rw [if_pos (.inr trivial)] at h
  split at h
  · rename_i hc
    split at h
    · cases h
    rename_i x hx
    split at h
    · cases h
    rename_i y hy
    split at h
    · cases h
    rename_i z hz
    cases h
    intro g cf X O
    simp only [exS]
    refine psv_setix O.un ((S _ _ _ hz).2 g cf X O.toOk).ev ((S _ _ _ hx).2 g cf X O.toOk).ev ((S _ _ _ hy).2 g cf X O.toOk).ev (asg_sub (S _ _ _ hy).1.1) ?_ swp_sub rfl
    show swapsWith e (some (.Subscript o i p)) pos.line X.env = pure false
    rcases hc with k | k
    · exact sw_no k
    · obtain ⟨a, b, c, d, rfl⟩ := lc_eq k
      exact sw_other rfl
  · cases h
def tAugS (rec : Rc) (C : SC) (x : Str) (op : Operator) (e : Expr) : Option S := if locB C.sc x = true ∧ (C.fn x = true ∨ lclB C.sc x = true) then (match slot C x with
  | none => none
  | some i => match rec C e with
    | none => none
    | some y => match op with | .Add => some (.aug i .add y.1) | .Sub => some (.aug i .sub y.1) | _ => none) else none
theorem tAugS_ok {x : Str} {op : Operator} {e : Expr} {p : Pos} {r} (S : Sd rec) (h : tAugS rec C x op e = some r) : ∀ g cf X, OkS g cf X C → PSv X g (.AugAssign (.Name x p) op e pos) (exS cf r) := by
  unfold tAugS at h
  split at h
  · rename_i hc
    split at h
    · cases h
    rename_i i hi
    split at h
    · cases h
    rename_i y hy
    have hf : ∀ {g cf X}, OkS g cf X C → X.fn x = true ∨ X.env.scope.names.lookup x = some .local := fun {g cf X} O => by
      rcases hc.2 with k | k
      · exact .inl (by rw [O.fn]; exact k)
      · exact .inr (lcl_ok k O.toOk)
    split at h
    · cases h
      intro g cf X O
      simp only [exS]
      exact psv_aug (op := .add) (.inl rfl) O.nd (slot_ok hi O.toOk) (loc_ok hc.1 O.toOk) ((S _ _ _ hy).2 g cf X O.toOk).ev (hf O)
    · cases h
      intro g cf X O
      simp only [exS]
      exact psv_aug (op := .sub) (.inr rfl) O.nd (slot_ok hi O.toOk) (loc_ok hc.1 O.toOk) ((S _ _ _ hy).2 g cf X O.toOk).ev (hf O)
    · cases h
  · cases h
def trS1 (rec : Rc) (rs : Rs) (C : SC) (s : Stmt) : Option S := match s with
  | .Assign [.Name x py] e p => tAsgN rec C x py e p
  | .Assign [.Subscript o i _] e _ => tSetix rec C o i e
  | .Assign [tg] e _ => tAsgT rec C tg e
  | .AugAssign (.Name x _) op e _ => tAugS rec C x op e
  | .Expr (.Constant (.str _) _ _) _ => some .pass
  | .Expr e _ => if noSw e = true then (match rec C e with | none => none | some r => some (.expr r.1)) else none
  | .Return none _ => some .retN
  | .Return (some e) _ => (match rec C e with | none => none | some r => some (.ret r.1))
  | .If t a b _ => (match rec C t with
    | none => none
    | some x => if x.2 = true then (match rs C a with
      | none => none
      | some p => match rs C b with | none => none | some q => some (.ifs x.1 p q)) else none)
  | .For tg it b [] _ => (match tIt rec C tg it with
    | none => none
    | some (k, its) => match tTg C 20 tg with
      | none => none
      | some t => match rs C b with | none => none | some p => some (.fr t k its p))
  | .While t b [] _ => (match rec C t with
    | none => none
    | some x => if x.2 = true then (match rs C b with | none => none | some p => some (.whl x.1 p)) else none)
  | .Pass _ => some .pass
  | .Break _ => some .brk
  | .Continue _ => some .cont
  | _ => none
theorem trS1_ok (S : Sd rec) (T : SdS rs) : Sd1 (trS1 rec rs) := by
  intro C s r h
  unfold trS1 at h
  split at h
  · exact tAsgN_ok S h
  · exact tSetix_ok S h
  · exact tAsgT_ok S h
  · exact tAugS_ok S h
  · cases h
    intro g cf X O
    simp only [exS]
    exact psv_doc
  · split at h
    · rename_i hs
      split at h
      · cases h
      rename_i y hy
      cases h
      intro g cf X O
      simp only [exS]
      exact psv_expr ((S _ _ _ hy).2 g cf X O.toOk).ev (sw_no hs)
    · cases h
  · cases h
    intro g cf X O
    simp only [exS]
    exact psv_retN
  · split at h
    · cases h
    rename_i y hy
    cases h
    intro g cf X O
    simp only [exS]
    exact psv_ret ((S _ _ _ hy).2 g cf X O.toOk).ev
  · split at h
    · cases h
    rename_i x hx
    split at h
    · rename_i hb
      split at h
      · cases h
      rename_i p hp
      split at h
      · cases h
      rename_i q hq
      cases h
      intro g cf X O
      simp only [exS]
      exact psv_if (((S _ _ _ hx).2 g cf X O.toOk).tv hb) (T _ _ _ hp g cf X O) (T _ _ _ hq g cf X O)
    · cases h
  · split at h
    · cases h
    rename_i k its hit
    split at h
    · cases h
    rename_i t ht
    split at h
    · cases h
    rename_i p hp
    cases h
    intro g cf X O
    simp only [exS]
    exact psv_for O.own O.calm ((tIt_ok S hit).2 g cf X O.toOk) (((tTg_ok 20).1 _ _ ht).1 g cf X O.toOk) (T _ _ _ hp g cf X O) ((tIt_ok S hit).1 X.env)
  · split at h
    · cases h
    rename_i x hx
    split at h
    · rename_i hb
      split at h
      · cases h
      rename_i p hp
      cases h
      intro g cf X O
      simp only [exS]
      exact psv_while O.own (((S _ _ _ hx).2 g cf X O.toOk).tv hb) (T _ _ _ hp g cf X O)
    · cases h
  · cases h
    intro g cf X O
    simp only [exS]
    exact psv_pass
  · cases h
    intro g cf X O
    simp only [exS]
    exact psv_brk
  · cases h
    intro g cf X O
    simp only [exS]
    exact psv_cnt
  · cases h
def trSL (f : SC → Stmt → Option S) (C : SC) : List Stmt → Option (List S)
  | [] => some []
  | s :: ss => match f C s with
    | none => none
    | some x => match trSL f C ss with | none => none | some xs => some (x :: xs)
theorem trSL_ok {f : SC → Stmt → Option S} (F : Sd1 f) : SdS (trSL f) := by
  intro C ss
  induction ss with
  | nil =>
    intro r h g cf X O
    cases h
    simp only [exSs]
    exact pssv_nil
  | cons s ss ih =>
    intro r h g cf X O
    unfold trSL at h
    split at h
    · cases h
    rename_i x hx
    split at h
    · cases h
    rename_i xs hxs
    cases h
    simp only [exSs]
    exact pssv_cons (F _ _ _ hx g cf X O) (ih _ hxs g cf X O)
def trSs : Nat → Rs
  | 0 => fun _ _ => none
  | n + 1 => trSL (trS1 (trE (n + 30)) (trSs n))
theorem trSs_ok : ∀ n, SdS (trSs n)
  | 0 => fun C e r h => by cases h
  | n + 1 => trSL_ok (trS1_ok (trE_ok _) (trSs_ok n))
end

/-! ### defs -/
/-- a def of the text: its name, arguments, body, scope; the names (the parameters first), the parameters -/
structure FD where
  nm : Str
  ar : Arguments
  body : List Stmt
  scope : Scope
  N : List Str
  ps : List Str
  dfl : List He.Dv := []
def fnTab (fs : List FD) : List (Str × Nat × Nat) := fs.zipIdx.map fun p => (p.1.nm, p.2, p.1.ps.length)
def FD.sc (f : FD) (fns : List (Str × Nat × Nat)) (free : List Str) (tk : List Nat) : SC := ⟨f.N, f.scope, fun _ => true, fns, free, tk⟩
/-- what is seen of the text alone -/
structure FSt (fns : List (Str × Nat × Nat)) (free : List Str) (tk : List Nat) (f : FD) (d : Def) : Prop where
  S : FnScope f.N f.ps f.scope
  bd : ∀ (K : PySem.W.Frag) (fad : Addr) (fd : FuncData), FunD K f.nm f.nm f.ar f.body f.scope (f.dfl.map (He.Dv.v K)) [] fad fd → Binds K fd f.ps []
  tr : trSs 12 (f.sc fns free tk) f.body = some d.body
  nN : d.names = f.N.length
  nP : d.params = f.ps.length
structure FDOk (K : PySem.W.Frag) (mg : Str → Option Value) (fns : List (Str × Nat × Nat)) (free : List Str) (tk : List Nat) (f : FD) (d : Def) (fad : Addr) (fd : FuncData) : Prop extends FSt fns free tk f d where
  F : FunD K f.nm f.nm f.ar f.body f.scope (f.dfl.map (He.Dv.v K)) [] fad fd
  mg : mg f.nm = some (.ref fad)

variable {K : PySem.W.Frag} {g : Nat → Addr} {ρ ρ' : List Addr} {H H' : Hp} {st st' : Sto}
theorem start_en {xs : List PV} {vs : List V} {N : List Str} (r : RVs K ρ H xs vs) (h : vs.length ≤ N.length) : REn K ρ H (startE N.length xs) (L2.start N vs) := by
  have hl := r.length
  refine ⟨by unfold startE L2.start; simp [hl], fun i x e => ?_⟩
  unfold startE at e
  have hi : i < xs.length := by
    by_cases hi : i < xs.length
    · exact hi
    · rw [List.getElem?_append_right (by simpa using hi)] at e
      rw [List.getElem?_replicate] at e
      split at e <;> cases e
  rw [List.getElem?_append_left (by simpa using hi), List.getElem?_map] at e
  obtain ⟨y, hy, e2⟩ := Option.map_eq_some_iff.mp e
  cases e2
  obtain ⟨v, hv, rv⟩ := r.get hy
  refine ⟨v, ?_, rv⟩
  unfold L2.start
  rw [List.getElem?_append_left (by simp; omega), List.getElem?_map, hv]
  rfl
theorem fn_level {P : Program} {w : World} {mg : Str → Option Value} {base : Heap} {fs : List FD} {ds : List Def} {free : List Str} {tk : List Nat} {fa : Nat → Addr} {fd : Nat → FuncData} (hl : fs.length = ds.length)
    (h : ∀ (i : Nat) (f : FD) (d : Def), fs[i]? = some f → ds[i]? = some d → FDOk K mg (fnTab fs) free tk f d (fa i) (fd i))
    (hfree : ∀ x ∈ free, mg x = none) : ∀ (n i : Nat) (f : FD), fs[i]? = some f → FnOk P w K mg base CX0 (n + 88) (fa i) (fd i) f.ps (spC K g (callF ds n) i f.ps.length)
  | 0, i, f, hf => ⟨fun vs H Q E q => q.1, fun A outer s H args us vs Q E hr e0 hb r hsp => by
      obtain ⟨_, ρ, st, xs, v, st', _, _, e, _⟩ := hsp
      cases e⟩
  | n + 1, i, f, hf => by
    have hi : i < ds.length := by rw [← hl]; exact (List.getElem?_eq_some_iff.mp hf).1
    have hd : ds[i]? = some ds[i] := List.getElem?_eq_getElem hi
    have D := h i f _ hf hd
    refine D.F.ok (k := n + 88) D.S (fun vs H Q E q => q.1) fun cdv A outer s H vs Q E hr hsp => ?_
    obtain ⟨hlen, ρ, st, xs, v, st', S, R, e, q⟩ := hsp
    have O : OkS g (callF ds n) (cxOf CX0 P w K mg base f.N f.nm f.scope (fa i) cdv A outer s H E) (f.sc (fnTab fs) free tk) := by
      refine ⟨⟨rfl, rfl, rfl, rfl, D.S.nd, ?_, fun p hp => ?_, hfree⟩, passes_of rfl, D.S.kind⟩
      · have := hr.un
        show (A.deeper (envOfC f.nm f.scope s.heap.objs.size (fa i) cdv)).units + 1600 < cLine
        omega
      · have hp : p ∈ fnTab fs := hp
        unfold fnTab at hp
        obtain ⟨⟨f2, j⟩, hj, rfl⟩ := List.mem_map.mp hp
        have hj2 : fs[j]? = some f2 := by
          have := List.mem_zipIdx' hj
          exact (List.getElem?_eq_some_iff.mpr ⟨this.1, this.2.symm⟩)
        have hj3 : j < ds.length := by rw [← hl]; exact (List.getElem?_eq_some_iff.mp hj2).1
        have D2 := h j f2 _ hj2 (List.getElem?_eq_getElem hj3)
        exact ⟨fd j, fa j, f2.ps, n + 88, fn_level hl h hfree n j f2 hj2, hr, D2.mg, D2.F.kp, D2.bd _ _ _ D2.F, rfl⟩
    refine ⟨_, trSs_ok 12 _ _ _ D.tr g (callF ds n) _ O, ?_⟩
    unfold callF at e
    rw [hd] at e
    simp only at e
    split at e
    · rename_i hxs
      have hpl : f.ps.length ≤ f.N.length := by have := congrArg List.length D.S.pre; rw [List.length_take] at this; omega
      have N0 := start_en (N := f.N) R (by rw [hlen]; exact hpl)
      rw [D.nN] at e
      split at e
      · rename_i e1 s1 he
        cases e
        exact ⟨ρ, _, st, .nx, _, _, S, N0, he, fun ρ' H' σ' E' S' N' => q _ _ _ E' S' .non⟩
      · rename_i v1 e1 s1 he
        cases e
        exact ⟨ρ, _, st, .rt _, _, _, S, N0, he, fun ρ' H' σ' E' S' N' w R' => q _ _ _ E' S' R'⟩
      · cases e
    · cases e
end Kg
/-! PvEnd: a law's head. -/
namespace Kg
open PySem PySem.Spec PyProof.Rows L2
variable {K : PySem.W.Frag} {g : Nat → Addr}
def FD.toD (f : FD) : He.DefD := ⟨(f.nm, none), f.nm, f.nm, f.ar, f.body, f.scope, f.dfl, []⟩
def faOf (fs : List FD) (free : List Str) : List He.Fa := fs.map (fun f => .glo f.nm) ++ free.map .free
theorem ro_only {H : Hp} {a : Addr} {xs : List V} (o : Only H) (h : SqL K H a xs) : Ro K H a xs := by
  rcases h with (h | h) | h
  · rcases o a with z | ⟨o, ys, z⟩ <;> (rw [z] at h; cases h)
  · exact .inl h
  · exact .inr h
theorem ints_of {ρ : List Addr} {H : Hp} : ∀ ns : List Int, RVs K ρ H (ns.map PV.int) (ns.map V.int)
  | [] => .nil
  | n :: ns => .cons (.int n) (ints_of ns)
theorem paired_at {α β : Type} {P : α → β → Prop} : ∀ {as : List α} {bs : List β}, Paired P as bs → as.length = bs.length ∧ ∀ (i : Nat) a b, as[i]? = some a → bs[i]? = some b → P a b
  | _, _, .nil => ⟨rfl, fun i a b h => by simp at h⟩
  | _, _, .cons h t => by
    obtain ⟨l, k⟩ := paired_at t
    refine ⟨by simp [l], fun i a b h1 h2 => ?_⟩
    cases i with
    | zero => simp at h1 h2; subst h1 h2; exact h
    | succ i => exact k i a b (by simpa using h1) (by simpa using h2)
theorem facts_of {P : Program} {w : World} {mg : Str → Option Value} {h : Heap} {fs : List FD} {ds : List Def} {free : List Str} {tk : List Nat} (hst : Paired (FSt (fnTab fs) free tk) fs ds) (X : K.In h) (G : h.Ns mainGlobals mg) (c : He.SaysD (faOf fs free) (fs.map FD.toD) K)
    (n i : Nat) (f : FD) (hf : fs[i]? = some f) : ∃ fd, FunD K f.nm f.nm f.ar f.body f.scope (f.dfl.map (He.Dv.v K)) [] (He.ga K f.nm) fd ∧ FSt (fnTab fs) free tk f (ds.getD i ⟨0, 0, []⟩) ∧ ∀ base : Heap, FnOk P w K mg base CX0 (n + 88) (He.ga K f.nm) fd f.ps (spC K (fun _ => 0) (callF ds n) i f.ps.length) := by
  obtain ⟨hl, hat⟩ := paired_at hst
  have fun_at : ∀ (i : Nat), ∃ fd : FuncData, ∀ f, fs[i]? = some f → FunD K f.nm f.nm f.ar f.body f.scope (f.dfl.map (He.Dv.v K)) [] (He.ga K f.nm) fd := fun i => by
    cases e : fs[i]? with
    | none => exact ⟨PySem.W.fnOf default default default default default .none .none .none .none none .none .none, fun f z => by cases z⟩
    | some f =>
      obtain ⟨fd, F⟩ := c.def_ i (d := f.toD) (by rw [List.getElem?_map, e]; rfl)
      exact ⟨fd, fun f' z => by cases z; exact F⟩
  obtain ⟨fd, hfd⟩ := Classical.axiomOfChoice fun_at
  have hmg : ∀ (i : Nat) (f : FD), fs[i]? = some f → mg f.nm = some (.ref (He.ga K f.nm)) := fun i f e => He.glo_ok X G (c.fact i (f := .glo f.nm) (by
    unfold faOf
    have hi : i < fs.length := (List.getElem?_eq_some_iff.mp e).1
    rw [List.getElem?_append_left (by simpa using hi), List.getElem?_map, e]
    rfl))
  have hfree : ∀ x ∈ free, mg x = none := fun x hx => by
    obtain ⟨j, hj, e⟩ := List.mem_iff_getElem.mp hx
    refine He.free_ok X G (c.fact (fs.length + j) (f := .free x) ?_)
    unfold faOf
    rw [List.getElem?_append_right (by simp), List.length_map, Nat.add_sub_cancel_left, List.getElem?_map, List.getElem?_eq_getElem hj, e]
    rfl
  have hi : i < ds.length := by rw [← hl]; exact (List.getElem?_eq_some_iff.mp hf).1
  refine ⟨fd i, hfd i f hf, ?_, fun base => ?_⟩
  · rw [List.getD_eq_getElem?_getD, List.getElem?_eq_getElem hi]
    exact hat i f _ hf (List.getElem?_eq_getElem hi)
  · have L := fn_level (P := P) (w := w) (K := K) (mg := mg) (base := base) (g := fun _ => 0) (fs := fs) (ds := ds) (free := free) (tk := tk) (fa := fun i => match fs[i]? with | some f => He.ga K f.nm | none => 0) (fd := fd) hl (fun i f d h1 h2 => ?_) hfree n i f hf
    · simp only [hf] at L
      exact L
    · refine ⟨hat i f d h1 h2, ?_, ?_⟩
      · simp only [h1]; exact hfd i f h1
      · simp only [h1]; exact hmg i f h1
/-- what the walk of the law asks -/
theorem law_facts {P : Program} {w : World} {mg : Str → Option Value} {h : Heap} {fs : List FD} {ds : List Def} {free : List Str} {tk : List Nat} {fa : Addr} (hst : Paired (FSt (fnTab fs) free tk) fs ds) (X : K.In h) (G : h.Ns mainGlobals mg) (c : He.SaysD (faOf fs free) (fs.map FD.toD) K)
    (n i m : Nat) (f : FD) (x : Str) (hf : fs[i]? = some f) (hps : f.ps = [x]) (hdf : f.dfl = []) (hbd : ∀ (kV doc pm : Value) (an : Option Addr) (cdv ct : Value) (us : List Value), us.length = f.ps.length → bindArgs (PySem.W.fnOf f.nm f.nm f.ar f.body f.scope .none kV doc pm an cdv ct) ⟨us, []⟩ = pure (f.ps.zip us)) (hfa : mg f.nm = some (.ref fa)) (law : ∀ ns : List Int, ns.length ≤ m → ∃ st, callF ds n i [.rol (ns.map PV.int)] [] = some (.bl true, st)) :
    ∃ (fd : FuncData) (sp : Sp), (∀ (s : Shared) (u : Value), BindsTo s fd ⟨[u], []⟩ [(x, u)]) ∧
      (∀ (H : Hp) (a : Addr) (ns : List Int), ns.length ≤ m → Only H → SqL K H a (ns.map V.int) → sp [.ref a] H (fun v _ => v = .bl true) fun _ _ _ => False) ∧
      ∀ base : Heap, K.In base → base.Ns mainGlobals mg → FnOk P w K mg base CX0 (n + 88) fa fd [x] sp := by
  obtain ⟨fd, F, S, L⟩ := facts_of (P := P) (w := w) hst X G c n i f hf
  have e : fa = He.ga K f.nm := by
    have hmg : mg f.nm = some (.ref (He.ga K f.nm)) := He.glo_ok X G (c.fact i (f := .glo f.nm) (by
      unfold faOf
      have hi : i < fs.length := (List.getElem?_eq_some_iff.mp hf).1
      rw [List.getElem?_append_left (by simpa using hi), List.getElem?_map, hf]
      rfl))
    rw [hfa] at hmg
    cases hmg
    rfl
  subst e
  refine ⟨fd, _, fun s u => ?_, fun H a ns hl o q => ?_, fun base _ _ => hps ▸ L base⟩
  · rw [hdf] at F
    have := FunD.bindsA (ps := f.ps) F hbd s [u] (by rw [hps]; rfl)
    rw [hps] at this
    exact this
  · obtain ⟨st, hc⟩ := law ns hl
    refine ⟨by first | rfl | (rw [hps]; rfl), [], [], [.rol (ns.map PV.int)], .bl true, st, ⟨rfl, fun i j a h => by simp at h, fun n o a h => by simp at h⟩, .cons (.rol (ro_only o q) (ints_of ns)) .nil, hc, fun ρ' H' w E' S' R' => ?_⟩
    cases R'
    rfl
end Kg
/-! PvWp: what is wanted behind a run of mine, as equations: for plain laws. -/
namespace Kg
open PySem

def wO {α : Type} (r : R α) (Q : α → Sto → Prop) : Prop := match r with | some (v, s) => Q v s | none => False
def wF (r : RS_) (Q : Fl → En → Sto → Prop) : Prop := match r with | some (f, e, s) => Q f e s | none => False
def wA {α : Type} (r : Option α) (Q : α → Prop) : Prop := match r with | some v => Q v | none => False

theorem wO_mono {α : Type} {r : R α} {Q Q' : α → Sto → Prop} (h : wO r Q) (k : ∀ v s, Q v s → Q' v s) : wO r Q' := by
  unfold wO at *
  cases r with
  | none => exact h
  | some p => exact k _ _ h
theorem wF_mono {r : RS_} {Q Q' : Fl → En → Sto → Prop} (h : wF r Q) (k : ∀ f e s, Q f e s → Q' f e s) : wF r Q' := by
  unfold wF at *
  cases r with
  | none => exact h
  | some p => exact k _ _ _ h
theorem wO_some {α : Type} {v : α} {s : Sto} {Q : α → Sto → Prop} : wO (some (v, s)) Q = Q v s := rfl
theorem wO_none {α : Type} {Q : α → Sto → Prop} : wO none Q = False := rfl
theorem wF_some {f : Fl} {e : En} {s : Sto} {Q : Fl → En → Sto → Prop} : wF (some (f, e, s)) Q = Q f e s := rfl
theorem wA_some {α : Type} {v : α} {Q : α → Prop} : wA (some v) Q = Q v := rfl
theorem wA_none {α : Type} {Q : α → Prop} : wA none Q = False := rfl
theorem wO_ite {α : Type} {c : Prop} [Decidable c] {a : R α} {Q : α → Sto → Prop} : wO (if c then a else none) Q = (c ∧ wO a Q) := by
  by_cases h : c <;> simp [h, wO_none]
theorem wA_ite {α : Type} {c : Prop} [Decidable c] {a : Option α} {Q : α → Prop} : wA (if c then a else none) Q = (c ∧ wA a Q) := by
  by_cases h : c <;> simp [h, wA_none]
theorem wA_map {α β : Type} {f : α → β} {r : Option α} {Q : β → Prop} : wA (r.map f) Q = wA r fun x => Q (f x) := by
  cases r <;> rfl
theorem wO_ex {α : Type} {r : R α} {Q : α → Sto → Prop} : wO r Q ↔ ∃ v s, r = some (v, s) ∧ Q v s := by
  cases r with
  | none => simp [wO_none]
  | some p => exact ⟨fun h => ⟨p.1, p.2, rfl, h⟩, fun ⟨v, s, e, h⟩ => by cases e; exact h⟩

section
variable {cf : CF} {env : En} {st : Sto} {a b : VF} {t t' : TF} {fs fl fh : En → Sto → R (List PV)} {Q : PV → Sto → Prop} {QB : Bool → Sto → Prop} {QL : List PV → Sto → Prop}
theorem w_bin {o : Bop} : wO (vBin o a b env st) Q = wO (a env st) fun x s => wO (b env s) fun y s => wO (bop o x y s) Q := by
  unfold vBin
  cases a env st with
  | none => rfl
  | some p => dsimp only [wO]; cases b env p.2 <;> rfl
theorem w_neg : wO (vNeg a env st) Q = wO (a env st) fun x s => match x with | .int i => Q (.int (-i)) s | _ => False := by
  unfold vNeg
  cases a env st with
  | none => rfl
  | some p => obtain ⟨x, s⟩ := p; cases x <;> rfl
theorem w_cmp {o : Cop} : wO (vCmp o a b env st) Q = wO (a env st) fun x s => wO (b env s) fun y s => wA (cop o x y s) fun k => Q (.bl k) s := by
  unfold vCmp
  cases a env st with
  | none => rfl
  | some p =>
    dsimp only [wO]
    cases b env p.2 with
    | none => rfl
    | some q => dsimp only [wO]; cases cop o p.1 q.1 q.2 <;> rfl
theorem w_isn {n : Bool} : wO (vIsn n a env st) Q = wO (a env st) fun x s => Q (.bl (isNon x != n)) s := by
  unfold vIsn
  cases a env st <;> rfl
theorem w_isb {n k : Bool} : wO (vIsb n k a env st) Q = wO (a env st) fun x s => Q (.bl (isBl k x != n)) s := by
  unfold vIsb
  cases a env st <;> rfl
theorem w_and : wO (vAnd a b env st) Q = wO (a env st) fun x s => wA (tru x s) fun k => if k = true then wO (b env s) Q else Q x s := by
  unfold vAnd
  cases a env st with
  | none => rfl
  | some p =>
    dsimp only [wO]
    cases tru p.1 p.2 with
    | none => rfl
    | some k => cases k <;> rfl
theorem w_or : wO (vOr a b env st) Q = wO (a env st) fun x s => wA (tru x s) fun k => if k = true then Q x s else wO (b env s) Q := by
  unfold vOr
  cases a env st with
  | none => rfl
  | some p =>
    dsimp only [wO]
    cases tru p.1 p.2 with
    | none => rfl
    | some k => cases k <;> rfl
theorem w_not : wO (vNot a env st) Q = wO (a env st) fun x s => wA (tru x s) fun k => Q (.bl (!k)) s := by
  unfold vNot
  cases a env st with
  | none => rfl
  | some p => dsimp only [wO]; cases tru p.1 p.2 <;> rfl
theorem w_ife : wO (vIfe t a b env st) Q = wO (t env st) fun k s => if k = true then wO (a env s) Q else wO (b env s) Q := by
  unfold vIfe
  cases t env st with
  | none => rfl
  | some p => obtain ⟨k, s⟩ := p; cases k <;> rfl
theorem w_tup : wO (vTup fs env st) Q = wO (fs env st) fun xs s => xs.length ≤ sizeLine ∧ Q (.tup xs) s := by
  unfold vTup
  cases fs env st with
  | none => rfl
  | some p => dsimp only [wO]; by_cases h : p.1.length ≤ sizeLine <;> simp [h]
theorem w_lst : wO (vLst fs env st) Q = wO (fs env st) fun xs s => xs.length ≤ sizeLine ∧ Q (.ref s.length) (s ++ [.lst xs]) := by
  unfold vLst
  cases fs env st with
  | none => rfl
  | some p => dsimp only [wO]; by_cases h : p.1.length ≤ sizeLine <;> simp [h]
theorem w_star : wO (vStar a env st) Q = wO (a env st) fun x s => wA (sqOf s x) fun ys => Q (.tup ys) s := by
  unfold vStar
  cases a env st with
  | none => rfl
  | some p => dsimp only [wO]; cases sqOf p.2 p.1 <;> rfl
theorem w_ix : wO (vIx a b env st) Q = wO (a env st) fun x s => wO (b env s) fun y s => wA (ixV x y s) fun v => Q v s := by
  unfold vIx
  cases a env st with
  | none => rfl
  | some p =>
    dsimp only [wO]
    cases b env p.2 with
    | none => rfl
    | some q => dsimp only [wO]; cases ixV p.1 q.1 q.2 <;> rfl
theorem w_sli : wO (vSli a fl fh env st) Q = wO (a env st) fun x s => wO (fl env s) fun l s => wO (fh env s) fun h s => wA (sxI l) fun l' => wA (sxI h) fun h' => wO (slV x l' h' s) Q := by
  unfold vSli
  cases a env st with
  | none => rfl
  | some p =>
    dsimp only [wO]
    cases fl env p.2 with
    | none => rfl
    | some q =>
      dsimp only [wO]
      cases fh env q.2 with
      | none => rfl
      | some r =>
        dsimp only [wO]
        cases sxI q.1 with
        | none => rfl
        | some l' => dsimp only [wA]; cases sxI r.1 <;> rfl
theorem w_call {f : Nat} : wO (vCall cf f fs env st) Q = wO (fs env st) fun xs s => wO (cf f xs s) Q := by
  unfold vCall
  cases fs env st <;> rfl
theorem w_bi {k : Bi} : wO (vBi k fs env st) Q = wO (fs env st) fun xs s => wO (biV k xs s) Q := by
  unfold vBi
  cases fs env st <;> rfl
theorem w_met {m : Me} : wO (vMet m a fs env st) Q = wO (a env st) fun x s => kindM m x s = true ∧ wO (fs env s) fun xs s => wO (meV m x xs s) Q := by
  unfold vMet
  cases a env st with
  | none => rfl
  | some p =>
    dsimp only [wO]
    by_cases h : kindM m p.1 p.2 = true
    · simp only [h, if_true, true_and]; cases fs env p.2 <;> rfl
    · simp [h]
theorem w_isi {ts : List Ty} : wO (vIsi a ts env st) Q = wO (a env st) fun x s => wA (tyAny x s ts) fun k => Q (.bl k) s := by
  unfold vIsi
  cases a env st with
  | none => rfl
  | some p => dsimp only [wO]; cases tyAny p.1 p.2 ts <;> rfl
theorem w_comp {g : Tg} {k : ItK} {own : List Nat} : wO (vComp a g k fs t own env st) Q = wO (fs env st) fun vs s => wA (iterV k vs s) fun it => wO (compL it.chk g t a (wipeE env own) it.items [] s) fun ys s => Q (.ref s.length) (s ++ [.lst ys]) := by
  unfold vComp
  cases fs env st with
  | none => rfl
  | some p =>
    dsimp only [wO]
    cases iterV k p.1 p.2 with
    | none => rfl
    | some it => dsimp only [wA]; cases compL it.chk g t a (wipeE env own) it.items [] p.2 <;> rfl
theorem w_fstr : wO (vFstr fs env st) Q = wO (fs env st) fun xs s => wA (fmtAll xs) fun ts => wA (joinF ts Str.empty) fun y => Q (.str y) s := by
  unfold vFstr
  cases fs env st with
  | none => rfl
  | some p =>
    dsimp only [wO]
    cases fmtAll p.1 with
    | none => rfl
    | some ts => dsimp only [wA]; cases joinF ts Str.empty <;> rfl
theorem w_dict0 {k : Bool} : wO (vDict0 k env st) Q = Q (.ref st.length) (st ++ [if k then .dT [] else .dK []]) := rfl
theorem w_lvals : wO (vLvals a env st) Q = wO (a env st) fun x s => match x with | .ref n => (match s[n]? with | some (.dK kvs) => Q (.ref s.length) (s ++ [.lst (kvs.map (·.2))]) | _ => False) | _ => False := by
  unfold vLvals
  cases a env st with
  | none => rfl
  | some p =>
    obtain ⟨x, s⟩ := p
    cases x with
    | ref n =>
      dsimp only [wO]
      cases s[n]? with
      | none => rfl
      | some o => cases o <;> rfl
    | _ => rfl
theorem w_nil : wO (vNil env st) QL = QL [] st := rfl
theorem w_cons {k : Bool} : wO (vCons k a fs env st) QL = wO (a env st) fun x s => wO (fs env s) fun xs s => QL (spl k x ++ xs) s := by
  unfold vCons
  cases a env st with
  | none => rfl
  | some p => dsimp only [wO]; cases fs env p.2 <;> rfl
theorem w_tst : wO (tstOf a env st) QB = wO (a env st) fun x s => wA (tru x s) fun k => QB k s := by
  unfold tstOf
  cases a env st with
  | none => rfl
  | some p => dsimp only [wO]; cases tru p.1 p.2 <;> rfl
theorem w_tnot : wO (tNot t env st) QB = wO (t env st) fun k s => QB (!k) s := by
  unfold tNot
  cases t env st <;> rfl
theorem w_tand : wO (tAnd t t' env st) QB = wO (t env st) fun k s => if k = true then wO (t' env s) QB else QB false s := by
  unfold tAnd
  cases t env st with
  | none => rfl
  | some p => obtain ⟨k, s⟩ := p; cases k <;> rfl
theorem w_tor : wO (tOr t t' env st) QB = wO (t env st) fun k s => if k = true then QB true s else wO (t' env s) QB := by
  unfold tOr
  cases t env st with
  | none => rfl
  | some p => obtain ⟨k, s⟩ := p; cases k <;> rfl
theorem w_var {i : Nat} {Q : PV → Sto → Prop} : wO (match env[i]? with | some (some v) => some (v, st) | _ => none) Q = wA (env[i]?.join) fun v => Q v st := by
  cases env[i]? with
  | none => rfl
  | some o => cases o <;> rfl
end
section
variable {cf : CF} {env : En} {st : Sto} {a b i : VF} {t : TF} {f f' : SF} {fs : En → Sto → R (List PV)} {Q : Fl → En → Sto → Prop}
theorem w_next : wF (sNext env st) Q = Q .nx env st := rfl
theorem w_seq : wF (sSeq f f' env st) Q = wF (f env st) fun fl e s => match fl with | .nx => wF (f' e s) Q | fl => Q fl e s := by
  unfold sSeq
  cases f env st with
  | none => rfl
  | some p => obtain ⟨fl, e, s⟩ := p; cases fl <;> rfl
theorem w_asg {g : Tg} : wF (sAsg g a env st) Q = wO (a env st) fun x s => wA (bindT g x env) fun e => Q .nx e s := by
  unfold sAsg
  cases a env st with
  | none => rfl
  | some p => dsimp only [wO]; cases bindT g p.1 env <;> rfl
theorem w_set : wF (sSet a i b env st) Q = wO (b env st) fun x s => wO (a env s) fun o s => wO (i env s) fun k s => wA (setV o k x s) fun s' => Q .nx env s' := by
  unfold sSet
  cases b env st with
  | none => rfl
  | some p =>
    dsimp only [wO]
    cases a env p.2 with
    | none => rfl
    | some q =>
      dsimp only [wO]
      cases i env q.2 with
      | none => rfl
      | some r => dsimp only [wO]; cases setV q.1 r.1 p.1 r.2 <;> rfl
theorem w_expr : wF (sExpr a env st) Q = wO (a env st) fun _ s => Q .nx env s := by
  unfold sExpr
  cases a env st <;> rfl
theorem w_ret : wF (sRet a env st) Q = wO (a env st) fun x s => Q (.rt x) env s := by
  unfold sRet
  cases a env st <;> rfl
theorem w_if : wF (sIf t f f' env st) Q = wO (t env st) fun k s => if k = true then wF (f env s) Q else wF (f' env s) Q := by
  unfold sIf
  cases t env st with
  | none => rfl
  | some p => obtain ⟨k, s⟩ := p; cases k <;> rfl
theorem w_for {g : Tg} {k : ItK} : wF (sFor g k fs f env st) Q = wO (fs env st) fun vs s => wA (iterV k vs s) fun it => wF (forL it.chk g f it.items env s) Q := by
  unfold sFor
  cases fs env st with
  | none => rfl
  | some p => dsimp only [wO]; cases iterV k p.1 p.2 <;> rfl
theorem w_aug {k : Nat} {o : Bop} : wF (sAug k o a env st) Q = wA (env[k]?.join) fun x => wO (a env st) fun y s => match x, y, o with
    | .int i, .int j, .add => Q .nx (env.set k (some (.int (i + j)))) s
    | .int i, .int j, .sub => Q .nx (env.set k (some (.int (i - j)))) s
    | _, _, _ => False := by
  unfold sAug
  cases env[k]? with
  | none => rfl
  | some x =>
    cases x with
    | none => rfl
    | some x =>
      show wF (match a env st with | none => none | some (y, s1) => _) Q = wA (some x) _
      dsimp only [wA]
      cases a env st with
      | none => rfl
      | some p =>
        obtain ⟨y, s⟩ := p
        dsimp only [wO]
        split
        · rfl
        · rfl
        · rename_i h1 h2
          cases x <;> cases y <;> cases o <;> first | rfl | exact absurd rfl (h1 _ _ rfl rfl) | exact absurd rfl (h2 _ _ rfl rfl)
theorem w_callF {P : List Def} {n k : Nat} {xs : List PV} {Q : PV → Sto → Prop} : wO (callF P (n + 1) k xs st) Q = wA (P[k]?) fun d => xs.length = d.params ∧ wF (exSs (callF P n) d.body (startE d.names xs) st) fun fl _ s => match fl with | .nx => Q .non s | .rt v => Q v s | _ => False := by
  have e : callF P (n + 1) k xs st = (match P[k]? with
    | none => none
    | some d => if xs.length = d.params then
        match exSs (callF P n) d.body (startE d.names xs) st with
        | some (.nx, _, s1) => some (.non, s1)
        | some (.rt v, _, s1) => some (v, s1)
        | _ => none
      else none) := rfl
  rw [e]
  cases P[k]? with
  | none => rfl
  | some d =>
    dsimp only [wA]
    by_cases h : xs.length = d.params
    · rw [if_pos h]
      simp only [h, true_and]
      cases exSs (callF P n) d.body (startE d.names xs) st with
      | none => rfl
      | some p => obtain ⟨fl, e, s⟩ := p; cases fl <;> rfl
    · rw [if_neg h]
      simp [h, wO_none]
/-! ### loops -/
/-- a walk, by an invariant over what is left -/
theorem w_forL {c : Option (Nat × Ob)} {g : Tg} {xs : List PV} (P : List PV → En → Sto → Prop) (hc : ∀ ys e s, P ys e s → itOk c s) (h0 : P xs env st)
    (step : ∀ y ys e s, P (y :: ys) e s → wA (bindT g y e) fun e1 => wF (f e1 s) fun fl e2 s2 => match fl with | .nx => P ys e2 s2 | .ct => P ys e2 s2 | .bk => Q .nx e2 s2 | .rt v => Q (.rt v) e2 s2)
    (done : ∀ e s, P [] e s → Q .nx e s) : wF (forL c g f xs env st) Q := by
  induction xs generalizing env st with
  | nil =>
    unfold forL
    rw [if_pos (hc _ _ _ h0)]
    exact done _ _ h0
  | cons y ys ih =>
    unfold forL
    rw [if_pos (hc _ _ _ h0)]
    have := step y ys env st h0
    cases hb : bindT g y env with
    | none => rw [hb] at this; exact this
    | some e1 =>
      rw [hb] at this
      dsimp only [wA] at this ⊢
      cases hf : f e1 st with
      | none => rw [hf] at this; exact this
      | some p =>
        obtain ⟨fl, e2, s2⟩ := p
        rw [hf] at this
        dsimp only [wF] at this ⊢
        cases fl with
        | nx => exact ih this
        | ct => exact ih this
        | bk => exact this
        | rt v => exact this
/-- a comprehension, likewise -/
theorem w_compL {c : Option (Nat × Ob)} {g : Tg} {xs : List PV} {elt : VF} {QL : List PV → Sto → Prop} (P : List PV → List PV → Sto → Prop) (hc : ∀ ys acc s, P ys acc s → itOk c s) {acc : List PV} (h0 : P xs acc st)
    (step : ∀ y ys acc s, P (y :: ys) acc s → wA (bindT g y env) fun e1 => wO (t e1 s) fun k s1 => if k = true then wO (elt e1 s1) fun v s2 => acc.length < sizeLine ∧ P ys (acc ++ [v]) s2 else P ys acc s1)
    (done : ∀ acc s, P [] acc s → QL acc s) : wO (compL c g t elt env xs acc st) QL := by
  induction xs generalizing acc st with
  | nil =>
    unfold compL
    rw [if_pos (hc _ _ _ h0)]
    exact done _ _ h0
  | cons y ys ih =>
    unfold compL
    rw [if_pos (hc _ _ _ h0)]
    have := step y ys acc st h0
    cases hb : bindT g y env with
    | none => rw [hb] at this; exact this
    | some e1 =>
      rw [hb] at this
      dsimp only [wA] at this ⊢
      cases ht : t e1 st with
      | none => rw [ht] at this; exact this
      | some p =>
        obtain ⟨k, s1⟩ := p
        rw [ht] at this
        dsimp only [wO] at this ⊢
        cases k with
        | false => exact ih this
        | true =>
          simp only [if_true] at this
          cases he : elt e1 s1 with
          | none => rw [he] at this; exact this.elim
          | some q =>
            obtain ⟨v, s2⟩ := q
            rw [he] at this
            dsimp only [wO] at this ⊢
            simp only [he]
            rw [if_pos this.1]
            exact ih this.2
theorem whileL_mono {t : TF} {f : SF} {r} : ∀ {n m : Nat} {env : En} {st : Sto}, n ≤ m → whileL t f n env st = some r → whileL t f m env st = some r
  | 0, _, _, _, _, h => by cases h
  | n + 1, 0, _, _, hle, _ => by omega
  | n + 1, m + 1, env, st, hle, h => by
    unfold whileL at h ⊢
    split at h
    · cases h
    · exact h
    · split at h
      · cases h
      · exact whileL_mono (by omega) h
      · exact whileL_mono (by omega) h
      · exact h
      · exact h
theorem sWhl_eq {t : TF} {f : SF} {n : Nat} {env : En} {st : Sto} {r} (h : whileL t f n env st = some r) : sWhl t f env st = some r := by
  unfold sWhl
  have hex : ∃ n, (whileL t f n env st).isSome = true := ⟨n, by rw [h]; rfl⟩
  rw [dif_pos hex]
  obtain ⟨r2, h2⟩ := Option.isSome_iff_exists.mp (Classical.choose_spec hex)
  rw [h2]
  have a1 := whileL_mono (Nat.le_max_left n (Classical.choose hex)) h
  have a2 := whileL_mono (Nat.le_max_right n (Classical.choose hex)) h2
  rw [a1] at a2
  exact a2.symm
/-- a while, by an invariant with a measure -/
theorem w_whl (P : Nat → En → Sto → Prop) {m : Nat} (h0 : P m env st)
    (step : ∀ m e s, P m e s → wO (t e s) fun k s1 => if k = true then wF (f e s1) fun fl e2 s2 => match fl with | .nx => ∃ m', m' < m ∧ P m' e2 s2 | .ct => ∃ m', m' < m ∧ P m' e2 s2 | .bk => Q .nx e2 s2 | .rt v => Q (.rt v) e2 s2 else Q .nx e s1) :
    wF (sWhl t f env st) Q := by
  have key : ∀ (n m : Nat), m < n → ∀ e s, P m e s → ∃ fl e' s', whileL t f n e s = some (fl, e', s') ∧ Q fl e' s' := by
    intro n
    induction n with
    | zero => intro m hm; omega
    | succ n ih =>
      intro m hm e s hp
      have := step m e s hp
      unfold whileL
      cases ht : t e s with
      | none => rw [ht] at this; exact this.elim
      | some p =>
        obtain ⟨k, s1⟩ := p
        rw [ht] at this
        dsimp only [wO] at this
        cases k with
        | false => exact ⟨_, _, _, rfl, this⟩
        | true =>
          simp only [if_true] at this
          cases hf : f e s1 with
          | none => rw [hf] at this; exact this.elim
          | some q =>
            obtain ⟨fl, e2, s2⟩ := q
            rw [hf] at this
            dsimp only [wF] at this
            simp only [hf]
            cases fl with
            | nx => obtain ⟨m', hm', hp'⟩ := this; exact ih m' (by omega) e2 s2 hp'
            | ct => obtain ⟨m', hm', hp'⟩ := this; exact ih m' (by omega) e2 s2 hp'
            | bk => exact ⟨_, _, _, rfl, this⟩
            | rt v => exact ⟨_, _, _, rfl, this⟩
  obtain ⟨fl, e', s', h1, h2⟩ := key (m + 1) m (Nat.lt_succ_self m) env st h0
  rw [sWhl_eq h1]
  exact h2
end
end Kg
/-! K04: the defs, as gen.py writes them. -/
namespace K04
open PySem PySem.Spec PyProof.Rows L2 Kg
def top (i : Nat) : Stmt := PySem.Challenge.pw_knownguards_k04_whole_worths_made_and_to.main.body.getD i (.Pass ⟨0, 0, 0, 0⟩)
/-- is_whole: 0 thing, 1 low, 2 high -/
def d0 : Def := ⟨3, 3, [.ifs (.or (.not (.isi (.var 0) [.int])) (.isi (.var 0) [.bool])) [.ret (.cst (.bl false))] [], .ifs (.and (.isn true (.var 1)) (.cmp .lt (.var 0) (.var 1))) [.ret (.cst (.bl false))] [], .ret (.or (.isn false (.var 2)) (.cmp .le (.var 0) (.var 2)))]⟩
def f0 : FD := ⟨"is_whole", defArgs (top 1), defBody (top 1), defScope (top 1), ["thing", "low", "high"], ["thing", "low", "high"], [.non, .non]⟩
/-- is_worth_row: 0 thing, 1 one -/
def d1 : Def := ⟨2, 1, [.ifs (.or (.not (.isi (.var 0) [.tuple])) (.cmp .gt (.bi .len [.var 0]) (.cst (.int 4)))) [.ret (.cst (.bl false))] [], .ret (.bi .all [.comp (.call 4 [.var 1]) (.nm 1) .seq [.var 0] [] [1]])]⟩
def f1 : FD := ⟨"is_worth_row", defArgs (top 3), defBody (top 3), defScope (top 3), ["thing", "one"], ["thing"], []⟩
/-- is_worth_base: 0 thing -/
def d2 : Def := ⟨1, 1, [.ifs (.not (.isi (.var 0) [.tuple])) [.ret (.cst (.bl false))] [], .ifs (.cmp .eq (.bi .len [.var 0]) (.cst (.int 2))) [.ret (.and (.call 0 [.ix (.var 0) (.cst (.int 0)), .cst (.int 0), .cst (.int 0)]) (.call 0 [.ix (.var 0) (.cst (.int 1)), .cst (.int 0), .cst (.int 2)]))] [], .ifs (.or (.cmp .ne (.bi .len [.var 0]) (.cst (.int 3))) (.not (.call 0 [.ix (.var 0) (.cst (.int 0)), .cst (.int 1), .cst (.int 1)]))) [.ret (.cst (.bl false))] [], .ret (.and (.call 0 [.ix (.var 0) (.cst (.int 1)), .cst (.int 0), .cst (.int 99)]) (.call 1 [.ix (.var 0) (.cst (.int 2))]))]⟩
def f2 : FD := ⟨"is_worth_base", defArgs (top 4), defBody (top 4), defScope (top 4), ["thing"], ["thing"], []⟩
/-- is_worth_turn: 0 thing -/
def d3 : Def := ⟨1, 1, [.ifs (.or (.not (.isi (.var 0) [.tuple])) (.cmp .ne (.bi .len [.var 0]) (.cst (.int 2)))) [.ret (.cst (.bl false))] [], .ret (.and (.call 0 [.ix (.var 0) (.cst (.int 0)), .cst (.int 0), .cst (.int 99)]) (.call 1 [.ix (.var 0) (.cst (.int 1))]))]⟩
def f3 : FD := ⟨"is_worth_turn", defArgs (top 5), defBody (top 5), defScope (top 5), ["thing"], ["thing"], []⟩
/-- is_worth: 0 thing, 1 base, 2 bag, 3 turn -/
def d4 : Def := ⟨4, 1, [.ifs (.or (.not (.isi (.var 0) [.tuple])) (.cmp .ne (.bi .len [.var 0]) (.cst (.int 2)))) [.ret (.cst (.bl false))] [], .asg (.tu [(.nm 1), (.nm 2)]) (.var 0), .ifs (.or (.not (.call 2 [.var 1])) (.not (.isi (.var 2) [.tuple]))) [.ret (.cst (.bl false))] [], .ifs (.not (.bi .all [.comp (.call 3 [.var 3]) (.nm 3) .seq [.var 2] [] [3]])) [.ret (.cst (.bl false))] [], .ret (.cmp .eq (.bi .list [.var 2]) (.bi .sorted [.var 2]))]⟩
def f4 : FD := ⟨"is_worth", defArgs (top 6), defBody (top 6), defScope (top 6), ["thing", "base", "bag", "turn"], ["thing"], []⟩
/-- begun_store: 0 cells, 1 cell -/
def d5 : Def := ⟨2, 1, [.ret (.bi .tuple [.comp (.tup [.tup [.cst (.int 0), .var 1], .tup []]) (.nm 1) .range [.var 0] [] [1]])]⟩
def f5 : FD := ⟨"begun_store", defArgs (top 7), defBody (top 7), defScope (top 7), ["cells", "cell"], ["cells"], []⟩
/-- made_worth: 0 name, 1 worths -/
def d6 : Def := ⟨2, 2, [.ret (.tup [.tup [.cst (.int 1), .var 0, .bi .tuple [.var 1]], .tup []])]⟩
def f6 : FD := ⟨"made_worth", defArgs (top 8), defBody (top 8), defScope (top 8), ["name", "worths"], ["name", "worths"], []⟩
/-- added_worth: 0 worth, 1 name, 2 worths -/
def d7 : Def := ⟨3, 3, [.ret (.tup [.ix (.var 0) (.cst (.int 0)), .bi .tuple [.bi .sorted [.lst [.star (.ix (.var 0) (.cst (.int 1))), .tup [.var 1, .bi .tuple [.var 2]]]]]])]⟩
def f7 : FD := ⟨"added_worth", defArgs (top 9), defBody (top 9), defScope (top 9), ["worth", "name", "worths"], ["worth", "name", "worths"], []⟩
/-- unlike_worths: 0 worths, 1 rows, 2 one -/
def d8 : Def := ⟨3, 1, [.asg (.nm 1) (.lst []), .fr (.nm 2) .seq [.bi .sorted [.var 0]] [.ifs (.or (.not (.var 1)) (.cmp .ne (.ix (.var 1) (.neg (.cst (.int 1)))) (.var 2))) [.expr (.met .append (.var 1) [.var 2])] []], .ret (.bi .tuple [.var 1])]⟩
def f8 : FD := ⟨"unlike_worths", defArgs (top 10), defBody (top 10), defScope (top 10), ["worths", "rows", "one"], ["worths"], []⟩
/-- parts_of: 0 worth, 1 found, 2 turn, 3 base, 4 bag -/
def d9 : Def := ⟨5, 1, [.asg (.tu [(.nm 3), (.nm 4)]) (.var 0), .asg (.nm 1) (.ife (.cmp .eq (.ix (.var 3) (.cst (.int 0))) (.cst (.int 1))) (.bi .list [.ix (.var 3) (.cst (.int 2))]) (.lst [])), .fr (.nm 2) .seq [.var 4] [.expr (.met .extend (.var 1) [.ix (.var 2) (.cst (.int 1))])], .ret (.call 8 [.var 1])]⟩
def f9 : FD := ⟨"parts_of", defArgs (top 11), defBody (top 11), defScope (top 11), ["worth", "found", "turn", "base", "bag"], ["worth"], []⟩
/-- bags_within: 0 worth, 1 parts, 2 turn, 3 base, 4 bag, 5 part -/
def d10 : Def := ⟨6, 1, [.asg (.tu [(.nm 3), (.nm 4)]) (.var 0), .asg (.nm 1) (.lst [.tup []]), .fr (.nm 2) .seq [.var 4] [.asg (.nm 1) (.bin .add (.var 1) (.comp (.tup [.star (.var 5), .var 2]) (.nm 5) .seq [.var 1] [] [5]))], .ret (.call 8 [.comp (.tup [.var 3, .var 5]) (.nm 5) .seq [.var 1] [] [5]])]⟩
def f10 : FD := ⟨"bags_within", defArgs (top 12), defBody (top 12), defScope (top 12), ["worth", "parts", "turn", "base", "bag", "part"], ["worth"], []⟩
/-- call_text: 0 name, 1 worths, 2 inside, 3 one -/
def d11 : Def := ⟨4, 2, [.asg (.nm 2) (.met .join (.cst (.str ", ")) [.comp (.call 12 [.var 3]) (.nm 3) .seq [.var 1] [] [3]]), .ret (.fstr [.var 0, .cst (.str "("), .var 2, .cst (.str ")")])]⟩
def f11 : FD := ⟨"call_text", defArgs (top 13), defBody (top 13), defScope (top 13), ["name", "worths", "inside", "one"], ["name", "worths"], []⟩
/-- worth_text: 0 worth, 1 first, 2 base, 3 bag, 4 turn -/
def d12 : Def := ⟨5, 1, [.asg (.tu [(.nm 2), (.nm 3)]) (.var 0), .asg (.nm 1) (.ife (.cmp .eq (.ix (.var 2) (.cst (.int 0))) (.cst (.int 0))) (.fstr [.cst (.str "b"), .ix (.var 2) (.cst (.int 1))]) (.call 11 [.ix (.var 2) (.cst (.int 1)), .ix (.var 2) (.cst (.int 2))])), .ret (.met .join (.cst (.str " + ")) [.lst [.var 1, .star (.comp (.call 11 [.ix (.var 4) (.cst (.int 0)), .ix (.var 4) (.cst (.int 1))]) (.nm 4) .seq [.var 3] [] [4])]])]⟩
def f12 : FD := ⟨"worth_text", defArgs (top 14), defBody (top 14), defScope (top 14), ["worth", "first", "base", "bag", "turn"], ["worth"], []⟩
/-- _law_hand: 0 _law_script, 1 _law_total, 2 _law_cells, 3 _law_cell -/
def d13 : Def := ⟨4, 1, [.asg (.nm 1) (.bin .add (.bi .len [.var 0]) (.cst (.int 43))), .asg (.nm 2) (.lst []), .fr (.nm 3) .seq [.var 0] [.asg (.nm 1) (.bin .mod (.bi .int [.bin .add (.bin .mul (.var 1) (.cst (.int 2003))) (.bi .int [.var 3])]) (.cst (.int 2147483563))), .expr (.met .append (.var 2) [.bi .abs [.bi .int [.var 3]]])], .ret (.lst [.var 2, .cst (.int 0), .cst (.int 0), .var 1])]⟩
def f13 : FD := ⟨"_law_hand", defArgs (top 16), defBody (top 16), defScope (top 16), ["_law_script", "_law_total", "_law_cells", "_law_cell"], ["_law_script"], []⟩
/-- _law_mixed: 0 _law_number, 1 _law_turn, 2 _law_once, 3 _law_twice -/
def d14 : Def := ⟨4, 2, [.asg (.nm 2) (.bin .mod (.bi .int [.bin .add (.bin .add (.bin .mul (.var 0) (.cst (.int 39373))) (.bin .mul (.var 1) (.cst (.int 6151)))) (.cst (.int 50021))]) (.cst (.int 2147483399))), .asg (.nm 3) (.bin .mod (.bi .int [.bin .add (.bin .add (.bin .mul (.var 2) (.var 2)) (.bin .mul (.var 1) (.cst (.int 81071)))) (.bin .fdiv (.var 2) (.cst (.int 137)))]) (.cst (.int 2147483629))), .ret (.bin .fdiv (.bi .int [.bin .mod (.bi .int [.bin .add (.bin .mul (.var 3) (.cst (.int 62089))) (.bin .fdiv (.var 2) (.cst (.int 11)))]) (.cst (.int 2147483587))]) (.cst (.int 64)))]⟩
def f14 : FD := ⟨"_law_mixed", defArgs (top 17), defBody (top 17), defScope (top 17), ["_law_number", "_law_turn", "_law_once", "_law_twice"], ["_law_number", "_law_turn"], []⟩
/-- _law_take: 0 _law_hand_here, 1 _law_many, 2 _law_cell, 3 _law_rest -/
def d15 : Def := ⟨4, 2, [.ifs (.and (.cmp .eq (.ix (.var 0) (.cst (.int 2))) (.cst (.int 0))) (.cmp .lt (.ix (.var 0) (.cst (.int 1))) (.bi .len [.ix (.var 0) (.cst (.int 0))]))) [.asg (.nm 2) (.ix (.ix (.var 0) (.cst (.int 0))) (.ix (.var 0) (.cst (.int 1)))), .setix (.var 0) (.cst (.int 1)) (.bin .add (.ix (.var 0) (.cst (.int 1))) (.cst (.int 1))), .ifs (.cmp .lt (.var 2) (.bin .pow (.cst (.int 10)) (.cst (.int 18)))) [.ret (.bin .mod (.bi .int [.call 14 [.bin .mod (.bi .int [.var 2]) (.cst (.int 2147483399)), .ix (.var 0) (.cst (.int 1))]]) (.var 1))] [], .setix (.var 0) (.cst (.int 2)) (.var 2)] [], .ifs (.cmp .gt (.ix (.var 0) (.cst (.int 2))) (.cst (.int 0))) [.asg (.nm 3) (.ix (.var 0) (.cst (.int 2))), .setix (.var 0) (.cst (.int 2)) (.bin .fdiv (.bi .int [.var 3]) (.var 1)), .ret (.bin .mod (.bi .int [.var 3]) (.var 1))] [], .setix (.var 0) (.cst (.int 3)) (.bin .mod (.bi .int [.bin .add (.ix (.var 0) (.cst (.int 3))) (.cst (.int 1))]) (.cst (.int 2147483549))), .ret (.bin .mod (.bi .int [.call 14 [.ix (.var 0) (.cst (.int 3)), .ix (.var 0) (.cst (.int 1))]]) (.var 1))]⟩
def f15 : FD := ⟨"_law_take", defArgs (top 18), defBody (top 18), defScope (top 18), ["_law_hand_here", "_law_many", "_law_cell", "_law_rest"], ["_law_hand_here", "_law_many"], []⟩
/-- _law_whole: 0 _law_thing -/
def d16 : Def := ⟨1, 1, [.ret (.and (.isi (.var 0) [.int]) (.not (.isi (.var 0) [.bool])))]⟩
def f16 : FD := ⟨"_law_whole", defArgs (top 19), defBody (top 19), defScope (top 19), ["_law_thing"], ["_law_thing"], []⟩
/-- _law_exact: 0 _law_told, 1 _law_due, 2 _law_k -/
def d17 : Def := ⟨3, 2, [.ifs (.isi (.var 1) [.tuple]) [.ifs (.or (.not (.isi (.var 0) [.tuple])) (.cmp .ne (.bi .len [.var 0]) (.bi .len [.var 1]))) [.ret (.cst (.bl false))] [], .ret (.bi .all [.comp (.call 17 [.ix (.var 0) (.var 2), .ix (.var 1) (.var 2)]) (.nm 2) .range [.bi .len [.var 1]] [] [2]])] [], .ret (.and (.call 16 [.var 0]) (.cmp .eq (.var 0) (.var 1)))]⟩
def f17 : FD := ⟨"_law_exact", defArgs (top 20), defBody (top 20), defScope (top 20), ["_law_told", "_law_due", "_law_k"], ["_law_told", "_law_due"], []⟩
/-- _law_given: 0 _law_hand_here, 1 _law_row -/
def d18 : Def := ⟨2, 2, [.ret (.ife (.cmp .eq (.call 15 [.var 0, .cst (.int 2)]) (.cst (.int 0))) (.bi .list [.var 1]) (.bi .tuple [.var 1]))]⟩
def f18 : FD := ⟨"_law_given", defArgs (top 21), defBody (top 21), defScope (top 21), ["_law_hand_here", "_law_row"], ["_law_hand_here", "_law_row"], []⟩
/-- _law_begun_pool: 0 _law_cell -/
def d19 : Def := ⟨1, 0, [.ret (.comp (.tup [.tup [.tup [.cst (.int 0), .var 0], .tup []], .cst (.int 1)]) (.nm 0) .range [.cst (.int 3)] [] [0])]⟩
def f19 : FD := ⟨"_law_begun_pool", defArgs (top 22), defBody (top 22), defScope (top 22), ["_law_cell"], [], []⟩
/-- _law_pick: 0 _law_hand_here, 1 _law_pool, 2 _law_room, 3 _law_entry -/
def d20 : Def := ⟨4, 3, [.asg (.nm 3) (.ix (.var 1) (.call 15 [.var 0, .bi .len [.var 1]])), .ifs (.cmp .gt (.ix (.var 3) (.cst (.int 1))) (.var 2)) [.ret (.ix (.var 1) (.call 15 [.var 0, .cst (.int 3)]))] [], .ret (.var 3)]⟩
def f20 : FD := ⟨"_law_pick", defArgs (top 23), defBody (top 23), defScope (top 23), ["_law_hand_here", "_law_pool", "_law_room", "_law_entry"], ["_law_hand_here", "_law_pool", "_law_room"], []⟩
/-- _law_name: 0 _law_hand_here -/
def d21 : Def := ⟨1, 1, [.ret (.ife (.cmp .eq (.call 15 [.var 0, .cst (.int 3)]) (.cst (.int 0))) (.call 15 [.var 0, .cst (.int 3)]) (.call 15 [.var 0, .cst (.int 100)]))]⟩
def f21 : FD := ⟨"_law_name", defArgs (top 24), defBody (top 24), defScope (top 24), ["_law_hand_here"], ["_law_hand_here"], []⟩
/-- _law_picks: 0 _law_hand_here, 1 _law_pool, 2 _law_picks_here, 3 _law_k, 4 _law_entry -/
def d22 : Def := ⟨5, 2, [.asg (.nm 2) (.comp (.call 20 [.var 0, .var 1, .cst (.int 12)]) (.nm 3) .range [.call 15 [.var 0, .cst (.int 5)]] [] [3]), .ret (.tup [.bi .tuple [.comp (.ix (.var 4) (.cst (.int 0))) (.nm 4) .seq [.var 2] [] [4]], .bi .sum [.comp (.ix (.var 4) (.cst (.int 1))) (.nm 4) .seq [.var 2] [] [4]]])]⟩
def f22 : FD := ⟨"_law_picks", defArgs (top 25), defBody (top 25), defScope (top 25), ["_law_hand_here", "_law_pool", "_law_picks_here", "_law_k", "_law_entry"], ["_law_hand_here", "_law_pool"], []⟩
/-- _law_turned: 0 _law_worth, 1 _law_name_here, 2 _law_worths -/
def d23 : Def := ⟨3, 3, [.ret (.tup [.ix (.var 0) (.cst (.int 0)), .bi .tuple [.bi .sorted [.bin .add (.bi .list [.ix (.var 0) (.cst (.int 1))]) (.lst [.tup [.var 1, .var 2]])]]])]⟩
def f23 : FD := ⟨"_law_turned", defArgs (top 26), defBody (top 26), defScope (top 26), ["_law_worth", "_law_name_here", "_law_worths"], ["_law_worth", "_law_name_here", "_law_worths"], []⟩
/-- _law_unlike: 0 _law_worths, 1 _law_k, 2 _law_worth -/
def d24 : Def := ⟨3, 1, [.ret (.bi .tuple [.bi .sorted [.comp (.var 2) (.tu [(.nm 1), (.nm 2)]) .enum [.var 0] [.cmp .notin (.var 2) (.sli (.var 0) [] [.var 1])] [1, 2]]])]⟩
def f24 : FD := ⟨"_law_unlike", defArgs (top 27), defBody (top 27), defScope (top 27), ["_law_worths", "_law_k", "_law_worth"], ["_law_worths"], []⟩
/-- _law_parts_due: 0 _law_worth, 1 _law_told, 2 _law_turn -/
def d25 : Def := ⟨3, 1, [.asg (.nm 1) (.ife (.cmp .eq (.ix (.ix (.var 0) (.cst (.int 0))) (.cst (.int 0))) (.cst (.int 1))) (.bi .list [.ix (.ix (.var 0) (.cst (.int 0))) (.cst (.int 2))]) (.lst [])), .fr (.nm 2) .seq [.ix (.var 0) (.cst (.int 1))] [.asg (.nm 1) (.bin .add (.var 1) (.bi .list [.ix (.var 2) (.cst (.int 1))]))], .ret (.call 24 [.var 1])]⟩
def f25 : FD := ⟨"_law_parts_due", defArgs (top 28), defBody (top 28), defScope (top 28), ["_law_worth", "_law_told", "_law_turn"], ["_law_worth"], []⟩
/-- _law_bags_due: 0 _law_worth, 1 _law_told, 2 _law_k, 3 _law_turn, 4 _law_longer, 5 _law_part, 6 _law_times -/
def d26 : Def := ⟨7, 1, [.asg (.nm 1) (.lst [.tup []]), .fr (.tu [(.nm 2), (.nm 3)]) .enum [.ix (.var 0) (.cst (.int 1))] [.ifs (.cmp .notin (.var 3) (.sli (.ix (.var 0) (.cst (.int 1))) [] [.var 2])) [.asg (.nm 4) (.lst []), .fr (.nm 5) .seq [.var 1] [.asg (.nm 4) (.bin .add (.var 4) (.comp (.bin .add (.var 5) (.bin .mul (.tup [.var 3]) (.var 6))) (.nm 6) .range [.bin .add (.met .count (.ix (.var 0) (.cst (.int 1))) [.var 3]) (.cst (.int 1))] [] [6]))], .asg (.nm 1) (.var 4)] []], .ret (.bi .tuple [.bi .sorted [.comp (.tup [.ix (.var 0) (.cst (.int 0)), .var 5]) (.nm 5) .seq [.var 1] [] [5]]])]⟩
def f26 : FD := ⟨"_law_bags_due", defArgs (top 29), defBody (top 29), defScope (top 29), ["_law_worth", "_law_told", "_law_k", "_law_turn", "_law_longer", "_law_part", "_law_times"], ["_law_worth"], []⟩
/-- _law_call_due: 0 _law_name_here, 1 _law_worths, 2 _law_worth -/
def d27 : Def := ⟨3, 2, [.ret (.bin .add (.bin .add (.bin .add (.bi .str [.var 0]) (.cst (.str "("))) (.met .join (.cst (.str ", ")) [.comp (.call 28 [.var 2]) (.nm 2) .seq [.var 1] [] [2]])) (.cst (.str ")")))]⟩
def f27 : FD := ⟨"_law_call_due", defArgs (top 30), defBody (top 30), defScope (top 30), ["_law_name_here", "_law_worths", "_law_worth"], ["_law_name_here", "_law_worths"], []⟩
/-- _law_text_due: 0 _law_worth, 1 _law_text, 2 _law_turn, 3 _law_base, 4 _law_bag -/
def d28 : Def := ⟨5, 1, [.asg (.tu [(.nm 3), (.nm 4)]) (.var 0), .asg (.nm 1) (.ife (.cmp .eq (.ix (.var 3) (.cst (.int 0))) (.cst (.int 0))) (.bin .add (.cst (.str "b")) (.bi .str [.ix (.var 3) (.cst (.int 1))])) (.call 27 [.ix (.var 3) (.cst (.int 1)), .ix (.var 3) (.cst (.int 2))])), .fr (.nm 2) .seq [.var 4] [.asg (.nm 1) (.bin .add (.bin .add (.var 1) (.cst (.str " + "))) (.call 27 [.ix (.var 2) (.cst (.int 0)), .ix (.var 2) (.cst (.int 1))]))], .ret (.var 1)]⟩
def f28 : FD := ⟨"_law_text_due", defArgs (top 31), defBody (top 31), defScope (top 31), ["_law_worth", "_law_text", "_law_turn", "_law_base", "_law_bag"], ["_law_worth"], []⟩
/-- _law_made_told: 0 _law_hand_here, 1 _law_pool, 2 _law_worths, 3 _law_name_here, 4 _law_given_here, 5 _law_k -/
def d29 : Def := ⟨6, 4, [.asg (.nm 4) (.call 18 [.var 0, .var 2]), .ifs (.not (.call 17 [.call 6 [.var 3, .var 4], .tup [.tup [.cst (.int 1), .var 3, .var 2], .tup []]])) [.ret (.cst (.bl false))] [], .ret (.and (.cmp .eq (.bi .len [.var 4]) (.bi .len [.var 2])) (.bi .all [.comp (.cmp .eq (.ix (.var 4) (.var 5)) (.ix (.var 2) (.var 5))) (.nm 5) .range [.bi .len [.var 2]] [] [5]]))]⟩
def f29 : FD := ⟨"_law_made_told", defArgs (top 32), defBody (top 32), defScope (top 32), ["_law_hand_here", "_law_pool", "_law_worths", "_law_name_here", "_law_given_here", "_law_k"], ["_law_hand_here", "_law_pool", "_law_worths", "_law_name_here"], []⟩
/-- _law_added_told: 0 _law_hand_here, 1 _law_pool, 2 _law_held, 3 _law_name_here, 4 _law_worths, 5 _law_given_here, 6 _law_due, 7 _law_told, 8 _law_second, 9 _law_both, 10 _law_other, 11 _law_size -/
def d30 : Def := ⟨12, 5, [.asg (.nm 5) (.call 18 [.var 0, .var 4]), .asg (.nm 6) (.call 23 [.var 2, .var 3, .var 4]), .asg (.nm 7) (.call 7 [.var 2, .var 3, .var 5]), .ifs (.or (.not (.call 17 [.var 7, .var 6])) (.cmp .ne (.bi .list [.var 5]) (.bi .list [.var 4]))) [.ret (.cst (.bl false))] [], .ifs (.cmp .gt (.bi .len [.ix (.var 6) (.cst (.int 1))]) (.cst (.int 6))) [.ret (.cst (.bl true))] [], .asg (.tu [(.nm 10), (.nm 11)]) (.call 22 [.var 0, .var 1]), .asg (.nm 8) (.call 21 [.var 0]), .ifs (.cmp .eq (.call 15 [.var 0, .cst (.int 4)]) (.cst (.int 0))) [.asg (.nm 8) (.var 3)] [], .asg (.nm 9) (.call 23 [.var 6, .var 8, .var 10]), .ifs (.not (.call 17 [.call 7 [.var 7, .var 8, .call 18 [.var 0, .var 10]], .var 9])) [.ret (.cst (.bl false))] [], .ret (.call 17 [.call 7 [.call 7 [.var 2, .var 8, .var 10], .var 3, .call 18 [.var 0, .var 4]], .var 9])]⟩
def f30 : FD := ⟨"_law_added_told", defArgs (top 33), defBody (top 33), defScope (top 33), ["_law_hand_here", "_law_pool", "_law_held", "_law_name_here", "_law_worths", "_law_given_here", "_law_due", "_law_told", "_law_second", "_law_both", "_law_other", "_law_size"], ["_law_hand_here", "_law_pool", "_law_held", "_law_name_here", "_law_worths"], []⟩
/-- _law_grown: 0 _law_hand_here, 1 _law_pool, 2 _law_most, 3 _law_name_here, 4 _law_held, 5 _law_worths, 6 _law_size -/
def d31 : Def := ⟨7, 3, [.asg (.tu [(.nm 5), (.nm 6)]) (.call 22 [.var 0, .var 1]), .asg (.nm 3) (.call 21 [.var 0]), .asg (.nm 4) (.call 20 [.var 0, .var 1, .cst (.int 60)]), .ifs (.and (.cmp .eq (.call 15 [.var 0, .cst (.int 2)]) (.cst (.int 0))) (.cmp .lt (.bi .len [.ix (.ix (.var 4) (.cst (.int 0))) (.cst (.int 1))]) (.var 2))) [.ifs (.not (.call 30 [.var 0, .var 1, .ix (.var 4) (.cst (.int 0)), .var 3, .var 5])) [.ret (.cst (.bl false))] [], .expr (.met .append (.var 1) [.tup [.call 23 [.ix (.var 4) (.cst (.int 0)), .var 3, .var 5], .bin .add (.ix (.var 4) (.cst (.int 1))) (.var 6)]]), .ret (.cst (.bl true))] [], .expr (.met .append (.var 1) [.tup [.tup [.tup [.cst (.int 1), .var 3, .var 5], .tup []], .bin .add (.cst (.int 1)) (.var 6)]]), .ret (.call 29 [.var 0, .var 1, .var 5, .var 3])]⟩
def f31 : FD := ⟨"_law_grown", defArgs (top 34), defBody (top 34), defScope (top 34), ["_law_hand_here", "_law_pool", "_law_most", "_law_name_here", "_law_held", "_law_worths", "_law_size"], ["_law_hand_here", "_law_pool", "_law_most"], []⟩
/-- _law_bad_base: 0 _law_hand_here, 1 _law_base, 2 _law_bag, 3 _law_far, 4 _law_way, 5 _law_k -/
def d32 : Def := ⟨6, 3, [.asg (.nm 3) (.call 15 [.var 0, .bin .pow (.cst (.int 10)) (.cst (.int 6))]), .asg (.nm 4) (.call 15 [.var 0, .cst (.int 9)]), .ifs (.cmp .eq (.var 4) (.cst (.int 8))) [.ret (.tup [.tup [.cst (.int 1), .call 15 [.var 0, .cst (.int 3)]], .var 2])] [], .ifs (.cmp .eq (.var 4) (.cst (.int 0))) [.ret (.tup [.bi .list [.var 1], .var 2])] [], .ifs (.cmp .eq (.var 4) (.cst (.int 1))) [.ret (.tup [.bin .add (.tup [.cst (.int 2)]) (.sli (.var 1) [.cst (.int 1)] []), .var 2])] [], .ifs (.cmp .eq (.var 4) (.cst (.int 2))) [.ret (.tup [.ife (.cmp .eq (.ix (.var 1) (.cst (.int 0))) (.cst (.int 0))) (.tup [.ix (.var 1) (.cst (.int 0)), .bin .add (.cst (.int 3)) (.var 3)]) (.tup [.cst (.int 1), .bin .add (.cst (.int 100)) (.var 3), .ix (.var 1) (.cst (.int 2))]), .var 2])] [], .ifs (.cmp .eq (.var 4) (.cst (.int 3))) [.ret (.tup [.bin .add (.tup [.ix (.var 1) (.cst (.int 0)), .bin .sub (.neg (.cst (.int 1))) (.var 3)]) (.sli (.var 1) [.cst (.int 2)] []), .var 2])] [], .ifs (.cmp .eq (.var 4) (.cst (.int 4))) [.ret (.tup [.bin .add (.tup [.cmp .eq (.ix (.var 1) (.cst (.int 0))) (.cst (.int 1))]) (.sli (.var 1) [.cst (.int 1)] []), .var 2])] [], .ifs (.cmp .eq (.var 4) (.cst (.int 5))) [.ret (.tup [.bin .add (.tup [.ix (.var 1) (.cst (.int 0)), .cmp .eq (.call 15 [.var 0, .cst (.int 2)]) (.cst (.int 1))]) (.sli (.var 1) [.cst (.int 2)] []), .var 2])] [], .ifs (.cmp .eq (.var 4) (.cst (.int 6))) [.ret (.tup [.tup [.cst (.int 1), .call 21 [.var 0], .lst [.tup [.tup [.cst (.int 0), .cst (.int 0)], .tup []]]], .var 2])] [], .ret (.tup [.tup [.cst (.int 1), .call 21 [.var 0], .bi .tuple [.comp (.tup [.tup [.cst (.int 0), .cst (.int 0)], .tup []]) (.nm 5) .range [.bin .add (.cst (.int 5)) (.call 15 [.var 0, .cst (.int 3)])] [] [5]]], .var 2])]⟩
def f32 : FD := ⟨"_law_bad_base", defArgs (top 35), defBody (top 35), defScope (top 35), ["_law_hand_here", "_law_base", "_law_bag", "_law_far", "_law_way", "_law_k"], ["_law_hand_here", "_law_base", "_law_bag"], []⟩
/-- _law_bad_bag: 0 _law_hand_here, 1 _law_base, 2 _law_bag, 3 _law_far, 4 _law_way, 5 _law_k -/
def d33 : Def := ⟨6, 3, [.asg (.nm 3) (.call 15 [.var 0, .bin .pow (.cst (.int 10)) (.cst (.int 6))]), .asg (.nm 4) (.call 15 [.var 0, .cst (.int 9)]), .ifs (.cmp .eq (.var 4) (.cst (.int 7))) [.ret (.tup [.var 1, .tup [.tup [.cmp .eq (.call 15 [.var 0, .cst (.int 2)]) (.cst (.int 1)), .tup []]]])] [], .ifs (.cmp .eq (.var 4) (.cst (.int 8))) [.ret (.tup [.var 1, .tup [.tup [.cst (.int 99), .bi .tuple [.comp (.tup [.tup [.cst (.int 0), .cst (.int 0)], .tup []]) (.nm 5) .range [.bin .add (.cst (.int 5)) (.call 15 [.var 0, .cst (.int 3)])] [] [5]]]]])] [], .ifs (.cmp .eq (.var 4) (.cst (.int 0))) [.ret (.tup [.var 1, .bi .list [.var 2]])] [], .ifs (.cmp .eq (.var 4) (.cst (.int 1))) [.ret (.tup [.var 1, .bin .add (.var 2) (.tup [.tup [.cst (.int 99), .tup []], .tup [.cst (.int 98), .tup []]])])] [], .ifs (.cmp .eq (.var 4) (.cst (.int 2))) [.ret (.tup [.var 1, .bin .add (.var 2) (.tup [.tup [.cst (.int 99), .tup [], .cst (.int 0)]])])] [], .ifs (.cmp .eq (.var 4) (.cst (.int 3))) [.ret (.tup [.var 1, .bin .add (.var 2) (.tup [.lst [.cst (.int 99), .tup []]])])] [], .ifs (.cmp .eq (.var 4) (.cst (.int 4))) [.ret (.tup [.var 1, .bin .add (.var 2) (.tup [.tup [.bin .add (.cst (.int 100)) (.var 3), .tup []]])])] [], .ifs (.cmp .eq (.var 4) (.cst (.int 5))) [.ret (.tup [.var 1, .bin .add (.tup [.tup [.bin .sub (.neg (.cst (.int 1))) (.var 3), .tup []]]) (.var 2)])] [], .ret (.tup [.var 1, .bin .add (.var 2) (.tup [.tup [.cst (.int 99), .lst [.tup [.tup [.cst (.int 0), .cst (.int 0)], .tup []]]]])])]⟩
def f33 : FD := ⟨"_law_bad_bag", defArgs (top 36), defBody (top 36), defScope (top 36), ["_law_hand_here", "_law_base", "_law_bag", "_law_far", "_law_way", "_law_k"], ["_law_hand_here", "_law_base", "_law_bag"], []⟩
/-- _law_no_worth: 0 _law_hand_here, 1 _law_worth, 2 _law_way, 3 _law_base, 4 _law_bag -/
def d34 : Def := ⟨5, 2, [.asg (.tu [(.nm 3), (.nm 4)]) (.var 1), .asg (.nm 2) (.call 15 [.var 0, .cst (.int 6)]), .ifs (.cmp .lt (.var 2) (.cst (.int 2))) [.ret (.call 32 [.var 0, .var 3, .var 4])] [], .ifs (.cmp .lt (.var 2) (.cst (.int 4))) [.ret (.call 33 [.var 0, .var 3, .var 4])] [], .ret (.ix (.lst [.lst [.var 3, .var 4], .tup [.var 3], .tup [.var 3, .var 4, .tup []], .var 3, .cst .non, .call 15 [.var 0, .bin .pow (.cst (.int 10)) (.cst (.int 9))], .cst (.str "b0"), .tup [.var 4, .var 3], .lst [], .dict0 false]) (.call 15 [.var 0, .cst (.int 10)]))]⟩
def f34 : FD := ⟨"_law_no_worth", defArgs (top 37), defBody (top 37), defScope (top 37), ["_law_hand_here", "_law_worth", "_law_way", "_law_base", "_law_bag"], ["_law_hand_here", "_law_worth"], []⟩
/-- _law_within: 0 _law_hand_here, 1 _law_pool, 2 _law_thing, 3 _law_good, 4 _law_way -/
def d35 : Def := ⟨5, 3, [.asg (.nm 3) (.ix (.ix (.var 1) (.call 15 [.var 0, .bi .len [.var 1]])) (.cst (.int 0))), .asg (.nm 4) (.call 15 [.var 0, .cst (.int 4)]), .ifs (.cmp .eq (.var 4) (.cst (.int 0))) [.ret (.tup [.tup [.cst (.int 1), .call 21 [.var 0], .tup [.var 3, .var 2]], .tup []])] [], .ifs (.cmp .eq (.var 4) (.cst (.int 1))) [.ret (.tup [.tup [.cst (.int 1), .call 21 [.var 0], .tup [.var 2]], .tup []])] [], .ifs (.cmp .eq (.var 4) (.cst (.int 2))) [.ret (.tup [.ix (.var 3) (.cst (.int 0)), .tup [.tup [.call 21 [.var 0], .tup [.var 3, .var 2]]]])] [], .ret (.tup [.tup [.cst (.int 0), .cst (.int 1)], .tup [.tup [.call 21 [.var 0], .tup [.var 2]]]])]⟩
def f35 : FD := ⟨"_law_within", defArgs (top 38), defBody (top 38), defScope (top 38), ["_law_hand_here", "_law_pool", "_law_thing", "_law_good", "_law_way"], ["_law_hand_here", "_law_pool", "_law_thing"], []⟩
/-- _law_told_right: 0 _law_worth -/
def d36 : Def := ⟨1, 1, [.ifs (.or (.isb true true (.call 4 [.var 0])) (.cmp .ne (.call 12 [.var 0]) (.call 28 [.var 0]))) [.ret (.cst (.bl false))] [], .ret (.and (.call 17 [.call 9 [.var 0], .call 25 [.var 0]]) (.call 17 [.call 10 [.var 0], .call 26 [.var 0]]))]⟩
def f36 : FD := ⟨"_law_told_right", defArgs (top 39), defBody (top 39), defScope (top 39), ["_law_worth"], ["_law_worth"], []⟩
/-- _law_chain: 0 _law_thing, 1 _law_names, 2 _law_told, 3 _law_name_here -/
def d37 : Def := ⟨4, 2, [.asg (.nm 2) (.var 0), .fr (.nm 3) .seq [.var 1] [.asg (.nm 2) (.tup [.tup [.cst (.int 1), .var 3, .tup [.var 2]], .tup []])], .ret (.var 2)]⟩
def f37 : FD := ⟨"_law_chain", defArgs (top 40), defBody (top 40), defScope (top 40), ["_law_thing", "_law_names", "_law_told", "_law_name_here"], ["_law_thing", "_law_names"], []⟩
/-- _law_deep_right: 0 _law_hand_here, 1 _law_thing, 2 _law_names, 3 _law_deep, 4 _law_whole_here, 5 _law_k -/
def d38 : Def := ⟨6, 2, [.asg (.nm 2) (.comp (.call 21 [.var 0]) (.nm 5) .range [.cst (.int 30)] [] [5]), .asg (.nm 3) (.call 37 [.tup [.tup [.cst (.int 0), .call 15 [.var 0, .cst (.int 3)]], .tup []], .sli (.var 2) [] [.cst (.int 29)]]), .asg (.nm 4) (.call 6 [.ix (.var 2) (.cst (.int 29)), .lst [.var 3]]), .ifs (.or (.not (.call 17 [.var 4, .tup [.tup [.cst (.int 1), .ix (.var 2) (.cst (.int 29)), .tup [.var 3]], .tup []]])) (.not (.call 36 [.var 4]))) [.ret (.cst (.bl false))] [], .ret (.isb false false (.call 4 [.call 37 [.var 1, .sli (.var 2) [] [.cst (.int 18)]]]))]⟩
def f38 : FD := ⟨"_law_deep_right", defArgs (top 41), defBody (top 41), defScope (top 41), ["_law_hand_here", "_law_thing", "_law_names", "_law_deep", "_law_whole_here", "_law_k"], ["_law_hand_here", "_law_thing"], []⟩
/-- law: 0 _law_script, 1 _law_hand_here, 2 _law_cells, 3 _law_pool, 4 _law_most, 5 _law_turn, 6 _law_entry, 7 _law_thing, 8 _law_cell -/
def d39 : Def := ⟨9, 1, [.asg (.nm 1) (.call 13 [.var 0]), .fr (.nm 2) .range [.cst (.int 1), .cst (.int 4)] [.ifs (.not (.call 17 [.call 5 [.var 2], .bi .tuple [.comp (.tup [.tup [.cst (.int 0), .var 8], .tup []]) (.nm 8) .range [.var 2] [] [8]]])) [.ret (.cst (.bl false))] []], .asg (.nm 3) (.call 19 []), .asg (.nm 4) (.ife (.cmp .eq (.call 15 [.var 1, .cst (.int 4)]) (.cst (.int 0))) (.cst (.int 7)) (.cst (.int 4))), .fr (.nm 5) .range [.bin .add (.cst (.int 2)) (.call 15 [.var 1, .cst (.int 7)])] [.ifs (.not (.call 31 [.var 1, .var 3, .var 4])) [.ret (.cst (.bl false))] []], .fr (.nm 6) .seq [.var 3] [.ifs (.not (.call 36 [.ix (.var 6) (.cst (.int 0))])) [.ret (.cst (.bl false))] []], .fr (.nm 5) .range [.cst (.int 6)] [.asg (.nm 7) (.call 34 [.var 1, .ix (.ix (.var 3) (.call 15 [.var 1, .bi .len [.var 3]])) (.cst (.int 0))]), .ifs (.isb true false (.call 4 [.var 7])) [.ret (.cst (.bl false))] [], .ifs (.isb true false (.call 4 [.call 35 [.var 1, .var 3, .var 7]])) [.ret (.cst (.bl false))] []], .ret (.call 38 [.var 1, .call 34 [.var 1, .ix (.ix (.var 3) (.call 15 [.var 1, .bi .len [.var 3]])) (.cst (.int 0))]])]⟩
def f39 : FD := ⟨"law", defArgs (top 42), defBody (top 42), defScope (top 42), ["_law_script", "_law_hand_here", "_law_cells", "_law_pool", "_law_most", "_law_turn", "_law_entry", "_law_thing", "_law_cell"], ["_law_script"], []⟩
def fs : List FD := [f0, f1, f2, f3, f4, f5, f6, f7, f8, f9, f10, f11, f12, f13, f14, f15, f16, f17, f18, f19, f20, f21, f22, f23, f24, f25, f26, f27, f28, f29, f30, f31, f32, f33, f34, f35, f36, f37, f38, f39]
def ds : List Def := [d0, d1, d2, d3, d4, d5, d6, d7, d8, d9, d10, d11, d12, d13, d14, d15, d16, d17, d18, d19, d20, d21, d22, d23, d24, d25, d26, d27, d28, d29, d30, d31, d32, d33, d34, d35, d36, d37, d38, d39]
def free : List Str := ["abs", "all", "any", "bool", "dict", "enumerate", "int", "isinstance", "len", "list", "max", "min", "range", "sorted", "str", "sum", "tuple"]
def tk : List Nat := []
theorem bd0 : ∀ (K : PySem.W.Frag) (fad : Addr) (fd : FuncData), FunD K f0.nm f0.nm f0.ar f0.body f0.scope (f0.dfl.map (He.Dv.v K)) [] fad fd → Binds K fd f0.ps [] := fun K fad fd F => by
  obtain ⟨ds, hv, hb⟩ := FunD.binds1 (ps := f0.ps) F 3 2 (by simp [f0]) rfl (fun T kV doc pm an cdv ct us its h1 h2 => match us, its, h1, h2 with | [_, _, _], [_, _], _, _ => ⟨_, rfl, rfl⟩)
  cases hv
  exact hb
theorem s0 : FSt (fnTab fs) free tk f0 d0 := ⟨⟨by kernel_rfl, by kernel_rfl, by kernel_rfl, by decide +kernel, by kernel_rfl, by decide +kernel, by decide +kernel⟩, bd0, by kernel_rfl, by kernel_rfl, by kernel_rfl⟩
theorem bd1 : ∀ (K : PySem.W.Frag) (fad : Addr) (fd : FuncData), FunD K f1.nm f1.nm f1.ar f1.body f1.scope (f1.dfl.map (He.Dv.v K)) [] fad fd → Binds K fd f1.ps [] := fun _ _ _ F => F.bindsN fun _ _ _ _ _ _ us hl => match us, hl with | [_], _ => rfl
theorem s1 : FSt (fnTab fs) free tk f1 d1 := ⟨⟨by kernel_rfl, by kernel_rfl, by kernel_rfl, by decide +kernel, by kernel_rfl, by decide +kernel, by decide +kernel⟩, bd1, by kernel_rfl, by kernel_rfl, by kernel_rfl⟩
theorem bd2 : ∀ (K : PySem.W.Frag) (fad : Addr) (fd : FuncData), FunD K f2.nm f2.nm f2.ar f2.body f2.scope (f2.dfl.map (He.Dv.v K)) [] fad fd → Binds K fd f2.ps [] := fun _ _ _ F => F.bindsN fun _ _ _ _ _ _ us hl => match us, hl with | [_], _ => rfl
theorem s2 : FSt (fnTab fs) free tk f2 d2 := ⟨⟨by kernel_rfl, by kernel_rfl, by kernel_rfl, by decide +kernel, by kernel_rfl, by decide +kernel, by decide +kernel⟩, bd2, by kernel_rfl, by kernel_rfl, by kernel_rfl⟩
theorem bd3 : ∀ (K : PySem.W.Frag) (fad : Addr) (fd : FuncData), FunD K f3.nm f3.nm f3.ar f3.body f3.scope (f3.dfl.map (He.Dv.v K)) [] fad fd → Binds K fd f3.ps [] := fun _ _ _ F => F.bindsN fun _ _ _ _ _ _ us hl => match us, hl with | [_], _ => rfl
theorem s3 : FSt (fnTab fs) free tk f3 d3 := ⟨⟨by kernel_rfl, by kernel_rfl, by kernel_rfl, by decide +kernel, by kernel_rfl, by decide +kernel, by decide +kernel⟩, bd3, by kernel_rfl, by kernel_rfl, by kernel_rfl⟩
theorem bd4 : ∀ (K : PySem.W.Frag) (fad : Addr) (fd : FuncData), FunD K f4.nm f4.nm f4.ar f4.body f4.scope (f4.dfl.map (He.Dv.v K)) [] fad fd → Binds K fd f4.ps [] := fun _ _ _ F => F.bindsN fun _ _ _ _ _ _ us hl => match us, hl with | [_], _ => rfl
theorem s4 : FSt (fnTab fs) free tk f4 d4 := ⟨⟨by kernel_rfl, by kernel_rfl, by kernel_rfl, by decide +kernel, by kernel_rfl, by decide +kernel, by decide +kernel⟩, bd4, by kernel_rfl, by kernel_rfl, by kernel_rfl⟩
theorem bd5 : ∀ (K : PySem.W.Frag) (fad : Addr) (fd : FuncData), FunD K f5.nm f5.nm f5.ar f5.body f5.scope (f5.dfl.map (He.Dv.v K)) [] fad fd → Binds K fd f5.ps [] := fun _ _ _ F => F.bindsN fun _ _ _ _ _ _ us hl => match us, hl with | [_], _ => rfl
theorem s5 : FSt (fnTab fs) free tk f5 d5 := ⟨⟨by kernel_rfl, by kernel_rfl, by kernel_rfl, by decide +kernel, by kernel_rfl, by decide +kernel, by decide +kernel⟩, bd5, by kernel_rfl, by kernel_rfl, by kernel_rfl⟩
theorem bd6 : ∀ (K : PySem.W.Frag) (fad : Addr) (fd : FuncData), FunD K f6.nm f6.nm f6.ar f6.body f6.scope (f6.dfl.map (He.Dv.v K)) [] fad fd → Binds K fd f6.ps [] := fun _ _ _ F => F.bindsN fun _ _ _ _ _ _ us hl => match us, hl with | [_, _], _ => rfl
theorem s6 : FSt (fnTab fs) free tk f6 d6 := ⟨⟨by kernel_rfl, by kernel_rfl, by kernel_rfl, by decide +kernel, by kernel_rfl, by decide +kernel, by decide +kernel⟩, bd6, by kernel_rfl, by kernel_rfl, by kernel_rfl⟩
theorem bd7 : ∀ (K : PySem.W.Frag) (fad : Addr) (fd : FuncData), FunD K f7.nm f7.nm f7.ar f7.body f7.scope (f7.dfl.map (He.Dv.v K)) [] fad fd → Binds K fd f7.ps [] := fun _ _ _ F => F.bindsN fun _ _ _ _ _ _ us hl => match us, hl with | [_, _, _], _ => rfl
theorem s7 : FSt (fnTab fs) free tk f7 d7 := ⟨⟨by kernel_rfl, by kernel_rfl, by kernel_rfl, by decide +kernel, by kernel_rfl, by decide +kernel, by decide +kernel⟩, bd7, by kernel_rfl, by kernel_rfl, by kernel_rfl⟩
theorem bd8 : ∀ (K : PySem.W.Frag) (fad : Addr) (fd : FuncData), FunD K f8.nm f8.nm f8.ar f8.body f8.scope (f8.dfl.map (He.Dv.v K)) [] fad fd → Binds K fd f8.ps [] := fun _ _ _ F => F.bindsN fun _ _ _ _ _ _ us hl => match us, hl with | [_], _ => rfl
theorem s8 : FSt (fnTab fs) free tk f8 d8 := ⟨⟨by kernel_rfl, by kernel_rfl, by kernel_rfl, by decide +kernel, by kernel_rfl, by decide +kernel, by decide +kernel⟩, bd8, by kernel_rfl, by kernel_rfl, by kernel_rfl⟩
theorem bd9 : ∀ (K : PySem.W.Frag) (fad : Addr) (fd : FuncData), FunD K f9.nm f9.nm f9.ar f9.body f9.scope (f9.dfl.map (He.Dv.v K)) [] fad fd → Binds K fd f9.ps [] := fun _ _ _ F => F.bindsN fun _ _ _ _ _ _ us hl => match us, hl with | [_], _ => rfl
theorem s9 : FSt (fnTab fs) free tk f9 d9 := ⟨⟨by kernel_rfl, by kernel_rfl, by kernel_rfl, by decide +kernel, by kernel_rfl, by decide +kernel, by decide +kernel⟩, bd9, by kernel_rfl, by kernel_rfl, by kernel_rfl⟩
theorem bd10 : ∀ (K : PySem.W.Frag) (fad : Addr) (fd : FuncData), FunD K f10.nm f10.nm f10.ar f10.body f10.scope (f10.dfl.map (He.Dv.v K)) [] fad fd → Binds K fd f10.ps [] := fun _ _ _ F => F.bindsN fun _ _ _ _ _ _ us hl => match us, hl with | [_], _ => rfl
theorem s10 : FSt (fnTab fs) free tk f10 d10 := ⟨⟨by kernel_rfl, by kernel_rfl, by kernel_rfl, by decide +kernel, by kernel_rfl, by decide +kernel, by decide +kernel⟩, bd10, by kernel_rfl, by kernel_rfl, by kernel_rfl⟩
theorem bd11 : ∀ (K : PySem.W.Frag) (fad : Addr) (fd : FuncData), FunD K f11.nm f11.nm f11.ar f11.body f11.scope (f11.dfl.map (He.Dv.v K)) [] fad fd → Binds K fd f11.ps [] := fun _ _ _ F => F.bindsN fun _ _ _ _ _ _ us hl => match us, hl with | [_, _], _ => rfl
theorem s11 : FSt (fnTab fs) free tk f11 d11 := ⟨⟨by kernel_rfl, by kernel_rfl, by kernel_rfl, by decide +kernel, by kernel_rfl, by decide +kernel, by decide +kernel⟩, bd11, by kernel_rfl, by kernel_rfl, by kernel_rfl⟩
theorem bd12 : ∀ (K : PySem.W.Frag) (fad : Addr) (fd : FuncData), FunD K f12.nm f12.nm f12.ar f12.body f12.scope (f12.dfl.map (He.Dv.v K)) [] fad fd → Binds K fd f12.ps [] := fun _ _ _ F => F.bindsN fun _ _ _ _ _ _ us hl => match us, hl with | [_], _ => rfl
theorem s12 : FSt (fnTab fs) free tk f12 d12 := ⟨⟨by kernel_rfl, by kernel_rfl, by kernel_rfl, by decide +kernel, by kernel_rfl, by decide +kernel, by decide +kernel⟩, bd12, by kernel_rfl, by kernel_rfl, by kernel_rfl⟩
theorem bd13 : ∀ (K : PySem.W.Frag) (fad : Addr) (fd : FuncData), FunD K f13.nm f13.nm f13.ar f13.body f13.scope (f13.dfl.map (He.Dv.v K)) [] fad fd → Binds K fd f13.ps [] := fun _ _ _ F => F.bindsN fun _ _ _ _ _ _ us hl => match us, hl with | [_], _ => rfl
theorem s13 : FSt (fnTab fs) free tk f13 d13 := ⟨⟨by kernel_rfl, by kernel_rfl, by kernel_rfl, by decide +kernel, by kernel_rfl, by decide +kernel, by decide +kernel⟩, bd13, by kernel_rfl, by kernel_rfl, by kernel_rfl⟩
theorem bd14 : ∀ (K : PySem.W.Frag) (fad : Addr) (fd : FuncData), FunD K f14.nm f14.nm f14.ar f14.body f14.scope (f14.dfl.map (He.Dv.v K)) [] fad fd → Binds K fd f14.ps [] := fun _ _ _ F => F.bindsN fun _ _ _ _ _ _ us hl => match us, hl with | [_, _], _ => rfl
theorem s14 : FSt (fnTab fs) free tk f14 d14 := ⟨⟨by kernel_rfl, by kernel_rfl, by kernel_rfl, by decide +kernel, by kernel_rfl, by decide +kernel, by decide +kernel⟩, bd14, by kernel_rfl, by kernel_rfl, by kernel_rfl⟩
theorem bd15 : ∀ (K : PySem.W.Frag) (fad : Addr) (fd : FuncData), FunD K f15.nm f15.nm f15.ar f15.body f15.scope (f15.dfl.map (He.Dv.v K)) [] fad fd → Binds K fd f15.ps [] := fun _ _ _ F => F.bindsN fun _ _ _ _ _ _ us hl => match us, hl with | [_, _], _ => rfl
theorem s15 : FSt (fnTab fs) free tk f15 d15 := ⟨⟨by kernel_rfl, by kernel_rfl, by kernel_rfl, by decide +kernel, by kernel_rfl, by decide +kernel, by decide +kernel⟩, bd15, by kernel_rfl, by kernel_rfl, by kernel_rfl⟩
theorem bd16 : ∀ (K : PySem.W.Frag) (fad : Addr) (fd : FuncData), FunD K f16.nm f16.nm f16.ar f16.body f16.scope (f16.dfl.map (He.Dv.v K)) [] fad fd → Binds K fd f16.ps [] := fun _ _ _ F => F.bindsN fun _ _ _ _ _ _ us hl => match us, hl with | [_], _ => rfl
theorem s16 : FSt (fnTab fs) free tk f16 d16 := ⟨⟨by kernel_rfl, by kernel_rfl, by kernel_rfl, by decide +kernel, by kernel_rfl, by decide +kernel, by decide +kernel⟩, bd16, by kernel_rfl, by kernel_rfl, by kernel_rfl⟩
theorem bd17 : ∀ (K : PySem.W.Frag) (fad : Addr) (fd : FuncData), FunD K f17.nm f17.nm f17.ar f17.body f17.scope (f17.dfl.map (He.Dv.v K)) [] fad fd → Binds K fd f17.ps [] := fun _ _ _ F => F.bindsN fun _ _ _ _ _ _ us hl => match us, hl with | [_, _], _ => rfl
theorem s17 : FSt (fnTab fs) free tk f17 d17 := ⟨⟨by kernel_rfl, by kernel_rfl, by kernel_rfl, by decide +kernel, by kernel_rfl, by decide +kernel, by decide +kernel⟩, bd17, by kernel_rfl, by kernel_rfl, by kernel_rfl⟩
theorem bd18 : ∀ (K : PySem.W.Frag) (fad : Addr) (fd : FuncData), FunD K f18.nm f18.nm f18.ar f18.body f18.scope (f18.dfl.map (He.Dv.v K)) [] fad fd → Binds K fd f18.ps [] := fun _ _ _ F => F.bindsN fun _ _ _ _ _ _ us hl => match us, hl with | [_, _], _ => rfl
theorem s18 : FSt (fnTab fs) free tk f18 d18 := ⟨⟨by kernel_rfl, by kernel_rfl, by kernel_rfl, by decide +kernel, by kernel_rfl, by decide +kernel, by decide +kernel⟩, bd18, by kernel_rfl, by kernel_rfl, by kernel_rfl⟩
theorem bd19 : ∀ (K : PySem.W.Frag) (fad : Addr) (fd : FuncData), FunD K f19.nm f19.nm f19.ar f19.body f19.scope (f19.dfl.map (He.Dv.v K)) [] fad fd → Binds K fd f19.ps [] := fun _ _ _ F => F.bindsN fun _ _ _ _ _ _ us hl => match us, hl with | [], _ => rfl
theorem s19 : FSt (fnTab fs) free tk f19 d19 := ⟨⟨by kernel_rfl, by kernel_rfl, by kernel_rfl, by decide +kernel, by kernel_rfl, by decide +kernel, by decide +kernel⟩, bd19, by kernel_rfl, by kernel_rfl, by kernel_rfl⟩
theorem bd20 : ∀ (K : PySem.W.Frag) (fad : Addr) (fd : FuncData), FunD K f20.nm f20.nm f20.ar f20.body f20.scope (f20.dfl.map (He.Dv.v K)) [] fad fd → Binds K fd f20.ps [] := fun _ _ _ F => F.bindsN fun _ _ _ _ _ _ us hl => match us, hl with | [_, _, _], _ => rfl
theorem s20 : FSt (fnTab fs) free tk f20 d20 := ⟨⟨by kernel_rfl, by kernel_rfl, by kernel_rfl, by decide +kernel, by kernel_rfl, by decide +kernel, by decide +kernel⟩, bd20, by kernel_rfl, by kernel_rfl, by kernel_rfl⟩
theorem bd21 : ∀ (K : PySem.W.Frag) (fad : Addr) (fd : FuncData), FunD K f21.nm f21.nm f21.ar f21.body f21.scope (f21.dfl.map (He.Dv.v K)) [] fad fd → Binds K fd f21.ps [] := fun _ _ _ F => F.bindsN fun _ _ _ _ _ _ us hl => match us, hl with | [_], _ => rfl
theorem s21 : FSt (fnTab fs) free tk f21 d21 := ⟨⟨by kernel_rfl, by kernel_rfl, by kernel_rfl, by decide +kernel, by kernel_rfl, by decide +kernel, by decide +kernel⟩, bd21, by kernel_rfl, by kernel_rfl, by kernel_rfl⟩
theorem bd22 : ∀ (K : PySem.W.Frag) (fad : Addr) (fd : FuncData), FunD K f22.nm f22.nm f22.ar f22.body f22.scope (f22.dfl.map (He.Dv.v K)) [] fad fd → Binds K fd f22.ps [] := fun _ _ _ F => F.bindsN fun _ _ _ _ _ _ us hl => match us, hl with | [_, _], _ => rfl
theorem s22 : FSt (fnTab fs) free tk f22 d22 := ⟨⟨by kernel_rfl, by kernel_rfl, by kernel_rfl, by decide +kernel, by kernel_rfl, by decide +kernel, by decide +kernel⟩, bd22, by kernel_rfl, by kernel_rfl, by kernel_rfl⟩
theorem bd23 : ∀ (K : PySem.W.Frag) (fad : Addr) (fd : FuncData), FunD K f23.nm f23.nm f23.ar f23.body f23.scope (f23.dfl.map (He.Dv.v K)) [] fad fd → Binds K fd f23.ps [] := fun _ _ _ F => F.bindsN fun _ _ _ _ _ _ us hl => match us, hl with | [_, _, _], _ => rfl
theorem s23 : FSt (fnTab fs) free tk f23 d23 := ⟨⟨by kernel_rfl, by kernel_rfl, by kernel_rfl, by decide +kernel, by kernel_rfl, by decide +kernel, by decide +kernel⟩, bd23, by kernel_rfl, by kernel_rfl, by kernel_rfl⟩
theorem bd24 : ∀ (K : PySem.W.Frag) (fad : Addr) (fd : FuncData), FunD K f24.nm f24.nm f24.ar f24.body f24.scope (f24.dfl.map (He.Dv.v K)) [] fad fd → Binds K fd f24.ps [] := fun _ _ _ F => F.bindsN fun _ _ _ _ _ _ us hl => match us, hl with | [_], _ => rfl
theorem s24 : FSt (fnTab fs) free tk f24 d24 := ⟨⟨by kernel_rfl, by kernel_rfl, by kernel_rfl, by decide +kernel, by kernel_rfl, by decide +kernel, by decide +kernel⟩, bd24, by kernel_rfl, by kernel_rfl, by kernel_rfl⟩
theorem bd25 : ∀ (K : PySem.W.Frag) (fad : Addr) (fd : FuncData), FunD K f25.nm f25.nm f25.ar f25.body f25.scope (f25.dfl.map (He.Dv.v K)) [] fad fd → Binds K fd f25.ps [] := fun _ _ _ F => F.bindsN fun _ _ _ _ _ _ us hl => match us, hl with | [_], _ => rfl
theorem s25 : FSt (fnTab fs) free tk f25 d25 := ⟨⟨by kernel_rfl, by kernel_rfl, by kernel_rfl, by decide +kernel, by kernel_rfl, by decide +kernel, by decide +kernel⟩, bd25, by kernel_rfl, by kernel_rfl, by kernel_rfl⟩
theorem bd26 : ∀ (K : PySem.W.Frag) (fad : Addr) (fd : FuncData), FunD K f26.nm f26.nm f26.ar f26.body f26.scope (f26.dfl.map (He.Dv.v K)) [] fad fd → Binds K fd f26.ps [] := fun _ _ _ F => F.bindsN fun _ _ _ _ _ _ us hl => match us, hl with | [_], _ => rfl
theorem s26 : FSt (fnTab fs) free tk f26 d26 := ⟨⟨by kernel_rfl, by kernel_rfl, by kernel_rfl, by decide +kernel, by kernel_rfl, by decide +kernel, by decide +kernel⟩, bd26, by kernel_rfl, by kernel_rfl, by kernel_rfl⟩
theorem bd27 : ∀ (K : PySem.W.Frag) (fad : Addr) (fd : FuncData), FunD K f27.nm f27.nm f27.ar f27.body f27.scope (f27.dfl.map (He.Dv.v K)) [] fad fd → Binds K fd f27.ps [] := fun _ _ _ F => F.bindsN fun _ _ _ _ _ _ us hl => match us, hl with | [_, _], _ => rfl
theorem s27 : FSt (fnTab fs) free tk f27 d27 := ⟨⟨by kernel_rfl, by kernel_rfl, by kernel_rfl, by decide +kernel, by kernel_rfl, by decide +kernel, by decide +kernel⟩, bd27, by kernel_rfl, by kernel_rfl, by kernel_rfl⟩
theorem bd28 : ∀ (K : PySem.W.Frag) (fad : Addr) (fd : FuncData), FunD K f28.nm f28.nm f28.ar f28.body f28.scope (f28.dfl.map (He.Dv.v K)) [] fad fd → Binds K fd f28.ps [] := fun _ _ _ F => F.bindsN fun _ _ _ _ _ _ us hl => match us, hl with | [_], _ => rfl
theorem s28 : FSt (fnTab fs) free tk f28 d28 := ⟨⟨by kernel_rfl, by kernel_rfl, by kernel_rfl, by decide +kernel, by kernel_rfl, by decide +kernel, by decide +kernel⟩, bd28, by kernel_rfl, by kernel_rfl, by kernel_rfl⟩
theorem bd29 : ∀ (K : PySem.W.Frag) (fad : Addr) (fd : FuncData), FunD K f29.nm f29.nm f29.ar f29.body f29.scope (f29.dfl.map (He.Dv.v K)) [] fad fd → Binds K fd f29.ps [] := fun _ _ _ F => F.bindsN fun _ _ _ _ _ _ us hl => match us, hl with | [_, _, _, _], _ => rfl
theorem s29 : FSt (fnTab fs) free tk f29 d29 := ⟨⟨by kernel_rfl, by kernel_rfl, by kernel_rfl, by decide +kernel, by kernel_rfl, by decide +kernel, by decide +kernel⟩, bd29, by kernel_rfl, by kernel_rfl, by kernel_rfl⟩
theorem bd30 : ∀ (K : PySem.W.Frag) (fad : Addr) (fd : FuncData), FunD K f30.nm f30.nm f30.ar f30.body f30.scope (f30.dfl.map (He.Dv.v K)) [] fad fd → Binds K fd f30.ps [] := fun _ _ _ F => F.bindsN fun _ _ _ _ _ _ us hl => match us, hl with | [_, _, _, _, _], _ => rfl
theorem s30 : FSt (fnTab fs) free tk f30 d30 := ⟨⟨by kernel_rfl, by kernel_rfl, by kernel_rfl, by decide +kernel, by kernel_rfl, by decide +kernel, by decide +kernel⟩, bd30, by kernel_rfl, by kernel_rfl, by kernel_rfl⟩
theorem bd31 : ∀ (K : PySem.W.Frag) (fad : Addr) (fd : FuncData), FunD K f31.nm f31.nm f31.ar f31.body f31.scope (f31.dfl.map (He.Dv.v K)) [] fad fd → Binds K fd f31.ps [] := fun _ _ _ F => F.bindsN fun _ _ _ _ _ _ us hl => match us, hl with | [_, _, _], _ => rfl
theorem s31 : FSt (fnTab fs) free tk f31 d31 := ⟨⟨by kernel_rfl, by kernel_rfl, by kernel_rfl, by decide +kernel, by kernel_rfl, by decide +kernel, by decide +kernel⟩, bd31, by kernel_rfl, by kernel_rfl, by kernel_rfl⟩
theorem bd32 : ∀ (K : PySem.W.Frag) (fad : Addr) (fd : FuncData), FunD K f32.nm f32.nm f32.ar f32.body f32.scope (f32.dfl.map (He.Dv.v K)) [] fad fd → Binds K fd f32.ps [] := fun _ _ _ F => F.bindsN fun _ _ _ _ _ _ us hl => match us, hl with | [_, _, _], _ => rfl
theorem s32 : FSt (fnTab fs) free tk f32 d32 := ⟨⟨by kernel_rfl, by kernel_rfl, by kernel_rfl, by decide +kernel, by kernel_rfl, by decide +kernel, by decide +kernel⟩, bd32, by kernel_rfl, by kernel_rfl, by kernel_rfl⟩
theorem bd33 : ∀ (K : PySem.W.Frag) (fad : Addr) (fd : FuncData), FunD K f33.nm f33.nm f33.ar f33.body f33.scope (f33.dfl.map (He.Dv.v K)) [] fad fd → Binds K fd f33.ps [] := fun _ _ _ F => F.bindsN fun _ _ _ _ _ _ us hl => match us, hl with | [_, _, _], _ => rfl
theorem s33 : FSt (fnTab fs) free tk f33 d33 := ⟨⟨by kernel_rfl, by kernel_rfl, by kernel_rfl, by decide +kernel, by kernel_rfl, by decide +kernel, by decide +kernel⟩, bd33, by kernel_rfl, by kernel_rfl, by kernel_rfl⟩
theorem bd34 : ∀ (K : PySem.W.Frag) (fad : Addr) (fd : FuncData), FunD K f34.nm f34.nm f34.ar f34.body f34.scope (f34.dfl.map (He.Dv.v K)) [] fad fd → Binds K fd f34.ps [] := fun _ _ _ F => F.bindsN fun _ _ _ _ _ _ us hl => match us, hl with | [_, _], _ => rfl
theorem s34 : FSt (fnTab fs) free tk f34 d34 := ⟨⟨by kernel_rfl, by kernel_rfl, by kernel_rfl, by decide +kernel, by kernel_rfl, by decide +kernel, by decide +kernel⟩, bd34, by kernel_rfl, by kernel_rfl, by kernel_rfl⟩
theorem bd35 : ∀ (K : PySem.W.Frag) (fad : Addr) (fd : FuncData), FunD K f35.nm f35.nm f35.ar f35.body f35.scope (f35.dfl.map (He.Dv.v K)) [] fad fd → Binds K fd f35.ps [] := fun _ _ _ F => F.bindsN fun _ _ _ _ _ _ us hl => match us, hl with | [_, _, _], _ => rfl
theorem s35 : FSt (fnTab fs) free tk f35 d35 := ⟨⟨by kernel_rfl, by kernel_rfl, by kernel_rfl, by decide +kernel, by kernel_rfl, by decide +kernel, by decide +kernel⟩, bd35, by kernel_rfl, by kernel_rfl, by kernel_rfl⟩
theorem bd36 : ∀ (K : PySem.W.Frag) (fad : Addr) (fd : FuncData), FunD K f36.nm f36.nm f36.ar f36.body f36.scope (f36.dfl.map (He.Dv.v K)) [] fad fd → Binds K fd f36.ps [] := fun _ _ _ F => F.bindsN fun _ _ _ _ _ _ us hl => match us, hl with | [_], _ => rfl
theorem s36 : FSt (fnTab fs) free tk f36 d36 := ⟨⟨by kernel_rfl, by kernel_rfl, by kernel_rfl, by decide +kernel, by kernel_rfl, by decide +kernel, by decide +kernel⟩, bd36, by kernel_rfl, by kernel_rfl, by kernel_rfl⟩
theorem bd37 : ∀ (K : PySem.W.Frag) (fad : Addr) (fd : FuncData), FunD K f37.nm f37.nm f37.ar f37.body f37.scope (f37.dfl.map (He.Dv.v K)) [] fad fd → Binds K fd f37.ps [] := fun _ _ _ F => F.bindsN fun _ _ _ _ _ _ us hl => match us, hl with | [_, _], _ => rfl
theorem s37 : FSt (fnTab fs) free tk f37 d37 := ⟨⟨by kernel_rfl, by kernel_rfl, by kernel_rfl, by decide +kernel, by kernel_rfl, by decide +kernel, by decide +kernel⟩, bd37, by kernel_rfl, by kernel_rfl, by kernel_rfl⟩
theorem bd38 : ∀ (K : PySem.W.Frag) (fad : Addr) (fd : FuncData), FunD K f38.nm f38.nm f38.ar f38.body f38.scope (f38.dfl.map (He.Dv.v K)) [] fad fd → Binds K fd f38.ps [] := fun _ _ _ F => F.bindsN fun _ _ _ _ _ _ us hl => match us, hl with | [_, _], _ => rfl
theorem s38 : FSt (fnTab fs) free tk f38 d38 := ⟨⟨by kernel_rfl, by kernel_rfl, by kernel_rfl, by decide +kernel, by kernel_rfl, by decide +kernel, by decide +kernel⟩, bd38, by kernel_rfl, by kernel_rfl, by kernel_rfl⟩
theorem bd39 : ∀ (K : PySem.W.Frag) (fad : Addr) (fd : FuncData), FunD K f39.nm f39.nm f39.ar f39.body f39.scope (f39.dfl.map (He.Dv.v K)) [] fad fd → Binds K fd f39.ps [] := fun _ _ _ F => F.bindsN fun _ _ _ _ _ _ us hl => match us, hl with | [_], _ => rfl
theorem s39 : FSt (fnTab fs) free tk f39 d39 := ⟨⟨by kernel_rfl, by kernel_rfl, by kernel_rfl, by decide +kernel, by kernel_rfl, by decide +kernel, by decide +kernel⟩, bd39, by kernel_rfl, by kernel_rfl, by kernel_rfl⟩
theorem bdL : ∀ (kV doc pm : Value) (an : Option Addr) (cdv ct : Value) (us : List Value), us.length = f39.ps.length → bindArgs (PySem.W.fnOf f39.nm f39.nm f39.ar f39.body f39.scope .none kV doc pm an cdv ct) ⟨us, []⟩ = pure (f39.ps.zip us) := fun _ _ _ _ _ _ us hl => match us, hl with | [_], _ => rfl
theorem st : Paired (FSt (fnTab fs) free tk) fs ds := .cons s0 (.cons s1 (.cons s2 (.cons s3 (.cons s4 (.cons s5 (.cons s6 (.cons s7 (.cons s8 (.cons s9 (.cons s10 (.cons s11 (.cons s12 (.cons s13 (.cons s14 (.cons s15 (.cons s16 (.cons s17 (.cons s18 (.cons s19 (.cons s20 (.cons s21 (.cons s22 (.cons s23 (.cons s24 (.cons s25 (.cons s26 (.cons s27 (.cons s28 (.cons s29 (.cons s30 (.cons s31 (.cons s32 (.cons s33 (.cons s34 (.cons s35 (.cons s36 (.cons s37 (.cons s38 (.cons s39 (.nil))))))))))))))))))))))))))))))))))))))))
end K04
/-! PvPl: plain laws: stores, the hand that draws. -/
namespace Kg
open PySem

/-! ### stores -/
def Keep (S : List Nat) (st st' : Sto) : Prop := st.length ≤ st'.length ∧ ∀ n, n < st.length → n ∉ S → st'[n]? = st[n]?
theorem Keep.refl {S : List Nat} {st : Sto} : Keep S st st := ⟨Nat.le_refl _, fun _ _ _ => rfl⟩
theorem Keep.trans {S : List Nat} {a b c : Sto} (h : Keep S a b) (k : Keep S b c) : Keep S a c := ⟨Nat.le_trans h.1 k.1, fun n hn hS => (k.2 n (Nat.lt_of_lt_of_le hn h.1) hS).trans (h.2 n hn hS)⟩
theorem Keep.app {S : List Nat} {st jk : Sto} : Keep S st (st ++ jk) := ⟨by simp, fun n hn _ => List.getElem?_append_left hn⟩
theorem Keep.set {S : List Nat} {st : Sto} {n : Nat} {o : Ob} (h : n ∈ S) : Keep S st (st.set n o) := ⟨by simp, fun m hm hS => List.getElem?_set_ne (fun e => hS (by rw [← e]; exact h))⟩
theorem Keep.get {S : List Nat} {st st' : Sto} {n : Nat} {o : Ob} (k : Keep S st st') (h : st[n]? = some o) (hS : n ∉ S) : st'[n]? = some o := by
  rw [k.2 n (List.getElem?_eq_some_iff.mp h).1 hS]; exact h
theorem Keep.mono {S S' : List Nat} {st st' : Sto} (k : Keep S st st') (h : ∀ x ∈ S, x ∈ S') : Keep S' st st' := ⟨k.1, fun n hn hS => k.2 n hn fun z => hS (h n z)⟩
theorem get_lt {st : Sto} {n : Nat} {o : Ob} (h : st[n]? = some o) : n < st.length := (List.getElem?_eq_some_iff.mp h).1
theorem set_get {st : Sto} {n : Nat} {o o' : Ob} (h : st[n]? = some o) : (st.set n o')[n]? = some o' := List.getElem?_set_self (get_lt h)
theorem app_get {st jk : Sto} {n : Nat} {o : Ob} (h : st[n]? = some o) : (st ++ jk)[n]? = some o := by rw [List.getElem?_append_left (get_lt h)]; exact h
theorem new_get {st : Sto} {o : Ob} {jk : Sto} : (st ++ o :: jk)[st.length]? = some o := by simp

/-! ### values -/
section
variable {st : Sto} {i j : Int} {x y z : PV} {xs : List PV}
theorem atI_nat {k : Nat} (h : k < xs.length) : L2.atI xs (k : Int) = some xs[k] := by
  unfold L2.atI L2.ixN
  rw [if_pos (by omega), if_pos (by omega)]
  simp [h]
theorem atI0 : L2.atI (x :: xs) 0 = some x := atI_nat (xs := x :: xs) (k := 0) (by simp)
theorem atI1 : L2.atI (x :: y :: xs) 1 = some y := atI_nat (xs := x :: y :: xs) (k := 1) (by simp)
theorem atI2 : L2.atI (x :: y :: z :: xs) 2 = some z := atI_nat (xs := x :: y :: z :: xs) (k := 2) (by simp)
theorem atI3 {w : PV} : L2.atI (x :: y :: z :: w :: xs) 3 = some w := atI_nat (xs := x :: y :: z :: w :: xs) (k := 3) (by simp)
theorem ixV_tup : ixV (.tup xs) (.int i) st = L2.atI xs i := rfl
theorem ixV_ref {n : Nat} (h : st[n]? = some (.lst xs)) : ixV (.ref n) (.int i) st = L2.atI xs i := by
  simp only [ixV, sqOf, h]
theorem bop_add_i : bop .add (.int i) (.int j) st = some (.int (i + j), st) := rfl
theorem bop_sub_i : bop .sub (.int i) (.int j) st = some (.int (i - j), st) := rfl
theorem bop_mul_i (h : (-(2 ^ 64) < i ∧ i < 2 ^ 64) ∨ (-(2 ^ 64) < j ∧ j < 2 ^ 64)) : bop .mul (.int i) (.int j) st = some (.int (i * j), st) := by simp only [bop]; rw [if_pos h]
theorem bop_fdiv_i (h : 0 < j ∧ j < 1073741824) : bop .fdiv (.int i) (.int j) st = some (.int (i / j), st) := by simp only [bop]; rw [if_pos h]
theorem bop_mod_i (h : 0 < j) : bop .mod (.int i) (.int j) st = some (.int (i % j), st) := by simp only [bop]; rw [if_pos h]
theorem cop_eq_i : cop .eq (.int i) (.int j) st = some (decide (i = j)) := by
  show eqV st (.int i) (.int j) = _
  simp only [eqV, topD, okD, dD, if_true, PyData.depth, Nat.min_self]
  rw [if_pos (by decide)]
  simp [PyData.eqv]
  rfl
theorem cop_lt_i : cop .lt (.int i) (.int j) st = some (decide (i < j)) := rfl
theorem cop_gt_i : cop .gt (.int i) (.int j) st = some (decide (j < i)) := rfl
theorem tru_b {k : Bool} : tru (.bl k) st = some k := rfl
theorem int_i : biV .int [.int i] st = some (.int i, st) := rfl
theorem abs_i : biV .abs [.int i] st = some (.int (if i < 0 then -i else i), st) := rfl
theorem len_l {n : Nat} (h : st[n]? = some (.lst xs)) : biV .len [.ref n] st = some (.int xs.length, st) := by
  simp only [biV, sqOf, h]
theorem len_t : biV .len [.tup xs] st = some (.int xs.length, st) := rfl
theorem list_l {n : Nat} (h : st[n]? = some (.lst xs)) : biV .list [.ref n] st = some (.ref st.length, st ++ [.lst xs]) := by
  simp only [biV, sqOf, h]
theorem list_t : biV .list [.tup xs] st = some (.ref st.length, st ++ [.lst xs]) := rfl
theorem tuple_l {n : Nat} (h : st[n]? = some (.lst xs)) : biV .tuple [.ref n] st = some (.tup xs, st) := by
  simp only [biV, sqOf, h]
theorem tuple_t : biV .tuple [.tup xs] st = some (.tup xs, st) := rfl
theorem set_l {n : Nat} {k : Int} {m : Nat} (h : st[n]? = some (.lst xs)) (hm : L2.ixN xs.length k = some m) : setV (.ref n) (.int k) x st = some (st.set n (.lst (xs.set m x))) := by
  simp only [setV, h, hm, Option.map_some]
theorem dec_if {c : Prop} [Decidable c] {A B : Prop} : (if decide c = true then A else B) = (if c then A else B) := by
  by_cases h : c <;> simp [h]
end

end Kg
/-! PvPl2: plain laws: the hand that draws. -/
namespace Kg
open PySem

/-! ### the hand -/
def mixedDef : Def := ⟨4, 2, [.asg (.nm 2) (.bin .mod (.bi .int [.bin .add (.bin .add (.bin .mul (.var 0) (.cst (.int 39373))) (.bin .mul (.var 1) (.cst (.int 6151)))) (.cst (.int 50021))]) (.cst (.int 2147483399))), .asg (.nm 3) (.bin .mod (.bi .int [.bin .add (.bin .add (.bin .mul (.var 2) (.var 2)) (.bin .mul (.var 1) (.cst (.int 81071)))) (.bin .fdiv (.var 2) (.cst (.int 137)))]) (.cst (.int 2147483629))), .ret (.bin .fdiv (.bi .int [.bin .mod (.bi .int [.bin .add (.bin .mul (.var 3) (.cst (.int 62089))) (.bin .fdiv (.var 2) (.cst (.int 11)))]) (.cst (.int 2147483587))]) (.cst (.int 64)))]⟩
variable {P : List Def} {im it n : Nat} {st : Sto} {Q : PV → Sto → Prop}
theorem m64 {c : Int} (h1 : -1000000000 < c) (h2 : c < 1000000000) {i : Int} : (-(2 ^ 64) < i ∧ i < 2 ^ 64) ∨ (-(2 ^ 64) < c ∧ c < 2 ^ 64) := .inr ⟨by omega, by omega⟩
theorem w_mixed (hP : P[im]? = some mixedDef) {a t : Int} (h : ∀ k : Int, 0 ≤ k → Q (.int k) st) : wO (callF P (n + 1) im [.int a, .int t] st) Q := by
  rw [w_callF, hP, wA_some]
  simp -implicitDefEqProofs only [mixedDef, bop_add_i, int_i, exS, exSs, evX, evs, evt, pr, condOf, w_bin, w_neg, w_cmp, w_isn, w_isb, w_and, w_or, w_not, w_ife, w_tup, w_lst, w_star, w_ix, w_sli, w_call, w_bi, w_met, w_isi, w_comp, w_fstr, w_dict0, w_lvals, w_nil, w_cons, w_tst, w_tnot, w_tand, w_tor, w_var, Kg.w_next, w_seq, w_asg, w_set, w_expr, w_ret, w_if, w_for, w_aug, wO_some, wF_some, wA_some, wA_map, wO_ite, wA_ite, isStar, spl, startE, wipeE, bindT, bindTs, List.map_cons, List.map_nil, List.length_cons, List.length_nil, List.replicate, List.cons_append, List.nil_append, List.append_nil, List.append_assoc, Nat.reduceAdd, Nat.reduceSub, Nat.reduceLT, Nat.reduceLeDiff, List.getElem?_cons_zero, List.getElem?_cons_succ, List.getElem?_nil, Option.join_some, Option.join_none, List.set_cons_zero, List.set_cons_succ, if_true, if_false, Bool.false_eq_true, Bool.true_eq_false, reduceIte, reduceCtorEq, true_and, and_true, Option.map_some, Option.map_none, Nat.succ_eq_add_one, Nat.zero_add, Nat.add_zero, List.singleton_append]
  rw [bop_mul_i (m64 (by decide) (by decide)), wO_some, bop_mul_i (m64 (by decide) (by decide)), wO_some]
  simp -implicitDefEqProofs only [bop_add_i, int_i, exS, exSs, evX, evs, evt, pr, condOf, w_bin, w_neg, w_cmp, w_isn, w_isb, w_and, w_or, w_not, w_ife, w_tup, w_lst, w_star, w_ix, w_sli, w_call, w_bi, w_met, w_isi, w_comp, w_fstr, w_dict0, w_lvals, w_nil, w_cons, w_tst, w_tnot, w_tand, w_tor, w_var, Kg.w_next, w_seq, w_asg, w_set, w_expr, w_ret, w_if, w_for, w_aug, wO_some, wF_some, wA_some, wA_map, wO_ite, wA_ite, isStar, spl, startE, wipeE, bindT, bindTs, List.map_cons, List.map_nil, List.length_cons, List.length_nil, List.replicate, List.cons_append, List.nil_append, List.append_nil, List.append_assoc, Nat.reduceAdd, Nat.reduceSub, Nat.reduceLT, Nat.reduceLeDiff, List.getElem?_cons_zero, List.getElem?_cons_succ, List.getElem?_nil, Option.join_some, Option.join_none, List.set_cons_zero, List.set_cons_succ, if_true, if_false, Bool.false_eq_true, Bool.true_eq_false, reduceIte, reduceCtorEq, true_and, and_true, Option.map_some, Option.map_none, Nat.succ_eq_add_one, Nat.zero_add, Nat.add_zero, List.singleton_append]
  rw [bop_mod_i (by decide), wO_some]
  have e1 : 0 ≤ (a * 39373 + t * 6151 + 50021) % 2147483399 := Int.emod_nonneg _ (by decide)
  have e2 : (a * 39373 + t * 6151 + 50021) % 2147483399 < 2147483399 := Int.emod_lt_of_pos _ (by decide)
  generalize (a * 39373 + t * 6151 + 50021) % 2147483399 = o at e1 e2 ⊢
  rw [bop_mul_i (.inl ⟨by omega, by omega⟩), wO_some, bop_mul_i (m64 (by decide) (by decide)), wO_some]
  simp -implicitDefEqProofs only [bop_add_i, int_i, exS, exSs, evX, evs, evt, pr, condOf, w_bin, w_neg, w_cmp, w_isn, w_isb, w_and, w_or, w_not, w_ife, w_tup, w_lst, w_star, w_ix, w_sli, w_call, w_bi, w_met, w_isi, w_comp, w_fstr, w_dict0, w_lvals, w_nil, w_cons, w_tst, w_tnot, w_tand, w_tor, w_var, Kg.w_next, w_seq, w_asg, w_set, w_expr, w_ret, w_if, w_for, w_aug, wO_some, wF_some, wA_some, wA_map, wO_ite, wA_ite, isStar, spl, startE, wipeE, bindT, bindTs, List.map_cons, List.map_nil, List.length_cons, List.length_nil, List.replicate, List.cons_append, List.nil_append, List.append_nil, List.append_assoc, Nat.reduceAdd, Nat.reduceSub, Nat.reduceLT, Nat.reduceLeDiff, List.getElem?_cons_zero, List.getElem?_cons_succ, List.getElem?_nil, Option.join_some, Option.join_none, List.set_cons_zero, List.set_cons_succ, if_true, if_false, Bool.false_eq_true, Bool.true_eq_false, reduceIte, reduceCtorEq, true_and, and_true, Option.map_some, Option.map_none, Nat.succ_eq_add_one, Nat.zero_add, Nat.add_zero, List.singleton_append]
  rw [bop_fdiv_i (by decide), wO_some]
  simp -implicitDefEqProofs only [bop_add_i, int_i, exS, exSs, evX, evs, evt, pr, condOf, w_bin, w_neg, w_cmp, w_isn, w_isb, w_and, w_or, w_not, w_ife, w_tup, w_lst, w_star, w_ix, w_sli, w_call, w_bi, w_met, w_isi, w_comp, w_fstr, w_dict0, w_lvals, w_nil, w_cons, w_tst, w_tnot, w_tand, w_tor, w_var, Kg.w_next, w_seq, w_asg, w_set, w_expr, w_ret, w_if, w_for, w_aug, wO_some, wF_some, wA_some, wA_map, wO_ite, wA_ite, isStar, spl, startE, wipeE, bindT, bindTs, List.map_cons, List.map_nil, List.length_cons, List.length_nil, List.replicate, List.cons_append, List.nil_append, List.append_nil, List.append_assoc, Nat.reduceAdd, Nat.reduceSub, Nat.reduceLT, Nat.reduceLeDiff, List.getElem?_cons_zero, List.getElem?_cons_succ, List.getElem?_nil, Option.join_some, Option.join_none, List.set_cons_zero, List.set_cons_succ, if_true, if_false, Bool.false_eq_true, Bool.true_eq_false, reduceIte, reduceCtorEq, true_and, and_true, Option.map_some, Option.map_none, Nat.succ_eq_add_one, Nat.zero_add, Nat.add_zero, List.singleton_append]
  rw [bop_mod_i (by decide), wO_some]
  generalize (o * o + t * 81071 + o / 137) % 2147483629 = o2
  rw [bop_mul_i (m64 (by decide) (by decide)), wO_some, bop_fdiv_i (by decide), wO_some]
  simp -implicitDefEqProofs only [bop_add_i, int_i, exS, exSs, evX, evs, evt, pr, condOf, w_bin, w_neg, w_cmp, w_isn, w_isb, w_and, w_or, w_not, w_ife, w_tup, w_lst, w_star, w_ix, w_sli, w_call, w_bi, w_met, w_isi, w_comp, w_fstr, w_dict0, w_lvals, w_nil, w_cons, w_tst, w_tnot, w_tand, w_tor, w_var, Kg.w_next, w_seq, w_asg, w_set, w_expr, w_ret, w_if, w_for, w_aug, wO_some, wF_some, wA_some, wA_map, wO_ite, wA_ite, isStar, spl, startE, wipeE, bindT, bindTs, List.map_cons, List.map_nil, List.length_cons, List.length_nil, List.replicate, List.cons_append, List.nil_append, List.append_nil, List.append_assoc, Nat.reduceAdd, Nat.reduceSub, Nat.reduceLT, Nat.reduceLeDiff, List.getElem?_cons_zero, List.getElem?_cons_succ, List.getElem?_nil, Option.join_some, Option.join_none, List.set_cons_zero, List.set_cons_succ, if_true, if_false, Bool.false_eq_true, Bool.true_eq_false, reduceIte, reduceCtorEq, true_and, and_true, Option.map_some, Option.map_none, Nat.succ_eq_add_one, Nat.zero_add, Nat.add_zero, List.singleton_append]
  rw [bop_mod_i (by decide), wO_some]
  simp -implicitDefEqProofs only [bop_add_i, int_i, exS, exSs, evX, evs, evt, pr, condOf, w_bin, w_neg, w_cmp, w_isn, w_isb, w_and, w_or, w_not, w_ife, w_tup, w_lst, w_star, w_ix, w_sli, w_call, w_bi, w_met, w_isi, w_comp, w_fstr, w_dict0, w_lvals, w_nil, w_cons, w_tst, w_tnot, w_tand, w_tor, w_var, Kg.w_next, w_seq, w_asg, w_set, w_expr, w_ret, w_if, w_for, w_aug, wO_some, wF_some, wA_some, wA_map, wO_ite, wA_ite, isStar, spl, startE, wipeE, bindT, bindTs, List.map_cons, List.map_nil, List.length_cons, List.length_nil, List.replicate, List.cons_append, List.nil_append, List.append_nil, List.append_assoc, Nat.reduceAdd, Nat.reduceSub, Nat.reduceLT, Nat.reduceLeDiff, List.getElem?_cons_zero, List.getElem?_cons_succ, List.getElem?_nil, Option.join_some, Option.join_none, List.set_cons_zero, List.set_cons_succ, if_true, if_false, Bool.false_eq_true, Bool.true_eq_false, reduceIte, reduceCtorEq, true_and, and_true, Option.map_some, Option.map_none, Nat.succ_eq_add_one, Nat.zero_add, Nat.add_zero, List.singleton_append]
  rw [bop_fdiv_i (by decide), wO_some]
  exact h _ (Int.ediv_nonneg (Int.emod_nonneg _ (by decide)) (by decide))
def takeDef (im : Nat) : Def := ⟨4, 2, [.ifs (.and (.cmp .eq (.ix (.var 0) (.cst (.int 2))) (.cst (.int 0))) (.cmp .lt (.ix (.var 0) (.cst (.int 1))) (.bi .len [.ix (.var 0) (.cst (.int 0))]))) [.asg (.nm 2) (.ix (.ix (.var 0) (.cst (.int 0))) (.ix (.var 0) (.cst (.int 1)))), .setix (.var 0) (.cst (.int 1)) (.bin .add (.ix (.var 0) (.cst (.int 1))) (.cst (.int 1))), .ifs (.cmp .lt (.var 2) (.bin .pow (.cst (.int 10)) (.cst (.int 18)))) [.ret (.bin .mod (.bi .int [.call im [.bin .mod (.bi .int [.var 2]) (.cst (.int 2147483399)), .ix (.var 0) (.cst (.int 1))]]) (.var 1))] [], .setix (.var 0) (.cst (.int 2)) (.var 2)] [], .ifs (.cmp .gt (.ix (.var 0) (.cst (.int 2))) (.cst (.int 0))) [.asg (.nm 3) (.ix (.var 0) (.cst (.int 2))), .setix (.var 0) (.cst (.int 2)) (.bin .fdiv (.bi .int [.var 3]) (.var 1)), .ret (.bin .mod (.bi .int [.var 3]) (.var 1))] [], .setix (.var 0) (.cst (.int 3)) (.bin .mod (.bi .int [.bin .add (.ix (.var 0) (.cst (.int 3))) (.cst (.int 1))]) (.cst (.int 2147483549))), .ret (.bin .mod (.bi .int [.call im [.ix (.var 0) (.cst (.int 3)), .ix (.var 0) (.cst (.int 1))]]) (.var 1))]⟩
/-- the hand: its cells (a list beside it), its place, what is left of a great number, its total -/
structure Hand (st : Sto) (h c : Nat) : Prop where
  ex : ∃ (cells : List Int) (pos : Nat) (rest total : Int), st[h]? = some (.lst [.ref c, .int pos, .int rest, .int total]) ∧ st[c]? = some (.lst (cells.map PV.int))
  ne : h ≠ c
theorem Hand.keep {st st' : Sto} {h c : Nat} {S : List Nat} (H : Hand st h c) (k : Keep S st st') (h1 : h ∉ S) (h2 : c ∉ S) : Hand st' h c := by
  obtain ⟨⟨cells, pos, rest, total, e1, e2⟩, ne⟩ := H
  exact ⟨⟨cells, pos, rest, total, k.get e1 h1, k.get e2 h2⟩, ne⟩
section
variable {h c : Nat} {m : Int} {cells : List Int} {pos : Nat} {rest total : Int}
theorem set1 {x : PV} (e1 : st[h]? = some (.lst [.ref c, .int pos, .int rest, .int total])) : setV (.ref h) (.int 1) x st = some (st.set h (.lst [.ref c, x, .int rest, .int total])) := set_l (k := 1) (m := 1) e1 rfl
theorem set2 {x : PV} (e1 : st[h]? = some (.lst [.ref c, .int pos, .int rest, .int total])) : setV (.ref h) (.int 2) x st = some (st.set h (.lst [.ref c, .int pos, x, .int total])) := set_l (k := 2) (m := 2) e1 rfl
theorem set3 {x : PV} (e1 : st[h]? = some (.lst [.ref c, .int pos, .int rest, .int total])) : setV (.ref h) (.int 3) x st = some (st.set h (.lst [.ref c, .int pos, .int rest, x])) := set_l (k := 3) (m := 3) e1 rfl
/-- behind the cells: a great number's rest, or the total -/
theorem w_take2 (hM : P[im]? = some mixedDef) {st0 : Sto} (ne : h ≠ c) (m1 : 0 < m) (m2 : m < 1073741824) (kp : Keep [h] st0 st) (e1 : st[h]? = some (.lst [.ref c, .int pos, .int rest, .int total])) (e2 : st[c]? = some (.lst (cells.map PV.int)))
    (k : ∀ (i : Int) (st' : Sto), 0 ≤ i → i < m → Keep [h] st0 st' → Hand st' h c → Q (.int i) st') :
    if 0 < rest then
      wO (biV .int [.int rest] st) fun x s => wO (bop .fdiv x (.int m) s) fun x s => wA (setV (.ref h) (.int 2) x s) fun s' => wO (biV .int [.int rest] s') fun x s => wO (bop .mod x (.int m) s) fun x s => Q x s
    else
      wO (bop .add (.int total) (.int 1) st) fun x s => wO (biV .int [x] s) fun x s => wO (bop .mod x (.int 2147483549) s) fun x s => wA (setV (.ref h) (.int 3) x s) fun s' => wA (ixV (.ref h) (.int 3) s') fun v => wA (ixV (.ref h) (.int 1) s') fun w =>
        wO (callF P (n + 1) im [v, w] s') fun x s => wO (biV .int [x] s) fun x s => wO (bop .mod x (.int m) s) fun x s => Q x s := by
  have hK : ∀ {o : Ob}, Keep [h] st0 (st.set h o) := kp.trans (Keep.set (by simp))
  have e2' : ∀ {o : Ob}, (st.set h o)[c]? = some (.lst (cells.map PV.int)) := fun {o} => by rw [List.getElem?_set_ne ne]; exact e2
  split
  · rename_i hr
    rw [int_i, wO_some, bop_fdiv_i ⟨m1, m2⟩, wO_some, set2 e1, wA_some, int_i, wO_some, bop_mod_i m1, wO_some]
    exact k _ _ (Int.emod_nonneg _ (by omega)) (Int.emod_lt_of_pos _ m1) hK ⟨⟨cells, pos, _, total, set_get e1, e2'⟩, ne⟩
  · rw [bop_add_i, wO_some, int_i, wO_some, bop_mod_i (by decide), wO_some, set3 e1, wA_some, ixV_ref (set_get e1), atI3, wA_some, ixV_ref (set_get e1), atI1, wA_some]
    refine w_mixed hM fun i hi => ?_
    rw [int_i, wO_some, bop_mod_i m1, wO_some]
    exact k _ _ (Int.emod_nonneg _ (by omega)) (Int.emod_lt_of_pos _ m1) hK ⟨⟨cells, pos, rest, _, set_get e1, e2'⟩, ne⟩
end
theorem pow18 : bop .pow (.int 10) (.int 18) st = some (.int 1000000000000000000, st) := by
  simp only [bop]
  rw [if_pos (by decide)]
  rfl
theorem w_take (hM : P[im]? = some mixedDef) (hT : P[it]? = some (takeDef im)) {h c : Nat} {m : Int} (H : Hand st h c) (m1 : 0 < m) (m2 : m < 1073741824)
    (k : ∀ (i : Int) (st' : Sto), 0 ≤ i → i < m → Keep [h] st st' → Hand st' h c → Q (.int i) st') : wO (callF P (n + 2) it [.ref h, .int m] st) Q := by
  obtain ⟨⟨cells, pos, rest, total, e1, e2⟩, ne⟩ := H
  rw [w_callF, hT, wA_some]
  simp -implicitDefEqProofs only [takeDef, ixV_ref e1, ixV_ref e2, atI0, atI1, atI2, atI3, cop_eq_i, cop_lt_i, cop_gt_i, tru_b, len_l e2, dec_if, exS, exSs, evX, evs, evt, pr, condOf, w_bin, w_neg, w_cmp, w_isn, w_isb, w_and, w_or, w_not, w_ife, w_tup, w_lst, w_star, w_ix, w_sli, w_call, w_bi, w_met, w_isi, w_comp, w_fstr, w_dict0, w_lvals, w_nil, w_cons, w_tst, w_tnot, w_tand, w_tor, w_var, Kg.w_next, w_seq, w_asg, w_set, w_expr, w_ret, w_if, w_for, w_aug, wO_some, wF_some, wA_some, wA_map, wO_ite, wA_ite, isStar, spl, startE, wipeE, bindT, bindTs, List.map_cons, List.map_nil, List.length_cons, List.length_nil, List.replicate, List.cons_append, List.nil_append, List.append_nil, List.append_assoc, Nat.reduceAdd, Nat.reduceSub, Nat.reduceLT, Nat.reduceLeDiff, List.getElem?_cons_zero, List.getElem?_cons_succ, List.getElem?_nil, Option.join_some, Option.join_none, List.set_cons_zero, List.set_cons_succ, if_true, if_false, Bool.false_eq_true, Bool.true_eq_false, reduceIte, reduceCtorEq, true_and, and_true, Option.map_some, Option.map_none, Nat.succ_eq_add_one, Nat.zero_add, Nat.add_zero, List.singleton_append]
  split
  · split
    · rename_i hp
      rw [List.length_map] at hp
      have hp : pos < cells.length := by omega
      rw [atI_nat (by rw [List.length_map]; exact hp), wA_some, bop_add_i, wO_some, set1 e1, wA_some, pow18, wO_some, List.getElem_map, cop_lt_i, wA_some, dec_if]
      have e1' := set_get (o' := .lst [.ref c, .int ((pos : Int) + 1), .int rest, .int total]) e1
      have e2' : (st.set h (.lst [.ref c, .int ((pos : Int) + 1), .int rest, .int total]))[c]? = some (.lst (cells.map PV.int)) := by rw [List.getElem?_set_ne ne]; exact e2
      have kp : Keep [h] st (st.set h (.lst [.ref c, .int ((pos : Int) + 1), .int rest, .int total])) := Keep.set (by simp)
      split
      · rw [int_i, wO_some, bop_mod_i (by decide), wO_some, ixV_ref e1', atI1, wA_some]
        refine w_mixed hM fun i hi => ?_
        rw [int_i, wO_some, bop_mod_i m1, wO_some]
        exact k _ _ (Int.emod_nonneg _ (by omega)) (Int.emod_lt_of_pos _ m1) kp ⟨⟨cells, pos + 1, rest, total, by simpa using e1', e2'⟩, ne⟩
      · have e1'' : (st.set h (.lst [.ref c, .int ((pos : Int) + 1), .int rest, .int total]))[h]? = some (.lst [.ref c, .int ((pos + 1 : Nat) : Int), .int rest, .int total]) := by simpa using e1'
        rw [set2 e1'', wA_some]
        have e3 := set_get (o' := .lst [.ref c, .int ((pos + 1 : Nat) : Int), .int cells[pos], .int total]) e1''
        rw [ixV_ref e3, atI2, wA_some, cop_gt_i, wA_some, dec_if, wA_some, ixV_ref e3, atI3, wA_some]
        exact w_take2 hM ne m1 m2 (kp.trans (Keep.set (by simp))) e3 (by rw [List.getElem?_set_ne ne]; exact e2') k
    · exact w_take2 hM ne m1 m2 Keep.refl e1 e2 k
  · exact w_take2 hM ne m1 m2 Keep.refl e1 e2 k
end Kg
/-! PvPl3: plain laws: the hand made; comprehensions of plain values; plain data; sorting. -/
namespace Kg
open PySem
variable {P : List Def} {im it ih n : Nat} {st : Sto} {Q : PV → Sto → Prop}

def handDef : Def := ⟨4, 1, [.asg (.nm 1) (.bin .add (.bi .len [.var 0]) (.cst (.int 43))), .asg (.nm 2) (.lst []), .fr (.nm 3) .seq [.var 0] [.asg (.nm 1) (.bin .mod (.bi .int [.bin .add (.bin .mul (.var 1) (.cst (.int 2003))) (.bi .int [.var 3])]) (.cst (.int 2147483563))), .expr (.met .append (.var 2) [.bi .abs [.bi .int [.var 3]]])], .ret (.lst [.var 2, .cst (.int 0), .cst (.int 0), .var 1])]⟩
theorem isL_of {xs : List PV} {r : Nat} (h : st[r]? = some (.lst xs)) : isL st r = true := by unfold isL; rw [h]
theorem app_l {xs : List PV} {r : Nat} {x : PV} (h : st[r]? = some (.lst xs)) (hz : xs.length < sizeLine) : meV .append (.ref r) [x] st = some (.non, st.set r (.lst (xs ++ [x]))) := by
  simp only [meV, h]
  rw [if_pos hz]
theorem ext_ll {xs ys : List PV} {r q : Nat} (h : st[r]? = some (.lst xs)) (h2 : st[q]? = some (.lst ys)) (hz : xs.length + ys.length ≤ sizeLine) : meV .extend (.ref r) [.ref q] st = some (.non, st.set r (.lst (xs ++ ys))) := by
  simp only [meV, h, h2]
  rw [if_pos hz]
theorem ext_lt {xs ys : List PV} {r : Nat} (h : st[r]? = some (.lst xs)) (hz : xs.length + ys.length ≤ sizeLine) : meV .extend (.ref r) [.tup ys] st = some (.non, st.set r (.lst (xs ++ ys))) := by
  simp only [meV, h]
  rw [if_pos hz]
theorem k_app {r : Nat} : kindM .append (.ref r) st = isL st r := rfl
theorem k_ext {r : Nat} : kindM .extend (.ref r) st = isL st r := rfl
theorem k_pop {r : Nat} : kindM .pop (.ref r) st = isL st r := rfl
theorem seq_rol {xs : List PV} : iterV .seq [.rol xs] st = some ⟨xs, none⟩ := rfl
theorem seq_tup {xs : List PV} : iterV .seq [.tup xs] st = some ⟨xs, none⟩ := rfl
theorem seq_l {xs : List PV} {r : Nat} (h : st[r]? = some (.lst xs)) : iterV .seq [.ref r] st = some ⟨xs, some (r, .lst xs)⟩ := by
  simp only [iterV, sqC, h, Option.map_some]
theorem range1 {j : Int} (h1 : 0 ≤ j) (h2 : j < 1000000) : iterV .range [.int j] st = some ⟨rangeI 0 j, none⟩ := by
  simp only [iterV]
  rw [if_pos (by omega)]
theorem w_hand (hH : P[ih]? = some handDef) {ns : List Int} (hl : ns.length ≤ 63) (k : ∀ st' h c, Keep [] st st' → st.length ≤ h → st.length ≤ c → Hand st' h c → Q (.ref h) st') : wO (callF P (n + 1) ih [.rol (ns.map PV.int)] st) Q := by
  rw [w_callF, hH, wA_some]
  have hlen : biV .len [.rol (ns.map PV.int)] st = some (.int ((ns.map PV.int).length : Nat), st) := rfl
  simp -implicitDefEqProofs only [handDef, hlen, bop_add_i, seq_rol, exS, exSs, evX, evs, evt, pr, condOf, w_bin, w_neg, w_cmp, w_isn, w_isb, w_and, w_or, w_not, w_ife, w_tup, w_lst, w_star, w_ix, w_sli, w_call, w_bi, w_met, w_isi, w_comp, w_fstr, w_dict0, w_lvals, w_nil, w_cons, w_tst, w_tnot, w_tand, w_tor, w_var, Kg.w_next, w_seq, w_asg, w_set, w_expr, w_ret, w_if, w_for, w_aug, wO_some, wF_some, wA_some, wA_map, wO_ite, wA_ite, isStar, spl, startE, wipeE, bindT, bindTs, List.map_cons, List.map_nil, List.length_cons, List.length_nil, List.replicate, List.cons_append, List.nil_append, List.append_nil, List.append_assoc, Nat.reduceAdd, Nat.reduceSub, Nat.reduceLT, Nat.reduceLeDiff, List.getElem?_cons_zero, List.getElem?_cons_succ, List.getElem?_nil, Option.join_some, Option.join_none, List.set_cons_zero, List.set_cons_succ, if_true, if_false, Bool.false_eq_true, Bool.true_eq_false, reduceIte, reduceCtorEq, true_and, and_true, Option.map_some, Option.map_none, Nat.succ_eq_add_one, Nat.zero_add, Nat.add_zero, List.singleton_append]
  refine ⟨by decide, ?_⟩
  refine w_forL (fun ys e s => ∃ (done : List Int) (total : Int) (e3 : Option PV) (more : List Int), ys = more.map PV.int ∧ done.length + more.length ≤ 63 ∧ e = [some (.rol (ns.map PV.int)), some (.int total), some (.ref st.length), e3] ∧ Keep [] st s ∧ s[st.length]? = some (.lst (done.map PV.int)))
    (fun _ _ _ _ => trivial) ⟨[], _, none, ns, rfl, by simpa using hl, rfl, Keep.app, by simp⟩ ?_ ?_
  · rintro y ys e s ⟨done, total, e3, more, hy, hlen, rfl, kp, hs⟩
    cases more with
    | nil => cases hy
    | cons a more =>
      rw [List.map_cons] at hy
      cases hy
      simp -implicitDefEqProofs only [int_i, abs_i, exS, exSs, evX, evs, evt, pr, condOf, w_bin, w_neg, w_cmp, w_isn, w_isb, w_and, w_or, w_not, w_ife, w_tup, w_lst, w_star, w_ix, w_sli, w_call, w_bi, w_met, w_isi, w_comp, w_fstr, w_dict0, w_lvals, w_nil, w_cons, w_tst, w_tnot, w_tand, w_tor, w_var, Kg.w_next, w_seq, w_asg, w_set, w_expr, w_ret, w_if, w_for, w_aug, wO_some, wF_some, wA_some, wA_map, wO_ite, wA_ite, isStar, spl, startE, wipeE, bindT, bindTs, List.map_cons, List.map_nil, List.length_cons, List.length_nil, List.replicate, List.cons_append, List.nil_append, List.append_nil, List.append_assoc, Nat.reduceAdd, Nat.reduceSub, Nat.reduceLT, Nat.reduceLeDiff, List.getElem?_cons_zero, List.getElem?_cons_succ, List.getElem?_nil, Option.join_some, Option.join_none, List.set_cons_zero, List.set_cons_succ, if_true, if_false, Bool.false_eq_true, Bool.true_eq_false, reduceIte, reduceCtorEq, true_and, and_true, Option.map_some, Option.map_none, Nat.succ_eq_add_one, Nat.zero_add, Nat.add_zero, List.singleton_append]
      rw [bop_mul_i (m64 (by decide) (by decide)), wO_some]
      simp -implicitDefEqProofs only [int_i, abs_i, bop_add_i, exS, exSs, evX, evs, evt, pr, condOf, w_bin, w_neg, w_cmp, w_isn, w_isb, w_and, w_or, w_not, w_ife, w_tup, w_lst, w_star, w_ix, w_sli, w_call, w_bi, w_met, w_isi, w_comp, w_fstr, w_dict0, w_lvals, w_nil, w_cons, w_tst, w_tnot, w_tand, w_tor, w_var, Kg.w_next, w_seq, w_asg, w_set, w_expr, w_ret, w_if, w_for, w_aug, wO_some, wF_some, wA_some, wA_map, wO_ite, wA_ite, isStar, spl, startE, wipeE, bindT, bindTs, List.map_cons, List.map_nil, List.length_cons, List.length_nil, List.replicate, List.cons_append, List.nil_append, List.append_nil, List.append_assoc, Nat.reduceAdd, Nat.reduceSub, Nat.reduceLT, Nat.reduceLeDiff, List.getElem?_cons_zero, List.getElem?_cons_succ, List.getElem?_nil, Option.join_some, Option.join_none, List.set_cons_zero, List.set_cons_succ, if_true, if_false, Bool.false_eq_true, Bool.true_eq_false, reduceIte, reduceCtorEq, true_and, and_true, Option.map_some, Option.map_none, Nat.succ_eq_add_one, Nat.zero_add, Nat.add_zero, List.singleton_append]
      rw [bop_mod_i (by decide), wO_some]
      rw [List.length_cons] at hlen
      simp -implicitDefEqProofs only [int_i, abs_i, k_app, isL_of hs, exS, exSs, evX, evs, evt, pr, condOf, w_bin, w_neg, w_cmp, w_isn, w_isb, w_and, w_or, w_not, w_ife, w_tup, w_lst, w_star, w_ix, w_sli, w_call, w_bi, w_met, w_isi, w_comp, w_fstr, w_dict0, w_lvals, w_nil, w_cons, w_tst, w_tnot, w_tand, w_tor, w_var, Kg.w_next, w_seq, w_asg, w_set, w_expr, w_ret, w_if, w_for, w_aug, wO_some, wF_some, wA_some, wA_map, wO_ite, wA_ite, isStar, spl, startE, wipeE, bindT, bindTs, List.map_cons, List.map_nil, List.length_cons, List.length_nil, List.replicate, List.cons_append, List.nil_append, List.append_nil, List.append_assoc, Nat.reduceAdd, Nat.reduceSub, Nat.reduceLT, Nat.reduceLeDiff, List.getElem?_cons_zero, List.getElem?_cons_succ, List.getElem?_nil, Option.join_some, Option.join_none, List.set_cons_zero, List.set_cons_succ, if_true, if_false, Bool.false_eq_true, Bool.true_eq_false, reduceIte, reduceCtorEq, true_and, and_true, Option.map_some, Option.map_none, Nat.succ_eq_add_one, Nat.zero_add, Nat.add_zero, List.singleton_append]
      rw [app_l hs (by rw [List.length_map, sizeLine_eq]; omega), wO_some]
      refine ⟨done ++ [if a < 0 then -a else a], _, _, more, rfl, by rw [List.length_append]; simp; omega, rfl, ⟨Nat.le_trans kp.1 (by simp), fun m hm hS => ?_⟩, ?_⟩
      · rw [List.getElem?_set_ne (by omega)]
        exact kp.2 m hm hS
      · rw [List.map_append]
        exact set_get hs
  · rintro e s ⟨done, total, e3, more, hy, hlen, rfl, kp, hs⟩
    simp -implicitDefEqProofs only [exS, exSs, evX, evs, evt, pr, condOf, w_bin, w_neg, w_cmp, w_isn, w_isb, w_and, w_or, w_not, w_ife, w_tup, w_lst, w_star, w_ix, w_sli, w_call, w_bi, w_met, w_isi, w_comp, w_fstr, w_dict0, w_lvals, w_nil, w_cons, w_tst, w_tnot, w_tand, w_tor, w_var, Kg.w_next, w_seq, w_asg, w_set, w_expr, w_ret, w_if, w_for, w_aug, wO_some, wF_some, wA_some, wA_map, wO_ite, wA_ite, isStar, spl, startE, wipeE, bindT, bindTs, List.map_cons, List.map_nil, List.length_cons, List.length_nil, List.replicate, List.cons_append, List.nil_append, List.append_nil, List.append_assoc, Nat.reduceAdd, Nat.reduceSub, Nat.reduceLT, Nat.reduceLeDiff, List.getElem?_cons_zero, List.getElem?_cons_succ, List.getElem?_nil, Option.join_some, Option.join_none, List.set_cons_zero, List.set_cons_succ, if_true, if_false, Bool.false_eq_true, Bool.true_eq_false, reduceIte, reduceCtorEq, true_and, and_true, Option.map_some, Option.map_none, Nat.succ_eq_add_one, Nat.zero_add, Nat.add_zero, List.singleton_append]
    have hlt := get_lt hs
    refine ⟨by decide, k _ _ _ (kp.trans Keep.app) (by omega) (Nat.le_refl _) ⟨⟨done, 0, 0, total, by simp, app_get hs⟩, by omega⟩⟩

/-! ### comprehensions of plain values -/
theorem itOk_app {c : Option (Nat × Ob)} {jk : Sto} (h : itOk c st) : itOk c (st ++ jk) := by
  cases c with
  | none => trivial
  | some p => exact app_get h
/-- each item gives a value, the store only grows -/
theorem w_compMap {c : Option (Nat × Ob)} {g : Tg} {elt : VF} {env : En} {xs : List PV} {QL : List PV → Sto → Prop} (f : PV → PV) (hc : itOk c st) (hz : xs.length ≤ sizeLine)
    (step : ∀ x ∈ xs, ∀ jk (Q : PV → Sto → Prop), (∀ jk', Q (f x) (st ++ (jk ++ jk'))) → wA (bindT g x env) fun e1 => wO (elt e1 (st ++ jk)) Q)
    (done : ∀ jk, QL (xs.map f) (st ++ jk)) : wO (compL c g (condOf []) elt env xs [] st) QL := by
  refine w_compL (fun ys acc s => ∃ zs jk, xs = zs ++ ys ∧ acc = zs.map f ∧ s = st ++ jk) ?_ ⟨[], [], rfl, rfl, by simp⟩ ?_ ?_
  · rintro ys acc s ⟨zs, jk, _, _, rfl⟩
    exact itOk_app hc
  · rintro y ys acc s ⟨zs, jk, rfl, rfl, rfl⟩
    have := step y (by simp) jk (fun v s2 => (zs.map f).length < sizeLine ∧ ∃ zs' jk', zs ++ y :: ys = zs' ++ ys ∧ zs.map f ++ [v] = zs'.map f ∧ s2 = st ++ jk') fun jk' => ⟨?_, zs ++ [y], jk ++ jk', by simp, by simp, rfl⟩
    · simp only [condOf, wO_some, if_true]
      exact this
    · rw [List.length_map]
      simp at hz
      omega
  · rintro acc s ⟨zs, jk, e, rfl, rfl⟩
    rw [List.append_nil] at e
    subst e
    exact done jk
/-- .. those that a test lets by -/
theorem w_compFil {c : Option (Nat × Ob)} {g : Tg} {t : TF} {elt : VF} {env : En} {xs : List PV} {QL : List PV → Sto → Prop} (f : PV → PV) (p : PV → Bool) (hc : itOk c st) (hz : xs.length ≤ sizeLine)
    (step : ∀ x ∈ xs, ∀ jk (QB : Bool → Sto → Prop), (∀ jk', QB (p x) (st ++ (jk ++ jk'))) → wA (bindT g x env) fun e1 => wO (t e1 (st ++ jk)) QB)
    (step2 : ∀ x ∈ xs, p x = true → ∀ jk (Q : PV → Sto → Prop), (∀ jk', Q (f x) (st ++ (jk ++ jk'))) → wA (bindT g x env) fun e1 => wO (elt e1 (st ++ jk)) Q)
    (done : ∀ jk, QL ((xs.filter p).map f) (st ++ jk)) : wO (compL c g (condOf [t]) elt env xs [] st) QL := by
  refine w_compL (fun ys acc s => ∃ zs jk, xs = zs ++ ys ∧ acc = (zs.filter p).map f ∧ s = st ++ jk) ?_ ⟨[], [], rfl, rfl, by simp⟩ ?_ ?_
  · rintro ys acc s ⟨zs, jk, _, _, rfl⟩
    exact itOk_app hc
  · rintro y ys acc s ⟨zs, jk, rfl, rfl, rfl⟩
    have hlen : ((zs.filter p).map f).length < sizeLine := by
      rw [List.length_map]
      have := List.length_filter_le p zs
      simp at hz
      omega
    have s1 := step y (by simp) jk
    have s2 := step2 y (by simp)
    cases hb : bindT g y env with
    | none => exact (hb ▸ s1 (fun _ _ => True) fun _ => trivial).elim
    | some e1 =>
      rw [hb] at s1
      simp only [hb] at s2
      show wO (t e1 (st ++ jk)) _
      refine s1 _ fun jk' => ?_
      cases hp : p y with
      | false =>
        simp only [Bool.false_eq_true, if_false]
        exact ⟨zs ++ [y], jk ++ jk', by simp, by simp [hp], rfl⟩
      | true =>
        simp only [if_true]
        exact s2 hp (jk ++ jk') _ fun jk2 => ⟨hlen, zs ++ [y], _, by simp, by simp [hp], rfl⟩
  · rintro acc s ⟨zs, jk, e, rfl, rfl⟩
    rw [List.append_nil] at e
    subst e
    exact done jk

/-! ### plain data: ints, texts, tuples of such -/
mutual
def isP : PV → Bool
  | .int _ => true | .str x => PyData.strOk x | .tup xs => isPs xs
  | _ => false
def isPs : List PV → Bool
  | [] => true
  | x :: xs => isP x && isPs xs
end
theorem isPs_iff : ∀ {xs : List PV}, isPs xs = true ↔ ∀ x ∈ xs, isP x = true
  | [] => by simp [isPs]
  | x :: xs => by simp [isPs, isPs_iff (xs := xs)]
mutual
theorem isP_okD : ∀ {x : PV}, isP x = true → okD x = true
  | .int _, _ => rfl
  | .str x, h => h
  | .tup xs, h => by simp only [okD]; exact isPs_okDs (by simpa [isP] using h)
  | .non, h => by simp [isP] at h
  | .bl _, h => by simp [isP] at h
  | .tuk _, h => by simp [isP] at h
  | .ref _, h => by simp [isP] at h
  | .rol _, h => by simp [isP] at h
theorem isPs_okDs : ∀ {xs : List PV}, isPs xs = true → okDs xs = true
  | [], _ => rfl
  | x :: xs, h => by
    simp only [isPs, Bool.and_eq_true] at h
    simp only [okDs, Bool.and_eq_true]
    exact ⟨isP_okD h.1, isPs_okDs h.2⟩
end
open Classical in
mutual
theorem eqv_P : ∀ {x y : PV}, isP x = true → isP y = true → PyData.eqv (dD x) (dD y) = decide (x = y)
  | .int i, y, _, hy => by
    cases y <;> simp [isP] at hy <;> simp [dD, PyData.eqv]
    rfl
  | .str s, y, _, hy => by
    cases y <;> simp [isP] at hy <;> simp [dD, PyData.eqv]
    rfl
  | .tup xs, y, hx, hy => by
    cases y with
    | tup ys =>
      simp only [isP] at hx hy
      simp only [dD, PyData.eqv]
      rw [eqv_Ps hx hy]
      simp
    | int _ => simp [dD, PyData.eqv]
    | str _ => simp [dD, PyData.eqv]
    | _ => simp [isP] at hy
  | .non, _, h, _ => by simp [isP] at h
  | .bl _, _, h, _ => by simp [isP] at h
  | .tuk _, _, h, _ => by simp [isP] at h
  | .ref _, _, h, _ => by simp [isP] at h
  | .rol _, _, h, _ => by simp [isP] at h
theorem eqv_Ps : ∀ {x y : List PV}, isPs x = true → isPs y = true → PyData.eqvAll (dDs x) (dDs y) = decide (x = y)
  | [], [], _, _ => by simp [dDs, PyData.eqvAll]
  | [], y :: ys, _, _ => by simp [dDs, PyData.eqvAll]
  | x :: xs, [], _, _ => by simp [dDs, PyData.eqvAll]
  | x :: xs, y :: ys, hx, hy => by
    simp only [isPs, Bool.and_eq_true] at hx hy
    simp only [dDs, PyData.eqvAll]
    rw [eqv_P hx.1 hy.1, eqv_Ps hx.2 hy.2]
    simp
end
end Kg
/-! PvPl4: plain laws: equality, membership, sorting of plain data. -/
namespace Kg
open PySem
open Classical

/-! ### lists without doubles -/
theorem perm_of_mem {α : Type} : ∀ {l1 l2 : List α}, l1.Nodup → l2.Nodup → (∀ x, x ∈ l1 ↔ x ∈ l2) → l1.Perm l2
  | [], l2, _, _, h => by
    cases l2 with
    | nil => exact .nil
    | cons y l => exact absurd ((h y).mpr (by simp)) (by simp)
  | a :: l1, l2, n1, n2, h => by
    obtain ⟨s, t, rfl⟩ := List.append_of_mem ((h a).mp (by simp))
    have n3 : (a :: (s ++ t)).Nodup := (List.perm_middle.nodup_iff).mp n2
    rw [List.nodup_cons] at n1 n3
    have ih := perm_of_mem (l1 := l1) (l2 := s ++ t) n1.2 n3.2 fun x => by
      have hx := h x
      constructor
      · intro hx1
        have := hx.mp (by simp [hx1])
        have hne : x ≠ a := fun e => n1.1 (e ▸ hx1)
        simp at this ⊢
        rcases this with z | z | z
        · exact .inl z
        · exact absurd z hne
        · exact .inr z
      · intro hx2
        have := hx.mpr (by simp at hx2 ⊢; rcases hx2 with z | z; exact .inl z; exact .inr (.inr z))
        have hne : x ≠ a := fun e => n3.1 (e ▸ hx2)
        simp at this
        rcases this with z | z
        · exact absurd z hne
        · exact z
    exact (ih.cons a).trans List.perm_middle.symm
theorem len_of_sub {α : Type} : ∀ {l1 l2 : List α}, l1.Nodup → (∀ x ∈ l1, x ∈ l2) → l1.length ≤ l2.length
  | [], _, _, _ => Nat.zero_le _
  | a :: l1, l2, n1, h => by
    obtain ⟨s, t, rfl⟩ := List.append_of_mem (h a (by simp))
    rw [List.nodup_cons] at n1
    have ih := len_of_sub (l1 := l1) (l2 := s ++ t) n1.2 fun x hx => by
      have := h x (by simp [hx])
      have hne : x ≠ a := fun e => n1.1 (e ▸ hx)
      simp at this ⊢
      rcases this with z | z | z
      · exact .inl z
      · exact absurd z hne
      · exact .inr z
    simp at ih ⊢
    omega

/-! ### equality, membership -/
variable {st : Sto} {x y : PV} {xs ys : List PV}
def dpt (x : PV) : Nat := (dD x).depth
theorem dpt_le {xs : List PV} {k : Nat} (h : ∀ x ∈ xs, dpt x ≤ k) : PyData.depthAll (dDs xs) ≤ k := by
  induction xs with
  | nil => simp [dDs, PyData.depthAll]
  | cons x xs ih =>
    simp only [dDs, PyData.depthAll]
    exact Nat.max_le.mpr ⟨h x (by simp), ih fun y hy => h y (by simp [hy])⟩
theorem dpt_tup {xs : List PV} {k : Nat} (h : ∀ x ∈ xs, dpt x ≤ k) : dpt (.tup xs) ≤ k + 1 := by
  unfold dpt
  simp only [dD, PyData.depth]
  exact Nat.add_le_add_right (dpt_le h) 1
theorem topD_P (h : isP x = true) : topD st x = some (dD x) := by
  cases x <;> simp [isP] at h <;> simp only [topD]
  · rw [if_pos (by simp [okD])]
  · rw [if_pos (by simpa [okD] using h)]
  · rw [if_pos (isP_okD (by simpa [isP] using h))]
theorem eqV_P (hx : isP x = true) (hy : isP y = true) (hd : dpt x ≤ dLim) : eqV st x y = some (decide (x = y)) := by
  unfold eqV
  rw [topD_P hx, topD_P hy]
  simp only
  rw [if_pos (by unfold dpt at hd; omega), eqv_P hx hy]
theorem cop_eq_P (hx : isP x = true) (hy : isP y = true) (hd : dpt x ≤ dLim) : cop .eq x y st = some (decide (x = y)) := eqV_P hx hy hd
theorem cop_ne_P (hx : isP x = true) (hy : isP y = true) (hd : dpt x ≤ dLim) : cop .ne x y st = some (!decide (x = y)) := by
  show (eqV st x y).map _ = _
  rw [eqV_P hx hy hd]
  rfl
theorem inD_P (hx : isP x = true) (hy : isPs ys = true) (hd : dpt x ≤ dLim) : inD x ys = some (decide (x ∈ ys)) := by
  unfold inD
  rw [if_pos ⟨isP_okD hx, isPs_okDs hy, by unfold dpt at hd; omega⟩]
  congr 1
  induction ys with
  | nil => simp [dDs]
  | cons z zs ih =>
    simp only [isPs, Bool.and_eq_true] at hy
    simp only [dDs, List.any_cons]
    rw [ih hy.2, eqv_P hy.1 hx]
    by_cases e : z = x
    · subst e; simp
    · simp [e, Ne.symm e]
theorem notin_l {r : Nat} (h : st[r]? = some (.lst ys)) (hx : isP x = true) (hy : isPs ys = true) (hd : dpt x ≤ dLim) : cop .notin x (.ref r) st = some (!decide (x ∈ ys)) := by
  simp only [cop, memV, h]
  rw [inD_P hx hy hd]
  rfl
theorem notin_t (hx : isP x = true) (hy : isPs ys = true) (hd : dpt x ≤ dLim) : cop .notin x (.tup ys) st = some (!decide (x ∈ ys)) := by
  simp only [cop, memV]
  rw [inD_P hx hy hd]
  rfl
theorem ne_ll {r q : Nat} (h : st[r]? = some (.lst xs)) (h2 : st[q]? = some (.lst ys)) (hx : isPs xs = true) (hy : isPs ys = true) (hd : ∀ x ∈ xs, dpt x + 1 ≤ dLim) : cop .ne (.ref r) (.ref q) st = some (!decide (xs = ys)) := by
  simp only [cop, eqV, topD, h, h2]
  rw [if_pos (isPs_okDs hx), if_pos (isPs_okDs hy)]
  simp only
  rw [if_pos (by
    simp only [PyData.depth]
    have := dpt_le (k := dLim - 1) fun x hx => by have := hd x hx; omega
    unfold dLim at *
    omega)]
  simp only [Option.map_some, PyData.eqv]
  rw [eqv_Ps hx hy]

/-! ### sorting -/
theorem leP_total (a b : PV) : (leP a b || leP b a) = true := by
  unfold leP PySem.W.dataLt
  cases h : PyProof.Rows.lexLt PyProof.Rows.itemOrd (PySem.W.keyToks (dD b)) (PySem.W.keyToks (dD a)) with
  | false => rfl
  | true =>
    cases h2 : PyProof.Rows.lexLt PyProof.Rows.itemOrd (PySem.W.keyToks (dD a)) (PySem.W.keyToks (dD b)) with
    | false => rfl
    | true =>
      have := PyProof.Rows.lex_trans _ _ _ h h2
      rw [PyProof.Rows.lex_irrefl] at this
      cases this
theorem leP_trans (a b c : PV) (h1 : leP a b = true) (h2 : leP b c = true) : leP a c = true := by
  unfold leP PySem.W.dataLt at *
  cases h : PyProof.Rows.lexLt PyProof.Rows.itemOrd (PySem.W.keyToks (dD c)) (PySem.W.keyToks (dD a)) with
  | false => rfl
  | true =>
    rcases PyProof.Rows.lex_negTrans _ (PySem.W.keyToks (dD b)) _ h with z | z
    · rw [z] at h2; cases h2
    · rw [z] at h1; cases h1
theorem leP_anti {a b : PV} (ha : isP a = true) (hb : isP b = true) (hal : PySem.W.alike (dD a) (dD b) = true) (h1 : leP a b = true) (h2 : leP b a = true) : a = b := by
  unfold leP PySem.W.dataLt at *
  have e := PyProof.Rows.lex_total (O := PyProof.Rows.itemOrd) (PySem.W.keyToks (dD a)) (PySem.W.keyToks (dD b)) (by simpa using h2) (by simpa using h1)
  obtain ⟨k1, k2⟩ := PySem.W.toks_eqv _ _ hal
  rw [eqv_P ha hb] at k2
  by_cases hab : a = b
  · exact hab
  · have := k2 (by simp [hab]) [] [.inl 0]
    rw [e, PySem.W.lex_pre, PyProof.Rows.lex_irrefl] at this
    cases this
theorem srt_perm (xs : List PV) : (srt xs).Perm xs := List.mergeSort_perm xs leP
theorem srt_mem {x : PV} : x ∈ srt xs ↔ x ∈ xs := (srt_perm xs).mem_iff
theorem srt_sorted (xs : List PV) : (srt xs).Pairwise fun a b => leP a b = true := List.pairwise_mergeSort leP_trans leP_total xs
theorem srt_eq (hp : ∀ x ∈ xs, isP x = true) (hal : ∀ a ∈ xs, ∀ b ∈ xs, PySem.W.alike (dD a) (dD b) = true) (h : xs.Perm ys) : srt xs = srt ys := by
  refine List.Perm.eq_of_pairwise (le := fun a b => leP a b = true) (fun a b ha hb h1 h2 => ?_) (srt_sorted xs) (srt_sorted ys) ((srt_perm xs).trans (h.trans (srt_perm ys).symm))
  have ha := srt_mem.mp ha
  have hb := h.mem_iff.mpr (srt_mem.mp hb)
  exact leP_anti (hp _ ha) (hp _ hb) (hal _ ha _ hb) h1 h2
theorem sorted_l {r : Nat} (h : st[r]? = some (.lst xs)) (ok : srtOk xs) : biV .sorted [.ref r] st = some (.ref st.length, st ++ [.lst (srt xs)]) := by
  simp only [biV, sqOf, h]
  rw [if_pos ok]
theorem sorted_t (ok : srtOk xs) : biV .sorted [.tup xs] st = some (.ref st.length, st ++ [.lst (srt xs)]) := by
  simp only [biV, sqOf]
  rw [if_pos ok]
theorem srtOk_P (hp : ∀ x ∈ xs, isP x = true) (hal : ∀ a ∈ xs, ∀ b ∈ xs, PySem.W.alike (dD a) (dD b) = true) (ht : ∀ x ∈ xs, ∃ z zs, x = .tup (z :: zs)) (hd : ∀ x ∈ xs, dpt x ≤ dLim) (hl : xs.length ≤ sizeLine) : srtOk xs :=
  ⟨isPs_okDs (isPs_iff.mpr hp), hal, .inl fun x hx => by obtain ⟨z, zs, rfl⟩ := ht x hx; simp [dD, dDs, sortableD], hd, hl⟩
end Kg
/-! K04w: worths as plain data. -/
namespace K04
open PySem Kg

def Args (R : PV → Prop) (ws : List PV) : Prop := ws.length ≤ 4 ∧ ∀ w ∈ ws, R w
def TT (R : PV → Prop) (t : PV) : Prop := ∃ (nm : Int) (ws : List PV), 0 ≤ nm ∧ nm < 100 ∧ t = .tup [.int nm, .tup ws] ∧ Args R ws
def BB (R : PV → Prop) (b : PV) : Prop := (∃ c : Int, 0 ≤ c ∧ c < 100 ∧ b = .tup [.int 0, .int c]) ∨ ∃ (nm : Int) (ws : List PV), 0 ≤ nm ∧ nm < 100 ∧ b = .tup [.int 1, .int nm, .tup ws] ∧ Args R ws
def WS (R : PV → Prop) (w : PV) : Prop := ∃ (b : PV) (bag : List PV), w = .tup [b, .tup bag] ∧ BB R b ∧ bag.length ≤ 7 ∧ ∀ t ∈ bag, TT R t
def WW : Nat → PV → Prop | 0 => fun _ => False | h + 1 => WS (WW h)
theorem Args.mono {R R' : PV → Prop} {ws : List PV} (k : ∀ w, R w → R' w) (h : Args R ws) : Args R' ws := ⟨h.1, fun w hw => k w (h.2 w hw)⟩
theorem TT.mono {R R' : PV → Prop} {t : PV} (k : ∀ w, R w → R' w) (h : TT R t) : TT R' t := by
  obtain ⟨nm, ws, a, b, c, d⟩ := h
  exact ⟨nm, ws, a, b, c, d.mono k⟩
theorem BB.mono {R R' : PV → Prop} {t : PV} (k : ∀ w, R w → R' w) (h : BB R t) : BB R' t := by
  rcases h with h | ⟨nm, ws, a, b, c, d⟩
  · exact .inl h
  · exact .inr ⟨nm, ws, a, b, c, d.mono k⟩
theorem WS.mono {R R' : PV → Prop} {t : PV} (k : ∀ w, R w → R' w) (h : WS R t) : WS R' t := by
  obtain ⟨b, bag, e, hb, hl, ht⟩ := h
  exact ⟨b, bag, e, hb.mono k, hl, fun t h => (ht t h).mono k⟩
theorem WW.up : ∀ {h : Nat} {w : PV}, WW h w → WW (h + 1) w
  | 0, _, h => h.elim
  | h + 1, _, k => WS.mono (fun _ z => WW.up z) k
theorem WW.le {h k : Nat} {w : PV} (hw : WW h w) (hk : h ≤ k) : WW k w := by
  induction hk with
  | refl => exact hw
  | step _ ih => exact ih.up

/-! ### plain, alike -/
theorem isP_tup {xs : List PV} (h : ∀ x ∈ xs, isP x = true) : isP (.tup xs) = true := by simp only [isP]; exact isPs_iff.mpr h
theorem TT.isP {R : PV → Prop} {t : PV} (k : ∀ w, R w → isP w = true) (h : TT R t) : Kg.isP t = true := by
  obtain ⟨nm, ws, _, _, rfl, d⟩ := h
  exact isP_tup (by simp only [List.mem_cons, List.not_mem_nil, or_false, forall_eq_or_imp, forall_eq]; exact ⟨rfl, isP_tup fun w hw => k w (d.2 w hw)⟩)
theorem BB.isP {R : PV → Prop} {t : PV} (k : ∀ w, R w → isP w = true) (h : BB R t) : Kg.isP t = true := by
  rcases h with ⟨c, _, _, rfl⟩ | ⟨nm, ws, _, _, rfl, d⟩
  · rfl
  · exact isP_tup (by simp only [List.mem_cons, List.not_mem_nil, or_false, forall_eq_or_imp, forall_eq]; exact ⟨rfl, rfl, isP_tup fun w hw => k w (d.2 w hw)⟩)
theorem WW.isP : ∀ {h : Nat} {w : PV}, WW h w → Kg.isP w = true
  | 0, _, h => h.elim
  | h + 1, _, ⟨b, bag, e, hb, hl, ht⟩ => by
    subst e
    exact isP_tup (by simp only [List.mem_cons, List.not_mem_nil, or_false, forall_eq_or_imp, forall_eq]; exact ⟨hb.isP fun _ z => WW.isP z, isP_tup fun t h => (ht t h).isP fun _ z => WW.isP z⟩)
theorem alikeAll_of : ∀ {xs ys : List PV}, (∀ x ∈ xs, ∀ y ∈ ys, PySem.W.alike (dD x) (dD y) = true) → PySem.W.alikeAll (dDs xs) (dDs ys) = true
  | [], ys, _ => by cases ys <;> simp [dDs, PySem.W.alikeAll]
  | x :: xs, [], _ => by simp [dDs, PySem.W.alikeAll]
  | x :: xs, y :: ys, h => by
    simp only [dDs, PySem.W.alikeAll, Bool.and_eq_true]
    exact ⟨h x (by simp) y (by simp), alikeAll_of fun a ha b hb => h a (by simp [ha]) b (by simp [hb])⟩
theorem TT.alike {R : PV → Prop} {t u : PV} (k : ∀ w, R w → ∀ v, R v → PySem.W.alike (dD w) (dD v) = true) (h : TT R t) (h2 : TT R u) : PySem.W.alike (dD t) (dD u) = true := by
  obtain ⟨nm, ws, _, _, rfl, d⟩ := h
  obtain ⟨nm2, ws2, _, _, rfl, d2⟩ := h2
  simp only [dD, dDs, PySem.W.alike, PySem.W.alikeAll, Bool.and_eq_true, true_and, and_true]
  exact alikeAll_of fun x hx y hy => k _ (d.2 x hx) _ (d2.2 y hy)
theorem BB.alike {R : PV → Prop} {t u : PV} (k : ∀ w, R w → ∀ v, R v → PySem.W.alike (dD w) (dD v) = true) (h : BB R t) (h2 : BB R u) : PySem.W.alike (dD t) (dD u) = true := by
  rcases h with ⟨c, _, _, rfl⟩ | ⟨nm, ws, _, _, rfl, d⟩ <;> rcases h2 with ⟨c2, _, _, rfl⟩ | ⟨nm2, ws2, _, _, rfl, d2⟩ <;> simp only [dD, dDs, PySem.W.alike, PySem.W.alikeAll, Bool.and_eq_true, true_and, and_true]
  exact alikeAll_of fun x hx y hy => k _ (d.2 x hx) _ (d2.2 y hy)
theorem WW.alike : ∀ {h : Nat} {w : PV}, WW h w → ∀ v, WW h v → PySem.W.alike (dD w) (dD v) = true
  | 0, _, h, _, _ => h.elim
  | h + 1, _, ⟨b, bag, e, hb, hl, ht⟩, _, ⟨b2, bag2, e2, hb2, hl2, ht2⟩ => by
    subst e e2
    simp only [dD, dDs, PySem.W.alike, PySem.W.alikeAll, Bool.and_eq_true, and_true]
    exact ⟨hb.alike (fun _ z _ y => WW.alike z _ y) hb2, alikeAll_of fun x hx y hy => (ht x hx).alike (fun _ z _ y => WW.alike z _ y) (ht2 y hy)⟩
/-! ### depth -/
theorem dpt_two {a b : PV} {k : Nat} (h1 : dpt a ≤ k) (h2 : dpt b ≤ k) : dpt (.tup [a, b]) ≤ k + 1 := dpt_tup (by simp only [List.mem_cons, List.not_mem_nil, or_false, forall_eq_or_imp, forall_eq]; exact ⟨h1, h2⟩)
theorem dpt_int {i : Int} {k : Nat} : dpt (.int i) ≤ k := by unfold dpt; simp [dD, PyData.depth]
theorem TT.dpt {R : PV → Prop} {t : PV} {d : Nat} (k : ∀ w, R w → Kg.dpt w ≤ d) (h : TT R t) : Kg.dpt t ≤ d + 2 := by
  obtain ⟨nm, ws, _, _, rfl, h⟩ := h
  exact dpt_two dpt_int (dpt_tup fun w hw => k w (h.2 w hw))
theorem BB.dpt {R : PV → Prop} {t : PV} {d : Nat} (k : ∀ w, R w → Kg.dpt w ≤ d) (h : BB R t) : Kg.dpt t ≤ d + 2 := by
  rcases h with ⟨c, _, _, rfl⟩ | ⟨nm, ws, _, _, rfl, h⟩
  · exact Nat.le_trans (dpt_two (k := 0) dpt_int dpt_int) (by omega)
  · exact dpt_tup (by simp only [List.mem_cons, List.not_mem_nil, or_false, forall_eq_or_imp, forall_eq]; exact ⟨dpt_int, dpt_int, dpt_tup fun w hw => k w (h.2 w hw)⟩)
theorem WW.dpt : ∀ {h : Nat} {w : PV}, WW h w → Kg.dpt w ≤ 4 * h
  | 0, _, h => h.elim
  | h + 1, _, ⟨b, bag, e, hb, hl, ht⟩ => by
    subst e
    exact Nat.le_trans (dpt_two (k := 4 * h + 3) (Nat.le_trans (hb.dpt fun _ z => WW.dpt z) (by omega)) (dpt_tup (k := 4 * h + 2) fun t h => (ht t h).dpt fun _ z => WW.dpt z)) (by omega)
/-! ### size: the tuples within -/
mutual
def nt : PV → Nat
  | .tup xs => 1 + nts xs
  | _ => 0
def nts : List PV → Nat
  | [] => 0
  | x :: xs => nt x + nts xs
end
theorem nts_app : ∀ {xs ys : List PV}, nts (xs ++ ys) = nts xs + nts ys
  | [], ys => by simp [nts]
  | x :: xs, ys => by simp only [List.cons_append, nts, nts_app (xs := xs)]; omega
theorem nt_mem : ∀ {xs : List PV} {x : PV}, x ∈ xs → nt x ≤ nts xs
  | y :: ys, x, h => by
    rcases List.mem_cons.mp h with rfl | h
    · simp only [nts]; omega
    · have := nt_mem h; simp only [nts]; omega
theorem nts_le {xs : List PV} {k : Nat} (h : ∀ x ∈ xs, nt x ≤ k) : nts xs ≤ xs.length * k := by
  induction xs with
  | nil => simp [nts]
  | cons x xs ih =>
    simp only [nts, List.length_cons]
    have := h x (by simp)
    have := ih fun y hy => h y (by simp [hy])
    rw [Nat.add_mul]
    omega
/-! ### the parts -/
def argsOf : PV → List PV
  | .tup [_, .tup ws] => ws
  | _ => []
def baseArgs : PV → List PV
  | .tup [_, _, .tup ws] => ws
  | _ => []
def parts : PV → List PV
  | .tup [b, .tup bag] => baseArgs b ++ bag.flatMap argsOf
  | _ => []
def lessers : PV → List PV
  | .tup [b, .tup bag] => (List.range bag.length).map fun i => .tup [b, .tup (bag.take i ++ bag.drop (i + 1))]
  | _ => []
/-- one step down -/
def Kid (w v : PV) : Prop := v ∈ parts w ∨ v ∈ lessers w
inductive Rch (S : PV → Prop) : PV → Prop where
  | here {w : PV} (h : S w) : Rch S w
  | step {w v : PV} (h : Rch S w) (k : Kid w v) : Rch S v
theorem parts_W {h : Nat} {w v : PV} (hw : WW (h + 1) w) (hv : v ∈ parts w) : WW h v := by
  obtain ⟨b, bag, rfl, hb, hl, ht⟩ := hw
  simp only [parts, List.mem_append, List.mem_flatMap] at hv
  rcases hv with hv | ⟨t, htb, hv⟩
  · rcases hb with ⟨c, _, _, rfl⟩ | ⟨nm, ws, _, _, rfl, d⟩
    · simp [baseArgs] at hv
    · exact d.2 v hv
  · obtain ⟨nm, ws, _, _, rfl, d⟩ := ht t htb
    exact d.2 v hv
theorem lessers_W {h : Nat} {w v : PV} (hw : WW (h + 1) w) (hv : v ∈ lessers w) : WW (h + 1) v := by
  obtain ⟨b, bag, rfl, hb, hl, ht⟩ := hw
  simp only [lessers, List.mem_map, List.mem_range] at hv
  obtain ⟨i, hi, rfl⟩ := hv
  refine ⟨b, _, rfl, hb, by rw [List.length_append, List.length_take, List.length_drop]; omega, fun t htt => ht t ?_⟩
  rcases List.mem_append.mp htt with z | z
  · exact List.mem_of_mem_take z
  · exact List.mem_of_mem_drop z
theorem Kid.W {h : Nat} {w v : PV} (hw : WW (h + 1) w) (k : Kid w v) : WW (h + 1) v := by
  rcases k with k | k
  · exact (parts_W hw k).up
  · exact lessers_W hw k
theorem nts_flat : ∀ (bag : List PV), nts (bag.flatMap argsOf) + 0 ≤ nts bag
  | [] => by simp [nts]
  | t :: bag => by
    have ih := nts_flat bag
    rw [List.flatMap_cons, nts_app]
    have : nts (argsOf t) ≤ nt t := by
      unfold argsOf
      split
      · simp only [nt, nts]; omega
      · simp [nts]
    simp only [nts]
    omega
theorem baseArgs_nt (b : PV) : nts (baseArgs b) ≤ nt b := by
  unfold baseArgs
  split
  · simp only [nt, nts]; omega
  · simp [nts]
theorem Kid.nt {h : Nat} {w v : PV} (hw : WW (h + 1) w) (k : Kid w v) : nt v < nt w := by
  obtain ⟨b, bag, rfl, hb, hl, ht⟩ := hw
  rcases k with k | k
  · have h1 := nt_mem k
    simp only [parts] at h1
    rw [nts_app] at h1
    have h2 := nts_flat bag
    have h3 := baseArgs_nt b
    simp only [K04.nt, nts]
    omega
  · simp only [lessers, List.mem_map, List.mem_range] at k
    obtain ⟨i, hi, rfl⟩ := k
    simp only [K04.nt, nts]
    have h1 : nts bag = nts (bag.take i) + (K04.nt bag[i] + nts (bag.drop (i + 1))) := by
      conv => lhs; rw [← List.take_append_drop i bag, List.drop_eq_getElem_cons hi]
      rw [nts_app]
      rfl
    obtain ⟨nm, ws, _, _, e, d⟩ := ht bag[i] (List.getElem_mem hi)
    have h2 : 0 < K04.nt bag[i] := by rw [e]; simp only [K04.nt]; omega
    rw [nts_app]
    omega
theorem parts_len {h : Nat} {w : PV} (hw : WW (h + 1) w) : (parts w).length ≤ 32 := by
  obtain ⟨b, bag, rfl, hb, hl, ht⟩ := hw
  simp only [parts, List.length_append]
  have h1 : (baseArgs b).length ≤ 4 := by
    rcases hb with ⟨c, _, _, rfl⟩ | ⟨nm, ws, _, _, rfl, d⟩
    · simp [baseArgs]
    · exact d.1
  have h2 : ∀ bag : List PV, (∀ t ∈ bag, TT (WW h) t) → (bag.flatMap argsOf).length ≤ 4 * bag.length := by
    intro bag
    induction bag with
    | nil => simp
    | cons t bag ih =>
      intro ht
      obtain ⟨nm, ws, _, _, rfl, d⟩ := ht t (by simp)
      have := ih fun u hu => ht u (by simp [hu])
      rw [List.flatMap_cons, List.length_append, List.length_cons]
      have := d.1
      simp only [argsOf]
      omega
  have := h2 bag ht
  omega
theorem lessers_len {h : Nat} {w : PV} (hw : WW (h + 1) w) : (lessers w).length ≤ 7 := by
  obtain ⟨b, bag, rfl, hb, hl, ht⟩ := hw
  simp [lessers]
  exact hl
/-! ### all that may be reached, in one list -/
def subs : List PV → List (List PV)
  | [] => [[]]
  | x :: xs => subs xs ++ (subs xs).map (x :: ·)
theorem subs_len (xs : List PV) : (subs xs).length = 2 ^ xs.length := by
  induction xs with
  | nil => rfl
  | cons x xs ih => simp [subs, ih, Nat.pow_succ]; omega
theorem subs_mem {xs ys : List PV} : ys ∈ subs xs ↔ ys.Sublist xs := by
  induction xs generalizing ys with
  | nil => simp [subs]
  | cons x xs ih =>
    simp only [subs, List.mem_append, List.mem_map, List.sublist_cons_iff, ih]
    constructor
    · rintro (h | ⟨z, h, rfl⟩)
      · exact .inl h
      · exact .inr ⟨z, rfl, h⟩
    · rintro (h | ⟨z, rfl, h⟩)
      · exact .inl h
      · exact .inr ⟨z, h, rfl⟩
def allR : Nat → PV → List PV
  | 0, _ => []
  | h + 1, w => match w with
    | .tup [b, .tup bag] => ((subs bag).map fun s => .tup [b, .tup s]) ++ (parts w).flatMap (allR h)
    | _ => []
theorem flat_len {f : PV → List PV} {c : Nat} : ∀ {xs : List PV}, (∀ x ∈ xs, (f x).length ≤ c * nt x) → (xs.flatMap f).length ≤ c * nts xs
  | [], _ => by simp [nts]
  | x :: xs, h => by
    have ih := flat_len (f := f) (c := c) (xs := xs) fun y hy => h y (by simp [hy])
    have := h x (by simp)
    rw [List.flatMap_cons, List.length_append]
    simp only [nts]
    rw [Nat.mul_add]
    omega
theorem allR_len : ∀ {h : Nat} {w : PV}, WW h w → (allR h w).length ≤ 43 * nt w
  | 0, _, h => h.elim
  | h + 1, w, hw => by
    have hp := fun v hv => parts_W (v := v) hw hv
    obtain ⟨b, bag, rfl, hb, hl, ht⟩ := hw
    simp only [allR]
    rw [List.length_append, List.length_map, subs_len]
    have h1 : 2 ^ bag.length ≤ 2 ^ 7 := Nat.pow_le_pow_right (by decide) hl
    have h2 := flat_len (f := allR h) (c := 43) (xs := parts (.tup [b, .tup bag])) fun v hv => allR_len (hp v hv)
    have h3 : nts (parts (.tup [b, .tup bag])) + 3 ≤ nt (.tup [b, .tup bag]) := by
      simp only [parts]
      rw [nts_app]
      have h4 := nts_flat bag
      simp only [nt, nts]
      rcases hb with ⟨c, _, _, rfl⟩ | ⟨nm, ws, _, _, rfl, d⟩
      · simp only [baseArgs, nt, nts]; omega
      · simp only [baseArgs, nt, nts]; omega
    omega
theorem Rch.mono {S S' : PV → Prop} (k : ∀ w, S w → S' w) {w : PV} (h : Rch S w) : Rch S' w := by
  induction h with
  | here h => exact .here (k _ h)
  | step _ kd ih => exact .step ih kd
theorem allR_self {h : Nat} {w : PV} (hw : WW (h + 1) w) : w ∈ allR (h + 1) w := by
  obtain ⟨b, bag, rfl, hb, hl, ht⟩ := hw
  simp only [allR, List.mem_append, List.mem_map]
  exact .inl ⟨bag, subs_mem.mpr (List.Sublist.refl _), rfl⟩
theorem allR_kid : ∀ {h : Nat} {w v u : PV}, WW h w → v ∈ allR h w → Kid v u → u ∈ allR h w
  | 0, _, _, _, h, _, _ => h.elim
  | h + 1, w, v, u, hw, hv, k => by
    have hp := fun x hx => parts_W (v := x) hw hx
    obtain ⟨b, bag, rfl, hb, hl, ht⟩ := hw
    simp only [allR, List.mem_append, List.mem_map, List.mem_flatMap] at hv ⊢
    rcases hv with ⟨s, hs, rfl⟩ | ⟨x, hx, hv⟩
    · have hs := subs_mem.mp hs
      rcases k with k | k
      · refine .inr ⟨u, ?_, ?_⟩
        · simp only [parts, List.mem_append, List.mem_flatMap] at k ⊢
          rcases k with k | ⟨t, htt, k⟩
          · exact .inl k
          · exact .inr ⟨t, hs.subset htt, k⟩
        · have hu : u ∈ parts (.tup [b, .tup bag]) := by
            simp only [parts, List.mem_append, List.mem_flatMap] at k ⊢
            rcases k with k | ⟨t, htt, k⟩
            · exact .inl k
            · exact .inr ⟨t, hs.subset htt, k⟩
          have := hp u hu
          cases h with
          | zero => exact this.elim
          | succ h => exact allR_self this
      · simp only [lessers, List.mem_map, List.mem_range] at k
        obtain ⟨i, hi, rfl⟩ := k
        refine .inl ⟨_, subs_mem.mpr (List.Sublist.trans ?_ hs), rfl⟩
        have := List.eraseIdx_sublist s i
        rw [List.eraseIdx_eq_take_drop_succ] at this
        exact this
    · exact .inr ⟨x, hx, allR_kid (hp x hx) hv k⟩
theorem rch_allR {h : Nat} {xs : List PV} (hx : ∀ x ∈ xs, WW (h + 1) x) {w : PV} (k : Rch (· ∈ xs) w) : w ∈ xs.flatMap (allR (h + 1)) ∧ WW (h + 1) w := by
  induction k with
  | here hw => exact ⟨List.mem_flatMap.mpr ⟨_, hw, allR_self (hx _ hw)⟩, hx _ hw⟩
  | step _ kd ih =>
    obtain ⟨i1, i2⟩ := ih
    obtain ⟨x, h1, h2⟩ := List.mem_flatMap.mp i1
    exact ⟨List.mem_flatMap.mpr ⟨x, h1, allR_kid (hx x h1) h2 kd⟩, kd.W i2⟩
/-- a sub-bag is reached -/
theorem sub_rch {S : PV → Prop} {b : PV} {bag s : List PV} (h : Rch S (.tup [b, .tup bag])) (hs : s.Sublist bag) : Rch S (.tup [b, .tup s]) := by
  generalize hn : bag.length - s.length = n
  induction n generalizing bag with
  | zero =>
    have : s.length = bag.length := by have := hs.length_le; omega
    rw [hs.eq_of_length this]
    exact h
  | succ n ih =>
    have key : ∀ (s bag : List PV), s.Sublist bag → s.length < bag.length → ∃ i, i < bag.length ∧ s.Sublist (bag.take i ++ bag.drop (i + 1)) := by
      intro s bag hs
      induction hs with
      | slnil => intro h; simp at h
      | @cons l1 l2 a hs ih => intro _; exact ⟨0, by simp, by simpa using hs⟩
      | @cons_cons l1 l2 a hs ih =>
        intro h
        obtain ⟨i, hi, hs2⟩ := ih (by simpa using h)
        exact ⟨i + 1, by simpa using hi, by simpa using hs2⟩
    obtain ⟨i, hi, hs2⟩ := key s bag hs (by omega)
    refine ih (.step h (.inr ?_)) hs2 (by rw [List.length_append, List.length_take, List.length_drop]; omega)
    simp only [lessers, List.mem_map, List.mem_range]
    exact ⟨i, hi, rfl⟩
end K04
/-! K04t: the texts of worths; unlike worths have unlike texts. -/
namespace K04
open PySem Kg

def dg (n : Int) : List Nat := (Str.ofString (toString n)).cps.toList
theorem dg_all : ∀ k : Fin 100, dg (k.val : Int) = if k.val < 10 then [48 + k.val] else [48 + k.val / 10, 48 + k.val % 10] := by decide +kernel
theorem dg_eq {n : Int} (h0 : 0 ≤ n) (h1 : n < 100) : dg n = if n.toNat < 10 then [48 + n.toNat] else [48 + n.toNat / 10, 48 + n.toNat % 10] := by
  have := dg_all ⟨n.toNat, by omega⟩
  simp only at this
  rw [← this, Int.toNat_of_nonneg h0]
def NonD (r : List Nat) : Prop := r = [] ∨ ∃ c t, r = c :: t ∧ (c < 48 ∨ 57 < c)
def Stop (r : List Nat) : Prop := r = [] ∨ ∃ c t, r = c :: t ∧ (c = 44 ∨ c = 41)
theorem NonD.head {c : Nat} {t : List Nat} (h : NonD (c :: t)) : c < 48 ∨ 57 < c := by
  rcases h with h | ⟨c', t', h, k⟩
  · cases h
  · cases h; exact k
theorem dg_inj {a b : Int} {r1 r2 : List Nat} (a0 : 0 ≤ a) (a1 : a < 100) (b0 : 0 ≤ b) (b1 : b < 100) (n1 : NonD r1) (n2 : NonD r2) (h : dg a ++ r1 = dg b ++ r2) : a = b ∧ r1 = r2 := by
  rw [dg_eq a0 a1, dg_eq b0 b1] at h
  split at h <;> split at h
  · simp only [List.cons_append, List.nil_append, List.cons.injEq] at h
    exact ⟨by omega, h.2⟩
  · simp only [List.cons_append, List.nil_append, List.cons.injEq] at h
    obtain ⟨h1, h2⟩ := h
    subst h2
    have := n1.head
    omega
  · simp only [List.cons_append, List.nil_append, List.cons.injEq] at h
    obtain ⟨h1, h2⟩ := h
    subst h2
    have := n2.head
    omega
  · simp only [List.cons_append, List.nil_append, List.cons.injEq] at h
    exact ⟨by omega, h.2.2⟩
theorem dg_head {n : Int} (h0 : 0 ≤ n) (h1 : n < 100) : ∃ c t, dg n = c :: t ∧ 48 ≤ c ∧ c ≤ 57 := by
  rw [dg_eq h0 h1]
  split
  · exact ⟨_, _, rfl, by omega, by omega⟩
  · exact ⟨_, _, rfl, by omega, by omega⟩
theorem dg_len {n : Int} (h0 : 0 ≤ n) (h1 : n < 100) : (dg n).length ≤ 2 := by
  rw [dg_eq h0 h1]
  split <;> simp
section
variable (f : PV → List Nat)
def argl : List PV → List Nat
  | [] => []
  | [w] => f w
  | w :: v :: ws => f w ++ 44 :: 32 :: argl (v :: ws)
def cl (nm : Int) (ws : List PV) : List Nat := dg nm ++ 40 :: (argl f ws ++ [41])
def tl1 : PV → List Nat
  | .tup [.int nm, .tup ws] => cl f nm ws
  | _ => []
def bl : List PV → List Nat
  | [] => []
  | t :: ts => 32 :: 43 :: 32 :: (tl1 f t ++ bl ts)
def fl : PV → List Nat
  | .tup [.int _, .int c] => 98 :: dg c
  | .tup [.int _, .int nm, .tup ws] => cl f nm ws
  | _ => []
def wl : PV → List Nat
  | .tup [b, .tup bag] => fl f b ++ bl f bag
  | _ => []
end
def tl : Nat → PV → List Nat
  | 0 => fun _ => []
  | h + 1 => wl (tl h)
def Inj (f : PV → List Nat) (R : PV → Prop) : Prop := ∀ w v r1 r2, R w → R v → Stop r1 → Stop r2 → f w ++ r1 = f v ++ r2 → w = v ∧ r1 = r2
def Hd (f : PV → List Nat) (R : PV → Prop) : Prop := ∀ w, R w → ∃ c t, f w = c :: t ∧ 48 ≤ c
section
variable {f : PV → List Nat} {R : PV → Prop}
theorem stop41 {r : List Nat} : Stop (41 :: r) := .inr ⟨_, _, rfl, .inr rfl⟩
theorem stop44 {r : List Nat} : Stop (44 :: r) := .inr ⟨_, _, rfl, .inl rfl⟩
theorem argl_inj (I : Inj f R) (D : Hd f R) : ∀ {ws vs : List PV} {r1 r2 : List Nat}, (∀ w ∈ ws, R w) → (∀ w ∈ vs, R w) → argl f ws ++ 41 :: r1 = argl f vs ++ 41 :: r2 → ws = vs ∧ r1 = r2
  | [], [], _, _, _, _, h => by simpa [argl] using h
  | [], [v], r1, r2, _, hv, h => by
    obtain ⟨c, t, e, hc⟩ := D v (hv v (by simp))
    simp only [argl, e, List.nil_append, List.cons_append, List.cons.injEq] at h
    omega
  | [], v :: v2 :: vs, r1, r2, _, hv, h => by
    obtain ⟨c, t, e, hc⟩ := D v (hv v (by simp))
    simp only [argl, e, List.nil_append, List.cons_append, List.cons.injEq] at h
    omega
  | [w], [], r1, r2, hw, _, h => by
    obtain ⟨c, t, e, hc⟩ := D w (hw w (by simp))
    simp only [argl, e, List.nil_append, List.cons_append, List.cons.injEq] at h
    omega
  | w :: w2 :: ws, [], r1, r2, hw, _, h => by
    obtain ⟨c, t, e, hc⟩ := D w (hw w (by simp))
    simp only [argl, e, List.nil_append, List.cons_append, List.cons.injEq] at h
    omega
  | [w], [v], r1, r2, hw, hv, h => by
    obtain ⟨e, h2⟩ := I w v _ _ (hw w (by simp)) (hv v (by simp)) stop41 stop41 h
    exact ⟨by rw [e], by simpa using h2⟩
  | [w], v :: v2 :: vs, r1, r2, hw, hv, h => by
    simp only [argl, List.append_assoc, List.cons_append] at h
    obtain ⟨e, h2⟩ := I w v _ _ (hw w (by simp)) (hv v (by simp)) stop41 stop44 h
    simp at h2
  | w :: w2 :: ws, [v], r1, r2, hw, hv, h => by
    simp only [argl, List.append_assoc, List.cons_append] at h
    obtain ⟨e, h2⟩ := I w v _ _ (hw w (by simp)) (hv v (by simp)) stop44 stop41 h
    simp at h2
  | w :: w2 :: ws, v :: v2 :: vs, r1, r2, hw, hv, h => by
    simp only [argl, List.append_assoc, List.cons_append] at h
    obtain ⟨e, h2⟩ := I w v _ _ (hw w (by simp)) (hv v (by simp)) stop44 stop44 h
    simp only [List.cons.injEq, true_and] at h2
    obtain ⟨e2, e3⟩ := argl_inj I D (fun x hx => hw x (by simp only [List.mem_cons] at hx ⊢; exact .inr hx)) (fun x hx => hv x (by simp only [List.mem_cons] at hx ⊢; exact .inr hx)) h2
    exact ⟨by rw [e, e2], e3⟩
theorem nonD40 {r : List Nat} : NonD (40 :: r) := .inr ⟨_, _, rfl, .inl (by decide)⟩
theorem cl_inj (I : Inj f R) (D : Hd f R) {a b : Int} {ws vs : List PV} {r1 r2 : List Nat} (a0 : 0 ≤ a) (a1 : a < 100) (b0 : 0 ≤ b) (b1 : b < 100) (hw : ∀ w ∈ ws, R w) (hv : ∀ w ∈ vs, R w) (h : cl f a ws ++ r1 = cl f b vs ++ r2) : a = b ∧ ws = vs ∧ r1 = r2 := by
  unfold cl at h
  simp only [List.append_assoc, List.cons_append, List.nil_append] at h
  obtain ⟨e, h2⟩ := dg_inj a0 a1 b0 b1 nonD40 nonD40 h
  simp only [List.cons.injEq, true_and] at h2
  obtain ⟨e2, e3⟩ := argl_inj I D hw hv h2
  exact ⟨e, e2, e3⟩
theorem bl_inj (I : Inj f R) (D : Hd f R) : ∀ {ts us : List PV} {r1 r2 : List Nat}, (∀ t ∈ ts, TT R t) → (∀ t ∈ us, TT R t) → Stop r1 → Stop r2 → bl f ts ++ r1 = bl f us ++ r2 → ts = us ∧ r1 = r2
  | [], [], _, _, _, _, _, _, h => by simpa [bl] using h
  | [], u :: us, r1, r2, _, _, s1, _, h => by
    simp only [bl, List.nil_append, List.cons_append] at h
    subst h
    rcases s1 with s | ⟨c, t, s, k⟩
    · cases s
    · cases s; omega
  | t :: ts, [], r1, r2, _, _, _, s2, h => by
    simp only [bl, List.nil_append, List.cons_append] at h
    subst h
    rcases s2 with s | ⟨c, t, s, k⟩
    · cases s
    · cases s; omega
  | t :: ts, u :: us, r1, r2, ht, hu, s1, s2, h => by
    obtain ⟨a, ws, a0, a1, rfl, hw⟩ := ht t (by simp)
    obtain ⟨b, vs, b0, b1, rfl, hv⟩ := hu u (by simp)
    simp only [bl, tl1, List.cons_append, List.append_assoc, List.cons.injEq, true_and] at h
    obtain ⟨e1, e2, h2⟩ := cl_inj I D a0 a1 b0 b1 hw.2 hv.2 h
    obtain ⟨e3, e4⟩ := bl_inj I D (fun x hx => ht x (by simp [hx])) (fun x hx => hu x (by simp [hx])) s1 s2 h2
    subst e1 e2 e3
    exact ⟨rfl, e4⟩
theorem bl_nonD {ts : List PV} {r : List Nat} (s : Stop r) : NonD (bl f ts ++ r) := by
  cases ts with
  | nil =>
    rcases s with rfl | ⟨c, t, rfl, k⟩
    · exact .inl rfl
    · exact .inr ⟨c, t, rfl, by omega⟩
  | cons t ts => exact .inr ⟨32, _, rfl, by omega⟩
theorem wl_inj (I : Inj f R) (D : Hd f R) : Inj (wl f) (WS R) := by
  rintro _ _ r1 r2 ⟨b, bag, rfl, hb, hl, ht⟩ ⟨b2, bag2, rfl, hb2, hl2, ht2⟩ s1 s2 h
  simp only [wl, List.append_assoc] at h
  have key : b = b2 ∧ bl f bag ++ r1 = bl f bag2 ++ r2 := by
    rcases hb with ⟨c, c0, c1, rfl⟩ | ⟨nm, ws, c0, c1, rfl, d⟩ <;> rcases hb2 with ⟨c2, d0, d1, rfl⟩ | ⟨nm2, ws2, d0, d1, rfl, d2⟩
    · simp only [fl, List.cons_append, List.cons.injEq, true_and] at h
      obtain ⟨e, h2⟩ := dg_inj c0 c1 d0 d1 (bl_nonD s1) (bl_nonD s2) h
      subst e
      exact ⟨rfl, h2⟩
    · obtain ⟨x, t, e, k1, k2⟩ := dg_head d0 d1
      simp only [fl, cl, e, List.cons_append, List.cons.injEq] at h
      omega
    · obtain ⟨x, t, e, k1, k2⟩ := dg_head c0 c1
      simp only [fl, cl, e, List.cons_append, List.cons.injEq] at h
      omega
    · simp only [fl] at h
      obtain ⟨e1, e2, h2⟩ := cl_inj I D c0 c1 d0 d1 d.2 d2.2 h
      subst e1 e2
      exact ⟨rfl, h2⟩
  obtain ⟨rfl, h2⟩ := key
  obtain ⟨rfl, h3⟩ := bl_inj I D ht ht2 s1 s2 h2
  exact ⟨rfl, h3⟩
theorem wl_hd : Hd (wl f) (WS R) := by
  rintro _ ⟨b, bag, rfl, hb, hl, ht⟩
  rcases hb with ⟨c, c0, c1, rfl⟩ | ⟨nm, ws, c0, c1, rfl, d⟩
  · exact ⟨98, _, rfl, by decide⟩
  · obtain ⟨x, t, e, k1, k2⟩ := dg_head c0 c1
    exact ⟨x, t ++ 40 :: (argl f ws ++ [41]) ++ bl f bag, by simp only [wl, fl, cl, e, List.cons_append], k1⟩
end
theorem tl_inj : ∀ h : Nat, Inj (tl h) (WW h) ∧ Hd (tl h) (WW h)
  | 0 => ⟨fun _ _ _ _ h => h.elim, fun _ h => h.elim⟩
  | h + 1 => ⟨wl_inj (tl_inj h).1 (tl_inj h).2, wl_hd⟩
/-- a worth's text -/
def tx (h : Nat) (w : PV) : Str := ⟨(tl h w).toArray⟩
theorem tx_inj {h : Nat} {w v : PV} (hw : WW h w) (hv : WW h v) (e : tx h w = tx h v) : w = v := by
  unfold tx at e
  simp only [Str.mk.injEq] at e
  have e2 : tl h w = tl h v := by simpa using congrArg Array.toList e
  exact ((tl_inj h).1 w v [] [] hw hv (.inl rfl) (.inl rfl) (by rw [e2])).1
/-! ### the length -/
theorem argl_len {f : PV → List Nat} : ∀ {ws : List PV}, (∀ w ∈ ws, (f w).length ≤ 8 * nt w) → (argl f ws).length ≤ 8 * nts ws + 2 * ws.length
  | [], _ => by simp [argl]
  | [w], h => by
    have := h w (by simp)
    simp only [argl, nts, List.length_cons, List.length_nil]
    omega
  | w :: v :: ws, h => by
    have h1 := h w (by simp)
    have h2 := argl_len (f := f) (ws := v :: ws) fun x hx => h x (by simp only [List.mem_cons] at hx ⊢; exact .inr hx)
    simp only [argl, List.length_append, List.length_cons, nts] at h2 ⊢
    omega
theorem cl_len {f : PV → List Nat} {nm : Int} {ws : List PV} (h0 : 0 ≤ nm) (h1 : nm < 100) (hl : ws.length ≤ 4) (h : ∀ w ∈ ws, (f w).length ≤ 8 * nt w) : (cl f nm ws).length ≤ 8 * nts ws + 12 := by
  have a := dg_len h0 h1
  have b := argl_len h
  unfold cl
  rw [List.length_append, List.length_cons, List.length_append, List.length_cons, List.length_nil]
  omega
theorem bl_len {f : PV → List Nat} {R : PV → Prop} (hf : ∀ w, R w → (f w).length ≤ 8 * nt w) : ∀ {ts : List PV}, (∀ t ∈ ts, TT R t) → (bl f ts).length ≤ 8 * nts ts
  | [], _ => by simp [bl]
  | t :: ts, h => by
    have ih := bl_len hf (ts := ts) fun x hx => h x (by simp [hx])
    obtain ⟨nm, ws, h0, h1, rfl, hl, hw⟩ := h t (by simp)
    have := cl_len (f := f) h0 h1 hl fun w hx => hf w (hw w hx)
    simp only [bl, tl1, List.length_cons, List.length_append, nts, nt]
    omega
theorem tl_len : ∀ {h : Nat} {w : PV}, WW h w → (tl h w).length ≤ 8 * nt w
  | 0, _, h => h.elim
  | h + 1, _, ⟨b, bag, e, hb, hl, ht⟩ => by
    subst e
    have hbl := bl_len (f := tl h) (R := WW h) (fun w hw => tl_len hw) ht
    simp only [tl, wl, List.length_append, nt, nts]
    rcases hb with ⟨c, c0, c1, rfl⟩ | ⟨nm, ws, c0, c1, rfl, d⟩
    · have := dg_len c0 c1
      simp only [fl, List.length_cons, nt, nts]
      omega
    · have := cl_len (f := tl h) c0 c1 d.1 fun w hw => tl_len (d.2 w hw)
      simp only [fl, nt, nts]
      omega
end K04
/-! K04p: what the program's functions give. -/
namespace K04
open PySem Kg
open Classical
variable {n : Nat} {st : Sto} {Q : PV → Sto → Prop}

theorem new_get1 {a b : Ob} {l : Sto} : (st ++ a :: b :: l)[st.length + 1]? = some b := by simp
theorem set_app0 {a b : Ob} {l : Sto} : (st ++ a :: l).set st.length b = st ++ b :: l := by simp
theorem tru_l {r : Nat} {xs : List PV} (h : st[r]? = some (.lst xs)) : tru (.ref r) st = some (!xs.isEmpty) := by simp only [tru, h]
theorem atI_neg1 {xs : List PV} (h : xs ≠ []) : ∃ x, L2.atI xs (-1) = some x ∧ x ∈ xs := by
  have hl : 0 < xs.length := List.length_pos_iff.mpr h
  refine ⟨xs[xs.length - 1], ?_, List.getElem_mem _⟩
  unfold L2.atI L2.ixN
  rw [if_neg (by omega), if_pos (by omega)]
  have e : (-1 + (xs.length : Int)).toNat = xs.length - 1 := by omega
  simp only [Option.bind_some, e]
  exact List.getElem?_eq_getElem _
theorem w_unlike {r : Nat} {xs : List PV} (hr : st[r]? = some (.lst xs)) (ok : srtOk xs) (hp : ∀ x ∈ xs, isP x = true) (hd : ∀ x ∈ xs, dpt x ≤ dLim) (k : ∀ ys jk, (∀ x, x ∈ ys ↔ x ∈ xs) → ys.length ≤ xs.length → Q (.tup ys) (st ++ jk)) :
    wO (callF ds (n + 1) 8 [.ref r] st) Q := by
  rw [w_callF]
  show wA (some d8) _
  rw [wA_some]
  have hr1 : (st ++ [Ob.lst []])[r]? = some (.lst xs) := app_get hr
  simp -implicitDefEqProofs only [d8, sorted_l hr1 ok, exS, exSs, evX, evs, evt, pr, condOf, w_bin, w_neg, w_cmp, w_isn, w_isb, w_and, w_or, w_not, w_ife, w_tup, w_lst, w_star, w_ix, w_sli, w_call, w_bi, w_met, w_isi, w_comp, w_fstr, w_dict0, w_lvals, w_nil, w_cons, w_tst, w_tnot, w_tand, w_tor, w_var, Kg.w_next, w_seq, w_asg, w_set, w_expr, w_ret, w_if, w_for, w_aug, wO_some, wF_some, wA_some, wA_map, wO_ite, wA_ite, isStar, spl, startE, wipeE, bindT, bindTs, List.map_cons, List.map_nil, List.length_cons, List.length_nil, List.replicate, List.cons_append, List.nil_append, List.append_nil, List.append_assoc, Nat.reduceAdd, Nat.reduceSub, Nat.reduceLT, Nat.reduceLeDiff, List.getElem?_cons_zero, List.getElem?_cons_succ, List.getElem?_nil, Option.join_some, Option.join_none, List.set_cons_zero, List.set_cons_succ, if_true, if_false, Bool.false_eq_true, Bool.true_eq_false, reduceIte, reduceCtorEq, true_and, and_true, Option.map_some, Option.map_none, Nat.succ_eq_add_one, Nat.zero_add, Nat.add_zero, List.singleton_append]
  refine ⟨by decide, ?_⟩
  have e1 : (st ++ [Ob.lst [], Ob.lst (srt xs)])[(st ++ [Ob.lst []]).length]? = some (.lst (srt xs)) := by simp
  rw [seq_l e1, wA_some]
  have hl5 := ok.2.2.2.2
  refine w_forL (fun ys e s => ∃ zs rows e2, srt xs = zs ++ ys ∧ e = [some (.ref r), some (.ref st.length), e2] ∧ s = st ++ [.lst rows, .lst (srt xs)] ∧ (∀ x, x ∈ rows ↔ x ∈ zs) ∧ rows.length ≤ zs.length) ?_ ⟨[], [], none, rfl, rfl, rfl, fun _ => Iff.rfl, Nat.le_refl _⟩ ?_ ?_
  · rintro ys e s ⟨zs, rows, e2, _, _, rfl, _, _⟩
    show (st ++ [Ob.lst rows, Ob.lst (srt xs)])[(st ++ [Ob.lst []]).length]? = _
    simp
  · rintro y ys e s ⟨zs, rows, e2, hz, rfl, rfl, hm, hlen⟩
    have hg : (st ++ [Ob.lst rows, Ob.lst (srt xs)])[st.length]? = some (.lst rows) := by simp
    have hmem : ∀ x, x ∈ zs ++ y :: ys → x ∈ xs := fun x hx => srt_mem.mp (by rw [hz]; exact hx)
    have hyp := hp y (hmem y (by simp))
    have hlz : zs.length + (y :: ys).length = xs.length := by rw [← (srt_perm xs).length_eq, hz, List.length_append]
    have good : ∃ zs' rows' e2', srt xs = zs' ++ ys ∧ [some (PV.ref r), some (.ref st.length), some y] = [some (.ref r), some (.ref st.length), e2'] ∧ st ++ [Ob.lst (rows ++ [y]), .lst (srt xs)] = st ++ [.lst rows', .lst (srt xs)] ∧ (∀ x, x ∈ rows' ↔ x ∈ zs') ∧ rows'.length ≤ zs'.length :=
      ⟨zs ++ [y], rows ++ [y], some y, by rw [hz]; simp, rfl, rfl, fun x => by simp [hm], by simp; exact hlen⟩
    simp -implicitDefEqProofs only [tru_l hg, k_app, isL_of hg, app_l hg (by rw [List.length_cons] at hlz; omega), set_app0, exS, exSs, evX, evs, evt, pr, condOf, w_bin, w_neg, w_cmp, w_isn, w_isb, w_and, w_or, w_not, w_ife, w_tup, w_lst, w_star, w_ix, w_sli, w_call, w_bi, w_met, w_isi, w_comp, w_fstr, w_dict0, w_lvals, w_nil, w_cons, w_tst, w_tnot, w_tand, w_tor, w_var, Kg.w_next, w_seq, w_asg, w_set, w_expr, w_ret, w_if, w_for, w_aug, wO_some, wF_some, wA_some, wA_map, wO_ite, wA_ite, isStar, spl, startE, wipeE, bindT, bindTs, List.map_cons, List.map_nil, List.length_cons, List.length_nil, List.replicate, List.cons_append, List.nil_append, List.append_nil, List.append_assoc, Nat.reduceAdd, Nat.reduceSub, Nat.reduceLT, Nat.reduceLeDiff, List.getElem?_cons_zero, List.getElem?_cons_succ, List.getElem?_nil, Option.join_some, Option.join_none, List.set_cons_zero, List.set_cons_succ, if_true, if_false, Bool.false_eq_true, Bool.true_eq_false, reduceIte, reduceCtorEq, true_and, and_true, Option.map_some, Option.map_none, Nat.succ_eq_add_one, Nat.zero_add, Nat.add_zero, List.singleton_append]
    cases rows with
    | nil =>
      simp only [List.isEmpty_nil, Bool.not_true, Bool.not_false, if_true]
      exact good
    | cons a rows =>
      simp only [List.isEmpty_cons, Bool.not_false, Bool.not_true, Bool.false_eq_true, if_false]
      obtain ⟨x, hx, hxm⟩ := atI_neg1 (xs := a :: rows) (by simp)
      have hxs : x ∈ xs := hmem x (by simp [(hm x).mp hxm])
      rw [ixV_ref hg, hx, wA_some, cop_ne_P (hp x hxs) hyp (hd x hxs), wA_some]
      simp -implicitDefEqProofs only [tru_b, exS, exSs, evX, evs, evt, pr, condOf, w_bin, w_neg, w_cmp, w_isn, w_isb, w_and, w_or, w_not, w_ife, w_tup, w_lst, w_star, w_ix, w_sli, w_call, w_bi, w_met, w_isi, w_comp, w_fstr, w_dict0, w_lvals, w_nil, w_cons, w_tst, w_tnot, w_tand, w_tor, w_var, Kg.w_next, w_seq, w_asg, w_set, w_expr, w_ret, w_if, w_for, w_aug, wO_some, wF_some, wA_some, wA_map, wO_ite, wA_ite, isStar, spl, startE, wipeE, bindT, bindTs, List.map_cons, List.map_nil, List.length_cons, List.length_nil, List.replicate, List.cons_append, List.nil_append, List.append_nil, List.append_assoc, Nat.reduceAdd, Nat.reduceSub, Nat.reduceLT, Nat.reduceLeDiff, List.getElem?_cons_zero, List.getElem?_cons_succ, List.getElem?_nil, Option.join_some, Option.join_none, List.set_cons_zero, List.set_cons_succ, if_true, if_false, Bool.false_eq_true, Bool.true_eq_false, reduceIte, reduceCtorEq, true_and, and_true, Option.map_some, Option.map_none, Nat.succ_eq_add_one, Nat.zero_add, Nat.add_zero, List.singleton_append]
      by_cases e : x = y
      · simp only [e, decide_true, Bool.not_true, Bool.false_eq_true, if_false]
        refine ⟨zs ++ [y], a :: rows, some y, by rw [hz]; simp, rfl, rfl, fun z => ?_, by simp at hlen ⊢; omega⟩
        rw [List.mem_append, List.mem_singleton, hm]
        constructor
        · exact .inl
        · rintro (h | rfl)
          · exact h
          · exact (hm _).mp (e ▸ hxm)
      · simp only [e, decide_false, Bool.not_false, if_true]
        exact good
  · rintro e s ⟨zs, rows, e2, hz, rfl, rfl, hm, hlen⟩
    have hg : (st ++ [Ob.lst rows, Ob.lst (srt xs)])[st.length]? = some (.lst rows) := by simp
    rw [List.append_nil] at hz
    simp -implicitDefEqProofs only [tuple_l hg, exS, exSs, evX, evs, evt, pr, condOf, w_bin, w_neg, w_cmp, w_isn, w_isb, w_and, w_or, w_not, w_ife, w_tup, w_lst, w_star, w_ix, w_sli, w_call, w_bi, w_met, w_isi, w_comp, w_fstr, w_dict0, w_lvals, w_nil, w_cons, w_tst, w_tnot, w_tand, w_tor, w_var, Kg.w_next, w_seq, w_asg, w_set, w_expr, w_ret, w_if, w_for, w_aug, wO_some, wF_some, wA_some, wA_map, wO_ite, wA_ite, isStar, spl, startE, wipeE, bindT, bindTs, List.map_cons, List.map_nil, List.length_cons, List.length_nil, List.replicate, List.cons_append, List.nil_append, List.append_nil, List.append_assoc, Nat.reduceAdd, Nat.reduceSub, Nat.reduceLT, Nat.reduceLeDiff, List.getElem?_cons_zero, List.getElem?_cons_succ, List.getElem?_nil, Option.join_some, Option.join_none, List.set_cons_zero, List.set_cons_succ, if_true, if_false, Bool.false_eq_true, Bool.true_eq_false, reduceIte, reduceCtorEq, true_and, and_true, Option.map_some, Option.map_none, Nat.succ_eq_add_one, Nat.zero_add, Nat.add_zero, List.singleton_append]
    exact k rows _ (fun x => by rw [hm, ← hz]; exact srt_mem) (by rw [← (srt_perm xs).length_eq, hz]; exact hlen)
end K04
/-! K04q: parts, lesser worths, bags. -/
namespace K04
open PySem Kg
open Classical
variable {n : Nat} {st : Sto} {Q : PV → Sto → Prop}

theorem sz24 {k : Nat} (h : k ≤ 16777216) : k ≤ sizeLine := by rw [sizeLine_eq]; exact h
theorem WW.tup {h : Nat} {w : PV} (hw : WW h w) : ∃ z zs, w = .tup (z :: zs) := by
  cases h with
  | zero => exact hw.elim
  | succ h => obtain ⟨b, bag, rfl, _⟩ := hw; exact ⟨_, _, rfl⟩
theorem W_srt {h : Nat} {xs : List PV} (hx : ∀ x ∈ xs, WW h x) (hh : h ≤ 300) (hl : xs.length ≤ sizeLine) : srtOk xs :=
  srtOk_P (fun x hm => (hx x hm).isP) (fun a ha b hb => (hx a ha).alike b (hx b hb)) (fun x hm => (hx x hm).tup) (fun x hm => Nat.le_trans (hx x hm).dpt (by unfold dLim; omega)) hl
theorem W_dpt {h : Nat} {x : PV} (hx : WW h x) (hh : h ≤ 300) : dpt x ≤ dLim := Nat.le_trans hx.dpt (by unfold dLim; omega)
theorem flat_len4 {h : Nat} : ∀ {bag : List PV}, (∀ t ∈ bag, TT (WW h) t) → (bag.flatMap argsOf).length ≤ 4 * bag.length
  | [], _ => by simp
  | t :: bag, ht => by
    obtain ⟨nm, ws, _, _, rfl, d⟩ := ht t (by simp)
    have := flat_len4 (bag := bag) fun u hu => ht u (by simp [hu])
    rw [List.flatMap_cons, List.length_append, List.length_cons]
    have := d.1
    simp only [argsOf]
    omega
theorem base_len {h : Nat} {b : PV} (hb : BB (WW h) b) : (baseArgs b).length ≤ 4 := by
  rcases hb with ⟨c, _, _, rfl⟩ | ⟨nm, ws, _, _, rfl, d⟩
  · simp [baseArgs]
  · exact d.1
theorem unpack2 {a b : PV} : bindT (.tu [.nm 0, .nm 1]) (.tup [a, b]) [none, none] = some [some a, some b] := rfl

theorem w_parts {h : Nat} {w : PV} (hh : h ≤ 250) (hw : WW (h + 1) w) (k : ∀ ys jk, (∀ x, x ∈ ys ↔ x ∈ parts w) → ys.length ≤ 32 → Q (.tup ys) (st ++ jk)) : wO (callF ds (n + 2) 9 [w] st) Q := by
  have hpw : ∀ v ∈ parts w, WW h v := fun v hv => parts_W hw hv
  have hpl := parts_len hw
  obtain ⟨b, bag, rfl, hb, hl, ht⟩ := hw
  rw [w_callF]
  show wA (some d9) _
  rw [wA_some]
  simp -implicitDefEqProofs only [d9, exS, exSs, evX, evs, evt, pr, condOf, w_bin, w_neg, w_cmp, w_isn, w_isb, w_and, w_or, w_not, w_ife, w_tup, w_lst, w_star, w_ix, w_sli, w_call, w_bi, w_met, w_isi, w_comp, w_fstr, w_dict0, w_lvals, w_nil, w_cons, w_tst, w_tnot, w_tand, w_tor, w_var, Kg.w_next, w_seq, w_asg, w_set, w_expr, w_ret, w_if, w_for, w_aug, wO_some, wF_some, wA_some, wA_map, wO_ite, wA_ite, isStar, spl, startE, wipeE, bindT, bindTs, List.map_cons, List.map_nil, List.length_cons, List.length_nil, List.replicate, List.cons_append, List.nil_append, List.append_nil, List.append_assoc, Nat.reduceAdd, Nat.reduceSub, Nat.reduceLT, Nat.reduceLeDiff, List.getElem?_cons_zero, List.getElem?_cons_succ, List.getElem?_nil, Option.join_some, Option.join_none, List.set_cons_zero, List.set_cons_succ, if_true, if_false, Bool.false_eq_true, Bool.true_eq_false, reduceIte, reduceCtorEq, true_and, and_true, Option.map_some, Option.map_none, Nat.succ_eq_add_one, Nat.zero_add, Nat.add_zero, List.singleton_append]
  -- the base's own
  have base : ∀ (Q : PV → Sto → Prop), Q (.ref st.length) (st ++ [.lst (baseArgs b)]) →
      wA (ixV b (.int 0) st) fun v => wA (cop .eq v (.int 1) st) fun k => wA (tru (.bl k) st) fun k => if k = true then wA (ixV b (.int 2) st) fun v => wO (biV .list [v] st) fun x s => Q x s
        else 0 ≤ sizeLine ∧ Q (.ref st.length) (st ++ [.lst []]) := by
    intro Q q
    rcases hb with ⟨c, _, _, rfl⟩ | ⟨nm, ws, _, _, rfl, d⟩
    · simp -implicitDefEqProofs only [ixV_tup, atI0, cop_eq_i, tru_b, exS, exSs, evX, evs, evt, pr, condOf, w_bin, w_neg, w_cmp, w_isn, w_isb, w_and, w_or, w_not, w_ife, w_tup, w_lst, w_star, w_ix, w_sli, w_call, w_bi, w_met, w_isi, w_comp, w_fstr, w_dict0, w_lvals, w_nil, w_cons, w_tst, w_tnot, w_tand, w_tor, w_var, Kg.w_next, w_seq, w_asg, w_set, w_expr, w_ret, w_if, w_for, w_aug, wO_some, wF_some, wA_some, wA_map, wO_ite, wA_ite, isStar, spl, startE, wipeE, bindT, bindTs, List.map_cons, List.map_nil, List.length_cons, List.length_nil, List.replicate, List.cons_append, List.nil_append, List.append_nil, List.append_assoc, Nat.reduceAdd, Nat.reduceSub, Nat.reduceLT, Nat.reduceLeDiff, List.getElem?_cons_zero, List.getElem?_cons_succ, List.getElem?_nil, Option.join_some, Option.join_none, List.set_cons_zero, List.set_cons_succ, if_true, if_false, Bool.false_eq_true, Bool.true_eq_false, reduceIte, reduceCtorEq, true_and, and_true, Option.map_some, Option.map_none, Nat.succ_eq_add_one, Nat.zero_add, Nat.add_zero, List.singleton_append]
      exact ⟨Nat.zero_le _, q⟩
    · simp -implicitDefEqProofs only [ixV_tup, atI0, atI2, cop_eq_i, tru_b, list_t, decide_true, exS, exSs, evX, evs, evt, pr, condOf, w_bin, w_neg, w_cmp, w_isn, w_isb, w_and, w_or, w_not, w_ife, w_tup, w_lst, w_star, w_ix, w_sli, w_call, w_bi, w_met, w_isi, w_comp, w_fstr, w_dict0, w_lvals, w_nil, w_cons, w_tst, w_tnot, w_tand, w_tor, w_var, Kg.w_next, w_seq, w_asg, w_set, w_expr, w_ret, w_if, w_for, w_aug, wO_some, wF_some, wA_some, wA_map, wO_ite, wA_ite, isStar, spl, startE, wipeE, bindT, bindTs, List.map_cons, List.map_nil, List.length_cons, List.length_nil, List.replicate, List.cons_append, List.nil_append, List.append_nil, List.append_assoc, Nat.reduceAdd, Nat.reduceSub, Nat.reduceLT, Nat.reduceLeDiff, List.getElem?_cons_zero, List.getElem?_cons_succ, List.getElem?_nil, Option.join_some, Option.join_none, List.set_cons_zero, List.set_cons_succ, if_true, if_false, Bool.false_eq_true, Bool.true_eq_false, reduceIte, reduceCtorEq, true_and, and_true, Option.map_some, Option.map_none, Nat.succ_eq_add_one, Nat.zero_add, Nat.add_zero, List.singleton_append]
      exact q
  refine base _ ?_
  rw [seq_tup, wA_some]
  have bl := base_len hb
  refine w_forL (fun ys e s => ∃ zs e2, bag = zs ++ ys ∧ e = [some (.tup [b, .tup bag]), some (.ref st.length), e2, some b, some (.tup bag)] ∧ s = st ++ [.lst (baseArgs b ++ zs.flatMap argsOf)]) (fun _ _ _ _ => trivial) ⟨[], none, rfl, rfl, by simp⟩ ?_ ?_
  · rintro y ys e s ⟨zs, e2, hz, rfl, rfl⟩
    obtain ⟨nm, ws, _, _, rfl, d⟩ := ht y (by rw [hz]; simp)
    have hg : (st ++ [Ob.lst (baseArgs b ++ zs.flatMap argsOf)])[st.length]? = some (.lst (baseArgs b ++ zs.flatMap argsOf)) := by simp
    have h4 := flat_len4 (bag := zs) fun t htt => ht t (by rw [hz]; simp [htt])
    have hzl : zs.length ≤ 7 := by rw [hz] at hl; simp at hl; omega
    have d1 := d.1
    simp -implicitDefEqProofs only [k_ext, isL_of hg, ixV_tup, atI1, exS, exSs, evX, evs, evt, pr, condOf, w_bin, w_neg, w_cmp, w_isn, w_isb, w_and, w_or, w_not, w_ife, w_tup, w_lst, w_star, w_ix, w_sli, w_call, w_bi, w_met, w_isi, w_comp, w_fstr, w_dict0, w_lvals, w_nil, w_cons, w_tst, w_tnot, w_tand, w_tor, w_var, Kg.w_next, w_seq, w_asg, w_set, w_expr, w_ret, w_if, w_for, w_aug, wO_some, wF_some, wA_some, wA_map, wO_ite, wA_ite, isStar, spl, startE, wipeE, bindT, bindTs, List.map_cons, List.map_nil, List.length_cons, List.length_nil, List.replicate, List.cons_append, List.nil_append, List.append_nil, List.append_assoc, Nat.reduceAdd, Nat.reduceSub, Nat.reduceLT, Nat.reduceLeDiff, List.getElem?_cons_zero, List.getElem?_cons_succ, List.getElem?_nil, Option.join_some, Option.join_none, List.set_cons_zero, List.set_cons_succ, if_true, if_false, Bool.false_eq_true, Bool.true_eq_false, reduceIte, reduceCtorEq, true_and, and_true, Option.map_some, Option.map_none, Nat.succ_eq_add_one, Nat.zero_add, Nat.add_zero, List.singleton_append]
    rw [ext_lt hg (by rw [List.length_append]; exact sz24 (by omega)), wO_some, set_app0]
    exact ⟨zs ++ [.tup [.int nm, .tup ws]], _, by rw [hz]; simp, rfl, by simp [argsOf]⟩
  · rintro e s ⟨zs, e2, hz, rfl, rfl⟩
    rw [List.append_nil] at hz
    subst hz
    have hg : (st ++ [Ob.lst (baseArgs b ++ bag.flatMap argsOf)])[st.length]? = some (.lst (parts (.tup [b, .tup bag]))) := by simp [parts]
    simp -implicitDefEqProofs only [exS, exSs, evX, evs, evt, pr, condOf, w_bin, w_neg, w_cmp, w_isn, w_isb, w_and, w_or, w_not, w_ife, w_tup, w_lst, w_star, w_ix, w_sli, w_call, w_bi, w_met, w_isi, w_comp, w_fstr, w_dict0, w_lvals, w_nil, w_cons, w_tst, w_tnot, w_tand, w_tor, w_var, Kg.w_next, w_seq, w_asg, w_set, w_expr, w_ret, w_if, w_for, w_aug, wO_some, wF_some, wA_some, wA_map, wO_ite, wA_ite, isStar, spl, startE, wipeE, bindT, bindTs, List.map_cons, List.map_nil, List.length_cons, List.length_nil, List.replicate, List.cons_append, List.nil_append, List.append_nil, List.append_assoc, Nat.reduceAdd, Nat.reduceSub, Nat.reduceLT, Nat.reduceLeDiff, List.getElem?_cons_zero, List.getElem?_cons_succ, List.getElem?_nil, Option.join_some, Option.join_none, List.set_cons_zero, List.set_cons_succ, if_true, if_false, Bool.false_eq_true, Bool.true_eq_false, reduceIte, reduceCtorEq, true_and, and_true, Option.map_some, Option.map_none, Nat.succ_eq_add_one, Nat.zero_add, Nat.add_zero, List.singleton_append]
    refine w_unlike hg (W_srt hpw (by omega) (sz24 (by omega))) (fun x hx => (hpw x hx).isP) (fun x hx => W_dpt (hpw x hx) (by omega)) fun ys jk hm hy => ?_
    rw [List.append_assoc]
    exact k ys _ hm (by omega)

theorem cut_take {xs : List PV} {i : Nat} (h : i ≤ xs.length) : cutP xs none (some (i : Int)) = xs.take i := by
  unfold cutP
  rw [HT.sIx_nat, HT.sIx_none, List.drop_zero, Nat.sub_zero, Nat.min_eq_left h]
theorem cut_drop {xs : List PV} {i : Nat} (h : i ≤ xs.length) : cutP xs (some (i : Int)) none = xs.drop i := by
  unfold cutP
  rw [HT.sIx_nat, HT.sIx_none, Nat.min_eq_left h]
  exact List.take_of_length_le (by rw [List.length_drop]; omega)
theorem cat_t {xs ys : List PV} (h : xs.length + ys.length ≤ sizeLine) : bop .add (.tup xs) (.tup ys) st = some (.tup (xs ++ ys), st) := by
  simp only [bop]
  rw [if_pos h]
theorem rangeI_eq {k : Nat} : rangeI 0 (k : Int) = (List.range k).map fun i => PV.int (i : Nat) := by
  unfold rangeI
  simp
/-- what range's numbers give -/
theorem w_compRange {g : Tg} {elt : VF} {env : En} {k : Nat} {QL : List PV → Sto → Prop} (f : Nat → PV) (hz : k ≤ sizeLine)
    (step : ∀ i, i < k → ∀ jk (Q : PV → Sto → Prop), (∀ jk', Q (f i) (st ++ (jk ++ jk'))) → wA (bindT g (.int (i : Nat)) env) fun e1 => wO (elt e1 (st ++ jk)) Q)
    (done : ∀ jk, QL ((List.range k).map f) (st ++ jk)) : wO (compL none g (condOf []) elt env (rangeI 0 (k : Int)) [] st) QL := by
  rw [rangeI_eq]
  have e : ∀ xs : List Nat, (xs.map fun i => PV.int (i : Nat)).map (fun v => match v with | .int i => f i.toNat | _ => .non) = xs.map f := fun xs => by
    rw [List.map_map]
    apply List.map_congr_left
    intro i _
    simp
  refine w_compMap (fun v => match v with | .int i => f i.toNat | _ => .non) (trivial : itOk none st) (by simpa using hz) ?_ fun jk => ?_
  · intro x hx jk Q hQ
    obtain ⟨i, hi, rfl⟩ := List.mem_map.mp hx
    exact step i (by simpa using hi) jk Q fun jk' => by simpa using hQ jk'
  · rw [e]
    exact done jk
end K04
/-! K04r: texts told, bags within. -/
namespace K04
open PySem Kg
open Classical
variable {n : Nat} {st : Sto} {Q : PV → Sto → Prop}

def mkS (l : List Nat) : Str := ⟨l.toArray⟩
theorem mkS_app {a b : List Nat} : mkS a ++ mkS b = mkS (a ++ b) := by
  show Str.append _ _ = _
  simp [mkS, Str.append]
theorem mkS_len {a : List Nat} : (mkS a).length = a.length := by simp [mkS, Str.length]
theorem mkS_eta (s : Str) : mkS s.cps.toList = s := by simp [mkS]
theorem strsP_map : ∀ ts : List Str, strsP (ts.map PV.str) = some ts
  | [] => rfl
  | t :: ts => by simp only [List.map_cons, strsP, strsP_map ts, Option.map_some]
theorem join_l {r : Nat} {s : Str} {ts : List Str} (h : st[r]? = some (.lst (ts.map PV.str))) (hz : (ts.map (·.length)).sum + ts.length * s.length ≤ 16777216) : meV .join (.str s) [.ref r] st = some (.str (Str.join s ts), st) := by
  simp only [meV, h, strsP_map]
  rw [if_pos hz]
theorem join_args {f : PV → List Nat} : ∀ ws : List PV, Str.join (Str.ofString ", ") (ws.map fun w => mkS (f w)) = mkS (argl f ws)
  | [] => rfl
  | [w] => rfl
  | w :: v :: ws => by
    have ih := join_args (f := f) (v :: ws)
    simp only [List.map_cons, Str.join, argl] at ih ⊢
    rw [ih, show Str.ofString ", " = mkS [44, 32] from by decide +kernel, mkS_app, mkS_app]
    simp
theorem sum_le {f : PV → List Nat} {c : Nat} : ∀ {ws : List PV}, (∀ w ∈ ws, (f w).length ≤ c) → ((ws.map fun w => mkS (f w)).map (·.length)).sum ≤ ws.length * c
  | [], _ => by simp
  | w :: ws, h => by
    have ih := sum_le (f := f) (c := c) (ws := ws) fun x hx => h x (by simp [hx])
    have := h w (by simp)
    simp only [List.map_cons, List.sum_cons, List.length_cons, mkS_len]
    rw [Nat.add_mul]
    omega
theorem log2_small {n : Int} (h0 : 0 ≤ n) (h1 : n < 100) : n.natAbs.log2 < 1920 := by
  have : n.natAbs < 2 ^ 7 := by omega
  by_cases hz : n.natAbs = 0
  · rw [hz]; decide
  · have := (Nat.log2_lt hz).mpr this
    omega
/-- a call's text, when its worths' texts are known -/
theorem w_ctext {f : PV → List Nat} {nm : Int} {ws : List PV} {c : Nat} (h0 : 0 ≤ nm) (h1 : nm < 100) (hl : ws.length ≤ 4) (hc : ∀ w ∈ ws, (f w).length ≤ c) (hc2 : c ≤ 1000000)
    (hf : ∀ w ∈ ws, ∀ (st : Sto) (Q : PV → Sto → Prop), (∀ jk, Q (.str (mkS (f w))) (st ++ jk)) → wO (callF ds n 12 [w] st) Q)
    (k : ∀ jk, Q (.str (mkS (cl f nm ws))) (st ++ jk)) : wO (callF ds (n + 1) 11 [.int nm, .tup ws] st) Q := by
  rw [w_callF]
  show wA (some d11) _
  rw [wA_some]
  simp -implicitDefEqProofs only [d11, seq_tup, kindM, exS, exSs, evX, evs, evt, pr, condOf, w_bin, w_neg, w_cmp, w_isn, w_isb, w_and, w_or, w_not, w_ife, w_tup, w_lst, w_star, w_ix, w_sli, w_call, w_bi, w_met, w_isi, w_comp, w_fstr, w_dict0, w_lvals, w_nil, w_cons, w_tst, w_tnot, w_tand, w_tor, w_var, Kg.w_next, w_seq, w_asg, w_set, w_expr, w_ret, w_if, w_for, w_aug, wO_some, wF_some, wA_some, wA_map, wO_ite, wA_ite, isStar, spl, startE, wipeE, bindT, bindTs, List.map_cons, List.map_nil, List.length_cons, List.length_nil, List.replicate, List.cons_append, List.nil_append, List.append_nil, List.append_assoc, Nat.reduceAdd, Nat.reduceSub, Nat.reduceLT, Nat.reduceLeDiff, List.getElem?_cons_zero, List.getElem?_cons_succ, List.getElem?_nil, Option.join_some, Option.join_none, List.set_cons_zero, List.set_cons_succ, if_true, if_false, Bool.false_eq_true, Bool.true_eq_false, reduceIte, reduceCtorEq, true_and, and_true, Option.map_some, Option.map_none, Nat.succ_eq_add_one, Nat.zero_add, Nat.add_zero, List.singleton_append]
  refine w_compMap (fun w => .str (mkS (f w))) (trivial : itOk none st) (sz24 (by omega)) (fun w hw jk Q hQ => ?_) fun jk => ?_
  · simp -implicitDefEqProofs only [exS, exSs, evX, evs, evt, pr, condOf, w_bin, w_neg, w_cmp, w_isn, w_isb, w_and, w_or, w_not, w_ife, w_tup, w_lst, w_star, w_ix, w_sli, w_call, w_bi, w_met, w_isi, w_comp, w_fstr, w_dict0, w_lvals, w_nil, w_cons, w_tst, w_tnot, w_tand, w_tor, w_var, Kg.w_next, w_seq, w_asg, w_set, w_expr, w_ret, w_if, w_for, w_aug, wO_some, wF_some, wA_some, wA_map, wO_ite, wA_ite, isStar, spl, startE, wipeE, bindT, bindTs, List.map_cons, List.map_nil, List.length_cons, List.length_nil, List.replicate, List.cons_append, List.nil_append, List.append_nil, List.append_assoc, Nat.reduceAdd, Nat.reduceSub, Nat.reduceLT, Nat.reduceLeDiff, List.getElem?_cons_zero, List.getElem?_cons_succ, List.getElem?_nil, Option.join_some, Option.join_none, List.set_cons_zero, List.set_cons_succ, if_true, if_false, Bool.false_eq_true, Bool.true_eq_false, reduceIte, reduceCtorEq, true_and, and_true, Option.map_some, Option.map_none, Nat.succ_eq_add_one, Nat.zero_add, Nat.add_zero, List.singleton_append]
    refine hf w hw _ _ fun jk' => ?_
    rw [List.append_assoc]
    exact hQ jk'
  · have e : ws.map (fun w => PV.str (mkS (f w))) = (ws.map fun w => mkS (f w)).map PV.str := by rw [List.map_map]; rfl
    rw [e]
    have hg : (st ++ jk ++ [Ob.lst ((ws.map fun w => mkS (f w)).map PV.str)])[(st ++ jk).length]? = some (.lst ((ws.map fun w => mkS (f w)).map PV.str)) := by simp
    have hs := sum_le hc
    have hs2 : ws.length * c ≤ 4 * 1000000 := Nat.mul_le_mul hl hc2
    have hj : meV .join (.str (Str.ofString ", ")) [.ref (st ++ jk).length] (st ++ jk ++ [Ob.lst ((ws.map fun w => mkS (f w)).map PV.str)]) = some (.str (mkS (argl f ws)), st ++ jk ++ [Ob.lst ((ws.map fun w => mkS (f w)).map PV.str)]) := by
      rw [join_l hg (by
        rw [List.length_map, show (Str.ofString ", ").length = 2 from by decide +kernel]
        omega), join_args]
    have hj2 : meV .join (.str (Str.ofString ", ")) [.ref (st ++ jk).length] (st ++ (jk ++ [Ob.lst ((ws.map fun w => mkS (f w)).map PV.str)])) = some (.str (mkS (argl f ws)), st ++ (jk ++ [Ob.lst ((ws.map fun w => mkS (f w)).map PV.str)])) := by
      rw [← List.append_assoc]; exact hj
    rw [List.append_assoc, hj2]
    have ha : (argl f ws).length ≤ 4 * 1000000 + 8 := by
      have : ∀ ws : List PV, (argl f ws).length ≤ ((ws.map fun w => mkS (f w)).map (·.length)).sum + 2 * ws.length := by
        intro ws
        induction ws with
        | nil => simp [argl]
        | cons w ws ih =>
          cases ws with
          | nil => simp [argl, mkS_len]
          | cons v ws =>
            simp only [argl, List.length_append, List.length_cons, List.map_cons, List.sum_cons, mkS_len] at ih ⊢
            omega
      have := this ws
      omega
    have hd := dg_len h0 h1
    have hnm : fmtV (.int nm) = some (mkS (dg nm)) := by
      simp only [fmtV]
      rw [if_pos (log2_small h0 h1)]
      unfold dg
      rw [mkS_eta]
    have hp1 : fmtV (.str (Str.ofString "(")) = some (mkS [40]) := by decide +kernel
    have hp2 : fmtV (.str (Str.ofString ")")) = some (mkS [41]) := by decide +kernel
    have hp3 : fmtV (.str (mkS (argl f ws))) = some (mkS (argl f ws)) := by
      simp only [fmtV]
      rw [if_pos (by rw [mkS_len]; exact sz24 (by omega))]
    have e0 : Str.empty = mkS [] := rfl
    simp -implicitDefEqProofs only [fmtAll, hnm, hp1, hp2, hp3, joinF, e0, mkS_app, mkS_len, List.length_append, exS, exSs, evX, evs, evt, pr, condOf, w_bin, w_neg, w_cmp, w_isn, w_isb, w_and, w_or, w_not, w_ife, w_tup, w_lst, w_star, w_ix, w_sli, w_call, w_bi, w_met, w_isi, w_comp, w_fstr, w_dict0, w_lvals, w_nil, w_cons, w_tst, w_tnot, w_tand, w_tor, w_var, Kg.w_next, w_seq, w_asg, w_set, w_expr, w_ret, w_if, w_for, w_aug, wO_some, wF_some, wA_some, wA_map, wO_ite, wA_ite, isStar, spl, startE, wipeE, bindT, bindTs, List.map_cons, List.map_nil, List.length_cons, List.length_nil, List.replicate, List.cons_append, List.nil_append, List.append_nil, List.append_assoc, Nat.reduceAdd, Nat.reduceSub, Nat.reduceLT, Nat.reduceLeDiff, List.getElem?_cons_zero, List.getElem?_cons_succ, List.getElem?_nil, Option.join_some, Option.join_none, List.set_cons_zero, List.set_cons_succ, if_true, if_false, Bool.false_eq_true, Bool.true_eq_false, reduceIte, reduceCtorEq, true_and, and_true, Option.map_some, Option.map_none, Nat.succ_eq_add_one, Nat.zero_add, Nat.add_zero, List.singleton_append]
    refine ⟨sz24 (by omega), sz24 (by omega), sz24 (by omega), sz24 (by omega), ?_⟩
    have := k (jk ++ [Ob.lst ((ws.map fun w => mkS (f w)).map PV.str)])
    unfold cl at this
    simpa using this
theorem join_bag {f : PV → List Nat} (x : List Nat) : ∀ ts : List PV, Str.join (Str.ofString " + ") (mkS x :: ts.map fun t => mkS (tl1 f t)) = mkS (x ++ bl f ts)
  | [] => by simp [Str.join, bl]
  | t :: ts => by
    have ih := join_bag (f := f) (tl1 f t) ts
    simp only [List.map_cons, Str.join, bl] at ih ⊢
    rw [ih, show Str.ofString " + " = mkS [32, 43, 32] from by decide +kernel, mkS_app, mkS_app]
    simp
theorem w_text : ∀ {h : Nat} {w : PV} (n : Nat) (st : Sto) (Q : PV → Sto → Prop), 2 * h ≤ n → WW h w → nt w ≤ 60000 → (∀ jk, Q (.str (tx h w)) (st ++ jk)) → wO (callF ds (n + 1) 12 [w] st) Q
  | 0, _, _, _, _, _, hw, _, _ => hw.elim
  | h + 1, w, n, st, Q, hn, hw, hsz, k => by
    obtain ⟨m, rfl⟩ : ∃ m, n = m + 2 := ⟨n - 2, by omega⟩
    have hw' : WS (WW h) w := hw
    obtain ⟨b, bag, e0, hb, hl, ht⟩ := hw'
    subst e0
    have hnt : ∀ v, v ∈ parts (.tup [b, .tup bag]) → nt v ≤ 60000 := fun v hv => by
      have := Kid.nt hw (.inl hv)
      omega
    have call : ∀ (nm : Int) (ws : List PV) (st : Sto) (Q : PV → Sto → Prop), 0 ≤ nm → nm < 100 → Args (WW h) ws → (∀ v ∈ ws, nt v ≤ 60000) → (∀ jk, Q (.str (mkS (cl (tl h) nm ws))) (st ++ jk)) → wO (callF ds (m + 2) 11 [.int nm, .tup ws] st) Q := by
      intro nm ws st Q h0 h1 d hs k
      refine w_ctext (f := tl h) (c := 480000) h0 h1 d.1 (fun v hv => ?_) (by omega) (fun v hv st Q k => ?_) k
      · have := tl_len (d.2 v hv)
        have := hs v hv
        omega
      · exact w_text (h := h) m st Q (by omega) (d.2 v hv) (hs v hv) k
    rw [w_callF]
    show wA (some d12) _
    rw [wA_some]
    simp -implicitDefEqProofs only [d12, seq_tup, kindM, exS, exSs, evX, evs, evt, pr, condOf, w_bin, w_neg, w_cmp, w_isn, w_isb, w_and, w_or, w_not, w_ife, w_tup, w_lst, w_star, w_ix, w_sli, w_call, w_bi, w_met, w_isi, w_comp, w_fstr, w_dict0, w_lvals, w_nil, w_cons, w_tst, w_tnot, w_tand, w_tor, w_var, Kg.w_next, w_seq, w_asg, w_set, w_expr, w_ret, w_if, w_for, w_aug, wO_some, wF_some, wA_some, wA_map, wO_ite, wA_ite, isStar, spl, startE, wipeE, bindT, bindTs, List.map_cons, List.map_nil, List.length_cons, List.length_nil, List.replicate, List.cons_append, List.nil_append, List.append_nil, List.append_assoc, Nat.reduceAdd, Nat.reduceSub, Nat.reduceLT, Nat.reduceLeDiff, List.getElem?_cons_zero, List.getElem?_cons_succ, List.getElem?_nil, Option.join_some, Option.join_none, List.set_cons_zero, List.set_cons_succ, if_true, if_false, Bool.false_eq_true, Bool.true_eq_false, reduceIte, reduceCtorEq, true_and, and_true, Option.map_some, Option.map_none, Nat.succ_eq_add_one, Nat.zero_add, Nat.add_zero, List.singleton_append]
    have hflen : (fl (tl h) b).length ≤ 8 * 60000 + 12 := by
      rcases hb with ⟨c, c0, c1, rfl⟩ | ⟨nm, ws, c0, c1, rfl, d⟩
      · have := dg_len c0 c1
        simp only [fl, List.length_cons]
        omega
      · have := cl_len (f := tl h) c0 c1 d.1 fun v hv => tl_len (d.2 v hv)
        simp only [fl]
        simp only [nt, nts] at hsz
        omega
    have base : ∀ (Q : PV → Sto → Prop), (∀ jk, Q (.str (mkS (fl (tl h) b))) (st ++ jk)) →
        wA (ixV b (.int 0) st) fun v => wA (cop .eq v (.int 0) st) fun k => wA (tru (.bl k) st) fun k => if k = true then wA (ixV b (.int 1) st) fun v => wA (fmtAll [.str (Str.ofString "b"), v]) fun ts => wA (joinF ts Str.empty) fun y => Q (.str y) st
          else wA (ixV b (.int 1) st) fun v => wA (ixV b (.int 2) st) fun v2 => wO (callF ds (m + 2) 11 [v, v2] st) fun x s => Q x s := by
      intro Q q
      rcases hb with ⟨c, c0, c1, rfl⟩ | ⟨nm, ws, c0, c1, rfl, d⟩
      · have hnm : fmtV (.int c) = some (mkS (dg c)) := by
          simp only [fmtV]
          rw [if_pos (log2_small c0 c1)]
          unfold dg
          rw [mkS_eta]
        have hp1 : fmtV (.str (Str.ofString "b")) = some (mkS [98]) := by decide +kernel
        have e0 : Str.empty = mkS [] := rfl
        have hd := dg_len c0 c1
        simp -implicitDefEqProofs only [ixV_tup, atI0, atI1, cop_eq_i, tru_b, decide_true, fmtAll, hnm, hp1, joinF, e0, mkS_app, mkS_len, List.length_append, exS, exSs, evX, evs, evt, pr, condOf, w_bin, w_neg, w_cmp, w_isn, w_isb, w_and, w_or, w_not, w_ife, w_tup, w_lst, w_star, w_ix, w_sli, w_call, w_bi, w_met, w_isi, w_comp, w_fstr, w_dict0, w_lvals, w_nil, w_cons, w_tst, w_tnot, w_tand, w_tor, w_var, Kg.w_next, w_seq, w_asg, w_set, w_expr, w_ret, w_if, w_for, w_aug, wO_some, wF_some, wA_some, wA_map, wO_ite, wA_ite, isStar, spl, startE, wipeE, bindT, bindTs, List.map_cons, List.map_nil, List.length_cons, List.length_nil, List.replicate, List.cons_append, List.nil_append, List.append_nil, List.append_assoc, Nat.reduceAdd, Nat.reduceSub, Nat.reduceLT, Nat.reduceLeDiff, List.getElem?_cons_zero, List.getElem?_cons_succ, List.getElem?_nil, Option.join_some, Option.join_none, List.set_cons_zero, List.set_cons_succ, if_true, if_false, Bool.false_eq_true, Bool.true_eq_false, reduceIte, reduceCtorEq, true_and, and_true, Option.map_some, Option.map_none, Nat.succ_eq_add_one, Nat.zero_add, Nat.add_zero, List.singleton_append]
        refine ⟨sz24 (by omega), sz24 (by omega), ?_⟩
        have := q []
        rwa [List.append_nil] at this
      · have e10 : decide ((1 : Int) = 0) = false := by decide
        simp -implicitDefEqProofs only [ixV_tup, atI0, atI1, atI2, cop_eq_i, tru_b, e10, exS, exSs, evX, evs, evt, pr, condOf, w_bin, w_neg, w_cmp, w_isn, w_isb, w_and, w_or, w_not, w_ife, w_tup, w_lst, w_star, w_ix, w_sli, w_call, w_bi, w_met, w_isi, w_comp, w_fstr, w_dict0, w_lvals, w_nil, w_cons, w_tst, w_tnot, w_tand, w_tor, w_var, Kg.w_next, w_seq, w_asg, w_set, w_expr, w_ret, w_if, w_for, w_aug, wO_some, wF_some, wA_some, wA_map, wO_ite, wA_ite, isStar, spl, startE, wipeE, bindT, bindTs, List.map_cons, List.map_nil, List.length_cons, List.length_nil, List.replicate, List.cons_append, List.nil_append, List.append_nil, List.append_assoc, Nat.reduceAdd, Nat.reduceSub, Nat.reduceLT, Nat.reduceLeDiff, List.getElem?_cons_zero, List.getElem?_cons_succ, List.getElem?_nil, Option.join_some, Option.join_none, List.set_cons_zero, List.set_cons_succ, if_true, if_false, Bool.false_eq_true, Bool.true_eq_false, reduceIte, reduceCtorEq, true_and, and_true, Option.map_some, Option.map_none, Nat.succ_eq_add_one, Nat.zero_add, Nat.add_zero, List.singleton_append]
        refine call nm ws _ _ c0 c1 d (fun v hv => hnt v ?_) q
        simp only [parts, List.mem_append]
        exact .inl hv
    refine base _ fun jk => ?_
    -- the turns
    refine w_compMap (fun t => .str (mkS (tl1 (tl h) t))) (trivial : itOk none (st ++ jk)) (sz24 (by omega)) (fun t htt jk2 Q hQ => ?_) fun jk2 => ?_
    · obtain ⟨nm, ws, c0, c1, rfl, d⟩ := ht t htt
      simp -implicitDefEqProofs only [ixV_tup, atI0, atI1, exS, exSs, evX, evs, evt, pr, condOf, w_bin, w_neg, w_cmp, w_isn, w_isb, w_and, w_or, w_not, w_ife, w_tup, w_lst, w_star, w_ix, w_sli, w_call, w_bi, w_met, w_isi, w_comp, w_fstr, w_dict0, w_lvals, w_nil, w_cons, w_tst, w_tnot, w_tand, w_tor, w_var, Kg.w_next, w_seq, w_asg, w_set, w_expr, w_ret, w_if, w_for, w_aug, wO_some, wF_some, wA_some, wA_map, wO_ite, wA_ite, isStar, spl, startE, wipeE, bindT, bindTs, List.map_cons, List.map_nil, List.length_cons, List.length_nil, List.replicate, List.cons_append, List.nil_append, List.append_nil, List.append_assoc, Nat.reduceAdd, Nat.reduceSub, Nat.reduceLT, Nat.reduceLeDiff, List.getElem?_cons_zero, List.getElem?_cons_succ, List.getElem?_nil, Option.join_some, Option.join_none, List.set_cons_zero, List.set_cons_succ, if_true, if_false, Bool.false_eq_true, Bool.true_eq_false, reduceIte, reduceCtorEq, true_and, and_true, Option.map_some, Option.map_none, Nat.succ_eq_add_one, Nat.zero_add, Nat.add_zero, List.singleton_append]
      refine call nm ws _ _ c0 c1 d (fun v hv => hnt v ?_) fun jk' => ?_
      · simp only [parts, List.mem_append, List.mem_flatMap]
        exact .inr ⟨_, htt, hv⟩
      · have := hQ jk'
        simpa [tl1] using this
    · have e : bag.map (fun t => PV.str (mkS (tl1 (tl h) t))) = (bag.map fun t => mkS (tl1 (tl h) t)).map PV.str := by rw [List.map_map]; rfl
      rw [e]
      have hsq : ∀ s : Sto, ∀ l : List PV, sqOf (s ++ [Ob.lst l]) (.ref s.length) = some l := fun s l => by simp [sqOf]
      rw [hsq, wA_some]
      simp -implicitDefEqProofs only [exS, exSs, evX, evs, evt, pr, condOf, w_bin, w_neg, w_cmp, w_isn, w_isb, w_and, w_or, w_not, w_ife, w_tup, w_lst, w_star, w_ix, w_sli, w_call, w_bi, w_met, w_isi, w_comp, w_fstr, w_dict0, w_lvals, w_nil, w_cons, w_tst, w_tnot, w_tand, w_tor, w_var, Kg.w_next, w_seq, w_asg, w_set, w_expr, w_ret, w_if, w_for, w_aug, wO_some, wF_some, wA_some, wA_map, wO_ite, wA_ite, isStar, spl, startE, wipeE, bindT, bindTs, List.map_cons, List.map_nil, List.length_cons, List.length_nil, List.replicate, List.cons_append, List.nil_append, List.append_nil, List.append_assoc, Nat.reduceAdd, Nat.reduceSub, Nat.reduceLT, Nat.reduceLeDiff, List.getElem?_cons_zero, List.getElem?_cons_succ, List.getElem?_nil, Option.join_some, Option.join_none, List.set_cons_zero, List.set_cons_succ, if_true, if_false, Bool.false_eq_true, Bool.true_eq_false, reduceIte, reduceCtorEq, true_and, and_true, Option.map_some, Option.map_none, Nat.succ_eq_add_one, Nat.zero_add, Nat.add_zero, List.singleton_append]
      refine ⟨by rw [List.length_map, List.length_map]; exact sz24 (by omega), ?_⟩
      generalize hA : List.map (fun t => mkS (tl1 (tl h) t)) bag = ts
      have hbl : ∀ t ∈ bag, (tl1 (tl h) t).length ≤ 480012 := fun t htt => by
        obtain ⟨nm, ws, c0, c1, rfl, d⟩ := ht t htt
        have := cl_len (f := tl h) c0 c1 d.1 fun v hv => tl_len (d.2 v hv)
        have h2 := nt_mem htt
        simp only [nt, nts] at hsz h2
        simp only [tl1]
        omega
      have hsum := sum_le hbl
      have hsum2 : bag.length * 480012 ≤ 7 * 480012 := Nat.mul_le_mul_right _ hl
      have htl : ts.length = bag.length := by rw [← hA, List.length_map]
      rw [hA] at hsum
      have eS : ∀ A B : Ob, st ++ (jk ++ (jk2 ++ [A, B])) = (st ++ (jk ++ (jk2 ++ [A]))) ++ [B] := fun A B => by simp
      rw [eS, join_l (ts := mkS (fl (tl h) b) :: ts) (by simp) (by
        rw [List.map_cons, List.sum_cons, mkS_len, List.length_cons, htl, show (Str.ofString " + ").length = 3 from by decide +kernel]
        omega), wO_some, ← hA, join_bag]
      have := k (jk ++ (jk2 ++ [.lst (List.map PV.str (List.map (fun t => mkS (tl1 (tl h) t)) bag)), .lst (PV.str (mkS (fl (tl h) b)) :: List.map PV.str (List.map (fun t => mkS (tl1 (tl h) t)) bag))]))
      simpa [tx, mkS, tl, wl] using this
end K04
/-! K04u: bags within; what the law itself works out. -/
namespace K04
open PySem Kg
open Classical
variable {n : Nat} {st : Sto} {Q : PV → Sto → Prop}

theorem cat_l {xs ys : List PV} {r q : Nat} (h : st[r]? = some (.lst xs)) (h2 : st[q]? = some (.lst ys)) (hz : xs.length + ys.length ≤ sizeLine) : bop .add (.ref r) (.ref q) st = some (.ref st.length, st ++ [.lst (xs ++ ys)]) := by
  simp only [bop, h, h2]
  rw [if_pos hz]
theorem last_get {s : Sto} {o : Ob} : (s ++ [o])[s.length]? = some o := by simp
/-! ### bags within -/
theorem w_bags {h : Nat} {w : PV} {b : PV} {bag : List PV} (e0 : w = .tup [b, .tup bag]) (hh : h ≤ 250) (hw : WW (h + 1) w) (k : ∀ ys jk, (∀ y ∈ ys, ∃ s : List PV, s.Sublist bag ∧ y = .tup [b, .tup s]) → ys.length ≤ 128 → Q (.tup ys) (st ++ jk)) : wO (callF ds (n + 2) 10 [w] st) Q := by
  subst e0
  have hw' : WS (WW h) (.tup [b, .tup bag]) := hw
  obtain ⟨b', bag', e0, hb, hl, ht⟩ := hw'
  cases e0
  rw [w_callF]
  show wA (some d10) _
  rw [wA_some]
  simp -implicitDefEqProofs only [d10, seq_tup, exS, exSs, evX, evs, evt, pr, condOf, w_bin, w_neg, w_cmp, w_isn, w_isb, w_and, w_or, w_not, w_ife, w_tup, w_lst, w_star, w_ix, w_sli, w_call, w_bi, w_met, w_isi, w_comp, w_fstr, w_dict0, w_lvals, w_nil, w_cons, w_tst, w_tnot, w_tand, w_tor, w_var, Kg.w_next, w_seq, w_asg, w_set, w_expr, w_ret, w_if, w_for, w_aug, wO_some, wF_some, wA_some, wA_map, wO_ite, wA_ite, isStar, spl, startE, wipeE, bindT, bindTs, List.map_cons, List.map_nil, List.length_cons, List.length_nil, List.replicate, List.cons_append, List.nil_append, List.append_nil, List.append_assoc, Nat.reduceAdd, Nat.reduceSub, Nat.reduceLT, Nat.reduceLeDiff, List.getElem?_cons_zero, List.getElem?_cons_succ, List.getElem?_nil, Option.join_some, Option.join_none, List.set_cons_zero, List.set_cons_succ, if_true, if_false, Bool.false_eq_true, Bool.true_eq_false, reduceIte, reduceCtorEq, true_and, and_true, Option.map_some, Option.map_none, Nat.succ_eq_add_one, Nat.zero_add, Nat.add_zero, List.singleton_append]
  refine ⟨by decide, by decide, ?_⟩
  refine w_forL (fun ys e s => ∃ zs r ps jk e2, bag = zs ++ ys ∧ e = [some (.tup [b, .tup bag]), some (.ref r), e2, some b, some (.tup bag), none] ∧ s = st ++ jk ∧ s[r]? = some (.lst (ps.map PV.tup)) ∧ (∀ p ∈ ps, p.Sublist zs) ∧ ps.length = 2 ^ zs.length) (fun _ _ _ _ => trivial)
    ⟨[], st.length, [[]], _, none, rfl, rfl, rfl, by simp, by simp, rfl⟩ ?_ ?_
  · rintro y ys e s ⟨zs, r, ps, jk, e2, hz, rfl, rfl, hg, hsub, hlen⟩
    have hzl : zs.length + 1 ≤ 7 := by rw [hz] at hl; simp at hl; omega
    have hp2 : 2 ^ (zs.length + 1) ≤ 2 ^ 7 := Nat.pow_le_pow_right (by decide) hzl
    have hp3 : 2 ^ (zs.length + 1) = 2 ^ zs.length * 2 := Nat.pow_succ _ _
    simp -implicitDefEqProofs only [seq_l hg, exS, exSs, evX, evs, evt, pr, condOf, w_bin, w_neg, w_cmp, w_isn, w_isb, w_and, w_or, w_not, w_ife, w_tup, w_lst, w_star, w_ix, w_sli, w_call, w_bi, w_met, w_isi, w_comp, w_fstr, w_dict0, w_lvals, w_nil, w_cons, w_tst, w_tnot, w_tand, w_tor, w_var, Kg.w_next, w_seq, w_asg, w_set, w_expr, w_ret, w_if, w_for, w_aug, wO_some, wF_some, wA_some, wA_map, wO_ite, wA_ite, isStar, spl, startE, wipeE, bindT, bindTs, List.map_cons, List.map_nil, List.length_cons, List.length_nil, List.replicate, List.cons_append, List.nil_append, List.append_nil, List.append_assoc, Nat.reduceAdd, Nat.reduceSub, Nat.reduceLT, Nat.reduceLeDiff, List.getElem?_cons_zero, List.getElem?_cons_succ, List.getElem?_nil, Option.join_some, Option.join_none, List.set_cons_zero, List.set_cons_succ, if_true, if_false, Bool.false_eq_true, Bool.true_eq_false, reduceIte, reduceCtorEq, true_and, and_true, Option.map_some, Option.map_none, Nat.succ_eq_add_one, Nat.zero_add, Nat.add_zero, List.singleton_append]
    refine w_compMap (fun v => match v with | .tup p => .tup (p ++ [y]) | _ => .non) (show itOk (some (r, .lst (ps.map PV.tup))) (st ++ jk) from hg) (by rw [List.length_map]; exact sz24 (by omega)) (fun x hx jk2 Q hQ => ?_) fun jk2 => ?_
    · obtain ⟨p, hp, rfl⟩ := List.mem_map.mp hx
      have hpl := (hsub p hp).length_le
      simp -implicitDefEqProofs only [sqOf, exS, exSs, evX, evs, evt, pr, condOf, w_bin, w_neg, w_cmp, w_isn, w_isb, w_and, w_or, w_not, w_ife, w_tup, w_lst, w_star, w_ix, w_sli, w_call, w_bi, w_met, w_isi, w_comp, w_fstr, w_dict0, w_lvals, w_nil, w_cons, w_tst, w_tnot, w_tand, w_tor, w_var, Kg.w_next, w_seq, w_asg, w_set, w_expr, w_ret, w_if, w_for, w_aug, wO_some, wF_some, wA_some, wA_map, wO_ite, wA_ite, isStar, spl, startE, wipeE, bindT, bindTs, List.map_cons, List.map_nil, List.length_cons, List.length_nil, List.replicate, List.cons_append, List.nil_append, List.append_nil, List.append_assoc, Nat.reduceAdd, Nat.reduceSub, Nat.reduceLT, Nat.reduceLeDiff, List.getElem?_cons_zero, List.getElem?_cons_succ, List.getElem?_nil, Option.join_some, Option.join_none, List.set_cons_zero, List.set_cons_succ, if_true, if_false, Bool.false_eq_true, Bool.true_eq_false, reduceIte, reduceCtorEq, true_and, and_true, Option.map_some, Option.map_none, Nat.succ_eq_add_one, Nat.zero_add, Nat.add_zero, List.singleton_append]
      refine ⟨by rw [List.length_append]; exact sz24 (by simp; omega), ?_⟩
      have := hQ []
      simpa using this
    · have hmap : (ps.map PV.tup).map (fun v => match v with | .tup p => PV.tup (p ++ [y]) | _ => .non) = (ps.map (· ++ [y])).map PV.tup := by
        rw [List.map_map, List.map_map]; rfl
      rw [hmap]
      have hg2 : (st ++ jk ++ jk2 ++ [Ob.lst ((ps.map (· ++ [y])).map PV.tup)])[r]? = some (.lst (ps.map PV.tup)) := app_get (app_get hg)
      have hq2 : (st ++ jk ++ jk2 ++ [Ob.lst ((ps.map (· ++ [y])).map PV.tup)])[(st ++ jk ++ jk2).length]? = some (.lst ((ps.map (· ++ [y])).map PV.tup)) := last_get
      rw [cat_l hg2 hq2 (by simp only [List.length_map]; exact sz24 (by omega)), wO_some]
      simp -implicitDefEqProofs only [exS, exSs, evX, evs, evt, pr, condOf, w_bin, w_neg, w_cmp, w_isn, w_isb, w_and, w_or, w_not, w_ife, w_tup, w_lst, w_star, w_ix, w_sli, w_call, w_bi, w_met, w_isi, w_comp, w_fstr, w_dict0, w_lvals, w_nil, w_cons, w_tst, w_tnot, w_tand, w_tor, w_var, Kg.w_next, w_seq, w_asg, w_set, w_expr, w_ret, w_if, w_for, w_aug, wO_some, wF_some, wA_some, wA_map, wO_ite, wA_ite, isStar, spl, startE, wipeE, bindT, bindTs, List.map_cons, List.map_nil, List.length_cons, List.length_nil, List.replicate, List.cons_append, List.nil_append, List.append_nil, List.append_assoc, Nat.reduceAdd, Nat.reduceSub, Nat.reduceLT, Nat.reduceLeDiff, List.getElem?_cons_zero, List.getElem?_cons_succ, List.getElem?_nil, Option.join_some, Option.join_none, List.set_cons_zero, List.set_cons_succ, if_true, if_false, Bool.false_eq_true, Bool.true_eq_false, reduceIte, reduceCtorEq, true_and, and_true, Option.map_some, Option.map_none, Nat.succ_eq_add_one, Nat.zero_add, Nat.add_zero, List.singleton_append]
      refine ⟨zs ++ [y], _, ps ++ ps.map (· ++ [y]), jk ++ jk2 ++ [.lst ((ps.map (· ++ [y])).map PV.tup)] ++ [.lst ((ps ++ ps.map (· ++ [y])).map PV.tup)], some y, by rw [hz]; simp, rfl, by simp, ?_, fun p hp => ?_, ?_⟩
      · have := last_get (s := st ++ jk ++ jk2 ++ [Ob.lst ((ps.map (· ++ [y])).map PV.tup)]) (o := .lst ((ps ++ ps.map (· ++ [y])).map PV.tup))
        simpa using this
      · rcases List.mem_append.mp hp with hp | hp
        · exact (hsub p hp).trans (List.sublist_append_left _ _)
        · obtain ⟨q, hq, rfl⟩ := List.mem_map.mp hp
          exact (hsub q hq).append (List.Sublist.refl _)
      · rw [List.length_append, List.length_map, hlen, List.length_append, List.length_singleton, hp3]
        omega
  · rintro e s ⟨zs, r, ps, jk, e2, hz, rfl, rfl, hg, hsub, hlen⟩
    rw [List.append_nil] at hz
    subst hz
    have hp2 : 2 ^ bag.length ≤ 2 ^ 7 := Nat.pow_le_pow_right (by decide) hl
    simp -implicitDefEqProofs only [seq_l hg, exS, exSs, evX, evs, evt, pr, condOf, w_bin, w_neg, w_cmp, w_isn, w_isb, w_and, w_or, w_not, w_ife, w_tup, w_lst, w_star, w_ix, w_sli, w_call, w_bi, w_met, w_isi, w_comp, w_fstr, w_dict0, w_lvals, w_nil, w_cons, w_tst, w_tnot, w_tand, w_tor, w_var, Kg.w_next, w_seq, w_asg, w_set, w_expr, w_ret, w_if, w_for, w_aug, wO_some, wF_some, wA_some, wA_map, wO_ite, wA_ite, isStar, spl, startE, wipeE, bindT, bindTs, List.map_cons, List.map_nil, List.length_cons, List.length_nil, List.replicate, List.cons_append, List.nil_append, List.append_nil, List.append_assoc, Nat.reduceAdd, Nat.reduceSub, Nat.reduceLT, Nat.reduceLeDiff, List.getElem?_cons_zero, List.getElem?_cons_succ, List.getElem?_nil, Option.join_some, Option.join_none, List.set_cons_zero, List.set_cons_succ, if_true, if_false, Bool.false_eq_true, Bool.true_eq_false, reduceIte, reduceCtorEq, true_and, and_true, Option.map_some, Option.map_none, Nat.succ_eq_add_one, Nat.zero_add, Nat.add_zero, List.singleton_append]
    refine w_compMap (fun v => .tup [b, v]) (show itOk (some (r, .lst (ps.map PV.tup))) (st ++ jk) from hg) (by rw [List.length_map]; exact sz24 (by omega)) (fun x hx jk2 Q hQ => ?_) fun jk2 => ?_
    · simp -implicitDefEqProofs only [exS, exSs, evX, evs, evt, pr, condOf, w_bin, w_neg, w_cmp, w_isn, w_isb, w_and, w_or, w_not, w_ife, w_tup, w_lst, w_star, w_ix, w_sli, w_call, w_bi, w_met, w_isi, w_comp, w_fstr, w_dict0, w_lvals, w_nil, w_cons, w_tst, w_tnot, w_tand, w_tor, w_var, Kg.w_next, w_seq, w_asg, w_set, w_expr, w_ret, w_if, w_for, w_aug, wO_some, wF_some, wA_some, wA_map, wO_ite, wA_ite, isStar, spl, startE, wipeE, bindT, bindTs, List.map_cons, List.map_nil, List.length_cons, List.length_nil, List.replicate, List.cons_append, List.nil_append, List.append_nil, List.append_assoc, Nat.reduceAdd, Nat.reduceSub, Nat.reduceLT, Nat.reduceLeDiff, List.getElem?_cons_zero, List.getElem?_cons_succ, List.getElem?_nil, Option.join_some, Option.join_none, List.set_cons_zero, List.set_cons_succ, if_true, if_false, Bool.false_eq_true, Bool.true_eq_false, reduceIte, reduceCtorEq, true_and, and_true, Option.map_some, Option.map_none, Nat.succ_eq_add_one, Nat.zero_add, Nat.add_zero, List.singleton_append]
      refine ⟨by decide, ?_⟩
      have := hQ []
      simpa using this
    · have hW : ∀ x ∈ (ps.map PV.tup).map (fun v => PV.tup [b, v]), WW (h + 1) x := fun x hx => by
        obtain ⟨v, hv, rfl⟩ := List.mem_map.mp hx
        obtain ⟨p, hp, rfl⟩ := List.mem_map.mp hv
        exact ⟨b, p, rfl, hb, Nat.le_trans (hsub p hp).length_le hl, fun t htt => ht t ((hsub p hp).subset htt)⟩
      have hlen2 : ((ps.map PV.tup).map (fun v => PV.tup [b, v])).length ≤ 128 := by simp only [List.length_map]; omega
      refine w_unlike last_get (W_srt hW (by omega) (sz24 (by omega))) (fun x hx => (hW x hx).isP) (fun x hx => W_dpt (hW x hx) (by omega)) fun ys jk3 hm hy => ?_
      simp only [List.append_assoc]
      refine k ys _ (fun y hy => ?_) (by omega)
      obtain ⟨v, hv, rfl⟩ := List.mem_map.mp ((hm y).mp hy)
      obtain ⟨p, hp, rfl⟩ := List.mem_map.mp hv
      exact ⟨p, hsub p hp, rfl⟩
/-! ### the law's unlike worths -/
theorem first_at {xs : List PV} {y : PV} (h : y ∈ xs) : ∃ k : Nat, xs[k]? = some y ∧ y ∉ xs.take k := by
  induction xs with
  | nil => simp at h
  | cons a l ih =>
    by_cases e : y = a
    · exact ⟨0, by simp [e], by simp⟩
    · obtain ⟨k, h1, h2⟩ := ih (by simpa [e] using h)
      exact ⟨k + 1, by simpa using h1, by simp [e, h2]⟩
theorem enum_l {xs : List PV} {r : Nat} (h : st[r]? = some (.lst xs)) : iterV .enum [.ref r] st = some ⟨enumI xs, some (r, .lst xs)⟩ := by
  simp only [iterV, sqC, h, Option.map_some]
theorem enumI_mem {xs : List PV} {v : PV} (h : v ∈ enumI xs) : ∃ (k : Nat) (x : PV), v = .tuk [.int (k : Nat), x] ∧ xs[k]? = some x := by
  unfold enumI at h
  obtain ⟨p, hp, rfl⟩ := List.mem_map.mp h
  obtain ⟨x, k⟩ := p
  have := List.mem_zipIdx' hp
  exact ⟨k, x, rfl, List.getElem?_eq_some_iff.mpr ⟨this.1, this.2.symm⟩⟩
theorem w_unlikeD {r : Nat} {xs : List PV} {h : Nat} (hr : st[r]? = some (.lst xs)) (hh : h ≤ 250) (hW : ∀ x ∈ xs, WW h x) (hl : xs.length ≤ 1000) (k : ∀ ys jk, (∀ x, x ∈ ys ↔ x ∈ xs) → ys.length ≤ xs.length → Q (.tup ys) (st ++ jk)) :
    wO (callF ds (n + 1) 24 [.ref r] st) Q := by
  rw [w_callF]
  show wA (some d24) _
  rw [wA_some]
  have hP : ∀ x ∈ xs, isP x = true := fun x hx => (hW x hx).isP
  simp -implicitDefEqProofs only [d24, enum_l hr, exS, exSs, evX, evs, evt, pr, condOf, w_bin, w_neg, w_cmp, w_isn, w_isb, w_and, w_or, w_not, w_ife, w_tup, w_lst, w_star, w_ix, w_sli, w_call, w_bi, w_met, w_isi, w_comp, w_fstr, w_dict0, w_lvals, w_nil, w_cons, w_tst, w_tnot, w_tand, w_tor, w_var, Kg.w_next, w_seq, w_asg, w_set, w_expr, w_ret, w_if, w_for, w_aug, wO_some, wF_some, wA_some, wA_map, wO_ite, wA_ite, isStar, spl, startE, wipeE, bindT, bindTs, List.map_cons, List.map_nil, List.length_cons, List.length_nil, List.replicate, List.cons_append, List.nil_append, List.append_nil, List.append_assoc, Nat.reduceAdd, Nat.reduceSub, Nat.reduceLT, Nat.reduceLeDiff, List.getElem?_cons_zero, List.getElem?_cons_succ, List.getElem?_nil, Option.join_some, Option.join_none, List.set_cons_zero, List.set_cons_succ, if_true, if_false, Bool.false_eq_true, Bool.true_eq_false, reduceIte, reduceCtorEq, true_and, and_true, Option.map_some, Option.map_none, Nat.succ_eq_add_one, Nat.zero_add, Nat.add_zero, List.singleton_append]
  refine w_compFil (fun v => match v with | .tuk [_, x] => x | _ => .non) (fun v => match v with | .tuk [.int k, x] => !decide (x ∈ xs.take k.toNat) | _ => false) (show itOk (some (r, .lst xs)) st from hr) (by simp [enumI]; exact sz24 (by omega)) (fun v hv jk QB hQ => ?_) (fun v hv _ jk Q hQ => ?_) fun jk => ?_
  · obtain ⟨i, x, rfl, hx⟩ := enumI_mem hv
    have hxm := List.mem_of_getElem? hx
    have hi := (List.getElem?_eq_some_iff.mp hx).1
    have hrj : (st ++ jk)[r]? = some (.lst xs) := app_get hr
    have hsl : slV (.ref r) none (some (i : Int)) (st ++ jk) = some (.ref (st ++ jk).length, (st ++ jk) ++ [.lst (xs.take i)]) := by
      simp only [slV, hrj]
      rw [cut_take (Nat.le_of_lt hi)]
    simp -implicitDefEqProofs only [sxI, hsl, exS, exSs, evX, evs, evt, pr, condOf, w_bin, w_neg, w_cmp, w_isn, w_isb, w_and, w_or, w_not, w_ife, w_tup, w_lst, w_star, w_ix, w_sli, w_call, w_bi, w_met, w_isi, w_comp, w_fstr, w_dict0, w_lvals, w_nil, w_cons, w_tst, w_tnot, w_tand, w_tor, w_var, Kg.w_next, w_seq, w_asg, w_set, w_expr, w_ret, w_if, w_for, w_aug, wO_some, wF_some, wA_some, wA_map, wO_ite, wA_ite, isStar, spl, startE, wipeE, bindT, bindTs, List.map_cons, List.map_nil, List.length_cons, List.length_nil, List.replicate, List.cons_append, List.nil_append, List.append_nil, List.append_assoc, Nat.reduceAdd, Nat.reduceSub, Nat.reduceLT, Nat.reduceLeDiff, List.getElem?_cons_zero, List.getElem?_cons_succ, List.getElem?_nil, Option.join_some, Option.join_none, List.set_cons_zero, List.set_cons_succ, if_true, if_false, Bool.false_eq_true, Bool.true_eq_false, reduceIte, reduceCtorEq, true_and, and_true, Option.map_some, Option.map_none, Nat.succ_eq_add_one, Nat.zero_add, Nat.add_zero, List.singleton_append]
    have hnl : ((st ++ jk) ++ [Ob.lst (xs.take i)])[(st ++ jk).length]? = some (.lst (xs.take i)) := last_get
    rw [List.append_assoc] at hnl
    rw [notin_l hnl (hP x hxm) (isPs_iff.mpr fun z hz => hP z (List.mem_of_mem_take hz)) (W_dpt (hW x hxm) (by omega)), wA_some, tru_b, wA_some]
    have := hQ [.lst (xs.take i)]
    simpa using this
  · obtain ⟨i, x, rfl, hx⟩ := enumI_mem hv
    simp -implicitDefEqProofs only [exS, exSs, evX, evs, evt, pr, condOf, w_bin, w_neg, w_cmp, w_isn, w_isb, w_and, w_or, w_not, w_ife, w_tup, w_lst, w_star, w_ix, w_sli, w_call, w_bi, w_met, w_isi, w_comp, w_fstr, w_dict0, w_lvals, w_nil, w_cons, w_tst, w_tnot, w_tand, w_tor, w_var, Kg.w_next, w_seq, w_asg, w_set, w_expr, w_ret, w_if, w_for, w_aug, wO_some, wF_some, wA_some, wA_map, wO_ite, wA_ite, isStar, spl, startE, wipeE, bindT, bindTs, List.map_cons, List.map_nil, List.length_cons, List.length_nil, List.replicate, List.cons_append, List.nil_append, List.append_nil, List.append_assoc, Nat.reduceAdd, Nat.reduceSub, Nat.reduceLT, Nat.reduceLeDiff, List.getElem?_cons_zero, List.getElem?_cons_succ, List.getElem?_nil, Option.join_some, Option.join_none, List.set_cons_zero, List.set_cons_succ, if_true, if_false, Bool.false_eq_true, Bool.true_eq_false, reduceIte, reduceCtorEq, true_and, and_true, Option.map_some, Option.map_none, Nat.succ_eq_add_one, Nat.zero_add, Nat.add_zero, List.singleton_append]
    have := hQ []
    simpa using this
  · generalize hE : List.map (fun v => match v with | PV.tuk [_, x] => x | _ => .non) (List.filter (fun v => match v with | PV.tuk [.int k, x] => !decide (x ∈ xs.take k.toNat) | _ => false) (enumI xs)) = zs
    have hm : ∀ x, x ∈ zs ↔ x ∈ xs := fun x => by
      rw [← hE, List.mem_map]
      constructor
      · rintro ⟨v, hv, rfl⟩
        obtain ⟨i, y, rfl, hy⟩ := enumI_mem (List.mem_filter.mp hv).1
        exact List.mem_of_getElem? hy
      · intro hx
        obtain ⟨i, h1, h2⟩ := first_at hx
        refine ⟨.tuk [.int (i : Nat), x], List.mem_filter.mpr ⟨List.mem_of_getElem? (enumI_get h1), by simpa using h2⟩, rfl⟩
    have hlen : zs.length ≤ xs.length := by
      rw [← hE, List.length_map]
      refine Nat.le_trans (List.length_filter_le _ _) ?_
      rw [enumI_len]
      exact Nat.le_refl _
    rw [sorted_l last_get (W_srt (fun x hx => hW x ((hm x).mp hx)) (by omega) (sz24 (by omega))), wO_some, tuple_l last_get, wO_some]
    simp only [List.append_assoc]
    exact k (srt zs) _ (fun x => by rw [srt_mem]; exact hm x) (by rw [(srt_perm zs).length_eq]; exact hlen)
theorem w_partsD {h : Nat} {w : PV} (hh : h ≤ 250) (hw : WW (h + 1) w) (k : ∀ ys jk, (∀ x, x ∈ ys ↔ x ∈ parts w) → ys.length ≤ 32 → Q (.tup ys) (st ++ jk)) : wO (callF ds (n + 2) 25 [w] st) Q := by
  have hpw : ∀ v ∈ parts w, WW h v := fun v hv => parts_W hw hv
  have hpl := parts_len hw
  obtain ⟨b, bag, rfl, hb, hl, ht⟩ := hw
  rw [w_callF]
  show wA (some d25) _
  rw [wA_some]
  simp -implicitDefEqProofs only [d25, ixV_tup, atI0, exS, exSs, evX, evs, evt, pr, condOf, w_bin, w_neg, w_cmp, w_isn, w_isb, w_and, w_or, w_not, w_ife, w_tup, w_lst, w_star, w_ix, w_sli, w_call, w_bi, w_met, w_isi, w_comp, w_fstr, w_dict0, w_lvals, w_nil, w_cons, w_tst, w_tnot, w_tand, w_tor, w_var, Kg.w_next, w_seq, w_asg, w_set, w_expr, w_ret, w_if, w_for, w_aug, wO_some, wF_some, wA_some, wA_map, wO_ite, wA_ite, isStar, spl, startE, wipeE, bindT, bindTs, List.map_cons, List.map_nil, List.length_cons, List.length_nil, List.replicate, List.cons_append, List.nil_append, List.append_nil, List.append_assoc, Nat.reduceAdd, Nat.reduceSub, Nat.reduceLT, Nat.reduceLeDiff, List.getElem?_cons_zero, List.getElem?_cons_succ, List.getElem?_nil, Option.join_some, Option.join_none, List.set_cons_zero, List.set_cons_succ, if_true, if_false, Bool.false_eq_true, Bool.true_eq_false, reduceIte, reduceCtorEq, true_and, and_true, Option.map_some, Option.map_none, Nat.succ_eq_add_one, Nat.zero_add, Nat.add_zero, List.singleton_append]
  have base : ∀ (Q : PV → Sto → Prop), Q (.ref st.length) (st ++ [.lst (baseArgs b)]) →
      wA (ixV b (.int 0) st) fun v => wA (cop .eq v (.int 1) st) fun k => wA (tru (.bl k) st) fun k => if k = true then wA (ixV b (.int 2) st) fun v => wO (biV .list [v] st) fun x s => Q x s
        else 0 ≤ sizeLine ∧ Q (.ref st.length) (st ++ [.lst []]) := by
    intro Q q
    rcases hb with ⟨c, _, _, rfl⟩ | ⟨nm, ws, _, _, rfl, d⟩
    · simp -implicitDefEqProofs only [ixV_tup, atI0, cop_eq_i, tru_b, exS, exSs, evX, evs, evt, pr, condOf, w_bin, w_neg, w_cmp, w_isn, w_isb, w_and, w_or, w_not, w_ife, w_tup, w_lst, w_star, w_ix, w_sli, w_call, w_bi, w_met, w_isi, w_comp, w_fstr, w_dict0, w_lvals, w_nil, w_cons, w_tst, w_tnot, w_tand, w_tor, w_var, Kg.w_next, w_seq, w_asg, w_set, w_expr, w_ret, w_if, w_for, w_aug, wO_some, wF_some, wA_some, wA_map, wO_ite, wA_ite, isStar, spl, startE, wipeE, bindT, bindTs, List.map_cons, List.map_nil, List.length_cons, List.length_nil, List.replicate, List.cons_append, List.nil_append, List.append_nil, List.append_assoc, Nat.reduceAdd, Nat.reduceSub, Nat.reduceLT, Nat.reduceLeDiff, List.getElem?_cons_zero, List.getElem?_cons_succ, List.getElem?_nil, Option.join_some, Option.join_none, List.set_cons_zero, List.set_cons_succ, if_true, if_false, Bool.false_eq_true, Bool.true_eq_false, reduceIte, reduceCtorEq, true_and, and_true, Option.map_some, Option.map_none, Nat.succ_eq_add_one, Nat.zero_add, Nat.add_zero, List.singleton_append]
      exact ⟨Nat.zero_le _, q⟩
    · simp -implicitDefEqProofs only [ixV_tup, atI0, atI2, cop_eq_i, tru_b, list_t, decide_true, exS, exSs, evX, evs, evt, pr, condOf, w_bin, w_neg, w_cmp, w_isn, w_isb, w_and, w_or, w_not, w_ife, w_tup, w_lst, w_star, w_ix, w_sli, w_call, w_bi, w_met, w_isi, w_comp, w_fstr, w_dict0, w_lvals, w_nil, w_cons, w_tst, w_tnot, w_tand, w_tor, w_var, Kg.w_next, w_seq, w_asg, w_set, w_expr, w_ret, w_if, w_for, w_aug, wO_some, wF_some, wA_some, wA_map, wO_ite, wA_ite, isStar, spl, startE, wipeE, bindT, bindTs, List.map_cons, List.map_nil, List.length_cons, List.length_nil, List.replicate, List.cons_append, List.nil_append, List.append_nil, List.append_assoc, Nat.reduceAdd, Nat.reduceSub, Nat.reduceLT, Nat.reduceLeDiff, List.getElem?_cons_zero, List.getElem?_cons_succ, List.getElem?_nil, Option.join_some, Option.join_none, List.set_cons_zero, List.set_cons_succ, if_true, if_false, Bool.false_eq_true, Bool.true_eq_false, reduceIte, reduceCtorEq, true_and, and_true, Option.map_some, Option.map_none, Nat.succ_eq_add_one, Nat.zero_add, Nat.add_zero, List.singleton_append]
      exact q
  refine base _ ?_
  rw [atI1, wA_some, seq_tup, wA_some]
  have bl := base_len hb
  refine w_forL (fun ys e s => ∃ zs r jk e2, bag = zs ++ ys ∧ e = [some (.tup [b, .tup bag]), some (.ref r), e2] ∧ s = st ++ jk ∧ s[r]? = some (.lst (baseArgs b ++ zs.flatMap argsOf))) (fun _ _ _ _ => trivial) ⟨[], _, _, none, rfl, rfl, rfl, by simp⟩ ?_ ?_
  · rintro y ys e s ⟨zs, r, jk, e2, hz, rfl, rfl, hg⟩
    obtain ⟨nm, ws, _, _, rfl, d⟩ := ht y (by rw [hz]; simp)
    have h4 := flat_len4 (bag := zs) fun t htt => ht t (by rw [hz]; simp [htt])
    have hzl : zs.length ≤ 7 := by rw [hz] at hl; simp at hl; omega
    have d1 := d.1
    have hg2 : (st ++ jk ++ [Ob.lst ws])[r]? = some (.lst (baseArgs b ++ zs.flatMap argsOf)) := app_get hg
    have hq2 : (st ++ jk ++ [Ob.lst ws])[(st ++ jk).length]? = some (.lst ws) := last_get
    have hc := cat_l hg2 hq2 (by rw [List.length_append]; exact sz24 (by omega))
    rw [List.append_assoc] at hc
    simp -implicitDefEqProofs only [ixV_tup, atI1, list_t, hc, exS, exSs, evX, evs, evt, pr, condOf, w_bin, w_neg, w_cmp, w_isn, w_isb, w_and, w_or, w_not, w_ife, w_tup, w_lst, w_star, w_ix, w_sli, w_call, w_bi, w_met, w_isi, w_comp, w_fstr, w_dict0, w_lvals, w_nil, w_cons, w_tst, w_tnot, w_tand, w_tor, w_var, Kg.w_next, w_seq, w_asg, w_set, w_expr, w_ret, w_if, w_for, w_aug, wO_some, wF_some, wA_some, wA_map, wO_ite, wA_ite, isStar, spl, startE, wipeE, bindT, bindTs, List.map_cons, List.map_nil, List.length_cons, List.length_nil, List.replicate, List.cons_append, List.nil_append, List.append_nil, List.append_assoc, Nat.reduceAdd, Nat.reduceSub, Nat.reduceLT, Nat.reduceLeDiff, List.getElem?_cons_zero, List.getElem?_cons_succ, List.getElem?_nil, Option.join_some, Option.join_none, List.set_cons_zero, List.set_cons_succ, if_true, if_false, Bool.false_eq_true, Bool.true_eq_false, reduceIte, reduceCtorEq, true_and, and_true, Option.map_some, Option.map_none, Nat.succ_eq_add_one, Nat.zero_add, Nat.add_zero, List.singleton_append]
    refine ⟨zs ++ [.tup [.int nm, .tup ws]], _, _, _, by rw [hz]; simp, rfl, rfl, ?_⟩
    have := last_get (s := st ++ (jk ++ [Ob.lst ws])) (o := .lst (baseArgs b ++ zs.flatMap argsOf ++ ws))
    simpa [argsOf] using this
  · rintro e s ⟨zs, r, jk, e2, hz, rfl, rfl, hg⟩
    rw [List.append_nil] at hz
    subst hz
    simp -implicitDefEqProofs only [exS, exSs, evX, evs, evt, pr, condOf, w_bin, w_neg, w_cmp, w_isn, w_isb, w_and, w_or, w_not, w_ife, w_tup, w_lst, w_star, w_ix, w_sli, w_call, w_bi, w_met, w_isi, w_comp, w_fstr, w_dict0, w_lvals, w_nil, w_cons, w_tst, w_tnot, w_tand, w_tor, w_var, Kg.w_next, w_seq, w_asg, w_set, w_expr, w_ret, w_if, w_for, w_aug, wO_some, wF_some, wA_some, wA_map, wO_ite, wA_ite, isStar, spl, startE, wipeE, bindT, bindTs, List.map_cons, List.map_nil, List.length_cons, List.length_nil, List.replicate, List.cons_append, List.nil_append, List.append_nil, List.append_assoc, Nat.reduceAdd, Nat.reduceSub, Nat.reduceLT, Nat.reduceLeDiff, List.getElem?_cons_zero, List.getElem?_cons_succ, List.getElem?_nil, Option.join_some, Option.join_none, List.set_cons_zero, List.set_cons_succ, if_true, if_false, Bool.false_eq_true, Bool.true_eq_false, reduceIte, reduceCtorEq, true_and, and_true, Option.map_some, Option.map_none, Nat.succ_eq_add_one, Nat.zero_add, Nat.add_zero, List.singleton_append]
    have hg' : (st ++ jk)[r]? = some (.lst (parts (.tup [b, .tup bag]))) := hg
    refine w_unlikeD hg' hh hpw (by omega) fun ys jk2 hm hy => ?_
    rw [List.append_assoc]
    exact k ys _ hm (by omega)
end K04
/-! K04v: the law's closed lots; exact; closed. -/
namespace K04
open PySem Kg
open Classical
variable {n : Nat} {st : Sto} {Q : PV → Sto → Prop}

theorem set_deep {a o : Ob} {jk : Sto} {q : Nat} (h : st.length < q) : (st ++ a :: jk).set q o = st ++ a :: jk.set (q - st.length - 1) o := by
  rw [List.set_append_right _ _ (by omega)]
  obtain ⟨m, hm⟩ : ∃ m, q - st.length = m + 1 := ⟨q - st.length - 1, by omega⟩
  rw [hm, List.set_cons_succ, Nat.add_sub_cancel]
theorem rangeS {j : Nat} (h2 : j ≤ sizeLine) : iterV .range [.int (j : Nat)] st = some ⟨rangeI 0 (j : Nat), none⟩ := by
  simp only [iterV]
  have : (j : Int) ≤ 16777216 := by rw [sizeLine_eq] at h2; omega
  rw [if_pos (by omega)]
/-! ### exact, closed -/
def IT : Nat → PV → Prop
  | 0, x => ∃ i, x = .int i
  | d + 1, x => (∃ i, x = .int i) ∨ ∃ xs, x = .tup xs ∧ xs.length ≤ sizeLine ∧ ∀ y ∈ xs, IT d y
theorem IT.isP : ∀ {d : Nat} {x : PV}, IT d x → Kg.isP x = true
  | 0, _, ⟨i, e⟩ => by subst e; rfl
  | d + 1, _, .inl ⟨i, e⟩ => by subst e; rfl
  | d + 1, _, .inr ⟨xs, e, _, h⟩ => by subst e; exact isP_tup fun y hy => IT.isP (h y hy)
theorem w_whole {i : Int} (k : Q (.bl true) st) : wO (callF ds (n + 1) 16 [.int i] st) Q := by
  rw [w_callF]
  show wA (some d16) _
  rw [wA_some]
  have t1 : ∀ s, tyAny (.int i) s [.int] = some true := fun s => rfl
  have t2 : ∀ s, tyAny (.int i) s [.bool] = some false := fun s => rfl
  simp -implicitDefEqProofs only [d16, t1, t2, tru_b, Bool.not_false, exS, exSs, evX, evs, evt, pr, condOf, w_bin, w_neg, w_cmp, w_isn, w_isb, w_and, w_or, w_not, w_ife, w_tup, w_lst, w_star, w_ix, w_sli, w_call, w_bi, w_met, w_isi, w_comp, w_fstr, w_dict0, w_lvals, w_nil, w_cons, w_tst, w_tnot, w_tand, w_tor, w_var, Kg.w_next, w_seq, w_asg, w_set, w_expr, w_ret, w_if, w_for, w_aug, wO_some, wF_some, wA_some, wA_map, wO_ite, wA_ite, isStar, spl, startE, wipeE, bindT, bindTs, List.map_cons, List.map_nil, List.length_cons, List.length_nil, List.replicate, List.cons_append, List.nil_append, List.append_nil, List.append_assoc, Nat.reduceAdd, Nat.reduceSub, Nat.reduceLT, Nat.reduceLeDiff, List.getElem?_cons_zero, List.getElem?_cons_succ, List.getElem?_nil, Option.join_some, Option.join_none, List.set_cons_zero, List.set_cons_succ, if_true, if_false, Bool.false_eq_true, Bool.true_eq_false, reduceIte, reduceCtorEq, true_and, and_true, Option.map_some, Option.map_none, Nat.succ_eq_add_one, Nat.zero_add, Nat.add_zero, List.singleton_append]
  exact k
theorem boolsP_map : ∀ bs : List Bool, boolsP (bs.map PV.bl) = some bs
  | [] => rfl
  | b :: bs => by simp only [List.map_cons, boolsP, boolsP_map bs, Option.map_some]
theorem w_exact : ∀ {d : Nat} {x : PV} (n : Nat) (st : Sto) (Q : PV → Sto → Prop), d + 1 ≤ n → IT d x → (∀ jk, Q (.bl true) (st ++ jk)) → wO (callF ds (n + 1) 17 [x, x] st) Q := by
  have int : ∀ {i : Int} (n : Nat) (st : Sto) (Q : PV → Sto → Prop), (∀ jk, Q (.bl true) (st ++ jk)) → wO (callF ds (n + 2) 17 [.int i, .int i] st) Q := by
    intro i n st Q k
    rw [w_callF]
    show wA (some d17) _
    rw [wA_some]
    have t1 : ∀ s, tyAny (.int i) s [.tuple] = some false := fun s => rfl
    simp -implicitDefEqProofs only [d17, t1, tru_b, exS, exSs, evX, evs, evt, pr, condOf, w_bin, w_neg, w_cmp, w_isn, w_isb, w_and, w_or, w_not, w_ife, w_tup, w_lst, w_star, w_ix, w_sli, w_call, w_bi, w_met, w_isi, w_comp, w_fstr, w_dict0, w_lvals, w_nil, w_cons, w_tst, w_tnot, w_tand, w_tor, w_var, Kg.w_next, w_seq, w_asg, w_set, w_expr, w_ret, w_if, w_for, w_aug, wO_some, wF_some, wA_some, wA_map, wO_ite, wA_ite, isStar, spl, startE, wipeE, bindT, bindTs, List.map_cons, List.map_nil, List.length_cons, List.length_nil, List.replicate, List.cons_append, List.nil_append, List.append_nil, List.append_assoc, Nat.reduceAdd, Nat.reduceSub, Nat.reduceLT, Nat.reduceLeDiff, List.getElem?_cons_zero, List.getElem?_cons_succ, List.getElem?_nil, Option.join_some, Option.join_none, List.set_cons_zero, List.set_cons_succ, if_true, if_false, Bool.false_eq_true, Bool.true_eq_false, reduceIte, reduceCtorEq, true_and, and_true, Option.map_some, Option.map_none, Nat.succ_eq_add_one, Nat.zero_add, Nat.add_zero, List.singleton_append]
    refine w_whole ?_
    simp -implicitDefEqProofs only [tru_b, cop_eq_i, decide_true, exS, exSs, evX, evs, evt, pr, condOf, w_bin, w_neg, w_cmp, w_isn, w_isb, w_and, w_or, w_not, w_ife, w_tup, w_lst, w_star, w_ix, w_sli, w_call, w_bi, w_met, w_isi, w_comp, w_fstr, w_dict0, w_lvals, w_nil, w_cons, w_tst, w_tnot, w_tand, w_tor, w_var, Kg.w_next, w_seq, w_asg, w_set, w_expr, w_ret, w_if, w_for, w_aug, wO_some, wF_some, wA_some, wA_map, wO_ite, wA_ite, isStar, spl, startE, wipeE, bindT, bindTs, List.map_cons, List.map_nil, List.length_cons, List.length_nil, List.replicate, List.cons_append, List.nil_append, List.append_nil, List.append_assoc, Nat.reduceAdd, Nat.reduceSub, Nat.reduceLT, Nat.reduceLeDiff, List.getElem?_cons_zero, List.getElem?_cons_succ, List.getElem?_nil, Option.join_some, Option.join_none, List.set_cons_zero, List.set_cons_succ, if_true, if_false, Bool.false_eq_true, Bool.true_eq_false, reduceIte, reduceCtorEq, true_and, and_true, Option.map_some, Option.map_none, Nat.succ_eq_add_one, Nat.zero_add, Nat.add_zero, List.singleton_append]
    have := k []
    rwa [List.append_nil] at this
  intro d
  induction d with
  | zero =>
    rintro x n st Q hn ⟨i, rfl⟩ k
    obtain ⟨m, rfl⟩ : ∃ m, n = m + 1 := ⟨n - 1, by omega⟩
    exact int m st Q k
  | succ d ih =>
    rintro x n st Q hn hx k
    obtain ⟨m, rfl⟩ : ∃ m, n = m + 1 := ⟨n - 1, by omega⟩
    rcases hx with ⟨i, rfl⟩ | ⟨xs, rfl, hl, hxs⟩
    · exact int m st Q k
    · rw [w_callF]
      show wA (some d17) _
      rw [wA_some]
      have t1 : ∀ s, tyAny (.tup xs) s [.tuple] = some true := fun s => rfl
      have hne : ∀ s, cop .ne (.int (xs.length : Nat)) (.int (xs.length : Nat)) s = some false := fun s => by
        have := cop_eq_i (st := s) (i := (xs.length : Nat)) (j := (xs.length : Nat))
        simp only [cop] at this ⊢
        rw [this]
        simp
      simp -implicitDefEqProofs only [d17, t1, tru_b, Bool.not_true, len_t, hne, rangeS hl, exS, exSs, evX, evs, evt, pr, condOf, w_bin, w_neg, w_cmp, w_isn, w_isb, w_and, w_or, w_not, w_ife, w_tup, w_lst, w_star, w_ix, w_sli, w_call, w_bi, w_met, w_isi, w_comp, w_fstr, w_dict0, w_lvals, w_nil, w_cons, w_tst, w_tnot, w_tand, w_tor, w_var, Kg.w_next, w_seq, w_asg, w_set, w_expr, w_ret, w_if, w_for, w_aug, wO_some, wF_some, wA_some, wA_map, wO_ite, wA_ite, isStar, spl, startE, wipeE, bindT, bindTs, List.map_cons, List.map_nil, List.length_cons, List.length_nil, List.replicate, List.cons_append, List.nil_append, List.append_nil, List.append_assoc, Nat.reduceAdd, Nat.reduceSub, Nat.reduceLT, Nat.reduceLeDiff, List.getElem?_cons_zero, List.getElem?_cons_succ, List.getElem?_nil, Option.join_some, Option.join_none, List.set_cons_zero, List.set_cons_succ, if_true, if_false, Bool.false_eq_true, Bool.true_eq_false, reduceIte, reduceCtorEq, true_and, and_true, Option.map_some, Option.map_none, Nat.succ_eq_add_one, Nat.zero_add, Nat.add_zero, List.singleton_append]
      refine w_compRange (fun _ => .bl true) hl (fun i hi jk Q hQ => ?_) fun jk => ?_
      · simp -implicitDefEqProofs only [ixV_tup, atI_nat hi, exS, exSs, evX, evs, evt, pr, condOf, w_bin, w_neg, w_cmp, w_isn, w_isb, w_and, w_or, w_not, w_ife, w_tup, w_lst, w_star, w_ix, w_sli, w_call, w_bi, w_met, w_isi, w_comp, w_fstr, w_dict0, w_lvals, w_nil, w_cons, w_tst, w_tnot, w_tand, w_tor, w_var, Kg.w_next, w_seq, w_asg, w_set, w_expr, w_ret, w_if, w_for, w_aug, wO_some, wF_some, wA_some, wA_map, wO_ite, wA_ite, isStar, spl, startE, wipeE, bindT, bindTs, List.map_cons, List.map_nil, List.length_cons, List.length_nil, List.replicate, List.cons_append, List.nil_append, List.append_nil, List.append_assoc, Nat.reduceAdd, Nat.reduceSub, Nat.reduceLT, Nat.reduceLeDiff, List.getElem?_cons_zero, List.getElem?_cons_succ, List.getElem?_nil, Option.join_some, Option.join_none, List.set_cons_zero, List.set_cons_succ, if_true, if_false, Bool.false_eq_true, Bool.true_eq_false, reduceIte, reduceCtorEq, true_and, and_true, Option.map_some, Option.map_none, Nat.succ_eq_add_one, Nat.zero_add, Nat.add_zero, List.singleton_append]
        refine ih m _ _ (by omega) (hxs _ (List.getElem_mem hi)) fun jk' => ?_
        rw [List.append_assoc]
        exact hQ jk'
      · have e : (List.range xs.length).map (fun _ => PV.bl true) = ((List.range xs.length).map fun _ => true).map PV.bl := by rw [List.map_map]; rfl
        have hall : biV .all [.ref (st ++ jk).length] (st ++ jk ++ [Ob.lst ((List.range xs.length).map fun _ => PV.bl true)]) = some (.bl true, st ++ jk ++ [Ob.lst ((List.range xs.length).map fun _ => PV.bl true)]) := by
          simp only [biV, last_get]
          rw [e, boolsP_map]
          simp
        rw [hall, wO_some, List.append_assoc]
        exact k _
end K04
/-! K04p2: sorted lists without doubles. -/
namespace K04
open PySem Kg
open Classical
variable {n : Nat} {st : Sto} {Q : PV → Sto → Prop}
/-- ascending, each once -/
structure Asc (ys : List PV) : Prop where
  nd : ys.Nodup
  so : ys.Pairwise fun a b => leP a b = true
theorem Asc.eq {xs ys : List PV} (hp : ∀ x ∈ xs, isP x = true) (hal : ∀ a ∈ xs, ∀ b ∈ xs, PySem.W.alike (dD a) (dD b) = true) (a : Asc xs) (b : Asc ys) (h : ∀ x, x ∈ xs ↔ x ∈ ys) : xs = ys := by
  have hperm := perm_of_mem a.nd b.nd h
  refine List.Perm.eq_of_pairwise (le := fun a b => leP a b = true) (fun x y hx hy h1 h2 => ?_) a.so b.so hperm
  have hy := (h y).mpr hy
  exact leP_anti (hp _ hx) (hp _ hy) (hal _ hx _ hy) h1 h2
theorem Asc.srt {xs : List PV} (h : xs.Nodup) : Asc (srt xs) := ⟨(srt_perm xs).nodup_iff.mpr h, srt_sorted xs⟩
theorem w_unlikeA {r : Nat} {xs : List PV} (hr : st[r]? = some (.lst xs)) (ok : srtOk xs) (hp : ∀ x ∈ xs, isP x = true) (hd : ∀ x ∈ xs, dpt x ≤ dLim) (k : ∀ ys jk, Asc ys → (∀ x, x ∈ ys ↔ x ∈ xs) → ys.length ≤ xs.length → Q (.tup ys) (st ++ jk)) :
    wO (callF ds (n + 1) 8 [.ref r] st) Q := by
  have hal := ok.2.1
  rw [w_callF]
  show wA (some d8) _
  rw [wA_some]
  have hr1 : (st ++ [Ob.lst []])[r]? = some (.lst xs) := app_get hr
  simp -implicitDefEqProofs only [d8, sorted_l hr1 ok, exS, exSs, evX, evs, evt, pr, condOf, w_bin, w_neg, w_cmp, w_isn, w_isb, w_and, w_or, w_not, w_ife, w_tup, w_lst, w_star, w_ix, w_sli, w_call, w_bi, w_met, w_isi, w_comp, w_fstr, w_dict0, w_lvals, w_nil, w_cons, w_tst, w_tnot, w_tand, w_tor, w_var, Kg.w_next, w_seq, w_asg, w_set, w_expr, w_ret, w_if, w_for, w_aug, wO_some, wF_some, wA_some, wA_map, wO_ite, wA_ite, isStar, spl, startE, wipeE, bindT, bindTs, List.map_cons, List.map_nil, List.length_cons, List.length_nil, List.replicate, List.cons_append, List.nil_append, List.append_nil, List.append_assoc, Nat.reduceAdd, Nat.reduceSub, Nat.reduceLT, Nat.reduceLeDiff, List.getElem?_cons_zero, List.getElem?_cons_succ, List.getElem?_nil, Option.join_some, Option.join_none, List.set_cons_zero, List.set_cons_succ, if_true, if_false, Bool.false_eq_true, Bool.true_eq_false, reduceIte, reduceCtorEq, true_and, and_true, Option.map_some, Option.map_none, Nat.succ_eq_add_one, Nat.zero_add, Nat.add_zero, List.singleton_append]
  refine ⟨by decide, ?_⟩
  have e1 : (st ++ [Ob.lst [], Ob.lst (srt xs)])[(st ++ [Ob.lst []]).length]? = some (.lst (srt xs)) := by simp
  rw [seq_l e1, wA_some]
  have hl5 := ok.2.2.2.2
  have hso := srt_sorted xs
  refine w_forL (fun ys e s => ∃ zs rows e2, srt xs = zs ++ ys ∧ e = [some (.ref r), some (.ref st.length), e2] ∧ s = st ++ [.lst rows, .lst (srt xs)] ∧ (∀ x, x ∈ rows ↔ x ∈ zs) ∧ rows.length ≤ zs.length ∧ Asc rows) ?_ ⟨[], [], none, rfl, rfl, rfl, fun _ => Iff.rfl, Nat.le_refl _, List.nodup_nil, .nil⟩ ?_ ?_
  · rintro ys e s ⟨zs, rows, e2, _, _, rfl, _, _, _⟩
    show (st ++ [Ob.lst rows, Ob.lst (srt xs)])[(st ++ [Ob.lst []]).length]? = _
    simp
  · rintro y ys e s ⟨zs, rows, e2, hz, rfl, rfl, hm, hlen, ha⟩
    have hg : (st ++ [Ob.lst rows, Ob.lst (srt xs)])[st.length]? = some (.lst rows) := by simp
    have hmem : ∀ x, x ∈ zs ++ y :: ys → x ∈ xs := fun x hx => srt_mem.mp (by rw [hz]; exact hx)
    have hyp := hp y (hmem y (by simp))
    have hlz : zs.length + (y :: ys).length = xs.length := by rw [← (srt_perm xs).length_eq, hz, List.length_append]
    have hle : ∀ x ∈ rows, leP x y = true := fun x hx => by
      rw [hz, List.pairwise_append] at hso
      exact hso.2.2 x ((hm x).mp hx) y (by simp)
    have good : y ∉ rows → ∃ zs' rows' e2', srt xs = zs' ++ ys ∧ [some (PV.ref r), some (.ref st.length), some y] = [some (.ref r), some (.ref st.length), e2'] ∧ st ++ [Ob.lst (rows ++ [y]), .lst (srt xs)] = st ++ [.lst rows', .lst (srt xs)] ∧ (∀ x, x ∈ rows' ↔ x ∈ zs') ∧ rows'.length ≤ zs'.length ∧ Asc rows' := fun hny =>
      ⟨zs ++ [y], rows ++ [y], some y, by rw [hz]; simp, rfl, rfl, fun x => by simp [hm], by simp; exact hlen,
        by rw [List.nodup_append]; exact ⟨ha.nd, by simp, fun a hax b hb e => by rw [List.mem_singleton.mp hb] at e; exact hny (e ▸ hax)⟩,
        by rw [List.pairwise_append]; exact ⟨ha.so, by simp, fun a hax b hb => by rw [List.mem_singleton.mp hb]; exact hle a hax⟩⟩
    simp -implicitDefEqProofs only [tru_l hg, k_app, isL_of hg, app_l hg (by rw [List.length_cons] at hlz; omega), set_app0, exS, exSs, evX, evs, evt, pr, condOf, w_bin, w_neg, w_cmp, w_isn, w_isb, w_and, w_or, w_not, w_ife, w_tup, w_lst, w_star, w_ix, w_sli, w_call, w_bi, w_met, w_isi, w_comp, w_fstr, w_dict0, w_lvals, w_nil, w_cons, w_tst, w_tnot, w_tand, w_tor, w_var, Kg.w_next, w_seq, w_asg, w_set, w_expr, w_ret, w_if, w_for, w_aug, wO_some, wF_some, wA_some, wA_map, wO_ite, wA_ite, isStar, spl, startE, wipeE, bindT, bindTs, List.map_cons, List.map_nil, List.length_cons, List.length_nil, List.replicate, List.cons_append, List.nil_append, List.append_nil, List.append_assoc, Nat.reduceAdd, Nat.reduceSub, Nat.reduceLT, Nat.reduceLeDiff, List.getElem?_cons_zero, List.getElem?_cons_succ, List.getElem?_nil, Option.join_some, Option.join_none, List.set_cons_zero, List.set_cons_succ, if_true, if_false, Bool.false_eq_true, Bool.true_eq_false, reduceIte, reduceCtorEq, true_and, and_true, Option.map_some, Option.map_none, Nat.succ_eq_add_one, Nat.zero_add, Nat.add_zero, List.singleton_append]
    cases rows with
    | nil =>
      simp only [List.isEmpty_nil, Bool.not_true, Bool.not_false, if_true]
      exact good (by simp)
    | cons a rows =>
      simp only [List.isEmpty_cons, Bool.not_false, Bool.not_true, Bool.false_eq_true, if_false]
      have hne : (a :: rows) ≠ [] := by simp
      have hlast : L2.atI (a :: rows) (-1) = some ((a :: rows).getLast hne) := by
        unfold L2.atI L2.ixN
        rw [if_neg (by omega), if_pos (by simp; omega)]
        have e : (-1 + ((a :: rows).length : Int)).toNat = (a :: rows).length - 1 := by simp; omega
        rw [Option.bind_some, e, List.getElem?_eq_getElem (by simp), List.getLast_eq_getElem]
      generalize hx0 : (a :: rows).getLast hne = x at hlast
      have hxm : x ∈ a :: rows := hx0 ▸ List.getLast_mem hne
      have hxs : x ∈ xs := hmem x (by simp [(hm x).mp hxm])
      rw [ixV_ref hg, hlast, wA_some, cop_ne_P (hp x hxs) hyp (hd x hxs), wA_some]
      simp -implicitDefEqProofs only [tru_b, exS, exSs, evX, evs, evt, pr, condOf, w_bin, w_neg, w_cmp, w_isn, w_isb, w_and, w_or, w_not, w_ife, w_tup, w_lst, w_star, w_ix, w_sli, w_call, w_bi, w_met, w_isi, w_comp, w_fstr, w_dict0, w_lvals, w_nil, w_cons, w_tst, w_tnot, w_tand, w_tor, w_var, Kg.w_next, w_seq, w_asg, w_set, w_expr, w_ret, w_if, w_for, w_aug, wO_some, wF_some, wA_some, wA_map, wO_ite, wA_ite, isStar, spl, startE, wipeE, bindT, bindTs, List.map_cons, List.map_nil, List.length_cons, List.length_nil, List.replicate, List.cons_append, List.nil_append, List.append_nil, List.append_assoc, Nat.reduceAdd, Nat.reduceSub, Nat.reduceLT, Nat.reduceLeDiff, List.getElem?_cons_zero, List.getElem?_cons_succ, List.getElem?_nil, Option.join_some, Option.join_none, List.set_cons_zero, List.set_cons_succ, if_true, if_false, Bool.false_eq_true, Bool.true_eq_false, reduceIte, reduceCtorEq, true_and, and_true, Option.map_some, Option.map_none, Nat.succ_eq_add_one, Nat.zero_add, Nat.add_zero, List.singleton_append]
      by_cases e : x = y
      · simp only [e, decide_true, Bool.not_true, Bool.false_eq_true, if_false]
        refine ⟨zs ++ [y], a :: rows, some y, by rw [hz]; simp, rfl, rfl, fun z => ?_, by simp at hlen ⊢; omega, ha⟩
        rw [List.mem_append, List.mem_singleton, hm]
        constructor
        · exact .inl
        · rintro (h | rfl)
          · exact h
          · exact (hm _).mp (e ▸ hxm)
      · simp only [e, decide_false, Bool.not_false, if_true]
        refine good fun hy => e ?_
        -- y stands in the rows: nothing of them is beyond it, the last is beyond all
        have h1 : leP x y = true := hle x hxm
        have h2 : leP y x = true := by
          obtain ⟨i, hi, ei⟩ := List.mem_iff_getElem.mp hy
          have hlast2 : x = (a :: rows)[(a :: rows).length - 1] := by rw [← hx0, List.getLast_eq_getElem]
          by_cases hil : i = (a :: rows).length - 1
          · subst hil
            rw [← ei, ← hlast2]
            have := leP_total x x
            simpa using this
          · have := List.pairwise_iff_getElem.mp ha.so i ((a :: rows).length - 1) hi (by simp) (by omega)
            rw [ei, ← hlast2] at this
            exact this
        exact leP_anti (hp x hxs) hyp (hal _ hxs _ (hmem y (by simp))) h1 h2
  · rintro e s ⟨zs, rows, e2, hz, rfl, rfl, hm, hlen, ha⟩
    have hg : (st ++ [Ob.lst rows, Ob.lst (srt xs)])[st.length]? = some (.lst rows) := by simp
    rw [List.append_nil] at hz
    simp -implicitDefEqProofs only [tuple_l hg, exS, exSs, evX, evs, evt, pr, condOf, w_bin, w_neg, w_cmp, w_isn, w_isb, w_and, w_or, w_not, w_ife, w_tup, w_lst, w_star, w_ix, w_sli, w_call, w_bi, w_met, w_isi, w_comp, w_fstr, w_dict0, w_lvals, w_nil, w_cons, w_tst, w_tnot, w_tand, w_tor, w_var, Kg.w_next, w_seq, w_asg, w_set, w_expr, w_ret, w_if, w_for, w_aug, wO_some, wF_some, wA_some, wA_map, wO_ite, wA_ite, isStar, spl, startE, wipeE, bindT, bindTs, List.map_cons, List.map_nil, List.length_cons, List.length_nil, List.replicate, List.cons_append, List.nil_append, List.append_nil, List.append_assoc, Nat.reduceAdd, Nat.reduceSub, Nat.reduceLT, Nat.reduceLeDiff, List.getElem?_cons_zero, List.getElem?_cons_succ, List.getElem?_nil, Option.join_some, Option.join_none, List.set_cons_zero, List.set_cons_succ, if_true, if_false, Bool.false_eq_true, Bool.true_eq_false, reduceIte, reduceCtorEq, true_and, and_true, Option.map_some, Option.map_none, Nat.succ_eq_add_one, Nat.zero_add, Nat.add_zero, List.singleton_append]
    exact k rows _ ha (fun x => by rw [hm, ← hz]; exact srt_mem) (by rw [← (srt_perm xs).length_eq, hz]; exact hlen)
end K04
/-! K04i: is_worth, of anything. -/
namespace K04
open PySem Kg
open Classical
variable {n : Nat} {st : Sto} {Q : PV → Sto → Prop}

def Flat (st : Sto) (x : PV) : Prop := x = .non ∨ (∃ i, x = .int i) ∨ (∃ b, x = .bl b) ∨ (∃ s, x = .str s) ∨ ∃ n, x = .ref n ∧ ((∃ l, st[n]? = some (.lst l)) ∨ ∃ kv, st[n]? = some (.dK kv))
/-- a thing: anything of such and tuples -/
def Gd : Nat → Sto → PV → Prop
  | 0, st, x => Flat st x
  | d + 1, st, x => Flat st x ∨ ∃ xs, x = .tup xs ∧ xs.length ≤ 1000 ∧ ∀ y ∈ xs, Gd d st y
theorem Flat.app {x : PV} {jk : Sto} (h : Flat st x) : Flat (st ++ jk) x := by
  rcases h with h | h | h | h | ⟨n, e, h⟩
  · exact .inl h
  · exact .inr (.inl h)
  · exact .inr (.inr (.inl h))
  · exact .inr (.inr (.inr (.inl h)))
  · refine .inr (.inr (.inr (.inr ⟨n, e, ?_⟩)))
    rcases h with ⟨l, h⟩ | ⟨l, h⟩
    · exact .inl ⟨l, app_get h⟩
    · exact .inr ⟨l, app_get h⟩
theorem Gd.app : ∀ {d : Nat} {x : PV} {jk : Sto}, Gd d st x → Gd d (st ++ jk) x
  | 0, _, _, h => Flat.app h
  | d + 1, _, _, .inl h => .inl h.app
  | d + 1, _, _, .inr ⟨xs, e, l, h⟩ => .inr ⟨xs, e, l, fun y hy => (h y hy).app⟩
def isTup : PV → Bool | .tup _ => true | _ => false
def isInt : PV → Bool | .int _ => true | .bl _ => true | _ => false
def isBool : PV → Bool | .bl _ => true | _ => false
theorem Flat.ty {x : PV} (h : Flat st x) : tyAny x st [.tuple] = some false ∧ tyAny x st [.int] = some (isInt x) ∧ tyAny x st [.bool] = some (isBool x) ∧ isTup x = false := by
  rcases h with rfl | ⟨i, rfl⟩ | ⟨b, rfl⟩ | ⟨s, rfl⟩ | ⟨n, rfl, ⟨l, h⟩ | ⟨l, h⟩⟩ <;> first | exact ⟨rfl, rfl, rfl, rfl⟩ | (refine ⟨?_, ?_, ?_, rfl⟩ <;> simp only [tyAny, tyIs, h] <;> rfl)
theorem Gd.ty {d : Nat} {x : PV} (h : Gd d st x) : tyAny x st [.tuple] = some (isTup x) ∧ tyAny x st [.int] = some (isInt x) ∧ tyAny x st [.bool] = some (isBool x) := by
  cases d with
  | zero => obtain ⟨a, b, c, e⟩ := Flat.ty (show Flat st x from h); exact ⟨by rw [e]; exact a, b, c⟩
  | succ d =>
    rcases h with h | ⟨xs, rfl, _, _⟩
    · obtain ⟨a, b, c, e⟩ := h.ty; exact ⟨by rw [e]; exact a, b, c⟩
    · exact ⟨rfl, rfl, rfl⟩
def okWhole (lo hi : Int) : PV → Bool | .int i => decide (lo ≤ i) && decide (i ≤ hi) | _ => false
theorem w_iswhole {d : Nat} {x : PV} {lo hi : Int} (h : Gd d st x) (k : Q (.bl (okWhole lo hi x)) st) : wO (callF ds (n + 1) 0 [x, .int lo, .int hi] st) Q := by
  obtain ⟨t1, t2, t3⟩ := h.ty
  rw [w_callF]
  show wA (some d0) _
  rw [wA_some]
  have hle : ∀ i j s, cop .le (.int i) (.int j) s = some (decide (i ≤ j)) := fun _ _ _ => rfl
  have c1 : ∀ i j s, cop .lt (.int i) (.int j) s = some (decide (i < j)) := fun _ _ _ => rfl
  simp -implicitDefEqProofs only [d0, t2, t3, tru_b, isNon, exS, exSs, evX, evs, evt, pr, condOf, w_bin, w_neg, w_cmp, w_isn, w_isb, w_and, w_or, w_not, w_ife, w_tup, w_lst, w_star, w_ix, w_sli, w_call, w_bi, w_met, w_isi, w_comp, w_fstr, w_dict0, w_lvals, w_nil, w_cons, w_tst, w_tnot, w_tand, w_tor, w_var, Kg.w_next, w_seq, w_asg, w_set, w_expr, w_ret, w_if, w_for, w_aug, wO_some, wF_some, wA_some, wA_map, wO_ite, wA_ite, isStar, spl, startE, wipeE, bindT, bindTs, List.map_cons, List.map_nil, List.length_cons, List.length_nil, List.replicate, List.cons_append, List.nil_append, List.append_nil, List.append_assoc, Nat.reduceAdd, Nat.reduceSub, Nat.reduceLT, Nat.reduceLeDiff, List.getElem?_cons_zero, List.getElem?_cons_succ, List.getElem?_nil, Option.join_some, Option.join_none, List.set_cons_zero, List.set_cons_succ, if_true, if_false, Bool.false_eq_true, Bool.true_eq_false, reduceIte, reduceCtorEq, true_and, and_true, Option.map_some, Option.map_none, Nat.succ_eq_add_one, Nat.zero_add, Nat.add_zero, List.singleton_append]
  cases x with
  | int i =>
    simp only [isInt, isBool, Bool.not_true, Bool.false_eq_true, if_false, hle, c1, wA_some, tru_b, dec_if] at k ⊢
    by_cases h1 : i < lo
    · simp only [h1, if_true]
      have : okWhole lo hi (.int i) = false := by simp [okWhole]; omega
      rw [this] at k
      simpa [h1] using k
    · have : okWhole lo hi (.int i) = decide (i ≤ hi) := by simp [okWhole]; omega
      rw [this] at k
      simpa [h1, tru_b, wA_some] using k
  | bl b => simpa [isInt, isBool, okWhole] using k
  | _ => simpa [isInt, isBool, okWhole] using k
end K04
/-! K04j: is_worth and its three, of any thing. -/
namespace K04
open PySem Kg
open Classical
variable {n : Nat} {st : Sto} {Q : PV → Sto → Prop}

def okRow (f : PV → Bool) : PV → Bool | .tup ws => decide (ws.length ≤ 4) && ws.all f | _ => false
def okBase (f : PV → Bool) : PV → Bool
  | .tup [a, c] => okWhole 0 0 a && okWhole 0 2 c
  | .tup [a, c, r] => okWhole 1 1 a && (okWhole 0 99 c && okRow f r)
  | _ => false
def okTurn (f : PV → Bool) : PV → Bool | .tup [a, r] => okWhole 0 99 a && okRow f r | _ => false
noncomputable def okWF (f : PV → Bool) : PV → Bool
  | .tup [b, .tup bag] => okBase f b && (bag.all (okTurn f) && decide (bag = srt bag))
  | _ => false
noncomputable def okW : Nat → PV → Bool | 0 => fun _ => false | k + 1 => okWF (okW k)
theorem Gd.up : ∀ {d : Nat} {x : PV}, Gd d st x → Gd (d + 1) st x
  | 0, _, h => .inl h
  | d + 1, _, .inl h => .inl h
  | d + 1, _, .inr ⟨xs, e, l, h⟩ => .inr ⟨xs, e, l, fun y hy => (h y hy).up⟩
theorem Gd.le {d e : Nat} {x : PV} (h : Gd d st x) (hk : d ≤ e) : Gd e st x := by
  induction hk with
  | refl => exact h
  | step _ ih => exact ih.up
theorem Gd.tup {d : Nat} {xs : List PV} (h : Gd (d + 1) st (.tup xs)) : xs.length ≤ 1000 ∧ ∀ y ∈ xs, Gd d st y := by
  rcases h with h | ⟨ys, e, l, h⟩
  · rcases h with h | ⟨i, h⟩ | ⟨b, h⟩ | ⟨s, h⟩ | ⟨n, h, _⟩ <;> cases h
  · cases e; exact ⟨l, h⟩
theorem Gd.tup0 {xs : List PV} (h : Gd 0 st (.tup xs)) : False := by
  rcases h with h | ⟨i, h⟩ | ⟨b, h⟩ | ⟨s, h⟩ | ⟨n, h, _⟩ <;> cases h
/-! ### what is a worth, as data -/
def XS (R : PV → Prop) (w : PV) : Prop := ∃ (b : PV) (bag : List PV), w = .tup [b, .tup bag] ∧ BB R b ∧ (∀ t ∈ bag, TT R t)
def XX : Nat → PV → Prop | 0 => fun _ => False | h + 1 => XS (XX h)
theorem okWhole_eq {lo hi : Int} {x : PV} (h : okWhole lo hi x = true) : ∃ i, x = .int i ∧ lo ≤ i ∧ i ≤ hi := by
  cases x <;> simp [okWhole] at h
  exact ⟨_, rfl, h.1, h.2⟩
theorem okRow_eq {f : PV → Bool} {R : PV → Prop} (k : ∀ w, f w = true → R w) {x : PV} (h : okRow f x = true) : ∃ ws, x = .tup ws ∧ Args R ws := by
  unfold okRow at h
  split at h
  · simp at h; exact ⟨_, rfl, h.1, fun w hw => k w (h.2 w hw)⟩
  · cases h
theorem okTurn_eq {f : PV → Bool} {R : PV → Prop} (k : ∀ w, f w = true → R w) {x : PV} (h : okTurn f x = true) : TT R x := by
  unfold okTurn at h
  split at h
  · rw [Bool.and_eq_true] at h
    obtain ⟨i, rfl, h1, h2⟩ := okWhole_eq h.1
    obtain ⟨ws, rfl, h3⟩ := okRow_eq k h.2
    exact ⟨i, ws, h1, by omega, rfl, h3⟩
  · cases h
theorem okBase_eq {f : PV → Bool} {R : PV → Prop} (k : ∀ w, f w = true → R w) {x : PV} (h : okBase f x = true) : BB R x := by
  unfold okBase at h
  split at h
  · rw [Bool.and_eq_true] at h
    obtain ⟨i, rfl, h1, h2⟩ := okWhole_eq h.1
    obtain ⟨j, rfl, h3, h4⟩ := okWhole_eq h.2
    obtain rfl : i = 0 := by omega
    exact .inl ⟨j, h3, by omega, rfl⟩
  · rw [Bool.and_eq_true, Bool.and_eq_true] at h
    obtain ⟨i, rfl, h1, h2⟩ := okWhole_eq h.1
    obtain ⟨j, rfl, h3, h4⟩ := okWhole_eq h.2.1
    obtain ⟨ws, rfl, h5⟩ := okRow_eq k h.2.2
    obtain rfl : i = 1 := by omega
    exact .inr ⟨j, ws, h3, by omega, rfl, h5⟩
  · cases h
theorem okW_eq : ∀ {k : Nat} {x : PV}, okW k x = true → XX k x
  | 0, _, h => by cases h
  | k + 1, x, h => by
    simp only [okW] at h
    unfold okWF at h
    split at h
    · rw [Bool.and_eq_true, Bool.and_eq_true, List.all_eq_true] at h
      exact ⟨_, _, rfl, okBase_eq (fun w => okW_eq) h.1, fun t ht => okTurn_eq (fun w => okW_eq) (h.2.1 t ht)⟩
    · cases h
theorem XX.isP : ∀ {h : Nat} {w : PV}, XX h w → Kg.isP w = true
  | 0, _, h => h.elim
  | h + 1, _, ⟨b, bag, e, hb, ht⟩ => by
    subst e
    exact isP_tup (by simp only [List.mem_cons, List.not_mem_nil, or_false, forall_eq_or_imp, forall_eq]; exact ⟨hb.isP fun _ z => XX.isP z, isP_tup fun t h => (ht t h).isP fun _ z => XX.isP z⟩)
theorem XX.alike : ∀ {h : Nat} {w : PV}, XX h w → ∀ v, XX h v → PySem.W.alike (dD w) (dD v) = true
  | 0, _, h, _, _ => h.elim
  | h + 1, _, ⟨b, bag, e, hb, ht⟩, _, ⟨b2, bag2, e2, hb2, ht2⟩ => by
    subst e e2
    simp only [dD, dDs, PySem.W.alike, PySem.W.alikeAll, Bool.and_eq_true, and_true]
    exact ⟨hb.alike (fun _ z _ y => XX.alike z _ y) hb2, alikeAll_of fun x hx y hy => (ht x hx).alike (fun _ z _ y => XX.alike z _ y) (ht2 y hy)⟩
theorem XX.dpt : ∀ {h : Nat} {w : PV}, XX h w → Kg.dpt w ≤ 4 * h
  | 0, _, h => h.elim
  | h + 1, _, ⟨b, bag, e, hb, ht⟩ => by
    subst e
    exact Nat.le_trans (dpt_two (k := 4 * h + 3) (Nat.le_trans (hb.dpt fun _ z => XX.dpt z) (by omega)) (dpt_tup (k := 4 * h + 2) fun t h => (ht t h).dpt fun _ z => XX.dpt z)) (by omega)
/-! ### two lists of plain values, compared -/
theorem cop_eq_ll {a b : Nat} {xs ys : List PV} (ha : st[a]? = some (.lst xs)) (hb : st[b]? = some (.lst ys)) (hx : ∀ x ∈ xs, Kg.isP x = true) (hy : ∀ x ∈ ys, Kg.isP x = true) (hd : ∀ x ∈ xs, Kg.dpt x + 1 ≤ dLim) :
    cop .eq (.ref a) (.ref b) st = some (decide (xs = ys)) := by
  show eqV st _ _ = _
  unfold eqV
  have e1 : topD st (.ref a) = some (.list (dDs xs)) := by simp only [topD, ha]; rw [if_pos (isPs_okDs (isPs_iff.mpr hx))]
  have e2 : topD st (.ref b) = some (.list (dDs ys)) := by simp only [topD, hb]; rw [if_pos (isPs_okDs (isPs_iff.mpr hy))]
  rw [e1, e2]
  simp only
  have h1 : PyData.depthAll (dDs xs) + 1 ≤ dLim := by
    have := dpt_le (xs := xs) (k := dLim - 1) fun x hx => by have := hd x hx; omega
    unfold dLim at this ⊢
    omega
  rw [if_pos (by simp only [PyData.depth]; omega)]
  have := eqv_P (x := .tup xs) (y := .tup ys) (isP_tup hx) (isP_tup hy)
  simp only [dD, PyData.eqv] at this ⊢
  rw [this]
  simp
end K04
/-! K04k: is_worth, walked. -/
namespace K04
open PySem Kg
open Classical
variable {n : Nat} {st : Sto} {Q : PV → Sto → Prop}

/-- a yes-no function of the program, of things of depth d at most -/
def SpF (n i d : Nat) (f : PV → Bool) : Prop := ∀ (st : Sto) (Q : PV → Sto → Prop) (x : PV), Gd d st x → (∀ jk, Q (.bl (f x)) (st ++ jk)) → wO (callF ds n i [x] st) Q
theorem all_bl {f : PV → Bool} {xs : List PV} : biV .all [.ref st.length] (st ++ [Ob.lst (xs.map fun x => PV.bl (f x))]) = some (.bl (xs.all f), st ++ [Ob.lst (xs.map fun x => PV.bl (f x))]) := by
  have e : xs.map (fun x => PV.bl (f x)) = (xs.map f).map PV.bl := by rw [List.map_map]; rfl
  simp only [biV, last_get]
  rw [e, boolsP_map]
  rw [Option.map_some, List.all_map]
  rfl
theorem w_row {d : Nat} {f : PV → Bool} (hs : SpF n 4 d f) : SpF (n + 1) 1 (d + 1) (okRow f) := by
  intro st Q x hx k
  have k0 : Q (.bl (okRow f x)) st := by have := k []; rwa [List.append_nil] at this
  obtain ⟨t1, t2, t3⟩ := hx.ty
  rw [w_callF]
  show wA (some d1) _
  rw [wA_some]
  have c1 : ∀ i j s, cop .gt (.int i) (.int j) s = some (decide (j < i)) := fun _ _ _ => rfl
  cases x with
  | tup ws =>
    obtain ⟨hl, hw⟩ := hx.tup
    simp only [isTup] at t1
    simp -implicitDefEqProofs only [d1, t1, tru_b, Bool.not_true, len_t, c1, exS, exSs, evX, evs, evt, pr, condOf, w_bin, w_neg, w_cmp, w_isn, w_isb, w_and, w_or, w_not, w_ife, w_tup, w_lst, w_star, w_ix, w_sli, w_call, w_bi, w_met, w_isi, w_comp, w_fstr, w_dict0, w_lvals, w_nil, w_cons, w_tst, w_tnot, w_tand, w_tor, w_var, Kg.w_next, w_seq, w_asg, w_set, w_expr, w_ret, w_if, w_for, w_aug, wO_some, wF_some, wA_some, wA_map, wO_ite, wA_ite, isStar, spl, startE, wipeE, bindT, bindTs, List.map_cons, List.map_nil, List.length_cons, List.length_nil, List.replicate, List.cons_append, List.nil_append, List.append_nil, List.append_assoc, Nat.reduceAdd, Nat.reduceSub, Nat.reduceLT, Nat.reduceLeDiff, List.getElem?_cons_zero, List.getElem?_cons_succ, List.getElem?_nil, Option.join_some, Option.join_none, List.set_cons_zero, List.set_cons_succ, if_true, if_false, Bool.false_eq_true, Bool.true_eq_false, reduceIte, reduceCtorEq, true_and, and_true, Option.map_some, Option.map_none, Nat.succ_eq_add_one, Nat.zero_add, Nat.add_zero, List.singleton_append]
    by_cases h : (4 : Int) < (ws.length : Nat)
    · have : okRow f (.tup ws) = false := by simp only [okRow, Bool.and_eq_false_iff, decide_eq_false_iff_not]; exact .inl (by omega)
      rw [this] at k0
      simp only [h, decide_true, if_true]
      exact k0
    · have : okRow f (.tup ws) = ws.all f := by simp only [okRow]; rw [decide_eq_true (by omega), Bool.true_and]
      rw [this] at k
      simp only [h, decide_false, Bool.false_eq_true, if_false, seq_tup, wA_some]
      refine w_compMap (fun x => .bl (f x)) trivial (by rw [sizeLine_eq]; omega) (fun w hww jk Q hQ => ?_) fun jk => ?_
      · simp -implicitDefEqProofs only [tru_b, exS, exSs, evX, evs, evt, pr, condOf, w_bin, w_neg, w_cmp, w_isn, w_isb, w_and, w_or, w_not, w_ife, w_tup, w_lst, w_star, w_ix, w_sli, w_call, w_bi, w_met, w_isi, w_comp, w_fstr, w_dict0, w_lvals, w_nil, w_cons, w_tst, w_tnot, w_tand, w_tor, w_var, Kg.w_next, w_seq, w_asg, w_set, w_expr, w_ret, w_if, w_for, w_aug, wO_some, wF_some, wA_some, wA_map, wO_ite, wA_ite, isStar, spl, startE, wipeE, bindT, bindTs, List.map_cons, List.map_nil, List.length_cons, List.length_nil, List.replicate, List.cons_append, List.nil_append, List.append_nil, List.append_assoc, Nat.reduceAdd, Nat.reduceSub, Nat.reduceLT, Nat.reduceLeDiff, List.getElem?_cons_zero, List.getElem?_cons_succ, List.getElem?_nil, Option.join_some, Option.join_none, List.set_cons_zero, List.set_cons_succ, if_true, if_false, Bool.false_eq_true, Bool.true_eq_false, reduceIte, reduceCtorEq, true_and, and_true, Option.map_some, Option.map_none, Nat.succ_eq_add_one, Nat.zero_add, Nat.add_zero, List.singleton_append]
        refine hs _ _ _ (hw w hww).app fun jk' => ?_
        rw [List.append_assoc]
        exact hQ jk'
      · rw [all_bl, wO_some, List.append_assoc]
        exact k _
  | _ =>
    simp only [isTup] at t1
    simp -implicitDefEqProofs only [d1, t1, tru_b, Bool.not_false, exS, exSs, evX, evs, evt, pr, condOf, w_bin, w_neg, w_cmp, w_isn, w_isb, w_and, w_or, w_not, w_ife, w_tup, w_lst, w_star, w_ix, w_sli, w_call, w_bi, w_met, w_isi, w_comp, w_fstr, w_dict0, w_lvals, w_nil, w_cons, w_tst, w_tnot, w_tand, w_tor, w_var, Kg.w_next, w_seq, w_asg, w_set, w_expr, w_ret, w_if, w_for, w_aug, wO_some, wF_some, wA_some, wA_map, wO_ite, wA_ite, isStar, spl, startE, wipeE, bindT, bindTs, List.map_cons, List.map_nil, List.length_cons, List.length_nil, List.replicate, List.cons_append, List.nil_append, List.append_nil, List.append_assoc, Nat.reduceAdd, Nat.reduceSub, Nat.reduceLT, Nat.reduceLeDiff, List.getElem?_cons_zero, List.getElem?_cons_succ, List.getElem?_nil, Option.join_some, Option.join_none, List.set_cons_zero, List.set_cons_succ, if_true, if_false, Bool.false_eq_true, Bool.true_eq_false, reduceIte, reduceCtorEq, true_and, and_true, Option.map_some, Option.map_none, Nat.succ_eq_add_one, Nat.zero_add, Nat.add_zero, List.singleton_append]
    exact k0
theorem w_turn {d : Nat} {f : PV → Bool} (hs : SpF (n + 1) 4 d f) : SpF (n + 3) 3 (d + 2) (okTurn f) := by
  intro st Q x hx k
  have k0 : Q (.bl (okTurn f x)) st := by have := k []; rwa [List.append_nil] at this
  obtain ⟨t1, t2, t3⟩ := hx.ty
  rw [w_callF]
  show wA (some d3) _
  rw [wA_some]
  have c1 : ∀ i j s, cop .ne (.int i) (.int j) s = some (!decide (i = j)) := fun i j s => by
    have := cop_eq_i (st := s) (i := i) (j := j)
    simp only [cop] at this ⊢
    rw [this]
    rfl
  cases x with
  | tup ws =>
    obtain ⟨hl, hw⟩ := hx.tup
    simp only [isTup] at t1
    match ws, hl, hw, k, k0, t1 with
    | [a, r], hl, hw, k, k0, t1 =>
      simp only [List.mem_cons, List.not_mem_nil, or_false, forall_eq_or_imp, forall_eq] at hw
      have i0 : ∀ s, ixV (.tup [a, r]) (.int 0) s = some a := fun _ => rfl
      have i1 : ∀ s, ixV (.tup [a, r]) (.int 1) s = some r := fun _ => rfl
      have c2 : decide ((((0 + 1 + 1 : Nat)) : Int) = 2) = true := rfl
      have c3 : decide ((((2 : Nat)) : Int) = 2) = true := rfl
      simp -implicitDefEqProofs only [d3, t1, tru_b, Bool.not_true, len_t, c1, i0, i1, c2, c3, exS, exSs, evX, evs, evt, pr, condOf, w_bin, w_neg, w_cmp, w_isn, w_isb, w_and, w_or, w_not, w_ife, w_tup, w_lst, w_star, w_ix, w_sli, w_call, w_bi, w_met, w_isi, w_comp, w_fstr, w_dict0, w_lvals, w_nil, w_cons, w_tst, w_tnot, w_tand, w_tor, w_var, Kg.w_next, w_seq, w_asg, w_set, w_expr, w_ret, w_if, w_for, w_aug, wO_some, wF_some, wA_some, wA_map, wO_ite, wA_ite, isStar, spl, startE, wipeE, bindT, bindTs, List.map_cons, List.map_nil, List.length_cons, List.length_nil, List.replicate, List.cons_append, List.nil_append, List.append_nil, List.append_assoc, Nat.reduceAdd, Nat.reduceSub, Nat.reduceLT, Nat.reduceLeDiff, List.getElem?_cons_zero, List.getElem?_cons_succ, List.getElem?_nil, Option.join_some, Option.join_none, List.set_cons_zero, List.set_cons_succ, if_true, if_false, Bool.false_eq_true, Bool.true_eq_false, reduceIte, reduceCtorEq, true_and, and_true, Option.map_some, Option.map_none, Nat.succ_eq_add_one, Nat.zero_add, Nat.add_zero, List.singleton_append]
      refine w_iswhole hw.1 ?_
      simp -implicitDefEqProofs only [tru_b, exS, exSs, evX, evs, evt, pr, condOf, w_bin, w_neg, w_cmp, w_isn, w_isb, w_and, w_or, w_not, w_ife, w_tup, w_lst, w_star, w_ix, w_sli, w_call, w_bi, w_met, w_isi, w_comp, w_fstr, w_dict0, w_lvals, w_nil, w_cons, w_tst, w_tnot, w_tand, w_tor, w_var, Kg.w_next, w_seq, w_asg, w_set, w_expr, w_ret, w_if, w_for, w_aug, wO_some, wF_some, wA_some, wA_map, wO_ite, wA_ite, isStar, spl, startE, wipeE, bindT, bindTs, List.map_cons, List.map_nil, List.length_cons, List.length_nil, List.replicate, List.cons_append, List.nil_append, List.append_nil, List.append_assoc, Nat.reduceAdd, Nat.reduceSub, Nat.reduceLT, Nat.reduceLeDiff, List.getElem?_cons_zero, List.getElem?_cons_succ, List.getElem?_nil, Option.join_some, Option.join_none, List.set_cons_zero, List.set_cons_succ, if_true, if_false, Bool.false_eq_true, Bool.true_eq_false, reduceIte, reduceCtorEq, true_and, and_true, Option.map_some, Option.map_none, Nat.succ_eq_add_one, Nat.zero_add, Nat.add_zero, List.singleton_append]
      cases h : okWhole 0 99 a with
      | false =>
        simp only [okTurn, h, Bool.false_and] at k0
        simpa using k0
      | true =>
        simp only [okTurn, h, Bool.true_and] at k
        simp only [if_true]
        refine w_row hs _ _ _ hw.2 fun jk => ?_
        exact k jk
    | [], _, _, _, k0, t1 => simp -implicitDefEqProofs only [d3, t1, tru_b, Bool.not_true, len_t, c1, exS, exSs, evX, evs, evt, pr, condOf, w_bin, w_neg, w_cmp, w_isn, w_isb, w_and, w_or, w_not, w_ife, w_tup, w_lst, w_star, w_ix, w_sli, w_call, w_bi, w_met, w_isi, w_comp, w_fstr, w_dict0, w_lvals, w_nil, w_cons, w_tst, w_tnot, w_tand, w_tor, w_var, Kg.w_next, w_seq, w_asg, w_set, w_expr, w_ret, w_if, w_for, w_aug, wO_some, wF_some, wA_some, wA_map, wO_ite, wA_ite, isStar, spl, startE, wipeE, bindT, bindTs, List.map_cons, List.map_nil, List.length_cons, List.length_nil, List.replicate, List.cons_append, List.nil_append, List.append_nil, List.append_assoc, Nat.reduceAdd, Nat.reduceSub, Nat.reduceLT, Nat.reduceLeDiff, List.getElem?_cons_zero, List.getElem?_cons_succ, List.getElem?_nil, Option.join_some, Option.join_none, List.set_cons_zero, List.set_cons_succ, if_true, if_false, Bool.false_eq_true, Bool.true_eq_false, reduceIte, reduceCtorEq, true_and, and_true, Option.map_some, Option.map_none, Nat.succ_eq_add_one, Nat.zero_add, Nat.add_zero, List.singleton_append]; simpa [okTurn] using k0
    | [_], _, _, _, k0, t1 => simp -implicitDefEqProofs only [d3, t1, tru_b, Bool.not_true, len_t, c1, exS, exSs, evX, evs, evt, pr, condOf, w_bin, w_neg, w_cmp, w_isn, w_isb, w_and, w_or, w_not, w_ife, w_tup, w_lst, w_star, w_ix, w_sli, w_call, w_bi, w_met, w_isi, w_comp, w_fstr, w_dict0, w_lvals, w_nil, w_cons, w_tst, w_tnot, w_tand, w_tor, w_var, Kg.w_next, w_seq, w_asg, w_set, w_expr, w_ret, w_if, w_for, w_aug, wO_some, wF_some, wA_some, wA_map, wO_ite, wA_ite, isStar, spl, startE, wipeE, bindT, bindTs, List.map_cons, List.map_nil, List.length_cons, List.length_nil, List.replicate, List.cons_append, List.nil_append, List.append_nil, List.append_assoc, Nat.reduceAdd, Nat.reduceSub, Nat.reduceLT, Nat.reduceLeDiff, List.getElem?_cons_zero, List.getElem?_cons_succ, List.getElem?_nil, Option.join_some, Option.join_none, List.set_cons_zero, List.set_cons_succ, if_true, if_false, Bool.false_eq_true, Bool.true_eq_false, reduceIte, reduceCtorEq, true_and, and_true, Option.map_some, Option.map_none, Nat.succ_eq_add_one, Nat.zero_add, Nat.add_zero, List.singleton_append]; simpa [okTurn] using k0
    | a :: b :: c :: r, _, _, _, k0, t1 =>
      have c2 : decide (((((a :: b :: c :: r : List PV)).length : Nat) : Int) = 2) = false := by simp only [decide_eq_false_iff_not, List.length_cons]; omega
      simp -implicitDefEqProofs only [List.length_cons] at c2
      simp -implicitDefEqProofs only [d3, t1, tru_b, Bool.not_true, len_t, c1, c2, Bool.not_false, exS, exSs, evX, evs, evt, pr, condOf, w_bin, w_neg, w_cmp, w_isn, w_isb, w_and, w_or, w_not, w_ife, w_tup, w_lst, w_star, w_ix, w_sli, w_call, w_bi, w_met, w_isi, w_comp, w_fstr, w_dict0, w_lvals, w_nil, w_cons, w_tst, w_tnot, w_tand, w_tor, w_var, Kg.w_next, w_seq, w_asg, w_set, w_expr, w_ret, w_if, w_for, w_aug, wO_some, wF_some, wA_some, wA_map, wO_ite, wA_ite, isStar, spl, startE, wipeE, bindT, bindTs, List.map_cons, List.map_nil, List.length_cons, List.length_nil, List.replicate, List.cons_append, List.nil_append, List.append_nil, List.append_assoc, Nat.reduceAdd, Nat.reduceSub, Nat.reduceLT, Nat.reduceLeDiff, List.getElem?_cons_zero, List.getElem?_cons_succ, List.getElem?_nil, Option.join_some, Option.join_none, List.set_cons_zero, List.set_cons_succ, if_true, if_false, Bool.false_eq_true, Bool.true_eq_false, reduceIte, reduceCtorEq, true_and, and_true, Option.map_some, Option.map_none, Nat.succ_eq_add_one, Nat.zero_add, Nat.add_zero, List.singleton_append]
      simpa [okTurn] using k0
  | _ =>
    simp only [isTup] at t1
    simp -implicitDefEqProofs only [d3, t1, tru_b, Bool.not_false, exS, exSs, evX, evs, evt, pr, condOf, w_bin, w_neg, w_cmp, w_isn, w_isb, w_and, w_or, w_not, w_ife, w_tup, w_lst, w_star, w_ix, w_sli, w_call, w_bi, w_met, w_isi, w_comp, w_fstr, w_dict0, w_lvals, w_nil, w_cons, w_tst, w_tnot, w_tand, w_tor, w_var, Kg.w_next, w_seq, w_asg, w_set, w_expr, w_ret, w_if, w_for, w_aug, wO_some, wF_some, wA_some, wA_map, wO_ite, wA_ite, isStar, spl, startE, wipeE, bindT, bindTs, List.map_cons, List.map_nil, List.length_cons, List.length_nil, List.replicate, List.cons_append, List.nil_append, List.append_nil, List.append_assoc, Nat.reduceAdd, Nat.reduceSub, Nat.reduceLT, Nat.reduceLeDiff, List.getElem?_cons_zero, List.getElem?_cons_succ, List.getElem?_nil, Option.join_some, Option.join_none, List.set_cons_zero, List.set_cons_succ, if_true, if_false, Bool.false_eq_true, Bool.true_eq_false, reduceIte, reduceCtorEq, true_and, and_true, Option.map_some, Option.map_none, Nat.succ_eq_add_one, Nat.zero_add, Nat.add_zero, List.singleton_append]
    exact k0
end K04
/-! K04l: is_worth_base and is_worth, walked. -/
namespace K04
open PySem Kg
open Classical
variable {n : Nat} {st : Sto} {Q : PV → Sto → Prop}

theorem w_base {d : Nat} {f : PV → Bool} (hs : SpF (n + 1) 4 d f) : SpF (n + 3) 2 (d + 2) (okBase f) := by
  intro st Q x hx k
  have k0 : Q (.bl (okBase f x)) st := by have := k []; rwa [List.append_nil] at this
  obtain ⟨t1, t2, t3⟩ := hx.ty
  rw [w_callF]
  show wA (some d2) _
  rw [wA_some]
  have c0 : ∀ i j s, cop .eq (.int i) (.int j) s = some (decide (i = j)) := fun i j s => cop_eq_i
  have c1 : ∀ i j s, cop .ne (.int i) (.int j) s = some (!decide (i = j)) := fun i j s => by
    have := cop_eq_i (st := s) (i := i) (j := j)
    simp only [cop] at this ⊢
    rw [this]
    rfl
  cases x with
  | tup ws =>
    obtain ⟨hl, hw⟩ := hx.tup
    simp only [isTup] at t1
    match ws, hl, hw, k, k0, t1 with
    | [a, c], hl, hw, k, k0, t1 =>
      simp only [List.mem_cons, List.not_mem_nil, or_false, forall_eq_or_imp, forall_eq] at hw
      have i0 : ∀ s, ixV (.tup [a, c]) (.int 0) s = some a := fun _ => rfl
      have i1 : ∀ s, ixV (.tup [a, c]) (.int 1) s = some c := fun _ => rfl
      have c2 : decide ((((0 + 1 + 1 : Nat)) : Int) = 2) = true := rfl
      have c3 : decide ((((2 : Nat)) : Int) = 2) = true := rfl
      simp -implicitDefEqProofs only [d2, t1, tru_b, Bool.not_true, len_t, c0, c1, i0, i1, c2, c3, exS, exSs, evX, evs, evt, pr, condOf, w_bin, w_neg, w_cmp, w_isn, w_isb, w_and, w_or, w_not, w_ife, w_tup, w_lst, w_star, w_ix, w_sli, w_call, w_bi, w_met, w_isi, w_comp, w_fstr, w_dict0, w_lvals, w_nil, w_cons, w_tst, w_tnot, w_tand, w_tor, w_var, Kg.w_next, w_seq, w_asg, w_set, w_expr, w_ret, w_if, w_for, w_aug, wO_some, wF_some, wA_some, wA_map, wO_ite, wA_ite, isStar, spl, startE, wipeE, bindT, bindTs, List.map_cons, List.map_nil, List.length_cons, List.length_nil, List.replicate, List.cons_append, List.nil_append, List.append_nil, List.append_assoc, Nat.reduceAdd, Nat.reduceSub, Nat.reduceLT, Nat.reduceLeDiff, List.getElem?_cons_zero, List.getElem?_cons_succ, List.getElem?_nil, Option.join_some, Option.join_none, List.set_cons_zero, List.set_cons_succ, if_true, if_false, Bool.false_eq_true, Bool.true_eq_false, reduceIte, reduceCtorEq, true_and, and_true, Option.map_some, Option.map_none, Nat.succ_eq_add_one, Nat.zero_add, Nat.add_zero, List.singleton_append]
      refine w_iswhole hw.1 ?_
      simp -implicitDefEqProofs only [tru_b, exS, exSs, evX, evs, evt, pr, condOf, w_bin, w_neg, w_cmp, w_isn, w_isb, w_and, w_or, w_not, w_ife, w_tup, w_lst, w_star, w_ix, w_sli, w_call, w_bi, w_met, w_isi, w_comp, w_fstr, w_dict0, w_lvals, w_nil, w_cons, w_tst, w_tnot, w_tand, w_tor, w_var, Kg.w_next, w_seq, w_asg, w_set, w_expr, w_ret, w_if, w_for, w_aug, wO_some, wF_some, wA_some, wA_map, wO_ite, wA_ite, isStar, spl, startE, wipeE, bindT, bindTs, List.map_cons, List.map_nil, List.length_cons, List.length_nil, List.replicate, List.cons_append, List.nil_append, List.append_nil, List.append_assoc, Nat.reduceAdd, Nat.reduceSub, Nat.reduceLT, Nat.reduceLeDiff, List.getElem?_cons_zero, List.getElem?_cons_succ, List.getElem?_nil, Option.join_some, Option.join_none, List.set_cons_zero, List.set_cons_succ, if_true, if_false, Bool.false_eq_true, Bool.true_eq_false, reduceIte, reduceCtorEq, true_and, and_true, Option.map_some, Option.map_none, Nat.succ_eq_add_one, Nat.zero_add, Nat.add_zero, List.singleton_append]
      cases h : okWhole 0 0 a with
      | false =>
        simp only [okBase, h, Bool.false_and] at k0
        simpa using k0
      | true =>
        simp only [okBase, h, Bool.true_and] at k0
        simp only [if_true]
        exact w_iswhole hw.2 k0
    | [a, c, r], hl, hw, k, k0, t1 =>
      simp only [List.mem_cons, List.not_mem_nil, or_false, forall_eq_or_imp, forall_eq] at hw
      have i0 : ∀ s, ixV (.tup [a, c, r]) (.int 0) s = some a := fun _ => rfl
      have i1 : ∀ s, ixV (.tup [a, c, r]) (.int 1) s = some c := fun _ => rfl
      have i2 : ∀ s, ixV (.tup [a, c, r]) (.int 2) s = some r := fun _ => rfl
      have c2 : decide ((((3 : Nat)) : Int) = 2) = false := rfl
      have c3 : decide ((((3 : Nat)) : Int) = 3) = true := rfl
      simp -implicitDefEqProofs only [d2, t1, tru_b, Bool.not_true, len_t, c0, c1, i0, i1, i2, c2, c3, exS, exSs, evX, evs, evt, pr, condOf, w_bin, w_neg, w_cmp, w_isn, w_isb, w_and, w_or, w_not, w_ife, w_tup, w_lst, w_star, w_ix, w_sli, w_call, w_bi, w_met, w_isi, w_comp, w_fstr, w_dict0, w_lvals, w_nil, w_cons, w_tst, w_tnot, w_tand, w_tor, w_var, Kg.w_next, w_seq, w_asg, w_set, w_expr, w_ret, w_if, w_for, w_aug, wO_some, wF_some, wA_some, wA_map, wO_ite, wA_ite, isStar, spl, startE, wipeE, bindT, bindTs, List.map_cons, List.map_nil, List.length_cons, List.length_nil, List.replicate, List.cons_append, List.nil_append, List.append_nil, List.append_assoc, Nat.reduceAdd, Nat.reduceSub, Nat.reduceLT, Nat.reduceLeDiff, List.getElem?_cons_zero, List.getElem?_cons_succ, List.getElem?_nil, Option.join_some, Option.join_none, List.set_cons_zero, List.set_cons_succ, if_true, if_false, Bool.false_eq_true, Bool.true_eq_false, reduceIte, reduceCtorEq, true_and, and_true, Option.map_some, Option.map_none, Nat.succ_eq_add_one, Nat.zero_add, Nat.add_zero, List.singleton_append]
      refine w_iswhole hw.1 ?_
      simp -implicitDefEqProofs only [tru_b, exS, exSs, evX, evs, evt, pr, condOf, w_bin, w_neg, w_cmp, w_isn, w_isb, w_and, w_or, w_not, w_ife, w_tup, w_lst, w_star, w_ix, w_sli, w_call, w_bi, w_met, w_isi, w_comp, w_fstr, w_dict0, w_lvals, w_nil, w_cons, w_tst, w_tnot, w_tand, w_tor, w_var, Kg.w_next, w_seq, w_asg, w_set, w_expr, w_ret, w_if, w_for, w_aug, wO_some, wF_some, wA_some, wA_map, wO_ite, wA_ite, isStar, spl, startE, wipeE, bindT, bindTs, List.map_cons, List.map_nil, List.length_cons, List.length_nil, List.replicate, List.cons_append, List.nil_append, List.append_nil, List.append_assoc, Nat.reduceAdd, Nat.reduceSub, Nat.reduceLT, Nat.reduceLeDiff, List.getElem?_cons_zero, List.getElem?_cons_succ, List.getElem?_nil, Option.join_some, Option.join_none, List.set_cons_zero, List.set_cons_succ, if_true, if_false, Bool.false_eq_true, Bool.true_eq_false, reduceIte, reduceCtorEq, true_and, and_true, Option.map_some, Option.map_none, Nat.succ_eq_add_one, Nat.zero_add, Nat.add_zero, List.singleton_append]
      cases h : okWhole 1 1 a with
      | false =>
        simp only [okBase, h, Bool.false_and] at k0
        simpa using k0
      | true =>
        simp only [okBase, h, Bool.true_and] at k k0
        simp only [Bool.not_true, Bool.false_eq_true, if_false]
        refine w_iswhole hw.2.1 ?_
        simp -implicitDefEqProofs only [tru_b, exS, exSs, evX, evs, evt, pr, condOf, w_bin, w_neg, w_cmp, w_isn, w_isb, w_and, w_or, w_not, w_ife, w_tup, w_lst, w_star, w_ix, w_sli, w_call, w_bi, w_met, w_isi, w_comp, w_fstr, w_dict0, w_lvals, w_nil, w_cons, w_tst, w_tnot, w_tand, w_tor, w_var, Kg.w_next, w_seq, w_asg, w_set, w_expr, w_ret, w_if, w_for, w_aug, wO_some, wF_some, wA_some, wA_map, wO_ite, wA_ite, isStar, spl, startE, wipeE, bindT, bindTs, List.map_cons, List.map_nil, List.length_cons, List.length_nil, List.replicate, List.cons_append, List.nil_append, List.append_nil, List.append_assoc, Nat.reduceAdd, Nat.reduceSub, Nat.reduceLT, Nat.reduceLeDiff, List.getElem?_cons_zero, List.getElem?_cons_succ, List.getElem?_nil, Option.join_some, Option.join_none, List.set_cons_zero, List.set_cons_succ, if_true, if_false, Bool.false_eq_true, Bool.true_eq_false, reduceIte, reduceCtorEq, true_and, and_true, Option.map_some, Option.map_none, Nat.succ_eq_add_one, Nat.zero_add, Nat.add_zero, List.singleton_append]
        cases h2 : okWhole 0 99 c with
        | false =>
          simp only [h2, Bool.false_and] at k0
          simpa using k0
        | true =>
          simp only [h2, Bool.true_and] at k
          simp only [if_true]
          exact w_row hs _ _ _ hw.2.2 fun jk => k jk
    | [], _, _, _, k0, t1 => simp -implicitDefEqProofs only [d2, t1, tru_b, Bool.not_true, len_t, c0, c1, exS, exSs, evX, evs, evt, pr, condOf, w_bin, w_neg, w_cmp, w_isn, w_isb, w_and, w_or, w_not, w_ife, w_tup, w_lst, w_star, w_ix, w_sli, w_call, w_bi, w_met, w_isi, w_comp, w_fstr, w_dict0, w_lvals, w_nil, w_cons, w_tst, w_tnot, w_tand, w_tor, w_var, Kg.w_next, w_seq, w_asg, w_set, w_expr, w_ret, w_if, w_for, w_aug, wO_some, wF_some, wA_some, wA_map, wO_ite, wA_ite, isStar, spl, startE, wipeE, bindT, bindTs, List.map_cons, List.map_nil, List.length_cons, List.length_nil, List.replicate, List.cons_append, List.nil_append, List.append_nil, List.append_assoc, Nat.reduceAdd, Nat.reduceSub, Nat.reduceLT, Nat.reduceLeDiff, List.getElem?_cons_zero, List.getElem?_cons_succ, List.getElem?_nil, Option.join_some, Option.join_none, List.set_cons_zero, List.set_cons_succ, if_true, if_false, Bool.false_eq_true, Bool.true_eq_false, reduceIte, reduceCtorEq, true_and, and_true, Option.map_some, Option.map_none, Nat.succ_eq_add_one, Nat.zero_add, Nat.add_zero, List.singleton_append]; simpa [okBase] using k0
    | [_], _, _, _, k0, t1 => simp -implicitDefEqProofs only [d2, t1, tru_b, Bool.not_true, len_t, c0, c1, exS, exSs, evX, evs, evt, pr, condOf, w_bin, w_neg, w_cmp, w_isn, w_isb, w_and, w_or, w_not, w_ife, w_tup, w_lst, w_star, w_ix, w_sli, w_call, w_bi, w_met, w_isi, w_comp, w_fstr, w_dict0, w_lvals, w_nil, w_cons, w_tst, w_tnot, w_tand, w_tor, w_var, Kg.w_next, w_seq, w_asg, w_set, w_expr, w_ret, w_if, w_for, w_aug, wO_some, wF_some, wA_some, wA_map, wO_ite, wA_ite, isStar, spl, startE, wipeE, bindT, bindTs, List.map_cons, List.map_nil, List.length_cons, List.length_nil, List.replicate, List.cons_append, List.nil_append, List.append_nil, List.append_assoc, Nat.reduceAdd, Nat.reduceSub, Nat.reduceLT, Nat.reduceLeDiff, List.getElem?_cons_zero, List.getElem?_cons_succ, List.getElem?_nil, Option.join_some, Option.join_none, List.set_cons_zero, List.set_cons_succ, if_true, if_false, Bool.false_eq_true, Bool.true_eq_false, reduceIte, reduceCtorEq, true_and, and_true, Option.map_some, Option.map_none, Nat.succ_eq_add_one, Nat.zero_add, Nat.add_zero, List.singleton_append]; simpa [okBase] using k0
    | a :: b :: c :: e :: r, _, _, _, k0, t1 =>
      have c2 : decide (((((a :: b :: c :: e :: r : List PV)).length : Nat) : Int) = 2) = false := by simp only [decide_eq_false_iff_not, List.length_cons]; omega
      have c3 : decide (((((a :: b :: c :: e :: r : List PV)).length : Nat) : Int) = 3) = false := by simp only [decide_eq_false_iff_not, List.length_cons]; omega
      simp -implicitDefEqProofs only [List.length_cons] at c2 c3
      simp -implicitDefEqProofs only [d2, t1, tru_b, Bool.not_true, len_t, c0, c1, c2, c3, Bool.not_false, exS, exSs, evX, evs, evt, pr, condOf, w_bin, w_neg, w_cmp, w_isn, w_isb, w_and, w_or, w_not, w_ife, w_tup, w_lst, w_star, w_ix, w_sli, w_call, w_bi, w_met, w_isi, w_comp, w_fstr, w_dict0, w_lvals, w_nil, w_cons, w_tst, w_tnot, w_tand, w_tor, w_var, Kg.w_next, w_seq, w_asg, w_set, w_expr, w_ret, w_if, w_for, w_aug, wO_some, wF_some, wA_some, wA_map, wO_ite, wA_ite, isStar, spl, startE, wipeE, bindT, bindTs, List.map_cons, List.map_nil, List.length_cons, List.length_nil, List.replicate, List.cons_append, List.nil_append, List.append_nil, List.append_assoc, Nat.reduceAdd, Nat.reduceSub, Nat.reduceLT, Nat.reduceLeDiff, List.getElem?_cons_zero, List.getElem?_cons_succ, List.getElem?_nil, Option.join_some, Option.join_none, List.set_cons_zero, List.set_cons_succ, if_true, if_false, Bool.false_eq_true, Bool.true_eq_false, reduceIte, reduceCtorEq, true_and, and_true, Option.map_some, Option.map_none, Nat.succ_eq_add_one, Nat.zero_add, Nat.add_zero, List.singleton_append]
      simpa [okBase] using k0
  | _ =>
    simp only [isTup] at t1
    simp -implicitDefEqProofs only [d2, t1, tru_b, Bool.not_false, exS, exSs, evX, evs, evt, pr, condOf, w_bin, w_neg, w_cmp, w_isn, w_isb, w_and, w_or, w_not, w_ife, w_tup, w_lst, w_star, w_ix, w_sli, w_call, w_bi, w_met, w_isi, w_comp, w_fstr, w_dict0, w_lvals, w_nil, w_cons, w_tst, w_tnot, w_tand, w_tor, w_var, Kg.w_next, w_seq, w_asg, w_set, w_expr, w_ret, w_if, w_for, w_aug, wO_some, wF_some, wA_some, wA_map, wO_ite, wA_ite, isStar, spl, startE, wipeE, bindT, bindTs, List.map_cons, List.map_nil, List.length_cons, List.length_nil, List.replicate, List.cons_append, List.nil_append, List.append_nil, List.append_assoc, Nat.reduceAdd, Nat.reduceSub, Nat.reduceLT, Nat.reduceLeDiff, List.getElem?_cons_zero, List.getElem?_cons_succ, List.getElem?_nil, Option.join_some, Option.join_none, List.set_cons_zero, List.set_cons_succ, if_true, if_false, Bool.false_eq_true, Bool.true_eq_false, reduceIte, reduceCtorEq, true_and, and_true, Option.map_some, Option.map_none, Nat.succ_eq_add_one, Nat.zero_add, Nat.add_zero, List.singleton_append]
    exact k0
end K04
/-! K04m: is_worth, walked. -/
namespace K04
open PySem Kg
open Classical
variable {n : Nat} {st : Sto} {Q : PV → Sto → Prop}

theorem w_worthS {d k : Nat} (hk : k ≤ 300) (hs : SpF (n + 1) 4 d (okW k)) : SpF (n + 4) 4 (d + 3) (okW (k + 1)) := by
  intro st Q x hx kk
  show wO _ _
  have e : okW (k + 1) = okWF (okW k) := rfl
  rw [e] at kk
  have k0 : Q (.bl (okWF (okW k) x)) st := by have := kk []; rwa [List.append_nil] at this
  obtain ⟨t1, t2, t3⟩ := hx.ty
  rw [w_callF]
  show wA (some d4) _
  rw [wA_some]
  have c1 : ∀ i j s, cop .ne (.int i) (.int j) s = some (!decide (i = j)) := fun i j s => by
    have := cop_eq_i (st := s) (i := i) (j := j)
    simp only [cop] at this ⊢
    rw [this]
    rfl
  cases x with
  | tup ws =>
    obtain ⟨hl, hw⟩ := hx.tup
    simp only [isTup] at t1
    match ws, hl, hw, kk, k0, t1 with
    | [b, g], hl, hw, kk, k0, t1 =>
      simp only [List.mem_cons, List.not_mem_nil, or_false, forall_eq_or_imp, forall_eq] at hw
      have c3 : decide ((((2 : Nat)) : Int) = 2) = true := rfl
      simp -implicitDefEqProofs only [d4, t1, tru_b, Bool.not_true, len_t, c1, c3, exS, exSs, evX, evs, evt, pr, condOf, w_bin, w_neg, w_cmp, w_isn, w_isb, w_and, w_or, w_not, w_ife, w_tup, w_lst, w_star, w_ix, w_sli, w_call, w_bi, w_met, w_isi, w_comp, w_fstr, w_dict0, w_lvals, w_nil, w_cons, w_tst, w_tnot, w_tand, w_tor, w_var, Kg.w_next, w_seq, w_asg, w_set, w_expr, w_ret, w_if, w_for, w_aug, wO_some, wF_some, wA_some, wA_map, wO_ite, wA_ite, isStar, spl, startE, wipeE, bindT, bindTs, List.map_cons, List.map_nil, List.length_cons, List.length_nil, List.replicate, List.cons_append, List.nil_append, List.append_nil, List.append_assoc, Nat.reduceAdd, Nat.reduceSub, Nat.reduceLT, Nat.reduceLeDiff, List.getElem?_cons_zero, List.getElem?_cons_succ, List.getElem?_nil, Option.join_some, Option.join_none, List.set_cons_zero, List.set_cons_succ, if_true, if_false, Bool.false_eq_true, Bool.true_eq_false, reduceIte, reduceCtorEq, true_and, and_true, Option.map_some, Option.map_none, Nat.succ_eq_add_one, Nat.zero_add, Nat.add_zero, List.singleton_append]
      refine w_base hs _ _ _ hw.1 fun jk => ?_
      obtain ⟨g1, g2, g3⟩ := (hw.2.app (jk := jk)).ty
      simp -implicitDefEqProofs only [tru_b, exS, exSs, evX, evs, evt, pr, condOf, w_bin, w_neg, w_cmp, w_isn, w_isb, w_and, w_or, w_not, w_ife, w_tup, w_lst, w_star, w_ix, w_sli, w_call, w_bi, w_met, w_isi, w_comp, w_fstr, w_dict0, w_lvals, w_nil, w_cons, w_tst, w_tnot, w_tand, w_tor, w_var, Kg.w_next, w_seq, w_asg, w_set, w_expr, w_ret, w_if, w_for, w_aug, wO_some, wF_some, wA_some, wA_map, wO_ite, wA_ite, isStar, spl, startE, wipeE, bindT, bindTs, List.map_cons, List.map_nil, List.length_cons, List.length_nil, List.replicate, List.cons_append, List.nil_append, List.append_nil, List.append_assoc, Nat.reduceAdd, Nat.reduceSub, Nat.reduceLT, Nat.reduceLeDiff, List.getElem?_cons_zero, List.getElem?_cons_succ, List.getElem?_nil, Option.join_some, Option.join_none, List.set_cons_zero, List.set_cons_succ, if_true, if_false, Bool.false_eq_true, Bool.true_eq_false, reduceIte, reduceCtorEq, true_and, and_true, Option.map_some, Option.map_none, Nat.succ_eq_add_one, Nat.zero_add, Nat.add_zero, List.singleton_append]
      cases h : okBase (okW k) b with
      | false =>
        have : okWF (okW k) (.tup [b, g]) = false := by unfold okWF; split <;> simp_all
        rw [this] at kk
        simp -implicitDefEqProofs only [tru_b, Bool.not_false, exS, exSs, evX, evs, evt, pr, condOf, w_bin, w_neg, w_cmp, w_isn, w_isb, w_and, w_or, w_not, w_ife, w_tup, w_lst, w_star, w_ix, w_sli, w_call, w_bi, w_met, w_isi, w_comp, w_fstr, w_dict0, w_lvals, w_nil, w_cons, w_tst, w_tnot, w_tand, w_tor, w_var, Kg.w_next, w_seq, w_asg, w_set, w_expr, w_ret, w_if, w_for, w_aug, wO_some, wF_some, wA_some, wA_map, wO_ite, wA_ite, isStar, spl, startE, wipeE, bindT, bindTs, List.map_cons, List.map_nil, List.length_cons, List.length_nil, List.replicate, List.cons_append, List.nil_append, List.append_nil, List.append_assoc, Nat.reduceAdd, Nat.reduceSub, Nat.reduceLT, Nat.reduceLeDiff, List.getElem?_cons_zero, List.getElem?_cons_succ, List.getElem?_nil, Option.join_some, Option.join_none, List.set_cons_zero, List.set_cons_succ, if_true, if_false, Bool.false_eq_true, Bool.true_eq_false, reduceIte, reduceCtorEq, true_and, and_true, Option.map_some, Option.map_none, Nat.succ_eq_add_one, Nat.zero_add, Nat.add_zero, List.singleton_append]
        exact kk jk
      | true =>
        simp -implicitDefEqProofs only [tru_b, Bool.not_true, g1, exS, exSs, evX, evs, evt, pr, condOf, w_bin, w_neg, w_cmp, w_isn, w_isb, w_and, w_or, w_not, w_ife, w_tup, w_lst, w_star, w_ix, w_sli, w_call, w_bi, w_met, w_isi, w_comp, w_fstr, w_dict0, w_lvals, w_nil, w_cons, w_tst, w_tnot, w_tand, w_tor, w_var, Kg.w_next, w_seq, w_asg, w_set, w_expr, w_ret, w_if, w_for, w_aug, wO_some, wF_some, wA_some, wA_map, wO_ite, wA_ite, isStar, spl, startE, wipeE, bindT, bindTs, List.map_cons, List.map_nil, List.length_cons, List.length_nil, List.replicate, List.cons_append, List.nil_append, List.append_nil, List.append_assoc, Nat.reduceAdd, Nat.reduceSub, Nat.reduceLT, Nat.reduceLeDiff, List.getElem?_cons_zero, List.getElem?_cons_succ, List.getElem?_nil, Option.join_some, Option.join_none, List.set_cons_zero, List.set_cons_succ, if_true, if_false, Bool.false_eq_true, Bool.true_eq_false, reduceIte, reduceCtorEq, true_and, and_true, Option.map_some, Option.map_none, Nat.succ_eq_add_one, Nat.zero_add, Nat.add_zero, List.singleton_append]
        cases g with
        | tup bag =>
          obtain ⟨hl2, hw2⟩ := hw.2.tup
          simp only [isTup, okWF, h, Bool.true_and] at kk ⊢
          simp -implicitDefEqProofs only [tru_b, Bool.not_true, seq_tup, exS, exSs, evX, evs, evt, pr, condOf, w_bin, w_neg, w_cmp, w_isn, w_isb, w_and, w_or, w_not, w_ife, w_tup, w_lst, w_star, w_ix, w_sli, w_call, w_bi, w_met, w_isi, w_comp, w_fstr, w_dict0, w_lvals, w_nil, w_cons, w_tst, w_tnot, w_tand, w_tor, w_var, Kg.w_next, w_seq, w_asg, w_set, w_expr, w_ret, w_if, w_for, w_aug, wO_some, wF_some, wA_some, wA_map, wO_ite, wA_ite, isStar, spl, startE, wipeE, bindT, bindTs, List.map_cons, List.map_nil, List.length_cons, List.length_nil, List.replicate, List.cons_append, List.nil_append, List.append_nil, List.append_assoc, Nat.reduceAdd, Nat.reduceSub, Nat.reduceLT, Nat.reduceLeDiff, List.getElem?_cons_zero, List.getElem?_cons_succ, List.getElem?_nil, Option.join_some, Option.join_none, List.set_cons_zero, List.set_cons_succ, if_true, if_false, Bool.false_eq_true, Bool.true_eq_false, reduceIte, reduceCtorEq, true_and, and_true, Option.map_some, Option.map_none, Nat.succ_eq_add_one, Nat.zero_add, Nat.add_zero, List.singleton_append]
          refine w_compMap (fun x => .bl (okTurn (okW k) x)) trivial (by rw [sizeLine_eq]; omega) (fun w hww jk' Q hQ => ?_) fun jk' => ?_
          · simp -implicitDefEqProofs only [tru_b, exS, exSs, evX, evs, evt, pr, condOf, w_bin, w_neg, w_cmp, w_isn, w_isb, w_and, w_or, w_not, w_ife, w_tup, w_lst, w_star, w_ix, w_sli, w_call, w_bi, w_met, w_isi, w_comp, w_fstr, w_dict0, w_lvals, w_nil, w_cons, w_tst, w_tnot, w_tand, w_tor, w_var, Kg.w_next, w_seq, w_asg, w_set, w_expr, w_ret, w_if, w_for, w_aug, wO_some, wF_some, wA_some, wA_map, wO_ite, wA_ite, isStar, spl, startE, wipeE, bindT, bindTs, List.map_cons, List.map_nil, List.length_cons, List.length_nil, List.replicate, List.cons_append, List.nil_append, List.append_nil, List.append_assoc, Nat.reduceAdd, Nat.reduceSub, Nat.reduceLT, Nat.reduceLeDiff, List.getElem?_cons_zero, List.getElem?_cons_succ, List.getElem?_nil, Option.join_some, Option.join_none, List.set_cons_zero, List.set_cons_succ, if_true, if_false, Bool.false_eq_true, Bool.true_eq_false, reduceIte, reduceCtorEq, true_and, and_true, Option.map_some, Option.map_none, Nat.succ_eq_add_one, Nat.zero_add, Nat.add_zero, List.singleton_append]
            refine w_turn hs _ _ _ (hw2 w hww).up.app fun jk'' => ?_
            have := hQ jk''
            simpa only [List.append_assoc] using this
          · rw [all_bl]
            simp -implicitDefEqProofs only [tru_b, exS, exSs, evX, evs, evt, pr, condOf, w_bin, w_neg, w_cmp, w_isn, w_isb, w_and, w_or, w_not, w_ife, w_tup, w_lst, w_star, w_ix, w_sli, w_call, w_bi, w_met, w_isi, w_comp, w_fstr, w_dict0, w_lvals, w_nil, w_cons, w_tst, w_tnot, w_tand, w_tor, w_var, Kg.w_next, w_seq, w_asg, w_set, w_expr, w_ret, w_if, w_for, w_aug, wO_some, wF_some, wA_some, wA_map, wO_ite, wA_ite, isStar, spl, startE, wipeE, bindT, bindTs, List.map_cons, List.map_nil, List.length_cons, List.length_nil, List.replicate, List.cons_append, List.nil_append, List.append_nil, List.append_assoc, Nat.reduceAdd, Nat.reduceSub, Nat.reduceLT, Nat.reduceLeDiff, List.getElem?_cons_zero, List.getElem?_cons_succ, List.getElem?_nil, Option.join_some, Option.join_none, List.set_cons_zero, List.set_cons_succ, if_true, if_false, Bool.false_eq_true, Bool.true_eq_false, reduceIte, reduceCtorEq, true_and, and_true, Option.map_some, Option.map_none, Nat.succ_eq_add_one, Nat.zero_add, Nat.add_zero, List.singleton_append]
            cases h2 : bag.all (okTurn (okW k)) with
            | false =>
              simp only [h2, Bool.false_and] at kk
              simp only [Bool.not_false, if_true]
              exact kk _
            | true =>
              simp only [h2, Bool.true_and] at kk
              simp only [Bool.not_true, Bool.false_eq_true, if_false]
              rw [List.all_eq_true] at h2
              have hT : ∀ t ∈ bag, TT (XX k) t := fun t ht => okTurn_eq (fun w => okW_eq) (h2 t ht)
              have hP : ∀ t ∈ bag, isP t = true := fun t ht => (hT t ht).isP fun w => XX.isP
              have hD : ∀ t ∈ bag, dpt t + 1 ≤ dLim := fun t ht => by
                have := (hT t ht).dpt (d := 4 * k) fun w hw => XX.dpt hw
                unfold dLim
                omega
              have ok : srtOk bag := srtOk_P hP (fun a ha b hb => (hT a ha).alike (fun w hw v hv => XX.alike hw v hv) (hT b hb))
                (fun x hx => by obtain ⟨nm, ws, _, _, rfl, _⟩ := hT x hx; exact ⟨_, _, rfl⟩) (fun x hx => by have := hD x hx; omega) (by rw [sizeLine_eq]; omega)
              simp -implicitDefEqProofs only [tru_b, list_t, sorted_t ok, exS, exSs, evX, evs, evt, pr, condOf, w_bin, w_neg, w_cmp, w_isn, w_isb, w_and, w_or, w_not, w_ife, w_tup, w_lst, w_star, w_ix, w_sli, w_call, w_bi, w_met, w_isi, w_comp, w_fstr, w_dict0, w_lvals, w_nil, w_cons, w_tst, w_tnot, w_tand, w_tor, w_var, Kg.w_next, w_seq, w_asg, w_set, w_expr, w_ret, w_if, w_for, w_aug, wO_some, wF_some, wA_some, wA_map, wO_ite, wA_ite, isStar, spl, startE, wipeE, bindT, bindTs, List.map_cons, List.map_nil, List.length_cons, List.length_nil, List.replicate, List.cons_append, List.nil_append, List.append_nil, List.append_assoc, Nat.reduceAdd, Nat.reduceSub, Nat.reduceLT, Nat.reduceLeDiff, List.getElem?_cons_zero, List.getElem?_cons_succ, List.getElem?_nil, Option.join_some, Option.join_none, List.set_cons_zero, List.set_cons_succ, if_true, if_false, Bool.false_eq_true, Bool.true_eq_false, reduceIte, reduceCtorEq, true_and, and_true, Option.map_some, Option.map_none, Nat.succ_eq_add_one, Nat.zero_add, Nat.add_zero, List.singleton_append]
              rw [cop_eq_ll (xs := bag) (ys := srt bag) (by simp) (by simp) hP (fun x hx => hP x (srt_mem.mp hx)) hD]
              simp -implicitDefEqProofs only [tru_b, exS, exSs, evX, evs, evt, pr, condOf, w_bin, w_neg, w_cmp, w_isn, w_isb, w_and, w_or, w_not, w_ife, w_tup, w_lst, w_star, w_ix, w_sli, w_call, w_bi, w_met, w_isi, w_comp, w_fstr, w_dict0, w_lvals, w_nil, w_cons, w_tst, w_tnot, w_tand, w_tor, w_var, Kg.w_next, w_seq, w_asg, w_set, w_expr, w_ret, w_if, w_for, w_aug, wO_some, wF_some, wA_some, wA_map, wO_ite, wA_ite, isStar, spl, startE, wipeE, bindT, bindTs, List.map_cons, List.map_nil, List.length_cons, List.length_nil, List.replicate, List.cons_append, List.nil_append, List.append_nil, List.append_assoc, Nat.reduceAdd, Nat.reduceSub, Nat.reduceLT, Nat.reduceLeDiff, List.getElem?_cons_zero, List.getElem?_cons_succ, List.getElem?_nil, Option.join_some, Option.join_none, List.set_cons_zero, List.set_cons_succ, if_true, if_false, Bool.false_eq_true, Bool.true_eq_false, reduceIte, reduceCtorEq, true_and, and_true, Option.map_some, Option.map_none, Nat.succ_eq_add_one, Nat.zero_add, Nat.add_zero, List.singleton_append]
              exact kk _
        | _ =>
          simp only [isTup, okWF] at kk ⊢
          simp -implicitDefEqProofs only [tru_b, Bool.not_false, exS, exSs, evX, evs, evt, pr, condOf, w_bin, w_neg, w_cmp, w_isn, w_isb, w_and, w_or, w_not, w_ife, w_tup, w_lst, w_star, w_ix, w_sli, w_call, w_bi, w_met, w_isi, w_comp, w_fstr, w_dict0, w_lvals, w_nil, w_cons, w_tst, w_tnot, w_tand, w_tor, w_var, Kg.w_next, w_seq, w_asg, w_set, w_expr, w_ret, w_if, w_for, w_aug, wO_some, wF_some, wA_some, wA_map, wO_ite, wA_ite, isStar, spl, startE, wipeE, bindT, bindTs, List.map_cons, List.map_nil, List.length_cons, List.length_nil, List.replicate, List.cons_append, List.nil_append, List.append_nil, List.append_assoc, Nat.reduceAdd, Nat.reduceSub, Nat.reduceLT, Nat.reduceLeDiff, List.getElem?_cons_zero, List.getElem?_cons_succ, List.getElem?_nil, Option.join_some, Option.join_none, List.set_cons_zero, List.set_cons_succ, if_true, if_false, Bool.false_eq_true, Bool.true_eq_false, reduceIte, reduceCtorEq, true_and, and_true, Option.map_some, Option.map_none, Nat.succ_eq_add_one, Nat.zero_add, Nat.add_zero, List.singleton_append]
          exact kk jk
    | [], _, _, _, k0, t1 => simp -implicitDefEqProofs only [d4, t1, tru_b, Bool.not_true, len_t, c1, exS, exSs, evX, evs, evt, pr, condOf, w_bin, w_neg, w_cmp, w_isn, w_isb, w_and, w_or, w_not, w_ife, w_tup, w_lst, w_star, w_ix, w_sli, w_call, w_bi, w_met, w_isi, w_comp, w_fstr, w_dict0, w_lvals, w_nil, w_cons, w_tst, w_tnot, w_tand, w_tor, w_var, Kg.w_next, w_seq, w_asg, w_set, w_expr, w_ret, w_if, w_for, w_aug, wO_some, wF_some, wA_some, wA_map, wO_ite, wA_ite, isStar, spl, startE, wipeE, bindT, bindTs, List.map_cons, List.map_nil, List.length_cons, List.length_nil, List.replicate, List.cons_append, List.nil_append, List.append_nil, List.append_assoc, Nat.reduceAdd, Nat.reduceSub, Nat.reduceLT, Nat.reduceLeDiff, List.getElem?_cons_zero, List.getElem?_cons_succ, List.getElem?_nil, Option.join_some, Option.join_none, List.set_cons_zero, List.set_cons_succ, if_true, if_false, Bool.false_eq_true, Bool.true_eq_false, reduceIte, reduceCtorEq, true_and, and_true, Option.map_some, Option.map_none, Nat.succ_eq_add_one, Nat.zero_add, Nat.add_zero, List.singleton_append]; simpa [okWF] using k0
    | [_], _, _, _, k0, t1 => simp -implicitDefEqProofs only [d4, t1, tru_b, Bool.not_true, len_t, c1, exS, exSs, evX, evs, evt, pr, condOf, w_bin, w_neg, w_cmp, w_isn, w_isb, w_and, w_or, w_not, w_ife, w_tup, w_lst, w_star, w_ix, w_sli, w_call, w_bi, w_met, w_isi, w_comp, w_fstr, w_dict0, w_lvals, w_nil, w_cons, w_tst, w_tnot, w_tand, w_tor, w_var, Kg.w_next, w_seq, w_asg, w_set, w_expr, w_ret, w_if, w_for, w_aug, wO_some, wF_some, wA_some, wA_map, wO_ite, wA_ite, isStar, spl, startE, wipeE, bindT, bindTs, List.map_cons, List.map_nil, List.length_cons, List.length_nil, List.replicate, List.cons_append, List.nil_append, List.append_nil, List.append_assoc, Nat.reduceAdd, Nat.reduceSub, Nat.reduceLT, Nat.reduceLeDiff, List.getElem?_cons_zero, List.getElem?_cons_succ, List.getElem?_nil, Option.join_some, Option.join_none, List.set_cons_zero, List.set_cons_succ, if_true, if_false, Bool.false_eq_true, Bool.true_eq_false, reduceIte, reduceCtorEq, true_and, and_true, Option.map_some, Option.map_none, Nat.succ_eq_add_one, Nat.zero_add, Nat.add_zero, List.singleton_append]; simpa [okWF] using k0
    | a :: b :: c :: r, _, _, _, k0, t1 =>
      have c2 : decide (((((a :: b :: c :: r : List PV)).length : Nat) : Int) = 2) = false := by simp only [decide_eq_false_iff_not, List.length_cons]; omega
      simp -implicitDefEqProofs only [List.length_cons] at c2
      simp -implicitDefEqProofs only [d4, t1, tru_b, Bool.not_true, len_t, c1, c2, Bool.not_false, exS, exSs, evX, evs, evt, pr, condOf, w_bin, w_neg, w_cmp, w_isn, w_isb, w_and, w_or, w_not, w_ife, w_tup, w_lst, w_star, w_ix, w_sli, w_call, w_bi, w_met, w_isi, w_comp, w_fstr, w_dict0, w_lvals, w_nil, w_cons, w_tst, w_tnot, w_tand, w_tor, w_var, Kg.w_next, w_seq, w_asg, w_set, w_expr, w_ret, w_if, w_for, w_aug, wO_some, wF_some, wA_some, wA_map, wO_ite, wA_ite, isStar, spl, startE, wipeE, bindT, bindTs, List.map_cons, List.map_nil, List.length_cons, List.length_nil, List.replicate, List.cons_append, List.nil_append, List.append_nil, List.append_assoc, Nat.reduceAdd, Nat.reduceSub, Nat.reduceLT, Nat.reduceLeDiff, List.getElem?_cons_zero, List.getElem?_cons_succ, List.getElem?_nil, Option.join_some, Option.join_none, List.set_cons_zero, List.set_cons_succ, if_true, if_false, Bool.false_eq_true, Bool.true_eq_false, reduceIte, reduceCtorEq, true_and, and_true, Option.map_some, Option.map_none, Nat.succ_eq_add_one, Nat.zero_add, Nat.add_zero, List.singleton_append]
      simpa [okWF] using k0
  | _ =>
    simp only [isTup] at t1
    simp -implicitDefEqProofs only [d4, t1, tru_b, Bool.not_false, exS, exSs, evX, evs, evt, pr, condOf, w_bin, w_neg, w_cmp, w_isn, w_isb, w_and, w_or, w_not, w_ife, w_tup, w_lst, w_star, w_ix, w_sli, w_call, w_bi, w_met, w_isi, w_comp, w_fstr, w_dict0, w_lvals, w_nil, w_cons, w_tst, w_tnot, w_tand, w_tor, w_var, Kg.w_next, w_seq, w_asg, w_set, w_expr, w_ret, w_if, w_for, w_aug, wO_some, wF_some, wA_some, wA_map, wO_ite, wA_ite, isStar, spl, startE, wipeE, bindT, bindTs, List.map_cons, List.map_nil, List.length_cons, List.length_nil, List.replicate, List.cons_append, List.nil_append, List.append_nil, List.append_assoc, Nat.reduceAdd, Nat.reduceSub, Nat.reduceLT, Nat.reduceLeDiff, List.getElem?_cons_zero, List.getElem?_cons_succ, List.getElem?_nil, Option.join_some, Option.join_none, List.set_cons_zero, List.set_cons_succ, if_true, if_false, Bool.false_eq_true, Bool.true_eq_false, reduceIte, reduceCtorEq, true_and, and_true, Option.map_some, Option.map_none, Nat.succ_eq_add_one, Nat.zero_add, Nat.add_zero, List.singleton_append]
    exact k0
theorem w_worth0 : SpF (n + 1) 4 0 (okW 0) := by
  intro st Q x hx kk
  have k0 : Q (.bl false) st := by have := kk []; rwa [List.append_nil] at this
  obtain ⟨t1, t2, t3⟩ := hx.ty
  rw [w_callF]
  show wA (some d4) _
  rw [wA_some]
  cases x with
  | tup ws => exact hx.tup0.elim
  | _ =>
    simp only [isTup] at t1
    simp -implicitDefEqProofs only [d4, t1, tru_b, Bool.not_false, exS, exSs, evX, evs, evt, pr, condOf, w_bin, w_neg, w_cmp, w_isn, w_isb, w_and, w_or, w_not, w_ife, w_tup, w_lst, w_star, w_ix, w_sli, w_call, w_bi, w_met, w_isi, w_comp, w_fstr, w_dict0, w_lvals, w_nil, w_cons, w_tst, w_tnot, w_tand, w_tor, w_var, Kg.w_next, w_seq, w_asg, w_set, w_expr, w_ret, w_if, w_for, w_aug, wO_some, wF_some, wA_some, wA_map, wO_ite, wA_ite, isStar, spl, startE, wipeE, bindT, bindTs, List.map_cons, List.map_nil, List.length_cons, List.length_nil, List.replicate, List.cons_append, List.nil_append, List.append_nil, List.append_assoc, Nat.reduceAdd, Nat.reduceSub, Nat.reduceLT, Nat.reduceLeDiff, List.getElem?_cons_zero, List.getElem?_cons_succ, List.getElem?_nil, Option.join_some, Option.join_none, List.set_cons_zero, List.set_cons_succ, if_true, if_false, Bool.false_eq_true, Bool.true_eq_false, reduceIte, reduceCtorEq, true_and, and_true, Option.map_some, Option.map_none, Nat.succ_eq_add_one, Nat.zero_add, Nat.add_zero, List.singleton_append]
    exact k0
theorem w_worth : ∀ {k : Nat}, k ≤ 300 → SpF (n + 3 * k + 1) 4 (3 * k) (okW k)
  | 0, _ => w_worth0
  | k + 1, hk => w_worthS (n := n + 3 * k) (by omega) (w_worth (by omega))
end K04
/-! K04n: the law's texts. -/
namespace K04
open PySem Kg
open Classical
variable {n : Nat} {st : Sto} {Q : PV → Sto → Prop}

theorem bop_add_s {a b : List Nat} (h : a.length + b.length ≤ 16777216) : bop .add (.str (mkS a)) (.str (mkS b)) st = some (.str (mkS (a ++ b)), st) := by
  simp only [bop, mkS_len]
  rw [if_pos (by rw [sizeLine_eq]; exact h), mkS_app]
theorem str_dg {c : Int} (c0 : 0 ≤ c) (c1 : c < 100) : biV .str [.int c] st = some (.str (mkS (dg c)), st) := by
  simp only [biV]
  rw [if_pos (log2_small c0 c1)]
  unfold dg
  rw [mkS_eta]
theorem bl_app {f : PV → List Nat} {t : PV} : ∀ zs : List PV, bl f (zs ++ [t]) = bl f zs ++ (32 :: 43 :: 32 :: tl1 f t)
  | [] => by simp [bl]
  | z :: zs => by simp [bl, bl_app zs]
theorem argl_lenC {f : PV → List Nat} {c : Nat} {ws : List PV} (hl : ws.length ≤ 4) (hc : ∀ w ∈ ws, (f w).length ≤ c) : (argl f ws).length ≤ 4 * c + 8 := by
  have : ∀ ws : List PV, (∀ w ∈ ws, (f w).length ≤ c) → (argl f ws).length ≤ ws.length * c + 2 * ws.length := by
    intro ws
    induction ws with
    | nil => simp [argl]
    | cons w ws ih =>
      intro h
      have h1 := h w (by simp)
      have h2 := ih fun v hv => h v (by simp [hv])
      cases ws with
      | nil => simp only [argl, List.length_cons, List.length_nil]; omega
      | cons v ws =>
        simp only [argl, List.length_append, List.length_cons] at h2 ⊢
        rw [Nat.add_mul] at h2 ⊢
        rw [Nat.add_mul]
        omega
  have h1 := this ws hc
  have h2 : ws.length * c ≤ 4 * c := Nat.mul_le_mul_right _ hl
  omega
theorem w_cdue {f : PV → List Nat} {nm : Int} {ws : List PV} {c : Nat} (h0 : 0 ≤ nm) (h1 : nm < 100) (hl : ws.length ≤ 4) (hc : ∀ w ∈ ws, (f w).length ≤ c) (hc2 : c ≤ 1000000)
    (hf : ∀ w ∈ ws, ∀ (st : Sto) (Q : PV → Sto → Prop), (∀ jk, Q (.str (mkS (f w))) (st ++ jk)) → wO (callF ds n 28 [w] st) Q)
    (k : ∀ jk, Q (.str (mkS (cl f nm ws))) (st ++ jk)) : wO (callF ds (n + 1) 27 [.int nm, .tup ws] st) Q := by
  rw [w_callF]
  show wA (some d27) _
  rw [wA_some]
  have hd := dg_len h0 h1
  have ha := argl_lenC hl hc
  have hp1 : (Str.ofString "(") = (mkS [40]) := by decide +kernel
  have hp2 : (Str.ofString ")") = (mkS [41]) := by decide +kernel
  simp -implicitDefEqProofs only [d27, seq_tup, kindM, str_dg h0 h1, hp1, hp2, exS, exSs, evX, evs, evt, pr, condOf, w_bin, w_neg, w_cmp, w_isn, w_isb, w_and, w_or, w_not, w_ife, w_tup, w_lst, w_star, w_ix, w_sli, w_call, w_bi, w_met, w_isi, w_comp, w_fstr, w_dict0, w_lvals, w_nil, w_cons, w_tst, w_tnot, w_tand, w_tor, w_var, Kg.w_next, w_seq, w_asg, w_set, w_expr, w_ret, w_if, w_for, w_aug, wO_some, wF_some, wA_some, wA_map, wO_ite, wA_ite, isStar, spl, startE, wipeE, bindT, bindTs, List.map_cons, List.map_nil, List.length_cons, List.length_nil, List.replicate, List.cons_append, List.nil_append, List.append_nil, List.append_assoc, Nat.reduceAdd, Nat.reduceSub, Nat.reduceLT, Nat.reduceLeDiff, List.getElem?_cons_zero, List.getElem?_cons_succ, List.getElem?_nil, Option.join_some, Option.join_none, List.set_cons_zero, List.set_cons_succ, if_true, if_false, Bool.false_eq_true, Bool.true_eq_false, reduceIte, reduceCtorEq, true_and, and_true, Option.map_some, Option.map_none, Nat.succ_eq_add_one, Nat.zero_add, Nat.add_zero, List.singleton_append]
  rw [bop_add_s (by simp; omega)]
  simp -implicitDefEqProofs only [seq_tup, kindM, exS, exSs, evX, evs, evt, pr, condOf, w_bin, w_neg, w_cmp, w_isn, w_isb, w_and, w_or, w_not, w_ife, w_tup, w_lst, w_star, w_ix, w_sli, w_call, w_bi, w_met, w_isi, w_comp, w_fstr, w_dict0, w_lvals, w_nil, w_cons, w_tst, w_tnot, w_tand, w_tor, w_var, Kg.w_next, w_seq, w_asg, w_set, w_expr, w_ret, w_if, w_for, w_aug, wO_some, wF_some, wA_some, wA_map, wO_ite, wA_ite, isStar, spl, startE, wipeE, bindT, bindTs, List.map_cons, List.map_nil, List.length_cons, List.length_nil, List.replicate, List.cons_append, List.nil_append, List.append_nil, List.append_assoc, Nat.reduceAdd, Nat.reduceSub, Nat.reduceLT, Nat.reduceLeDiff, List.getElem?_cons_zero, List.getElem?_cons_succ, List.getElem?_nil, Option.join_some, Option.join_none, List.set_cons_zero, List.set_cons_succ, if_true, if_false, Bool.false_eq_true, Bool.true_eq_false, reduceIte, reduceCtorEq, true_and, and_true, Option.map_some, Option.map_none, Nat.succ_eq_add_one, Nat.zero_add, Nat.add_zero, List.singleton_append]
  refine w_compMap (fun w => .str (mkS (f w))) (trivial : itOk none st) (sz24 (by omega)) (fun w hw jk Q hQ => ?_) fun jk => ?_
  · simp -implicitDefEqProofs only [exS, exSs, evX, evs, evt, pr, condOf, w_bin, w_neg, w_cmp, w_isn, w_isb, w_and, w_or, w_not, w_ife, w_tup, w_lst, w_star, w_ix, w_sli, w_call, w_bi, w_met, w_isi, w_comp, w_fstr, w_dict0, w_lvals, w_nil, w_cons, w_tst, w_tnot, w_tand, w_tor, w_var, Kg.w_next, w_seq, w_asg, w_set, w_expr, w_ret, w_if, w_for, w_aug, wO_some, wF_some, wA_some, wA_map, wO_ite, wA_ite, isStar, spl, startE, wipeE, bindT, bindTs, List.map_cons, List.map_nil, List.length_cons, List.length_nil, List.replicate, List.cons_append, List.nil_append, List.append_nil, List.append_assoc, Nat.reduceAdd, Nat.reduceSub, Nat.reduceLT, Nat.reduceLeDiff, List.getElem?_cons_zero, List.getElem?_cons_succ, List.getElem?_nil, Option.join_some, Option.join_none, List.set_cons_zero, List.set_cons_succ, if_true, if_false, Bool.false_eq_true, Bool.true_eq_false, reduceIte, reduceCtorEq, true_and, and_true, Option.map_some, Option.map_none, Nat.succ_eq_add_one, Nat.zero_add, Nat.add_zero, List.singleton_append]
    refine hf w hw _ _ fun jk' => ?_
    rw [List.append_assoc]
    exact hQ jk'
  · have e : ws.map (fun w => PV.str (mkS (f w))) = (ws.map fun w => mkS (f w)).map PV.str := by rw [List.map_map]; rfl
    rw [e]
    have hg : (st ++ jk ++ [Ob.lst ((ws.map fun w => mkS (f w)).map PV.str)])[(st ++ jk).length]? = some (.lst ((ws.map fun w => mkS (f w)).map PV.str)) := by simp
    have hs := sum_le hc
    have hs2 : ws.length * c ≤ 4 * 1000000 := Nat.mul_le_mul hl hc2
    have hj : meV .join (.str (Str.ofString ", ")) [.ref (st ++ jk).length] (st ++ jk ++ [Ob.lst ((ws.map fun w => mkS (f w)).map PV.str)]) = some (.str (mkS (argl f ws)), st ++ jk ++ [Ob.lst ((ws.map fun w => mkS (f w)).map PV.str)]) := by
      rw [join_l hg (by
        rw [List.length_map, show (Str.ofString ", ").length = 2 from by decide +kernel]
        omega), join_args]
    have hj2 : meV .join (.str (Str.ofString ", ")) [.ref (st ++ jk).length] (st ++ (jk ++ [Ob.lst ((ws.map fun w => mkS (f w)).map PV.str)])) = some (.str (mkS (argl f ws)), st ++ (jk ++ [Ob.lst ((ws.map fun w => mkS (f w)).map PV.str)])) := by
      rw [← List.append_assoc]; exact hj
    rw [List.append_assoc, hj2]
    simp -implicitDefEqProofs only [exS, exSs, evX, evs, evt, pr, condOf, w_bin, w_neg, w_cmp, w_isn, w_isb, w_and, w_or, w_not, w_ife, w_tup, w_lst, w_star, w_ix, w_sli, w_call, w_bi, w_met, w_isi, w_comp, w_fstr, w_dict0, w_lvals, w_nil, w_cons, w_tst, w_tnot, w_tand, w_tor, w_var, Kg.w_next, w_seq, w_asg, w_set, w_expr, w_ret, w_if, w_for, w_aug, wO_some, wF_some, wA_some, wA_map, wO_ite, wA_ite, isStar, spl, startE, wipeE, bindT, bindTs, List.map_cons, List.map_nil, List.length_cons, List.length_nil, List.replicate, List.cons_append, List.nil_append, List.append_nil, List.append_assoc, Nat.reduceAdd, Nat.reduceSub, Nat.reduceLT, Nat.reduceLeDiff, List.getElem?_cons_zero, List.getElem?_cons_succ, List.getElem?_nil, Option.join_some, Option.join_none, List.set_cons_zero, List.set_cons_succ, if_true, if_false, Bool.false_eq_true, Bool.true_eq_false, reduceIte, reduceCtorEq, true_and, and_true, Option.map_some, Option.map_none, Nat.succ_eq_add_one, Nat.zero_add, Nat.add_zero, List.singleton_append]
    rw [bop_add_s (by simp; omega)]
    simp -implicitDefEqProofs only [exS, exSs, evX, evs, evt, pr, condOf, w_bin, w_neg, w_cmp, w_isn, w_isb, w_and, w_or, w_not, w_ife, w_tup, w_lst, w_star, w_ix, w_sli, w_call, w_bi, w_met, w_isi, w_comp, w_fstr, w_dict0, w_lvals, w_nil, w_cons, w_tst, w_tnot, w_tand, w_tor, w_var, Kg.w_next, w_seq, w_asg, w_set, w_expr, w_ret, w_if, w_for, w_aug, wO_some, wF_some, wA_some, wA_map, wO_ite, wA_ite, isStar, spl, startE, wipeE, bindT, bindTs, List.map_cons, List.map_nil, List.length_cons, List.length_nil, List.replicate, List.cons_append, List.nil_append, List.append_nil, List.append_assoc, Nat.reduceAdd, Nat.reduceSub, Nat.reduceLT, Nat.reduceLeDiff, List.getElem?_cons_zero, List.getElem?_cons_succ, List.getElem?_nil, Option.join_some, Option.join_none, List.set_cons_zero, List.set_cons_succ, if_true, if_false, Bool.false_eq_true, Bool.true_eq_false, reduceIte, reduceCtorEq, true_and, and_true, Option.map_some, Option.map_none, Nat.succ_eq_add_one, Nat.zero_add, Nat.add_zero, List.singleton_append]
    rw [bop_add_s (by simp; omega)]
    simp -implicitDefEqProofs only [exS, exSs, evX, evs, evt, pr, condOf, w_bin, w_neg, w_cmp, w_isn, w_isb, w_and, w_or, w_not, w_ife, w_tup, w_lst, w_star, w_ix, w_sli, w_call, w_bi, w_met, w_isi, w_comp, w_fstr, w_dict0, w_lvals, w_nil, w_cons, w_tst, w_tnot, w_tand, w_tor, w_var, Kg.w_next, w_seq, w_asg, w_set, w_expr, w_ret, w_if, w_for, w_aug, wO_some, wF_some, wA_some, wA_map, wO_ite, wA_ite, isStar, spl, startE, wipeE, bindT, bindTs, List.map_cons, List.map_nil, List.length_cons, List.length_nil, List.replicate, List.cons_append, List.nil_append, List.append_nil, List.append_assoc, Nat.reduceAdd, Nat.reduceSub, Nat.reduceLT, Nat.reduceLeDiff, List.getElem?_cons_zero, List.getElem?_cons_succ, List.getElem?_nil, Option.join_some, Option.join_none, List.set_cons_zero, List.set_cons_succ, if_true, if_false, Bool.false_eq_true, Bool.true_eq_false, reduceIte, reduceCtorEq, true_and, and_true, Option.map_some, Option.map_none, Nat.succ_eq_add_one, Nat.zero_add, Nat.add_zero, List.singleton_append]
    have := k (jk ++ [Ob.lst ((ws.map fun w => mkS (f w)).map PV.str)])
    unfold cl at this
    simpa using this
theorem w_tdue : ∀ {h : Nat} {w : PV} (n : Nat) (st : Sto) (Q : PV → Sto → Prop), 2 * h ≤ n → WW h w → nt w ≤ 60000 → (∀ jk, Q (.str (tx h w)) (st ++ jk)) → wO (callF ds (n + 1) 28 [w] st) Q
  | 0, _, _, _, _, _, hw, _, _ => hw.elim
  | h + 1, w, n, st, Q, hn, hw, hsz, k => by
    obtain ⟨m, rfl⟩ : ∃ m, n = m + 2 := ⟨n - 2, by omega⟩
    have hw' : WS (WW h) w := hw
    obtain ⟨b, bag, e0, hb, hl, ht⟩ := hw'
    subst e0
    have hnt : ∀ v, v ∈ parts (.tup [b, .tup bag]) → nt v ≤ 60000 := fun v hv => by
      have := Kid.nt hw (.inl hv)
      omega
    have call : ∀ (nm : Int) (ws : List PV) (st : Sto) (Q : PV → Sto → Prop), 0 ≤ nm → nm < 100 → Args (WW h) ws → (∀ v ∈ ws, nt v ≤ 60000) → (∀ jk, Q (.str (mkS (cl (tl h) nm ws))) (st ++ jk)) → wO (callF ds (m + 2) 27 [.int nm, .tup ws] st) Q := by
      intro nm ws st Q h0 h1 d hs k
      refine w_cdue (f := tl h) (c := 480000) h0 h1 d.1 (fun v hv => ?_) (by omega) (fun v hv st Q k => ?_) k
      · have := tl_len (d.2 v hv)
        have := hs v hv
        omega
      · exact w_tdue (h := h) m st Q (by omega) (d.2 v hv) (hs v hv) k
    rw [w_callF]
    show wA (some d28) _
    rw [wA_some]
    simp -implicitDefEqProofs only [d28, seq_tup, kindM, exS, exSs, evX, evs, evt, pr, condOf, w_bin, w_neg, w_cmp, w_isn, w_isb, w_and, w_or, w_not, w_ife, w_tup, w_lst, w_star, w_ix, w_sli, w_call, w_bi, w_met, w_isi, w_comp, w_fstr, w_dict0, w_lvals, w_nil, w_cons, w_tst, w_tnot, w_tand, w_tor, w_var, Kg.w_next, w_seq, w_asg, w_set, w_expr, w_ret, w_if, w_for, w_aug, wO_some, wF_some, wA_some, wA_map, wO_ite, wA_ite, isStar, spl, startE, wipeE, bindT, bindTs, List.map_cons, List.map_nil, List.length_cons, List.length_nil, List.replicate, List.cons_append, List.nil_append, List.append_nil, List.append_assoc, Nat.reduceAdd, Nat.reduceSub, Nat.reduceLT, Nat.reduceLeDiff, List.getElem?_cons_zero, List.getElem?_cons_succ, List.getElem?_nil, Option.join_some, Option.join_none, List.set_cons_zero, List.set_cons_succ, if_true, if_false, Bool.false_eq_true, Bool.true_eq_false, reduceIte, reduceCtorEq, true_and, and_true, Option.map_some, Option.map_none, Nat.succ_eq_add_one, Nat.zero_add, Nat.add_zero, List.singleton_append]
    have hflen : (fl (tl h) b).length ≤ 8 * 60000 + 12 := by
      rcases hb with ⟨c, c0, c1, rfl⟩ | ⟨nm, ws, c0, c1, rfl, d⟩
      · have := dg_len c0 c1
        simp only [fl, List.length_cons]
        omega
      · have := cl_len (f := tl h) c0 c1 d.1 fun v hv => tl_len (d.2 v hv)
        simp only [fl]
        simp only [nt, nts] at hsz
        omega
    have hb1 : Str.ofString "b" = mkS [98] := by decide +kernel
    have hb2 : Str.ofString " + " = mkS [32, 43, 32] := by decide +kernel
    have base : ∀ (Q : PV → Sto → Prop), (∀ jk, Q (.str (mkS (fl (tl h) b))) (st ++ jk)) →
        wA (ixV b (.int 0) st) fun v => wA (cop .eq v (.int 0) st) fun k => wA (tru (.bl k) st) fun k => if k = true then wA (ixV b (.int 1) st) fun v => wO (biV .str [v] st) fun x s => wO (bop .add (.str (mkS [98])) x s) Q
          else wA (ixV b (.int 1) st) fun v => wA (ixV b (.int 2) st) fun v2 => wO (callF ds (m + 2) 27 [v, v2] st) Q := by
      intro Q q
      rcases hb with ⟨c, c0, c1, rfl⟩ | ⟨nm, ws, c0, c1, rfl, d⟩
      · have hd := dg_len c0 c1
        simp -implicitDefEqProofs only [ixV_tup, atI0, atI1, cop_eq_i, tru_b, decide_true, str_dg c0 c1, exS, exSs, evX, evs, evt, pr, condOf, w_bin, w_neg, w_cmp, w_isn, w_isb, w_and, w_or, w_not, w_ife, w_tup, w_lst, w_star, w_ix, w_sli, w_call, w_bi, w_met, w_isi, w_comp, w_fstr, w_dict0, w_lvals, w_nil, w_cons, w_tst, w_tnot, w_tand, w_tor, w_var, Kg.w_next, w_seq, w_asg, w_set, w_expr, w_ret, w_if, w_for, w_aug, wO_some, wF_some, wA_some, wA_map, wO_ite, wA_ite, isStar, spl, startE, wipeE, bindT, bindTs, List.map_cons, List.map_nil, List.length_cons, List.length_nil, List.replicate, List.cons_append, List.nil_append, List.append_nil, List.append_assoc, Nat.reduceAdd, Nat.reduceSub, Nat.reduceLT, Nat.reduceLeDiff, List.getElem?_cons_zero, List.getElem?_cons_succ, List.getElem?_nil, Option.join_some, Option.join_none, List.set_cons_zero, List.set_cons_succ, if_true, if_false, Bool.false_eq_true, Bool.true_eq_false, reduceIte, reduceCtorEq, true_and, and_true, Option.map_some, Option.map_none, Nat.succ_eq_add_one, Nat.zero_add, Nat.add_zero, List.singleton_append]
        rw [bop_add_s (by simp; omega)]
        have := q []
        rw [List.append_nil] at this
        exact this
      · have e10 : decide ((1 : Int) = 0) = false := by decide
        simp -implicitDefEqProofs only [ixV_tup, atI0, atI1, atI2, cop_eq_i, tru_b, e10, exS, exSs, evX, evs, evt, pr, condOf, w_bin, w_neg, w_cmp, w_isn, w_isb, w_and, w_or, w_not, w_ife, w_tup, w_lst, w_star, w_ix, w_sli, w_call, w_bi, w_met, w_isi, w_comp, w_fstr, w_dict0, w_lvals, w_nil, w_cons, w_tst, w_tnot, w_tand, w_tor, w_var, Kg.w_next, w_seq, w_asg, w_set, w_expr, w_ret, w_if, w_for, w_aug, wO_some, wF_some, wA_some, wA_map, wO_ite, wA_ite, isStar, spl, startE, wipeE, bindT, bindTs, List.map_cons, List.map_nil, List.length_cons, List.length_nil, List.replicate, List.cons_append, List.nil_append, List.append_nil, List.append_assoc, Nat.reduceAdd, Nat.reduceSub, Nat.reduceLT, Nat.reduceLeDiff, List.getElem?_cons_zero, List.getElem?_cons_succ, List.getElem?_nil, Option.join_some, Option.join_none, List.set_cons_zero, List.set_cons_succ, if_true, if_false, Bool.false_eq_true, Bool.true_eq_false, reduceIte, reduceCtorEq, true_and, and_true, Option.map_some, Option.map_none, Nat.succ_eq_add_one, Nat.zero_add, Nat.add_zero, List.singleton_append]
        refine call nm ws _ _ c0 c1 d (fun v hv => hnt v ?_) q
        simp only [parts, List.mem_append]
        exact .inl hv
    rw [hb1]
    refine base _ fun jk => ?_
    -- the turns
    simp -implicitDefEqProofs only [seq_tup, hb2, exS, exSs, evX, evs, evt, pr, condOf, w_bin, w_neg, w_cmp, w_isn, w_isb, w_and, w_or, w_not, w_ife, w_tup, w_lst, w_star, w_ix, w_sli, w_call, w_bi, w_met, w_isi, w_comp, w_fstr, w_dict0, w_lvals, w_nil, w_cons, w_tst, w_tnot, w_tand, w_tor, w_var, Kg.w_next, w_seq, w_asg, w_set, w_expr, w_ret, w_if, w_for, w_aug, wO_some, wF_some, wA_some, wA_map, wO_ite, wA_ite, isStar, spl, startE, wipeE, bindT, bindTs, List.map_cons, List.map_nil, List.length_cons, List.length_nil, List.replicate, List.cons_append, List.nil_append, List.append_nil, List.append_assoc, Nat.reduceAdd, Nat.reduceSub, Nat.reduceLT, Nat.reduceLeDiff, List.getElem?_cons_zero, List.getElem?_cons_succ, List.getElem?_nil, Option.join_some, Option.join_none, List.set_cons_zero, List.set_cons_succ, if_true, if_false, Bool.false_eq_true, Bool.true_eq_false, reduceIte, reduceCtorEq, true_and, and_true, Option.map_some, Option.map_none, Nat.succ_eq_add_one, Nat.zero_add, Nat.add_zero, List.singleton_append]
    have hbl : ∀ zs : List PV, (∀ t ∈ zs, t ∈ bag) → (bl (tl h) zs).length ≤ zs.length * 480015 := by
      intro zs
      induction zs with
      | nil => simp [bl]
      | cons t zs ih =>
        intro hz
        have ih := ih fun u hu => hz u (by simp [hu])
        obtain ⟨nm, ws, c0, c1, e, d⟩ := ht t (hz t (by simp))
        have := cl_len (f := tl h) c0 c1 d.1 fun v hv => tl_len (d.2 v hv)
        have h2 := nt_mem (hz t (by simp))
        rw [e] at h2 ⊢
        simp only [nt, nts] at hsz h2
        simp only [bl, tl1, List.length_append, List.length_cons] at ih ⊢
        omega
    refine w_forL (fun ys e s => ∃ zs e2 jk, bag = zs ++ ys ∧ e = [some (.tup [b, .tup bag]), some (.str (mkS (fl (tl h) b ++ bl (tl h) zs))), e2, some b, some (.tup bag)] ∧ s = st ++ jk) ?_ ⟨[], none, jk, rfl, by simp [bl], rfl⟩ ?_ ?_
    · rintro ys e s ⟨zs, e2, jk, _, _, rfl⟩
      trivial
    · rintro y ys e s ⟨zs, e2, jk, hz, rfl, rfl⟩
      have hy : y ∈ bag := by rw [hz]; simp
      obtain ⟨nm, ws, c0, c1, rfl, d⟩ := ht y hy
      have h1 := hbl zs fun t ht => by rw [hz]; simp [ht]
      have h2 : zs.length + (ys.length + 1) = bag.length := by rw [hz]; simp
      have h3 : zs.length * 480015 ≤ 7 * 480015 := Nat.mul_le_mul_right _ (by omega)
      have h4 := cl_len (f := tl h) c0 c1 d.1 fun v hv => tl_len (d.2 v hv)
      have h5 := nt_mem hy
      simp only [nt, nts] at hsz h5
      simp -implicitDefEqProofs only [exS, exSs, evX, evs, evt, pr, condOf, w_bin, w_neg, w_cmp, w_isn, w_isb, w_and, w_or, w_not, w_ife, w_tup, w_lst, w_star, w_ix, w_sli, w_call, w_bi, w_met, w_isi, w_comp, w_fstr, w_dict0, w_lvals, w_nil, w_cons, w_tst, w_tnot, w_tand, w_tor, w_var, Kg.w_next, w_seq, w_asg, w_set, w_expr, w_ret, w_if, w_for, w_aug, wO_some, wF_some, wA_some, wA_map, wO_ite, wA_ite, isStar, spl, startE, wipeE, bindT, bindTs, List.map_cons, List.map_nil, List.length_cons, List.length_nil, List.replicate, List.cons_append, List.nil_append, List.append_nil, List.append_assoc, Nat.reduceAdd, Nat.reduceSub, Nat.reduceLT, Nat.reduceLeDiff, List.getElem?_cons_zero, List.getElem?_cons_succ, List.getElem?_nil, Option.join_some, Option.join_none, List.set_cons_zero, List.set_cons_succ, if_true, if_false, Bool.false_eq_true, Bool.true_eq_false, reduceIte, reduceCtorEq, true_and, and_true, Option.map_some, Option.map_none, Nat.succ_eq_add_one, Nat.zero_add, Nat.add_zero, List.singleton_append]
      rw [bop_add_s (by simp; omega)]
      simp -implicitDefEqProofs only [ixV_tup, atI0, atI1, exS, exSs, evX, evs, evt, pr, condOf, w_bin, w_neg, w_cmp, w_isn, w_isb, w_and, w_or, w_not, w_ife, w_tup, w_lst, w_star, w_ix, w_sli, w_call, w_bi, w_met, w_isi, w_comp, w_fstr, w_dict0, w_lvals, w_nil, w_cons, w_tst, w_tnot, w_tand, w_tor, w_var, Kg.w_next, w_seq, w_asg, w_set, w_expr, w_ret, w_if, w_for, w_aug, wO_some, wF_some, wA_some, wA_map, wO_ite, wA_ite, isStar, spl, startE, wipeE, bindT, bindTs, List.map_cons, List.map_nil, List.length_cons, List.length_nil, List.replicate, List.cons_append, List.nil_append, List.append_nil, List.append_assoc, Nat.reduceAdd, Nat.reduceSub, Nat.reduceLT, Nat.reduceLeDiff, List.getElem?_cons_zero, List.getElem?_cons_succ, List.getElem?_nil, Option.join_some, Option.join_none, List.set_cons_zero, List.set_cons_succ, if_true, if_false, Bool.false_eq_true, Bool.true_eq_false, reduceIte, reduceCtorEq, true_and, and_true, Option.map_some, Option.map_none, Nat.succ_eq_add_one, Nat.zero_add, Nat.add_zero, List.singleton_append]
      refine call nm ws _ _ c0 c1 d (fun v hv => hnt v ?_) fun jk' => ?_
      · simp only [parts, List.mem_append, List.mem_flatMap]
        exact .inr ⟨_, hy, hv⟩
      · rw [bop_add_s (by simp; omega)]
        simp -implicitDefEqProofs only [exS, exSs, evX, evs, evt, pr, condOf, w_bin, w_neg, w_cmp, w_isn, w_isb, w_and, w_or, w_not, w_ife, w_tup, w_lst, w_star, w_ix, w_sli, w_call, w_bi, w_met, w_isi, w_comp, w_fstr, w_dict0, w_lvals, w_nil, w_cons, w_tst, w_tnot, w_tand, w_tor, w_var, Kg.w_next, w_seq, w_asg, w_set, w_expr, w_ret, w_if, w_for, w_aug, wO_some, wF_some, wA_some, wA_map, wO_ite, wA_ite, isStar, spl, startE, wipeE, bindT, bindTs, List.map_cons, List.map_nil, List.length_cons, List.length_nil, List.replicate, List.cons_append, List.nil_append, List.append_nil, List.append_assoc, Nat.reduceAdd, Nat.reduceSub, Nat.reduceLT, Nat.reduceLeDiff, List.getElem?_cons_zero, List.getElem?_cons_succ, List.getElem?_nil, Option.join_some, Option.join_none, List.set_cons_zero, List.set_cons_succ, if_true, if_false, Bool.false_eq_true, Bool.true_eq_false, reduceIte, reduceCtorEq, true_and, and_true, Option.map_some, Option.map_none, Nat.succ_eq_add_one, Nat.zero_add, Nat.add_zero, List.singleton_append]
        refine ⟨zs ++ [.tup [.int nm, .tup ws]], some (.tup [.int nm, .tup ws]), jk ++ jk', by rw [hz]; simp, ?_, rfl⟩
        rw [bl_app]
        simp [tl1]
    · rintro e s ⟨zs, e2, jk, hz, rfl, rfl⟩
      rw [List.append_nil] at hz
      subst hz
      simp -implicitDefEqProofs only [exS, exSs, evX, evs, evt, pr, condOf, w_bin, w_neg, w_cmp, w_isn, w_isb, w_and, w_or, w_not, w_ife, w_tup, w_lst, w_star, w_ix, w_sli, w_call, w_bi, w_met, w_isi, w_comp, w_fstr, w_dict0, w_lvals, w_nil, w_cons, w_tst, w_tnot, w_tand, w_tor, w_var, Kg.w_next, w_seq, w_asg, w_set, w_expr, w_ret, w_if, w_for, w_aug, wO_some, wF_some, wA_some, wA_map, wO_ite, wA_ite, isStar, spl, startE, wipeE, bindT, bindTs, List.map_cons, List.map_nil, List.length_cons, List.length_nil, List.replicate, List.cons_append, List.nil_append, List.append_nil, List.append_assoc, Nat.reduceAdd, Nat.reduceSub, Nat.reduceLT, Nat.reduceLeDiff, List.getElem?_cons_zero, List.getElem?_cons_succ, List.getElem?_nil, Option.join_some, Option.join_none, List.set_cons_zero, List.set_cons_succ, if_true, if_false, Bool.false_eq_true, Bool.true_eq_false, reduceIte, reduceCtorEq, true_and, and_true, Option.map_some, Option.map_none, Nat.succ_eq_add_one, Nat.zero_add, Nat.add_zero, List.singleton_append]
      have := k jk
      simpa [tx, mkS, tl, wl] using this
end K04
/-! K04s: parts and bags, ascending. -/
namespace K04
open PySem Kg
open Classical
variable {n : Nat} {st : Sto} {Q : PV → Sto → Prop}

theorem w_partsA {h : Nat} {w : PV} (hh : h ≤ 250) (hw : WW (h + 1) w) (k : ∀ ys jk, Asc ys → (∀ x, x ∈ ys ↔ x ∈ parts w) → ys.length ≤ 32 → Q (.tup ys) (st ++ jk)) : wO (callF ds (n + 2) 9 [w] st) Q := by
  have hpw : ∀ v ∈ parts w, WW h v := fun v hv => parts_W hw hv
  have hpl := parts_len hw
  obtain ⟨b, bag, rfl, hb, hl, ht⟩ := hw
  rw [w_callF]
  show wA (some d9) _
  rw [wA_some]
  simp -implicitDefEqProofs only [d9, exS, exSs, evX, evs, evt, pr, condOf, w_bin, w_neg, w_cmp, w_isn, w_isb, w_and, w_or, w_not, w_ife, w_tup, w_lst, w_star, w_ix, w_sli, w_call, w_bi, w_met, w_isi, w_comp, w_fstr, w_dict0, w_lvals, w_nil, w_cons, w_tst, w_tnot, w_tand, w_tor, w_var, Kg.w_next, w_seq, w_asg, w_set, w_expr, w_ret, w_if, w_for, w_aug, wO_some, wF_some, wA_some, wA_map, wO_ite, wA_ite, isStar, spl, startE, wipeE, bindT, bindTs, List.map_cons, List.map_nil, List.length_cons, List.length_nil, List.replicate, List.cons_append, List.nil_append, List.append_nil, List.append_assoc, Nat.reduceAdd, Nat.reduceSub, Nat.reduceLT, Nat.reduceLeDiff, List.getElem?_cons_zero, List.getElem?_cons_succ, List.getElem?_nil, Option.join_some, Option.join_none, List.set_cons_zero, List.set_cons_succ, if_true, if_false, Bool.false_eq_true, Bool.true_eq_false, reduceIte, reduceCtorEq, true_and, and_true, Option.map_some, Option.map_none, Nat.succ_eq_add_one, Nat.zero_add, Nat.add_zero, List.singleton_append]
  -- the base's own
  have base : ∀ (Q : PV → Sto → Prop), Q (.ref st.length) (st ++ [.lst (baseArgs b)]) →
      wA (ixV b (.int 0) st) fun v => wA (cop .eq v (.int 1) st) fun k => wA (tru (.bl k) st) fun k => if k = true then wA (ixV b (.int 2) st) fun v => wO (biV .list [v] st) fun x s => Q x s
        else 0 ≤ sizeLine ∧ Q (.ref st.length) (st ++ [.lst []]) := by
    intro Q q
    rcases hb with ⟨c, _, _, rfl⟩ | ⟨nm, ws, _, _, rfl, d⟩
    · simp -implicitDefEqProofs only [ixV_tup, atI0, cop_eq_i, tru_b, exS, exSs, evX, evs, evt, pr, condOf, w_bin, w_neg, w_cmp, w_isn, w_isb, w_and, w_or, w_not, w_ife, w_tup, w_lst, w_star, w_ix, w_sli, w_call, w_bi, w_met, w_isi, w_comp, w_fstr, w_dict0, w_lvals, w_nil, w_cons, w_tst, w_tnot, w_tand, w_tor, w_var, Kg.w_next, w_seq, w_asg, w_set, w_expr, w_ret, w_if, w_for, w_aug, wO_some, wF_some, wA_some, wA_map, wO_ite, wA_ite, isStar, spl, startE, wipeE, bindT, bindTs, List.map_cons, List.map_nil, List.length_cons, List.length_nil, List.replicate, List.cons_append, List.nil_append, List.append_nil, List.append_assoc, Nat.reduceAdd, Nat.reduceSub, Nat.reduceLT, Nat.reduceLeDiff, List.getElem?_cons_zero, List.getElem?_cons_succ, List.getElem?_nil, Option.join_some, Option.join_none, List.set_cons_zero, List.set_cons_succ, if_true, if_false, Bool.false_eq_true, Bool.true_eq_false, reduceIte, reduceCtorEq, true_and, and_true, Option.map_some, Option.map_none, Nat.succ_eq_add_one, Nat.zero_add, Nat.add_zero, List.singleton_append]
      exact ⟨Nat.zero_le _, q⟩
    · simp -implicitDefEqProofs only [ixV_tup, atI0, atI2, cop_eq_i, tru_b, list_t, decide_true, exS, exSs, evX, evs, evt, pr, condOf, w_bin, w_neg, w_cmp, w_isn, w_isb, w_and, w_or, w_not, w_ife, w_tup, w_lst, w_star, w_ix, w_sli, w_call, w_bi, w_met, w_isi, w_comp, w_fstr, w_dict0, w_lvals, w_nil, w_cons, w_tst, w_tnot, w_tand, w_tor, w_var, Kg.w_next, w_seq, w_asg, w_set, w_expr, w_ret, w_if, w_for, w_aug, wO_some, wF_some, wA_some, wA_map, wO_ite, wA_ite, isStar, spl, startE, wipeE, bindT, bindTs, List.map_cons, List.map_nil, List.length_cons, List.length_nil, List.replicate, List.cons_append, List.nil_append, List.append_nil, List.append_assoc, Nat.reduceAdd, Nat.reduceSub, Nat.reduceLT, Nat.reduceLeDiff, List.getElem?_cons_zero, List.getElem?_cons_succ, List.getElem?_nil, Option.join_some, Option.join_none, List.set_cons_zero, List.set_cons_succ, if_true, if_false, Bool.false_eq_true, Bool.true_eq_false, reduceIte, reduceCtorEq, true_and, and_true, Option.map_some, Option.map_none, Nat.succ_eq_add_one, Nat.zero_add, Nat.add_zero, List.singleton_append]
      exact q
  refine base _ ?_
  rw [seq_tup, wA_some]
  have bl := base_len hb
  refine w_forL (fun ys e s => ∃ zs e2, bag = zs ++ ys ∧ e = [some (.tup [b, .tup bag]), some (.ref st.length), e2, some b, some (.tup bag)] ∧ s = st ++ [.lst (baseArgs b ++ zs.flatMap argsOf)]) (fun _ _ _ _ => trivial) ⟨[], none, rfl, rfl, by simp⟩ ?_ ?_
  · rintro y ys e s ⟨zs, e2, hz, rfl, rfl⟩
    obtain ⟨nm, ws, _, _, rfl, d⟩ := ht y (by rw [hz]; simp)
    have hg : (st ++ [Ob.lst (baseArgs b ++ zs.flatMap argsOf)])[st.length]? = some (.lst (baseArgs b ++ zs.flatMap argsOf)) := by simp
    have h4 := flat_len4 (bag := zs) fun t htt => ht t (by rw [hz]; simp [htt])
    have hzl : zs.length ≤ 7 := by rw [hz] at hl; simp at hl; omega
    have d1 := d.1
    simp -implicitDefEqProofs only [k_ext, isL_of hg, ixV_tup, atI1, exS, exSs, evX, evs, evt, pr, condOf, w_bin, w_neg, w_cmp, w_isn, w_isb, w_and, w_or, w_not, w_ife, w_tup, w_lst, w_star, w_ix, w_sli, w_call, w_bi, w_met, w_isi, w_comp, w_fstr, w_dict0, w_lvals, w_nil, w_cons, w_tst, w_tnot, w_tand, w_tor, w_var, Kg.w_next, w_seq, w_asg, w_set, w_expr, w_ret, w_if, w_for, w_aug, wO_some, wF_some, wA_some, wA_map, wO_ite, wA_ite, isStar, spl, startE, wipeE, bindT, bindTs, List.map_cons, List.map_nil, List.length_cons, List.length_nil, List.replicate, List.cons_append, List.nil_append, List.append_nil, List.append_assoc, Nat.reduceAdd, Nat.reduceSub, Nat.reduceLT, Nat.reduceLeDiff, List.getElem?_cons_zero, List.getElem?_cons_succ, List.getElem?_nil, Option.join_some, Option.join_none, List.set_cons_zero, List.set_cons_succ, if_true, if_false, Bool.false_eq_true, Bool.true_eq_false, reduceIte, reduceCtorEq, true_and, and_true, Option.map_some, Option.map_none, Nat.succ_eq_add_one, Nat.zero_add, Nat.add_zero, List.singleton_append]
    rw [ext_lt hg (by rw [List.length_append]; exact sz24 (by omega)), wO_some, set_app0]
    exact ⟨zs ++ [.tup [.int nm, .tup ws]], _, by rw [hz]; simp, rfl, by simp [argsOf]⟩
  · rintro e s ⟨zs, e2, hz, rfl, rfl⟩
    rw [List.append_nil] at hz
    subst hz
    have hg : (st ++ [Ob.lst (baseArgs b ++ bag.flatMap argsOf)])[st.length]? = some (.lst (parts (.tup [b, .tup bag]))) := by simp [parts]
    simp -implicitDefEqProofs only [exS, exSs, evX, evs, evt, pr, condOf, w_bin, w_neg, w_cmp, w_isn, w_isb, w_and, w_or, w_not, w_ife, w_tup, w_lst, w_star, w_ix, w_sli, w_call, w_bi, w_met, w_isi, w_comp, w_fstr, w_dict0, w_lvals, w_nil, w_cons, w_tst, w_tnot, w_tand, w_tor, w_var, Kg.w_next, w_seq, w_asg, w_set, w_expr, w_ret, w_if, w_for, w_aug, wO_some, wF_some, wA_some, wA_map, wO_ite, wA_ite, isStar, spl, startE, wipeE, bindT, bindTs, List.map_cons, List.map_nil, List.length_cons, List.length_nil, List.replicate, List.cons_append, List.nil_append, List.append_nil, List.append_assoc, Nat.reduceAdd, Nat.reduceSub, Nat.reduceLT, Nat.reduceLeDiff, List.getElem?_cons_zero, List.getElem?_cons_succ, List.getElem?_nil, Option.join_some, Option.join_none, List.set_cons_zero, List.set_cons_succ, if_true, if_false, Bool.false_eq_true, Bool.true_eq_false, reduceIte, reduceCtorEq, true_and, and_true, Option.map_some, Option.map_none, Nat.succ_eq_add_one, Nat.zero_add, Nat.add_zero, List.singleton_append]
    refine w_unlikeA hg (W_srt hpw (by omega) (sz24 (by omega))) (fun x hx => (hpw x hx).isP) (fun x hx => W_dpt (hpw x hx) (by omega)) fun ys jk ha hm hy => ?_
    rw [List.append_assoc]
    exact k ys _ ha hm (by omega)
theorem enum_nd {xs : List PV} : (List.map (fun v => match v with | PV.tuk [_, x] => x | _ => .non) (List.filter (fun v => match v with | PV.tuk [.int k, x] => !decide (x ∈ xs.take k.toNat) | _ => false) (enumI xs))).Nodup := by
  have h0 : (enumI xs).Pairwise fun u v => ∃ (i j : Nat) (x y : PV), u = .tuk [.int i, x] ∧ v = .tuk [.int j, y] ∧ xs[i]? = some x ∧ i < j := by
    rw [List.pairwise_iff_getElem]
    intro i j hi hj hij
    rw [enumI_len] at hi hj
    have h1 := enumI_get (List.getElem?_eq_getElem hi)
    have h2 := enumI_get (List.getElem?_eq_getElem hj)
    exact ⟨i, j, _, _, (List.getElem?_eq_some_iff.mp h1).2, (List.getElem?_eq_some_iff.mp h2).2, List.getElem?_eq_getElem hi, hij⟩
  unfold List.Nodup
  rw [List.pairwise_map]
  refine List.Pairwise.imp_of_mem ?_ (h0.filter _)
  rintro u v hu hv ⟨i, j, x, y, rfl, rfl, hx, hij⟩ e
  have := (List.mem_filter.mp hv).2
  simp at this e
  subst e
  refine this ?_
  obtain ⟨h1, h2⟩ := List.getElem?_eq_some_iff.mp hx
  exact List.mem_take_iff_getElem.mpr ⟨i, by omega, h2⟩
theorem w_unlikeDA {r : Nat} {xs : List PV} {h : Nat} (hr : st[r]? = some (.lst xs)) (hh : h ≤ 250) (hW : ∀ x ∈ xs, WW h x) (hl : xs.length ≤ 1000) (k : ∀ ys jk, Asc ys → (∀ x, x ∈ ys ↔ x ∈ xs) → ys.length ≤ xs.length → Q (.tup ys) (st ++ jk)) :
    wO (callF ds (n + 1) 24 [.ref r] st) Q := by
  rw [w_callF]
  show wA (some d24) _
  rw [wA_some]
  have hP : ∀ x ∈ xs, isP x = true := fun x hx => (hW x hx).isP
  simp -implicitDefEqProofs only [d24, enum_l hr, exS, exSs, evX, evs, evt, pr, condOf, w_bin, w_neg, w_cmp, w_isn, w_isb, w_and, w_or, w_not, w_ife, w_tup, w_lst, w_star, w_ix, w_sli, w_call, w_bi, w_met, w_isi, w_comp, w_fstr, w_dict0, w_lvals, w_nil, w_cons, w_tst, w_tnot, w_tand, w_tor, w_var, Kg.w_next, w_seq, w_asg, w_set, w_expr, w_ret, w_if, w_for, w_aug, wO_some, wF_some, wA_some, wA_map, wO_ite, wA_ite, isStar, spl, startE, wipeE, bindT, bindTs, List.map_cons, List.map_nil, List.length_cons, List.length_nil, List.replicate, List.cons_append, List.nil_append, List.append_nil, List.append_assoc, Nat.reduceAdd, Nat.reduceSub, Nat.reduceLT, Nat.reduceLeDiff, List.getElem?_cons_zero, List.getElem?_cons_succ, List.getElem?_nil, Option.join_some, Option.join_none, List.set_cons_zero, List.set_cons_succ, if_true, if_false, Bool.false_eq_true, Bool.true_eq_false, reduceIte, reduceCtorEq, true_and, and_true, Option.map_some, Option.map_none, Nat.succ_eq_add_one, Nat.zero_add, Nat.add_zero, List.singleton_append]
  refine w_compFil (fun v => match v with | .tuk [_, x] => x | _ => .non) (fun v => match v with | .tuk [.int k, x] => !decide (x ∈ xs.take k.toNat) | _ => false) (show itOk (some (r, .lst xs)) st from hr) (by simp [enumI]; exact sz24 (by omega)) (fun v hv jk QB hQ => ?_) (fun v hv _ jk Q hQ => ?_) fun jk => ?_
  · obtain ⟨i, x, rfl, hx⟩ := enumI_mem hv
    have hxm := List.mem_of_getElem? hx
    have hi := (List.getElem?_eq_some_iff.mp hx).1
    have hrj : (st ++ jk)[r]? = some (.lst xs) := app_get hr
    have hsl : slV (.ref r) none (some (i : Int)) (st ++ jk) = some (.ref (st ++ jk).length, (st ++ jk) ++ [.lst (xs.take i)]) := by
      simp only [slV, hrj]
      rw [cut_take (Nat.le_of_lt hi)]
    simp -implicitDefEqProofs only [sxI, hsl, exS, exSs, evX, evs, evt, pr, condOf, w_bin, w_neg, w_cmp, w_isn, w_isb, w_and, w_or, w_not, w_ife, w_tup, w_lst, w_star, w_ix, w_sli, w_call, w_bi, w_met, w_isi, w_comp, w_fstr, w_dict0, w_lvals, w_nil, w_cons, w_tst, w_tnot, w_tand, w_tor, w_var, Kg.w_next, w_seq, w_asg, w_set, w_expr, w_ret, w_if, w_for, w_aug, wO_some, wF_some, wA_some, wA_map, wO_ite, wA_ite, isStar, spl, startE, wipeE, bindT, bindTs, List.map_cons, List.map_nil, List.length_cons, List.length_nil, List.replicate, List.cons_append, List.nil_append, List.append_nil, List.append_assoc, Nat.reduceAdd, Nat.reduceSub, Nat.reduceLT, Nat.reduceLeDiff, List.getElem?_cons_zero, List.getElem?_cons_succ, List.getElem?_nil, Option.join_some, Option.join_none, List.set_cons_zero, List.set_cons_succ, if_true, if_false, Bool.false_eq_true, Bool.true_eq_false, reduceIte, reduceCtorEq, true_and, and_true, Option.map_some, Option.map_none, Nat.succ_eq_add_one, Nat.zero_add, Nat.add_zero, List.singleton_append]
    have hnl : ((st ++ jk) ++ [Ob.lst (xs.take i)])[(st ++ jk).length]? = some (.lst (xs.take i)) := last_get
    rw [List.append_assoc] at hnl
    rw [notin_l hnl (hP x hxm) (isPs_iff.mpr fun z hz => hP z (List.mem_of_mem_take hz)) (W_dpt (hW x hxm) (by omega)), wA_some, tru_b, wA_some]
    have := hQ [.lst (xs.take i)]
    simpa using this
  · obtain ⟨i, x, rfl, hx⟩ := enumI_mem hv
    simp -implicitDefEqProofs only [exS, exSs, evX, evs, evt, pr, condOf, w_bin, w_neg, w_cmp, w_isn, w_isb, w_and, w_or, w_not, w_ife, w_tup, w_lst, w_star, w_ix, w_sli, w_call, w_bi, w_met, w_isi, w_comp, w_fstr, w_dict0, w_lvals, w_nil, w_cons, w_tst, w_tnot, w_tand, w_tor, w_var, Kg.w_next, w_seq, w_asg, w_set, w_expr, w_ret, w_if, w_for, w_aug, wO_some, wF_some, wA_some, wA_map, wO_ite, wA_ite, isStar, spl, startE, wipeE, bindT, bindTs, List.map_cons, List.map_nil, List.length_cons, List.length_nil, List.replicate, List.cons_append, List.nil_append, List.append_nil, List.append_assoc, Nat.reduceAdd, Nat.reduceSub, Nat.reduceLT, Nat.reduceLeDiff, List.getElem?_cons_zero, List.getElem?_cons_succ, List.getElem?_nil, Option.join_some, Option.join_none, List.set_cons_zero, List.set_cons_succ, if_true, if_false, Bool.false_eq_true, Bool.true_eq_false, reduceIte, reduceCtorEq, true_and, and_true, Option.map_some, Option.map_none, Nat.succ_eq_add_one, Nat.zero_add, Nat.add_zero, List.singleton_append]
    have := hQ []
    simpa using this
  · generalize hE : List.map (fun v => match v with | PV.tuk [_, x] => x | _ => .non) (List.filter (fun v => match v with | PV.tuk [.int k, x] => !decide (x ∈ xs.take k.toNat) | _ => false) (enumI xs)) = zs
    have hm : ∀ x, x ∈ zs ↔ x ∈ xs := fun x => by
      rw [← hE, List.mem_map]
      constructor
      · rintro ⟨v, hv, rfl⟩
        obtain ⟨i, y, rfl, hy⟩ := enumI_mem (List.mem_filter.mp hv).1
        exact List.mem_of_getElem? hy
      · intro hx
        obtain ⟨i, h1, h2⟩ := first_at hx
        refine ⟨.tuk [.int (i : Nat), x], List.mem_filter.mpr ⟨List.mem_of_getElem? (enumI_get h1), by simpa using h2⟩, rfl⟩
    have hlen : zs.length ≤ xs.length := by
      rw [← hE, List.length_map]
      refine Nat.le_trans (List.length_filter_le _ _) ?_
      rw [enumI_len]
      exact Nat.le_refl _
    rw [sorted_l last_get (W_srt (fun x hx => hW x ((hm x).mp hx)) (by omega) (sz24 (by omega))), wO_some, tuple_l last_get, wO_some]
    simp only [List.append_assoc]
    exact k (srt zs) _ (Asc.srt (hE ▸ enum_nd)) (fun x => by rw [srt_mem]; exact hm x) (by rw [(srt_perm zs).length_eq]; exact hlen)
theorem w_partsDA {h : Nat} {w : PV} (hh : h ≤ 250) (hw : WW (h + 1) w) (k : ∀ ys jk, Asc ys → (∀ x, x ∈ ys ↔ x ∈ parts w) → ys.length ≤ 32 → Q (.tup ys) (st ++ jk)) : wO (callF ds (n + 2) 25 [w] st) Q := by
  have hpw : ∀ v ∈ parts w, WW h v := fun v hv => parts_W hw hv
  have hpl := parts_len hw
  obtain ⟨b, bag, rfl, hb, hl, ht⟩ := hw
  rw [w_callF]
  show wA (some d25) _
  rw [wA_some]
  simp -implicitDefEqProofs only [d25, ixV_tup, atI0, exS, exSs, evX, evs, evt, pr, condOf, w_bin, w_neg, w_cmp, w_isn, w_isb, w_and, w_or, w_not, w_ife, w_tup, w_lst, w_star, w_ix, w_sli, w_call, w_bi, w_met, w_isi, w_comp, w_fstr, w_dict0, w_lvals, w_nil, w_cons, w_tst, w_tnot, w_tand, w_tor, w_var, Kg.w_next, w_seq, w_asg, w_set, w_expr, w_ret, w_if, w_for, w_aug, wO_some, wF_some, wA_some, wA_map, wO_ite, wA_ite, isStar, spl, startE, wipeE, bindT, bindTs, List.map_cons, List.map_nil, List.length_cons, List.length_nil, List.replicate, List.cons_append, List.nil_append, List.append_nil, List.append_assoc, Nat.reduceAdd, Nat.reduceSub, Nat.reduceLT, Nat.reduceLeDiff, List.getElem?_cons_zero, List.getElem?_cons_succ, List.getElem?_nil, Option.join_some, Option.join_none, List.set_cons_zero, List.set_cons_succ, if_true, if_false, Bool.false_eq_true, Bool.true_eq_false, reduceIte, reduceCtorEq, true_and, and_true, Option.map_some, Option.map_none, Nat.succ_eq_add_one, Nat.zero_add, Nat.add_zero, List.singleton_append]
  have base : ∀ (Q : PV → Sto → Prop), Q (.ref st.length) (st ++ [.lst (baseArgs b)]) →
      wA (ixV b (.int 0) st) fun v => wA (cop .eq v (.int 1) st) fun k => wA (tru (.bl k) st) fun k => if k = true then wA (ixV b (.int 2) st) fun v => wO (biV .list [v] st) fun x s => Q x s
        else 0 ≤ sizeLine ∧ Q (.ref st.length) (st ++ [.lst []]) := by
    intro Q q
    rcases hb with ⟨c, _, _, rfl⟩ | ⟨nm, ws, _, _, rfl, d⟩
    · simp -implicitDefEqProofs only [ixV_tup, atI0, cop_eq_i, tru_b, exS, exSs, evX, evs, evt, pr, condOf, w_bin, w_neg, w_cmp, w_isn, w_isb, w_and, w_or, w_not, w_ife, w_tup, w_lst, w_star, w_ix, w_sli, w_call, w_bi, w_met, w_isi, w_comp, w_fstr, w_dict0, w_lvals, w_nil, w_cons, w_tst, w_tnot, w_tand, w_tor, w_var, Kg.w_next, w_seq, w_asg, w_set, w_expr, w_ret, w_if, w_for, w_aug, wO_some, wF_some, wA_some, wA_map, wO_ite, wA_ite, isStar, spl, startE, wipeE, bindT, bindTs, List.map_cons, List.map_nil, List.length_cons, List.length_nil, List.replicate, List.cons_append, List.nil_append, List.append_nil, List.append_assoc, Nat.reduceAdd, Nat.reduceSub, Nat.reduceLT, Nat.reduceLeDiff, List.getElem?_cons_zero, List.getElem?_cons_succ, List.getElem?_nil, Option.join_some, Option.join_none, List.set_cons_zero, List.set_cons_succ, if_true, if_false, Bool.false_eq_true, Bool.true_eq_false, reduceIte, reduceCtorEq, true_and, and_true, Option.map_some, Option.map_none, Nat.succ_eq_add_one, Nat.zero_add, Nat.add_zero, List.singleton_append]
      exact ⟨Nat.zero_le _, q⟩
    · simp -implicitDefEqProofs only [ixV_tup, atI0, atI2, cop_eq_i, tru_b, list_t, decide_true, exS, exSs, evX, evs, evt, pr, condOf, w_bin, w_neg, w_cmp, w_isn, w_isb, w_and, w_or, w_not, w_ife, w_tup, w_lst, w_star, w_ix, w_sli, w_call, w_bi, w_met, w_isi, w_comp, w_fstr, w_dict0, w_lvals, w_nil, w_cons, w_tst, w_tnot, w_tand, w_tor, w_var, Kg.w_next, w_seq, w_asg, w_set, w_expr, w_ret, w_if, w_for, w_aug, wO_some, wF_some, wA_some, wA_map, wO_ite, wA_ite, isStar, spl, startE, wipeE, bindT, bindTs, List.map_cons, List.map_nil, List.length_cons, List.length_nil, List.replicate, List.cons_append, List.nil_append, List.append_nil, List.append_assoc, Nat.reduceAdd, Nat.reduceSub, Nat.reduceLT, Nat.reduceLeDiff, List.getElem?_cons_zero, List.getElem?_cons_succ, List.getElem?_nil, Option.join_some, Option.join_none, List.set_cons_zero, List.set_cons_succ, if_true, if_false, Bool.false_eq_true, Bool.true_eq_false, reduceIte, reduceCtorEq, true_and, and_true, Option.map_some, Option.map_none, Nat.succ_eq_add_one, Nat.zero_add, Nat.add_zero, List.singleton_append]
      exact q
  refine base _ ?_
  rw [atI1, wA_some, seq_tup, wA_some]
  have bl := base_len hb
  refine w_forL (fun ys e s => ∃ zs r jk e2, bag = zs ++ ys ∧ e = [some (.tup [b, .tup bag]), some (.ref r), e2] ∧ s = st ++ jk ∧ s[r]? = some (.lst (baseArgs b ++ zs.flatMap argsOf))) (fun _ _ _ _ => trivial) ⟨[], _, _, none, rfl, rfl, rfl, by simp⟩ ?_ ?_
  · rintro y ys e s ⟨zs, r, jk, e2, hz, rfl, rfl, hg⟩
    obtain ⟨nm, ws, _, _, rfl, d⟩ := ht y (by rw [hz]; simp)
    have h4 := flat_len4 (bag := zs) fun t htt => ht t (by rw [hz]; simp [htt])
    have hzl : zs.length ≤ 7 := by rw [hz] at hl; simp at hl; omega
    have d1 := d.1
    have hg2 : (st ++ jk ++ [Ob.lst ws])[r]? = some (.lst (baseArgs b ++ zs.flatMap argsOf)) := app_get hg
    have hq2 : (st ++ jk ++ [Ob.lst ws])[(st ++ jk).length]? = some (.lst ws) := last_get
    have hc := cat_l hg2 hq2 (by rw [List.length_append]; exact sz24 (by omega))
    rw [List.append_assoc] at hc
    simp -implicitDefEqProofs only [ixV_tup, atI1, list_t, hc, exS, exSs, evX, evs, evt, pr, condOf, w_bin, w_neg, w_cmp, w_isn, w_isb, w_and, w_or, w_not, w_ife, w_tup, w_lst, w_star, w_ix, w_sli, w_call, w_bi, w_met, w_isi, w_comp, w_fstr, w_dict0, w_lvals, w_nil, w_cons, w_tst, w_tnot, w_tand, w_tor, w_var, Kg.w_next, w_seq, w_asg, w_set, w_expr, w_ret, w_if, w_for, w_aug, wO_some, wF_some, wA_some, wA_map, wO_ite, wA_ite, isStar, spl, startE, wipeE, bindT, bindTs, List.map_cons, List.map_nil, List.length_cons, List.length_nil, List.replicate, List.cons_append, List.nil_append, List.append_nil, List.append_assoc, Nat.reduceAdd, Nat.reduceSub, Nat.reduceLT, Nat.reduceLeDiff, List.getElem?_cons_zero, List.getElem?_cons_succ, List.getElem?_nil, Option.join_some, Option.join_none, List.set_cons_zero, List.set_cons_succ, if_true, if_false, Bool.false_eq_true, Bool.true_eq_false, reduceIte, reduceCtorEq, true_and, and_true, Option.map_some, Option.map_none, Nat.succ_eq_add_one, Nat.zero_add, Nat.add_zero, List.singleton_append]
    refine ⟨zs ++ [.tup [.int nm, .tup ws]], _, _, _, by rw [hz]; simp, rfl, rfl, ?_⟩
    have := last_get (s := st ++ (jk ++ [Ob.lst ws])) (o := .lst (baseArgs b ++ zs.flatMap argsOf ++ ws))
    simpa [argsOf] using this
  · rintro e s ⟨zs, r, jk, e2, hz, rfl, rfl, hg⟩
    rw [List.append_nil] at hz
    subst hz
    simp -implicitDefEqProofs only [exS, exSs, evX, evs, evt, pr, condOf, w_bin, w_neg, w_cmp, w_isn, w_isb, w_and, w_or, w_not, w_ife, w_tup, w_lst, w_star, w_ix, w_sli, w_call, w_bi, w_met, w_isi, w_comp, w_fstr, w_dict0, w_lvals, w_nil, w_cons, w_tst, w_tnot, w_tand, w_tor, w_var, Kg.w_next, w_seq, w_asg, w_set, w_expr, w_ret, w_if, w_for, w_aug, wO_some, wF_some, wA_some, wA_map, wO_ite, wA_ite, isStar, spl, startE, wipeE, bindT, bindTs, List.map_cons, List.map_nil, List.length_cons, List.length_nil, List.replicate, List.cons_append, List.nil_append, List.append_nil, List.append_assoc, Nat.reduceAdd, Nat.reduceSub, Nat.reduceLT, Nat.reduceLeDiff, List.getElem?_cons_zero, List.getElem?_cons_succ, List.getElem?_nil, Option.join_some, Option.join_none, List.set_cons_zero, List.set_cons_succ, if_true, if_false, Bool.false_eq_true, Bool.true_eq_false, reduceIte, reduceCtorEq, true_and, and_true, Option.map_some, Option.map_none, Nat.succ_eq_add_one, Nat.zero_add, Nat.add_zero, List.singleton_append]
    have hg' : (st ++ jk)[r]? = some (.lst (parts (.tup [b, .tup bag]))) := hg
    refine w_unlikeDA hg' hh hpw (by omega) fun ys jk2 ha hm hy => ?_
    rw [List.append_assoc]
    exact k ys _ ha hm (by omega)
theorem sub_snoc {zs p : List PV} {y : PV} : p.Sublist (zs ++ [y]) ↔ p.Sublist zs ∨ ∃ q : List PV, q.Sublist zs ∧ p = q ++ [y] := by
  rw [List.sublist_append_iff]
  constructor
  · rintro ⟨a, b, rfl, ha, hb⟩
    have hb' : b = [] ∨ b = [y] := by
      cases hb with
      | cons _ h => exact .inl (List.sublist_nil.mp h)
      | cons_cons _ h => rw [List.sublist_nil.mp h]; exact .inr rfl
    rcases hb' with rfl | rfl
    · exact .inl (by simpa using ha)
    · exact .inr ⟨a, ha, rfl⟩
  · rintro (h | ⟨q, h, rfl⟩)
    · exact ⟨p, [], by simp, h, List.nil_sublist _⟩
    · exact ⟨q, [y], rfl, h, List.Sublist.refl _⟩
theorem w_bagsA {h : Nat} {w : PV} {b : PV} {bag : List PV} (e0 : w = .tup [b, .tup bag]) (hh : h ≤ 250) (hw : WW (h + 1) w) (k : ∀ ys jk, Asc ys → (∀ y, y ∈ ys ↔ ∃ s : List PV, s.Sublist bag ∧ y = .tup [b, .tup s]) → ys.length ≤ 128 → Q (.tup ys) (st ++ jk)) : wO (callF ds (n + 2) 10 [w] st) Q := by
  subst e0
  have hw' : WS (WW h) (.tup [b, .tup bag]) := hw
  obtain ⟨b', bag', e0, hb, hl, ht⟩ := hw'
  cases e0
  rw [w_callF]
  show wA (some d10) _
  rw [wA_some]
  simp -implicitDefEqProofs only [d10, seq_tup, exS, exSs, evX, evs, evt, pr, condOf, w_bin, w_neg, w_cmp, w_isn, w_isb, w_and, w_or, w_not, w_ife, w_tup, w_lst, w_star, w_ix, w_sli, w_call, w_bi, w_met, w_isi, w_comp, w_fstr, w_dict0, w_lvals, w_nil, w_cons, w_tst, w_tnot, w_tand, w_tor, w_var, Kg.w_next, w_seq, w_asg, w_set, w_expr, w_ret, w_if, w_for, w_aug, wO_some, wF_some, wA_some, wA_map, wO_ite, wA_ite, isStar, spl, startE, wipeE, bindT, bindTs, List.map_cons, List.map_nil, List.length_cons, List.length_nil, List.replicate, List.cons_append, List.nil_append, List.append_nil, List.append_assoc, Nat.reduceAdd, Nat.reduceSub, Nat.reduceLT, Nat.reduceLeDiff, List.getElem?_cons_zero, List.getElem?_cons_succ, List.getElem?_nil, Option.join_some, Option.join_none, List.set_cons_zero, List.set_cons_succ, if_true, if_false, Bool.false_eq_true, Bool.true_eq_false, reduceIte, reduceCtorEq, true_and, and_true, Option.map_some, Option.map_none, Nat.succ_eq_add_one, Nat.zero_add, Nat.add_zero, List.singleton_append]
  refine ⟨by decide, by decide, ?_⟩
  refine w_forL (fun ys e s => ∃ zs r ps jk e2, bag = zs ++ ys ∧ e = [some (.tup [b, .tup bag]), some (.ref r), e2, some b, some (.tup bag), none] ∧ s = st ++ jk ∧ s[r]? = some (.lst (ps.map PV.tup)) ∧ (∀ p, p ∈ ps ↔ p.Sublist zs) ∧ ps.length = 2 ^ zs.length) (fun _ _ _ _ => trivial)
    ⟨[], st.length, [[]], _, none, rfl, rfl, rfl, by simp, by simp, rfl⟩ ?_ ?_
  · rintro y ys e s ⟨zs, r, ps, jk, e2, hz, rfl, rfl, hg, hsub, hlen⟩
    have hzl : zs.length + 1 ≤ 7 := by rw [hz] at hl; simp at hl; omega
    have hp2 : 2 ^ (zs.length + 1) ≤ 2 ^ 7 := Nat.pow_le_pow_right (by decide) hzl
    have hp3 : 2 ^ (zs.length + 1) = 2 ^ zs.length * 2 := Nat.pow_succ _ _
    simp -implicitDefEqProofs only [seq_l hg, exS, exSs, evX, evs, evt, pr, condOf, w_bin, w_neg, w_cmp, w_isn, w_isb, w_and, w_or, w_not, w_ife, w_tup, w_lst, w_star, w_ix, w_sli, w_call, w_bi, w_met, w_isi, w_comp, w_fstr, w_dict0, w_lvals, w_nil, w_cons, w_tst, w_tnot, w_tand, w_tor, w_var, Kg.w_next, w_seq, w_asg, w_set, w_expr, w_ret, w_if, w_for, w_aug, wO_some, wF_some, wA_some, wA_map, wO_ite, wA_ite, isStar, spl, startE, wipeE, bindT, bindTs, List.map_cons, List.map_nil, List.length_cons, List.length_nil, List.replicate, List.cons_append, List.nil_append, List.append_nil, List.append_assoc, Nat.reduceAdd, Nat.reduceSub, Nat.reduceLT, Nat.reduceLeDiff, List.getElem?_cons_zero, List.getElem?_cons_succ, List.getElem?_nil, Option.join_some, Option.join_none, List.set_cons_zero, List.set_cons_succ, if_true, if_false, Bool.false_eq_true, Bool.true_eq_false, reduceIte, reduceCtorEq, true_and, and_true, Option.map_some, Option.map_none, Nat.succ_eq_add_one, Nat.zero_add, Nat.add_zero, List.singleton_append]
    refine w_compMap (fun v => match v with | .tup p => .tup (p ++ [y]) | _ => .non) (show itOk (some (r, .lst (ps.map PV.tup))) (st ++ jk) from hg) (by rw [List.length_map]; exact sz24 (by omega)) (fun x hx jk2 Q hQ => ?_) fun jk2 => ?_
    · obtain ⟨p, hp, rfl⟩ := List.mem_map.mp hx
      have hpl := ((hsub p).mp hp).length_le
      simp -implicitDefEqProofs only [sqOf, exS, exSs, evX, evs, evt, pr, condOf, w_bin, w_neg, w_cmp, w_isn, w_isb, w_and, w_or, w_not, w_ife, w_tup, w_lst, w_star, w_ix, w_sli, w_call, w_bi, w_met, w_isi, w_comp, w_fstr, w_dict0, w_lvals, w_nil, w_cons, w_tst, w_tnot, w_tand, w_tor, w_var, Kg.w_next, w_seq, w_asg, w_set, w_expr, w_ret, w_if, w_for, w_aug, wO_some, wF_some, wA_some, wA_map, wO_ite, wA_ite, isStar, spl, startE, wipeE, bindT, bindTs, List.map_cons, List.map_nil, List.length_cons, List.length_nil, List.replicate, List.cons_append, List.nil_append, List.append_nil, List.append_assoc, Nat.reduceAdd, Nat.reduceSub, Nat.reduceLT, Nat.reduceLeDiff, List.getElem?_cons_zero, List.getElem?_cons_succ, List.getElem?_nil, Option.join_some, Option.join_none, List.set_cons_zero, List.set_cons_succ, if_true, if_false, Bool.false_eq_true, Bool.true_eq_false, reduceIte, reduceCtorEq, true_and, and_true, Option.map_some, Option.map_none, Nat.succ_eq_add_one, Nat.zero_add, Nat.add_zero, List.singleton_append]
      refine ⟨by rw [List.length_append]; exact sz24 (by simp; omega), ?_⟩
      have := hQ []
      simpa using this
    · have hmap : (ps.map PV.tup).map (fun v => match v with | .tup p => PV.tup (p ++ [y]) | _ => .non) = (ps.map (· ++ [y])).map PV.tup := by
        rw [List.map_map, List.map_map]; rfl
      rw [hmap]
      have hg2 : (st ++ jk ++ jk2 ++ [Ob.lst ((ps.map (· ++ [y])).map PV.tup)])[r]? = some (.lst (ps.map PV.tup)) := app_get (app_get hg)
      have hq2 : (st ++ jk ++ jk2 ++ [Ob.lst ((ps.map (· ++ [y])).map PV.tup)])[(st ++ jk ++ jk2).length]? = some (.lst ((ps.map (· ++ [y])).map PV.tup)) := last_get
      rw [cat_l hg2 hq2 (by simp only [List.length_map]; exact sz24 (by omega)), wO_some]
      simp -implicitDefEqProofs only [exS, exSs, evX, evs, evt, pr, condOf, w_bin, w_neg, w_cmp, w_isn, w_isb, w_and, w_or, w_not, w_ife, w_tup, w_lst, w_star, w_ix, w_sli, w_call, w_bi, w_met, w_isi, w_comp, w_fstr, w_dict0, w_lvals, w_nil, w_cons, w_tst, w_tnot, w_tand, w_tor, w_var, Kg.w_next, w_seq, w_asg, w_set, w_expr, w_ret, w_if, w_for, w_aug, wO_some, wF_some, wA_some, wA_map, wO_ite, wA_ite, isStar, spl, startE, wipeE, bindT, bindTs, List.map_cons, List.map_nil, List.length_cons, List.length_nil, List.replicate, List.cons_append, List.nil_append, List.append_nil, List.append_assoc, Nat.reduceAdd, Nat.reduceSub, Nat.reduceLT, Nat.reduceLeDiff, List.getElem?_cons_zero, List.getElem?_cons_succ, List.getElem?_nil, Option.join_some, Option.join_none, List.set_cons_zero, List.set_cons_succ, if_true, if_false, Bool.false_eq_true, Bool.true_eq_false, reduceIte, reduceCtorEq, true_and, and_true, Option.map_some, Option.map_none, Nat.succ_eq_add_one, Nat.zero_add, Nat.add_zero, List.singleton_append]
      refine ⟨zs ++ [y], _, ps ++ ps.map (· ++ [y]), jk ++ jk2 ++ [.lst ((ps.map (· ++ [y])).map PV.tup)] ++ [.lst ((ps ++ ps.map (· ++ [y])).map PV.tup)], some y, by rw [hz]; simp, rfl, by simp, ?_, fun p => ?_, ?_⟩
      · have := last_get (s := st ++ jk ++ jk2 ++ [Ob.lst ((ps.map (· ++ [y])).map PV.tup)]) (o := .lst ((ps ++ ps.map (· ++ [y])).map PV.tup))
        simpa using this
      · rw [List.mem_append, List.mem_map, sub_snoc, hsub]
        constructor
        · rintro (h | ⟨q, hq, rfl⟩)
          · exact .inl h
          · exact .inr ⟨q, (hsub q).mp hq, rfl⟩
        · rintro (h | ⟨q, hq, rfl⟩)
          · exact .inl h
          · exact .inr ⟨q, (hsub q).mpr hq, rfl⟩
      · rw [List.length_append, List.length_map, hlen, List.length_append, List.length_singleton, hp3]
        omega
  · rintro e s ⟨zs, r, ps, jk, e2, hz, rfl, rfl, hg, hsub, hlen⟩
    rw [List.append_nil] at hz
    subst hz
    have hp2 : 2 ^ bag.length ≤ 2 ^ 7 := Nat.pow_le_pow_right (by decide) hl
    simp -implicitDefEqProofs only [seq_l hg, exS, exSs, evX, evs, evt, pr, condOf, w_bin, w_neg, w_cmp, w_isn, w_isb, w_and, w_or, w_not, w_ife, w_tup, w_lst, w_star, w_ix, w_sli, w_call, w_bi, w_met, w_isi, w_comp, w_fstr, w_dict0, w_lvals, w_nil, w_cons, w_tst, w_tnot, w_tand, w_tor, w_var, Kg.w_next, w_seq, w_asg, w_set, w_expr, w_ret, w_if, w_for, w_aug, wO_some, wF_some, wA_some, wA_map, wO_ite, wA_ite, isStar, spl, startE, wipeE, bindT, bindTs, List.map_cons, List.map_nil, List.length_cons, List.length_nil, List.replicate, List.cons_append, List.nil_append, List.append_nil, List.append_assoc, Nat.reduceAdd, Nat.reduceSub, Nat.reduceLT, Nat.reduceLeDiff, List.getElem?_cons_zero, List.getElem?_cons_succ, List.getElem?_nil, Option.join_some, Option.join_none, List.set_cons_zero, List.set_cons_succ, if_true, if_false, Bool.false_eq_true, Bool.true_eq_false, reduceIte, reduceCtorEq, true_and, and_true, Option.map_some, Option.map_none, Nat.succ_eq_add_one, Nat.zero_add, Nat.add_zero, List.singleton_append]
    refine w_compMap (fun v => .tup [b, v]) (show itOk (some (r, .lst (ps.map PV.tup))) (st ++ jk) from hg) (by rw [List.length_map]; exact sz24 (by omega)) (fun x hx jk2 Q hQ => ?_) fun jk2 => ?_
    · simp -implicitDefEqProofs only [exS, exSs, evX, evs, evt, pr, condOf, w_bin, w_neg, w_cmp, w_isn, w_isb, w_and, w_or, w_not, w_ife, w_tup, w_lst, w_star, w_ix, w_sli, w_call, w_bi, w_met, w_isi, w_comp, w_fstr, w_dict0, w_lvals, w_nil, w_cons, w_tst, w_tnot, w_tand, w_tor, w_var, Kg.w_next, w_seq, w_asg, w_set, w_expr, w_ret, w_if, w_for, w_aug, wO_some, wF_some, wA_some, wA_map, wO_ite, wA_ite, isStar, spl, startE, wipeE, bindT, bindTs, List.map_cons, List.map_nil, List.length_cons, List.length_nil, List.replicate, List.cons_append, List.nil_append, List.append_nil, List.append_assoc, Nat.reduceAdd, Nat.reduceSub, Nat.reduceLT, Nat.reduceLeDiff, List.getElem?_cons_zero, List.getElem?_cons_succ, List.getElem?_nil, Option.join_some, Option.join_none, List.set_cons_zero, List.set_cons_succ, if_true, if_false, Bool.false_eq_true, Bool.true_eq_false, reduceIte, reduceCtorEq, true_and, and_true, Option.map_some, Option.map_none, Nat.succ_eq_add_one, Nat.zero_add, Nat.add_zero, List.singleton_append]
      refine ⟨by decide, ?_⟩
      have := hQ []
      simpa using this
    · have hW : ∀ x ∈ (ps.map PV.tup).map (fun v => PV.tup [b, v]), WW (h + 1) x := fun x hx => by
        obtain ⟨v, hv, rfl⟩ := List.mem_map.mp hx
        obtain ⟨p, hp, rfl⟩ := List.mem_map.mp hv
        exact ⟨b, p, rfl, hb, Nat.le_trans ((hsub p).mp hp).length_le hl, fun t htt => ht t (((hsub p).mp hp).subset htt)⟩
      have hlen2 : ((ps.map PV.tup).map (fun v => PV.tup [b, v])).length ≤ 128 := by simp only [List.length_map]; omega
      refine w_unlikeA last_get (W_srt hW (by omega) (sz24 (by omega))) (fun x hx => (hW x hx).isP) (fun x hx => W_dpt (hW x hx) (by omega)) fun ys jk3 ha hm hy => ?_
      simp only [List.append_assoc]
      refine k ys _ ha (fun y => ?_) (by omega)
      rw [hm, List.mem_map]
      constructor
      · rintro ⟨v, hv, rfl⟩
        obtain ⟨p, hp, rfl⟩ := List.mem_map.mp hv
        exact ⟨p, (hsub p).mp hp, rfl⟩
      · rintro ⟨p, hp, rfl⟩
        exact ⟨.tup p, List.mem_map.mpr ⟨p, (hsub p).mpr hp, rfl⟩, rfl⟩
end K04
/-! K04x: the bags that are due, plain laws. -/
namespace K04
open PySem Kg
open Classical
variable {n : Nat} {st : Sto} {Q : PV → Sto → Prop}

theorem count_t {y : PV} {xs : List PV} (hy : isP y = true) (hx : ∀ x ∈ xs, isP x = true) (hd : dpt y ≤ dLim) : meV .count (.tup xs) [y] st = some (.int (xs.count y : Nat), st) := by
  simp only [meV, sqOf]
  rw [if_pos ⟨isP_okD hy, isPs_okDs (isPs_iff.mpr hx), by unfold dpt at hd; omega⟩]
  have : ∀ xs : List PV, (∀ x ∈ xs, isP x = true) → (dDs xs).countP (fun e => PyData.eqv e (dD y)) = xs.count y := by
    intro xs
    induction xs with
    | nil => intro _; rfl
    | cons x xs ih =>
      intro h
      have h1 := eqv_P (h x (by simp)) hy
      have h2 := ih fun z hz => h z (by simp [hz])
      simp only [dDs, List.countP_cons, List.count_cons, h1, h2]
      by_cases e : x = y <;> simp [e]
  rw [this xs hx]
noncomputable def sel (bag zs : List PV) : List PV := bag.filter fun t => decide (t ∈ zs)
theorem sel_old {bag zs : List PV} {y : PV} (h : y ∈ zs) : sel bag (zs ++ [y]) = sel bag zs := by
  unfold sel
  apply List.filter_congr
  intro x _
  simp only [List.mem_append, List.mem_singleton, decide_eq_decide]
  constructor
  · rintro (h | rfl)
    · exact h
    · exact h
  · exact .inl
theorem filter_self {zs : List PV} : ∀ {xs : List PV}, (∀ x ∈ xs, x ∈ zs) → xs.filter (fun t => decide (t ∈ zs)) = xs := by
  intro xs h
  rw [List.filter_eq_self]
  intro x hx
  simpa using h x hx
theorem sel_new {bag zs ys : List PV} {y : PV} (e : bag = zs ++ y :: ys) (hp : ∀ x ∈ bag, isP x = true) (hal : ∀ a ∈ bag, ∀ b ∈ bag, PySem.W.alike (dD a) (dD b) = true) (so : bag.Pairwise fun a b => leP a b = true) (h : y ∉ zs) :
    sel bag zs = zs ∧ sel bag (zs ++ [y]) = zs ++ List.replicate (bag.count y) y := by
  have hys : ∀ u ∈ ys, u ∉ zs := by
    intro u hu hz
    rw [e, List.pairwise_append] at so
    have h1 : leP u y = true := so.2.2 u hz y (by simp)
    have h2 : leP y u = true := (List.pairwise_cons.mp so.2.1).1 u hu
    have huy : u ∈ bag := by rw [e]; simp [hu]
    have hyy : y ∈ bag := by rw [e]; simp
    have := leP_anti (hp u huy) (hp y hyy) (hal _ huy _ hyy) h1 h2
    exact h (this ▸ hz)
  have hcz : zs.count y = 0 := List.count_eq_zero.mpr h
  have hf : ∀ (l : List PV), (∀ u ∈ l, u ∉ zs) → l.filter (fun t => decide (t ∈ zs ++ [y])) = List.replicate (l.count y) y := by
    intro l hl
    induction l with
    | nil => rfl
    | cons a l ih =>
      have ih := ih fun u hu => hl u (by simp [hu])
      have ha := hl a (by simp)
      rw [List.filter_cons, List.count_cons, ih]
      by_cases e2 : a = y
      · subst e2
        simp [List.replicate_succ]
      · have : ¬ a ∈ zs ++ [y] := by simp [ha, e2]
        simp only [this, decide_false, Bool.false_eq_true, if_false]
        have e3 : (a == y) = false := by simpa using e2
        simp [e3]
  constructor
  · unfold sel
    rw [e, List.filter_append, filter_self (fun _ h => h)]
    have : (y :: ys).filter (fun t => decide (t ∈ zs)) = [] := by
      rw [List.filter_eq_nil_iff]
      intro a ha
      rcases List.mem_cons.mp ha with rfl | ha
      · simpa using h
      · simpa using hys a ha
    rw [this, List.append_nil]
  · unfold sel
    rw [e, List.filter_append, filter_self (fun x hx => by simp [hx]), hf _ (by
      intro u hu
      rcases List.mem_cons.mp hu with rfl | hu
      · exact h
      · exact hys u hu), List.count_append, hcz, Nat.zero_add]
/-- one more turn, so many times -/
def longer (y : PV) (c : Nat) (ps : List (List PV)) : List (List PV) := ps.flatMap fun p => (List.range (c + 1)).map fun i => p ++ List.replicate i y
theorem longer_mem {y : PV} {c : Nat} {ps : List (List PV)} {zs p : List PV} (h : ∀ p, p ∈ ps ↔ p.Sublist zs) : p ∈ longer y c ps ↔ p.Sublist (zs ++ List.replicate c y) := by
  unfold longer
  rw [List.mem_flatMap, List.sublist_append_iff]
  constructor
  · rintro ⟨q, hq, hp⟩
    obtain ⟨i, hi, rfl⟩ := List.mem_map.mp hp
    exact ⟨q, _, rfl, (h q).mp hq, List.sublist_replicate_iff.mpr ⟨i, by have := List.mem_range.mp hi; omega, rfl⟩⟩
  · rintro ⟨a, b, rfl, ha, hb⟩
    obtain ⟨i, hi, rfl⟩ := List.sublist_replicate_iff.mp hb
    exact ⟨a, (h a).mpr ha, List.mem_map.mpr ⟨i, List.mem_range.mpr (by omega), rfl⟩⟩
theorem longer_nd {y : PV} {c : Nat} {ps : List (List PV)} (hy : ∀ p ∈ ps, y ∉ p) (nd : ps.Nodup) : (longer y c ps).Nodup := by
  have key : ∀ {p q : List PV} {i j : Nat}, y ∉ p → y ∉ q → p ++ List.replicate i y = q ++ List.replicate j y → p = q ∧ i = j := by
    intro p q i j hp hq e
    have h1 := congrArg (List.count y) e
    rw [List.count_append, List.count_append, List.count_eq_zero.mpr hp, List.count_eq_zero.mpr hq, List.count_replicate_self, List.count_replicate_self] at h1
    obtain rfl : i = j := by omega
    exact ⟨List.append_cancel_right e, rfl⟩
  induction ps with
  | nil => simp [longer]
  | cons p ps ih =>
    rw [List.nodup_cons] at nd
    have ih := ih (fun q hq => hy q (by simp [hq])) nd.2
    have e : longer y c (p :: ps) = ((List.range (c + 1)).map fun i => p ++ List.replicate i y) ++ longer y c ps := by simp [longer]
    rw [e, List.nodup_append]
    refine ⟨?_, ih, ?_⟩
    · unfold List.Nodup
      rw [List.pairwise_map]
      refine List.Pairwise.imp ?_ (List.nodup_range (n := c + 1))
      intro i j hij e
      exact hij (key (hy p (by simp)) (hy p (by simp)) e).2
    · intro a ha b hb e
      obtain ⟨i, _, rfl⟩ := List.mem_map.mp ha
      unfold longer at hb
      obtain ⟨q, hq, hb⟩ := List.mem_flatMap.mp hb
      obtain ⟨j, _, rfl⟩ := List.mem_map.mp hb
      exact nd.1 ((key (hy p (by simp)) (hy q (by simp [hq])) e).1 ▸ hq)
end K04
/-! K04y: the bags that are due, walked. -/
namespace K04
open PySem Kg
open Classical
variable {n : Nat} {st : Sto} {Q : PV → Sto → Prop}

theorem mul_one {y : PV} {i : Nat} (h : i ≤ 1000) : bop .mul (.tup [y]) (.int (i : Nat)) st = some (.tup (List.replicate i y), st) := by
  simp only [bop]
  rw [if_pos (by simp; omega), Int.toNat_natCast]
  have : ∀ i, (List.replicate i [y]).flatten = List.replicate i y := by
    intro i
    induction i with
    | zero => rfl
    | succ i ih => rw [List.replicate_succ, List.flatten_cons, ih]; rfl
  rw [this]
theorem longer_len {y : PV} {c : Nat} : ∀ ps : List (List PV), (longer y c ps).length = ps.length * (c + 1)
  | [] => by simp [longer]
  | p :: ps => by
    have := longer_len (y := y) (c := c) ps
    unfold longer at this ⊢
    rw [List.flatMap_cons, List.length_append, this, List.length_map, List.length_range, List.length_cons, Nat.add_mul]
    omega
theorem longer_app {y : PV} {c : Nat} {as : List (List PV)} {p : List PV} : longer y c (as ++ [p]) = longer y c as ++ (List.range (c + 1)).map fun i => p ++ List.replicate i y := by
  simp [longer]
theorem w_bagsD {h : Nat} {b : PV} {bag : List PV} (hh : h ≤ 250) (hw : WW (h + 1) (.tup [b, .tup bag])) (so : bag.Pairwise fun a b => leP a b = true)
    (k : ∀ ys jk, Asc ys → (∀ y, y ∈ ys ↔ ∃ s : List PV, s.Sublist bag ∧ y = .tup [b, .tup s]) → ys.length ≤ 128 → Q (.tup ys) (st ++ jk)) : wO (callF ds (n + 2) 26 [.tup [b, .tup bag]] st) Q := by
  have hw' : WS (WW h) (.tup [b, .tup bag]) := hw
  obtain ⟨b', bag', e0, hb, hl, ht⟩ := hw'
  cases e0
  have hP : ∀ t ∈ bag, isP t = true := fun t htt => (ht t htt).isP fun w => WW.isP
  have hal : ∀ t ∈ bag, ∀ u ∈ bag, PySem.W.alike (dD t) (dD u) = true := fun t htt u hu => (ht t htt).alike (fun w hw v hv => WW.alike hw v hv) (ht u hu)
  have hD : ∀ t ∈ bag, dpt t ≤ dLim := fun t htt => by
    have := (ht t htt).dpt (d := 4 * h) fun w hw => WW.dpt hw
    unfold dLim
    omega
  have hps : ∀ ps : List (List PV), ps.Nodup → (∀ p ∈ ps, p.Sublist bag) → ps.length ≤ 128 := fun ps nd hs => by
    have h1 := len_of_sub nd fun p hp => subs_mem.mpr (hs p hp)
    rw [subs_len] at h1
    have : 2 ^ bag.length ≤ 2 ^ 7 := Nat.pow_le_pow_right (by decide) hl
    omega
  rw [w_callF]
  show wA (some d26) _
  rw [wA_some]
  have en : iterV .enum [.tup bag] (st ++ [Ob.lst [PV.tup []]]) = some ⟨enumI bag, none⟩ := rfl
  simp -implicitDefEqProofs only [d26, ixV_tup, atI1, en, exS, exSs, evX, evs, evt, pr, condOf, w_bin, w_neg, w_cmp, w_isn, w_isb, w_and, w_or, w_not, w_ife, w_tup, w_lst, w_star, w_ix, w_sli, w_call, w_bi, w_met, w_isi, w_comp, w_fstr, w_dict0, w_lvals, w_nil, w_cons, w_tst, w_tnot, w_tand, w_tor, w_var, Kg.w_next, w_seq, w_asg, w_set, w_expr, w_ret, w_if, w_for, w_aug, wO_some, wF_some, wA_some, wA_map, wO_ite, wA_ite, isStar, spl, startE, wipeE, bindT, bindTs, List.map_cons, List.map_nil, List.length_cons, List.length_nil, List.replicate, List.cons_append, List.nil_append, List.append_nil, List.append_assoc, Nat.reduceAdd, Nat.reduceSub, Nat.reduceLT, Nat.reduceLeDiff, List.getElem?_cons_zero, List.getElem?_cons_succ, List.getElem?_nil, Option.join_some, Option.join_none, List.set_cons_zero, List.set_cons_succ, if_true, if_false, Bool.false_eq_true, Bool.true_eq_false, reduceIte, reduceCtorEq, true_and, and_true, Option.map_some, Option.map_none, Nat.succ_eq_add_one, Nat.zero_add, Nat.add_zero, List.singleton_append]
  refine ⟨by decide, by decide, ?_⟩
  refine w_forL (fun ys e s => ∃ (k r : Nat) (ps : List (List PV)) (jk : Sto) (e2 e3 e4 e5 : Option PV), ys = (enumI bag).drop k ∧ e = [some (.tup [b, .tup bag]), some (.ref r), e2, e3, e4, e5, none] ∧ s = st ++ jk ∧ s[r]? = some (.lst (ps.map PV.tup)) ∧ (∀ p, p ∈ ps ↔ p.Sublist (sel bag (bag.take k))) ∧ ps.Nodup) (fun _ _ _ _ => trivial)
    ⟨0, st.length, [[]], _, none, none, none, none, rfl, rfl, rfl, by simp, fun p => by rw [show sel bag (bag.take 0) = [] from List.filter_eq_nil_iff.mpr (by simp)]; simp, by simp⟩ ?_ ?_
  · rintro y ys e s ⟨i, r, ps, jk, e2, e3, e4, e5, hz, rfl, rfl, hg, hm, nd⟩
    have hi : i < bag.length := by
      have := congrArg List.length hz
      rw [List.length_drop, enumI_len, List.length_cons] at this
      omega
    have hy : y = .tuk [.int (i : Nat), bag[i]] ∧ ys = (enumI bag).drop (i + 1) := by
      rw [List.drop_eq_getElem_cons (by rw [enumI_len]; exact hi)] at hz
      have h1 := (List.getElem?_eq_some_iff.mp (enumI_get (List.getElem?_eq_getElem hi))).2
      rw [h1] at hz
      exact ⟨(List.cons.inj hz).1, (List.cons.inj hz).2⟩
    obtain ⟨rfl, rfl⟩ := hy
    have hmem : bag[i] ∈ bag := List.getElem_mem hi
    have htk : bag.take (i + 1) = bag.take i ++ [bag[i]] := by rw [List.take_succ, List.getElem?_eq_getElem hi]; rfl
    have hsub : ∀ p ∈ ps, p.Sublist bag := fun p hp => ((hm p).mp hp).trans List.filter_sublist
    have hsl : slV (.tup bag) none (some (i : Int)) (st ++ jk) = some (.tup (bag.take i), st ++ jk) := by
      simp only [slV]
      rw [cut_take (Nat.le_of_lt hi)]
    have hni : ∀ s, cop .notin bag[i] (.tup (bag.take i)) s = some (!decide (bag[i] ∈ bag.take i)) := fun s => notin_t (hP _ hmem) (isPs_iff.mpr fun z hz => hP z (List.mem_of_mem_take hz)) (hD _ hmem)
    generalize hyy : bag[i] = y at *
    simp -implicitDefEqProofs only [ixV_tup, atI1, sxI, hsl, hni, tru_b, exS, exSs, evX, evs, evt, pr, condOf, w_bin, w_neg, w_cmp, w_isn, w_isb, w_and, w_or, w_not, w_ife, w_tup, w_lst, w_star, w_ix, w_sli, w_call, w_bi, w_met, w_isi, w_comp, w_fstr, w_dict0, w_lvals, w_nil, w_cons, w_tst, w_tnot, w_tand, w_tor, w_var, Kg.w_next, w_seq, w_asg, w_set, w_expr, w_ret, w_if, w_for, w_aug, wO_some, wF_some, wA_some, wA_map, wO_ite, wA_ite, isStar, spl, startE, wipeE, bindT, bindTs, List.map_cons, List.map_nil, List.length_cons, List.length_nil, List.replicate, List.cons_append, List.nil_append, List.append_nil, List.append_assoc, Nat.reduceAdd, Nat.reduceSub, Nat.reduceLT, Nat.reduceLeDiff, List.getElem?_cons_zero, List.getElem?_cons_succ, List.getElem?_nil, Option.join_some, Option.join_none, List.set_cons_zero, List.set_cons_succ, if_true, if_false, Bool.false_eq_true, Bool.true_eq_false, reduceIte, reduceCtorEq, true_and, and_true, Option.map_some, Option.map_none, Nat.succ_eq_add_one, Nat.zero_add, Nat.add_zero, List.singleton_append]
    by_cases hold : y ∈ bag.take i
    · simp only [hold, decide_true, Bool.not_true, Bool.false_eq_true, if_false]
      exact ⟨i + 1, r, ps, jk, _, _, _, _, rfl, rfl, rfl, hg, by rw [htk, sel_old hold]; exact hm, nd⟩
    · simp only [hold, decide_false, Bool.not_false, if_true]
      have e : bag = bag.take i ++ y :: bag.drop (i + 1) := by
        rw [← hyy, ← List.drop_eq_getElem_cons hi, List.take_append_drop]
      obtain ⟨s1, s2⟩ := sel_new e hP hal so hold
      have hc : bag.count y ≤ 7 := Nat.le_trans List.count_le_length hl
      have hpl := hps ps nd hsub
      have hc8 : bag.count y + 1 ≤ sizeLine := sz24 (by omega)
      have hg1 : (st ++ jk ++ [Ob.lst []])[r]? = some (.lst (ps.map PV.tup)) := app_get hg
      refine ⟨Nat.zero_le _, ?_⟩
      rw [List.append_assoc] at hg1
      simp -implicitDefEqProofs only [seq_l hg1, exS, exSs, evX, evs, evt, pr, condOf, w_bin, w_neg, w_cmp, w_isn, w_isb, w_and, w_or, w_not, w_ife, w_tup, w_lst, w_star, w_ix, w_sli, w_call, w_bi, w_met, w_isi, w_comp, w_fstr, w_dict0, w_lvals, w_nil, w_cons, w_tst, w_tnot, w_tand, w_tor, w_var, Kg.w_next, w_seq, w_asg, w_set, w_expr, w_ret, w_if, w_for, w_aug, wO_some, wF_some, wA_some, wA_map, wO_ite, wA_ite, isStar, spl, startE, wipeE, bindT, bindTs, List.map_cons, List.map_nil, List.length_cons, List.length_nil, List.replicate, List.cons_append, List.nil_append, List.append_nil, List.append_assoc, Nat.reduceAdd, Nat.reduceSub, Nat.reduceLT, Nat.reduceLeDiff, List.getElem?_cons_zero, List.getElem?_cons_succ, List.getElem?_nil, Option.join_some, Option.join_none, List.set_cons_zero, List.set_cons_succ, if_true, if_false, Bool.false_eq_true, Bool.true_eq_false, reduceIte, reduceCtorEq, true_and, and_true, Option.map_some, Option.map_none, Nat.succ_eq_add_one, Nat.zero_add, Nat.add_zero, List.singleton_append]
      refine w_forL (fun ys e s => ∃ (as bs : List (List PV)) (q : Nat) (jk : Sto) (e5 : Option PV), ps = as ++ bs ∧ ys = bs.map PV.tup ∧ e = [some (.tup [b, .tup bag]), some (.ref r), some (.int (i : Nat)), some y, some (.ref q), e5, none] ∧ s = st ++ jk ∧ s[r]? = some (.lst (ps.map PV.tup)) ∧ s[q]? = some (.lst ((longer y (bag.count y) as).map PV.tup))) ?_
        ⟨[], ps, _, _, e5, rfl, rfl, rfl, rfl, hg1, by rw [← List.append_assoc]; exact last_get⟩ ?_ ?_
      · rintro ys e s ⟨as, bs, q, jk, e5, _, _, _, _, hr, _⟩
        exact hr
      · rintro v vs e s ⟨as, bs, q, jk, e5, hab, hv, rfl, rfl, hr, hq⟩
        cases bs with
        | nil => cases hv
        | cons p bs =>
        obtain ⟨rfl, rfl⟩ := List.cons.inj hv
        have hpm : p ∈ ps := by rw [hab]; simp
        have hpl2 := (hsub p hpm).length_le
        have hal2 : as.length + (bs.length + 1) ≤ 128 := by rw [hab] at hpl; simpa using hpl
        have hll := longer_len (y := y) (c := bag.count y) as
        have hll2 : as.length * (bag.count y + 1) ≤ 128 * 8 := Nat.mul_le_mul (by omega) (by omega)
        have hct : ∀ s, meV .count (.tup bag) [y] s = some (.int (bag.count y : Nat), s) := fun s => count_t (hP y (hyy ▸ List.getElem_mem hi)) hP (hD y (hyy ▸ List.getElem_mem hi))
        have kc : ∀ s, kindM .count (.tup bag) s = true := fun _ => rfl
        have hra : ∀ s, iterV .range [.int ((bag.count y : Nat) + 1)] s = some ⟨rangeI 0 ((bag.count y + 1 : Nat) : Int), none⟩ := fun s => rangeS hc8
        simp -implicitDefEqProofs only [ixV_tup, atI1, kc, hct, bop_add_i, hra, exS, exSs, evX, evs, evt, pr, condOf, w_bin, w_neg, w_cmp, w_isn, w_isb, w_and, w_or, w_not, w_ife, w_tup, w_lst, w_star, w_ix, w_sli, w_call, w_bi, w_met, w_isi, w_comp, w_fstr, w_dict0, w_lvals, w_nil, w_cons, w_tst, w_tnot, w_tand, w_tor, w_var, Kg.w_next, w_seq, w_asg, w_set, w_expr, w_ret, w_if, w_for, w_aug, wO_some, wF_some, wA_some, wA_map, wO_ite, wA_ite, isStar, spl, startE, wipeE, bindT, bindTs, List.map_cons, List.map_nil, List.length_cons, List.length_nil, List.replicate, List.cons_append, List.nil_append, List.append_nil, List.append_assoc, Nat.reduceAdd, Nat.reduceSub, Nat.reduceLT, Nat.reduceLeDiff, List.getElem?_cons_zero, List.getElem?_cons_succ, List.getElem?_nil, Option.join_some, Option.join_none, List.set_cons_zero, List.set_cons_succ, if_true, if_false, Bool.false_eq_true, Bool.true_eq_false, reduceIte, reduceCtorEq, true_and, and_true, Option.map_some, Option.map_none, Nat.succ_eq_add_one, Nat.zero_add, Nat.add_zero, List.singleton_append]
        refine w_compRange (fun i => .tup (p ++ List.replicate i y)) hc8 (fun i hi jk Q hQ => ?_) fun jk2 => ?_
        · simp -implicitDefEqProofs only [exS, exSs, evX, evs, evt, pr, condOf, w_bin, w_neg, w_cmp, w_isn, w_isb, w_and, w_or, w_not, w_ife, w_tup, w_lst, w_star, w_ix, w_sli, w_call, w_bi, w_met, w_isi, w_comp, w_fstr, w_dict0, w_lvals, w_nil, w_cons, w_tst, w_tnot, w_tand, w_tor, w_var, Kg.w_next, w_seq, w_asg, w_set, w_expr, w_ret, w_if, w_for, w_aug, wO_some, wF_some, wA_some, wA_map, wO_ite, wA_ite, isStar, spl, startE, wipeE, bindT, bindTs, List.map_cons, List.map_nil, List.length_cons, List.length_nil, List.replicate, List.cons_append, List.nil_append, List.append_nil, List.append_assoc, Nat.reduceAdd, Nat.reduceSub, Nat.reduceLT, Nat.reduceLeDiff, List.getElem?_cons_zero, List.getElem?_cons_succ, List.getElem?_nil, Option.join_some, Option.join_none, List.set_cons_zero, List.set_cons_succ, if_true, if_false, Bool.false_eq_true, Bool.true_eq_false, reduceIte, reduceCtorEq, true_and, and_true, Option.map_some, Option.map_none, Nat.succ_eq_add_one, Nat.zero_add, Nat.add_zero, List.singleton_append]
          refine ⟨by decide, ?_⟩
          rw [mul_one (by omega), wO_some, cat_t (by rw [List.length_replicate]; exact sz24 (by omega)), wO_some]
          have := hQ []
          simpa using this
        · have hr2 : (st ++ jk ++ jk2 ++ [Ob.lst ((List.range (bag.count y + 1)).map fun i => PV.tup (p ++ List.replicate i y))])[r]? = some (.lst (ps.map PV.tup)) := app_get (app_get hr)
          have hq2 : (st ++ jk ++ jk2 ++ [Ob.lst ((List.range (bag.count y + 1)).map fun i => PV.tup (p ++ List.replicate i y))])[q]? = some (.lst ((longer y (bag.count y) as).map PV.tup)) := app_get (app_get hq)
          rw [cat_l hq2 last_get (by rw [List.length_map, List.length_map, List.length_range, hll]; exact sz24 (by omega)), wO_some]
          simp -implicitDefEqProofs only [exS, exSs, evX, evs, evt, pr, condOf, w_bin, w_neg, w_cmp, w_isn, w_isb, w_and, w_or, w_not, w_ife, w_tup, w_lst, w_star, w_ix, w_sli, w_call, w_bi, w_met, w_isi, w_comp, w_fstr, w_dict0, w_lvals, w_nil, w_cons, w_tst, w_tnot, w_tand, w_tor, w_var, Kg.w_next, w_seq, w_asg, w_set, w_expr, w_ret, w_if, w_for, w_aug, wO_some, wF_some, wA_some, wA_map, wO_ite, wA_ite, isStar, spl, startE, wipeE, bindT, bindTs, List.map_cons, List.map_nil, List.length_cons, List.length_nil, List.replicate, List.cons_append, List.nil_append, List.append_nil, List.append_assoc, Nat.reduceAdd, Nat.reduceSub, Nat.reduceLT, Nat.reduceLeDiff, List.getElem?_cons_zero, List.getElem?_cons_succ, List.getElem?_nil, Option.join_some, Option.join_none, List.set_cons_zero, List.set_cons_succ, if_true, if_false, Bool.false_eq_true, Bool.true_eq_false, reduceIte, reduceCtorEq, true_and, and_true, Option.map_some, Option.map_none, Nat.succ_eq_add_one, Nat.zero_add, Nat.add_zero, List.singleton_append]
          have el : (longer y (bag.count y) as).map PV.tup ++ ((List.range (bag.count y + 1)).map fun i => PV.tup (p ++ List.replicate i y)) = (longer y (bag.count y) (as ++ [p])).map PV.tup := by
            rw [longer_app, List.map_append, List.map_map]; rfl
          rw [el]
          refine ⟨as ++ [p], bs, _, jk ++ jk2 ++ [Ob.lst ((List.range (bag.count y + 1)).map fun i => PV.tup (p ++ List.replicate i y))] ++ [.lst ((longer y (bag.count y) (as ++ [p])).map PV.tup)], some (.tup p), by rw [hab]; simp, rfl, rfl, by simp, ?_, ?_⟩
          · have := app_get (jk := [Ob.lst ((longer y (bag.count y) (as ++ [p])).map PV.tup)]) hr2
            simpa using this
          · have := last_get (s := st ++ jk ++ jk2 ++ [Ob.lst ((List.range (bag.count y + 1)).map fun i => PV.tup (p ++ List.replicate i y))]) (o := .lst ((longer y (bag.count y) (as ++ [p])).map PV.tup))
            simpa using this
      · rintro e s ⟨as, bs, q, jk, e5, hab, hv, rfl, rfl, hr, hq⟩
        have : bs = [] := by cases bs with | nil => rfl | cons => cases hv
        subst this
        rw [List.append_nil] at hab
        subst hab
        simp -implicitDefEqProofs only [exS, exSs, evX, evs, evt, pr, condOf, w_bin, w_neg, w_cmp, w_isn, w_isb, w_and, w_or, w_not, w_ife, w_tup, w_lst, w_star, w_ix, w_sli, w_call, w_bi, w_met, w_isi, w_comp, w_fstr, w_dict0, w_lvals, w_nil, w_cons, w_tst, w_tnot, w_tand, w_tor, w_var, Kg.w_next, w_seq, w_asg, w_set, w_expr, w_ret, w_if, w_for, w_aug, wO_some, wF_some, wA_some, wA_map, wO_ite, wA_ite, isStar, spl, startE, wipeE, bindT, bindTs, List.map_cons, List.map_nil, List.length_cons, List.length_nil, List.replicate, List.cons_append, List.nil_append, List.append_nil, List.append_assoc, Nat.reduceAdd, Nat.reduceSub, Nat.reduceLT, Nat.reduceLeDiff, List.getElem?_cons_zero, List.getElem?_cons_succ, List.getElem?_nil, Option.join_some, Option.join_none, List.set_cons_zero, List.set_cons_succ, if_true, if_false, Bool.false_eq_true, Bool.true_eq_false, reduceIte, reduceCtorEq, true_and, and_true, Option.map_some, Option.map_none, Nat.succ_eq_add_one, Nat.zero_add, Nat.add_zero, List.singleton_append]
        refine ⟨i + 1, q, _, jk, _, _, _, _, rfl, rfl, rfl, hq, fun p => ?_, longer_nd (fun p hp hyp => hold ?_) nd⟩
        · rw [htk, s2]
          exact longer_mem fun p => by rw [hm, s1]
        · have := (hm p).mp hp
          rw [s1] at this
          exact this.subset hyp
  · rintro e s ⟨i, r, ps, jk, e2, e3, e4, e5, hz, rfl, rfl, hg, hm, nd⟩
    have hi : bag.length ≤ i := by
      have := congrArg List.length hz
      rw [List.length_drop, enumI_len, List.length_nil] at this
      omega
    rw [List.take_of_length_le hi] at hm
    have hsb : sel bag bag = bag := filter_self fun _ h => h
    rw [hsb] at hm
    have hpl := hps ps nd fun p hp => (hm p).mp hp
    simp -implicitDefEqProofs only [seq_l hg, exS, exSs, evX, evs, evt, pr, condOf, w_bin, w_neg, w_cmp, w_isn, w_isb, w_and, w_or, w_not, w_ife, w_tup, w_lst, w_star, w_ix, w_sli, w_call, w_bi, w_met, w_isi, w_comp, w_fstr, w_dict0, w_lvals, w_nil, w_cons, w_tst, w_tnot, w_tand, w_tor, w_var, Kg.w_next, w_seq, w_asg, w_set, w_expr, w_ret, w_if, w_for, w_aug, wO_some, wF_some, wA_some, wA_map, wO_ite, wA_ite, isStar, spl, startE, wipeE, bindT, bindTs, List.map_cons, List.map_nil, List.length_cons, List.length_nil, List.replicate, List.cons_append, List.nil_append, List.append_nil, List.append_assoc, Nat.reduceAdd, Nat.reduceSub, Nat.reduceLT, Nat.reduceLeDiff, List.getElem?_cons_zero, List.getElem?_cons_succ, List.getElem?_nil, Option.join_some, Option.join_none, List.set_cons_zero, List.set_cons_succ, if_true, if_false, Bool.false_eq_true, Bool.true_eq_false, reduceIte, reduceCtorEq, true_and, and_true, Option.map_some, Option.map_none, Nat.succ_eq_add_one, Nat.zero_add, Nat.add_zero, List.singleton_append]
    refine w_compMap (fun v => .tup [b, v]) (show itOk (some (r, .lst (ps.map PV.tup))) (st ++ jk) from hg) (by rw [List.length_map]; exact sz24 (by omega)) (fun x hx jk2 Q hQ => ?_) fun jk2 => ?_
    · simp -implicitDefEqProofs only [ixV_tup, atI0, exS, exSs, evX, evs, evt, pr, condOf, w_bin, w_neg, w_cmp, w_isn, w_isb, w_and, w_or, w_not, w_ife, w_tup, w_lst, w_star, w_ix, w_sli, w_call, w_bi, w_met, w_isi, w_comp, w_fstr, w_dict0, w_lvals, w_nil, w_cons, w_tst, w_tnot, w_tand, w_tor, w_var, Kg.w_next, w_seq, w_asg, w_set, w_expr, w_ret, w_if, w_for, w_aug, wO_some, wF_some, wA_some, wA_map, wO_ite, wA_ite, isStar, spl, startE, wipeE, bindT, bindTs, List.map_cons, List.map_nil, List.length_cons, List.length_nil, List.replicate, List.cons_append, List.nil_append, List.append_nil, List.append_assoc, Nat.reduceAdd, Nat.reduceSub, Nat.reduceLT, Nat.reduceLeDiff, List.getElem?_cons_zero, List.getElem?_cons_succ, List.getElem?_nil, Option.join_some, Option.join_none, List.set_cons_zero, List.set_cons_succ, if_true, if_false, Bool.false_eq_true, Bool.true_eq_false, reduceIte, reduceCtorEq, true_and, and_true, Option.map_some, Option.map_none, Nat.succ_eq_add_one, Nat.zero_add, Nat.add_zero, List.singleton_append]
      refine ⟨by decide, ?_⟩
      have := hQ []
      simpa using this
    · have hW : ∀ x ∈ (ps.map PV.tup).map (fun v => PV.tup [b, v]), WW (h + 1) x := fun x hx => by
        obtain ⟨v, hv, rfl⟩ := List.mem_map.mp hx
        obtain ⟨p, hp, rfl⟩ := List.mem_map.mp hv
        exact ⟨b, p, rfl, hb, Nat.le_trans ((hm p).mp hp).length_le hl, fun t htt => ht t (((hm p).mp hp).subset htt)⟩
      have hlen2 : ((ps.map PV.tup).map (fun v => PV.tup [b, v])).length ≤ 128 := by simp only [List.length_map]; omega
      rw [sorted_l last_get (W_srt hW (by omega) (sz24 (by omega))), wO_some, tuple_l last_get, wO_some]
      simp only [List.append_assoc]
      refine k _ _ (Asc.srt ?_) (fun y => ?_) (by rw [(srt_perm _).length_eq]; exact hlen2)
      · rw [List.map_map]
        unfold List.Nodup
        rw [List.pairwise_map]
        exact nd.imp fun h e => h (by simpa using e)
      · rw [srt_mem, List.mem_map]
        constructor
        · rintro ⟨v, hv, rfl⟩
          obtain ⟨p, hp, rfl⟩ := List.mem_map.mp hv
          exact ⟨p, (hm p).mp hp, rfl⟩
        · rintro ⟨p, hp, rfl⟩
          exact ⟨.tup p, List.mem_map.mpr ⟨p, (hm p).mpr hp, rfl⟩, rfl⟩
end K04
/-! K04z: a worth told right. -/
namespace K04
open PySem Kg
open Classical
variable {n : Nat} {st : Sto} {Q : PV → Sto → Prop}

/-! ### worths with sorted bags -/
def GB (R : PV → Prop) (b : PV) : Prop := (∃ c : Int, 0 ≤ c ∧ c < 3 ∧ b = .tup [.int 0, .int c]) ∨ ∃ (nm : Int) (ws : List PV), 0 ≤ nm ∧ nm < 100 ∧ b = .tup [.int 1, .int nm, .tup ws] ∧ Args R ws
def GS (R : PV → Prop) (w : PV) : Prop := ∃ (b : PV) (bag : List PV), w = .tup [b, .tup bag] ∧ GB R b ∧ bag.length ≤ 7 ∧ (∀ t ∈ bag, TT R t) ∧ bag.Pairwise fun a b => leP a b = true
def GW : Nat → PV → Prop | 0 => fun _ => False | h + 1 => GS (GW h)
theorem GB.mono {R R' : PV → Prop} {b : PV} (k : ∀ w, R w → R' w) (h : GB R b) : GB R' b := by
  rcases h with h | ⟨nm, ws, a, b, c, d⟩
  · exact .inl h
  · exact .inr ⟨nm, ws, a, b, c, d.mono k⟩
theorem GB.B {R R' : PV → Prop} {b : PV} (k : ∀ w, R w → R' w) (h : GB R b) : BB R' b := by
  rcases h with ⟨c, c0, c1, e⟩ | ⟨nm, ws, a, b, c, d⟩
  · exact .inl ⟨c, c0, by omega, e⟩
  · exact .inr ⟨nm, ws, a, b, c, d.mono k⟩
theorem GW.W : ∀ {h : Nat} {w : PV}, GW h w → WW h w
  | 0, _, h => h.elim
  | h + 1, _, ⟨b, bag, e, hb, hl, ht, so⟩ => ⟨b, bag, e, hb.B fun _ z => GW.W z, hl, fun t htt => (ht t htt).mono fun _ z => GW.W z⟩
theorem GW.up : ∀ {h : Nat} {w : PV}, GW h w → GW (h + 1) w
  | 0, _, h => h.elim
  | h + 1, _, ⟨b, bag, e, hb, hl, ht, so⟩ => ⟨b, bag, e, hb.mono fun _ z => GW.up z, hl, fun t htt => (ht t htt).mono fun _ z => GW.up z, so⟩
theorem GW.le {h k : Nat} {w : PV} (hw : GW h w) (hk : h ≤ k) : GW k w := by
  induction hk with
  | refl => exact hw
  | step _ ih => exact ih.up
theorem okRow_of {f : PV → Bool} {ws : List PV} (hl : ws.length ≤ 4) (h : ∀ w ∈ ws, f w = true) : okRow f (.tup ws) = true := by
  simp only [okRow, Bool.and_eq_true, decide_eq_true_eq, List.all_eq_true]
  exact ⟨hl, h⟩
theorem srt_self {xs : List PV} (h : xs.Pairwise fun a b => leP a b = true) : srt xs = xs := List.mergeSort_of_pairwise h
theorem GW.ok : ∀ {k h : Nat} {w : PV}, h ≤ k → GW h w → okW k w = true
  | _, 0, _, _, h => h.elim
  | 0, h + 1, _, hk, _ => by omega
  | k + 1, h + 1, _, hk, ⟨b, bag, e, hb, hl, ht, so⟩ => by
    subst e
    have row : ∀ ws, Args (GW h) ws → okRow (okW k) (.tup ws) = true := fun ws a => okRow_of a.1 fun w hw => GW.ok (by omega) (a.2 w hw)
    have wh : ∀ {lo hi i : Int}, lo ≤ i → i ≤ hi → okWhole lo hi (.int i) = true := fun h1 h2 => by simp only [okWhole, Bool.and_eq_true, decide_eq_true_eq]; exact ⟨h1, h2⟩
    simp only [okW, okWF, Bool.and_eq_true, decide_eq_true_eq, List.all_eq_true]
    refine ⟨?_, fun t htt => ?_, (srt_self so).symm⟩
    · rcases hb with ⟨c, c0, c1, rfl⟩ | ⟨nm, ws, n0, n1, rfl, a⟩
      · simp only [okBase, Bool.and_eq_true]
        exact ⟨wh (by omega) (by omega), wh c0 (by omega)⟩
      · simp only [okBase, Bool.and_eq_true]
        exact ⟨wh (by omega) (by omega), wh n0 (by omega), row ws a⟩
    · obtain ⟨nm, ws, n0, n1, rfl, a⟩ := ht t htt
      simp only [okTurn, Bool.and_eq_true]
      exact ⟨wh n0 (by omega), row ws a⟩
/-! ### depth -/
theorem Gd.int {d : Nat} {i : Int} : Gd d st (.int i) := by
  cases d with
  | zero => exact .inr (.inl ⟨_, rfl⟩)
  | succ d => exact .inl (.inr (.inl ⟨_, rfl⟩))
theorem Gd.mk {d : Nat} {xs : List PV} (hl : xs.length ≤ 1000) (h : ∀ y ∈ xs, Gd d st y) : Gd (d + 1) st (.tup xs) := .inr ⟨xs, rfl, hl, h⟩
theorem Gd.args {R : PV → Prop} {d : Nat} {ws : List PV} (k : ∀ w, R w → Gd d st w) (a : Args R ws) : Gd (d + 1) st (.tup ws) := Gd.mk (by have := a.1; omega) fun w hw => k w (a.2 w hw)
theorem TT.gd {R : PV → Prop} {t : PV} {d : Nat} (k : ∀ w, R w → Gd d st w) (h : TT R t) : Gd (d + 2) st t := by
  obtain ⟨nm, ws, _, _, rfl, a⟩ := h
  exact Gd.mk (by simp) (by simp only [List.mem_cons, List.not_mem_nil, or_false, forall_eq_or_imp, forall_eq]; exact ⟨Gd.int, Gd.args k a⟩)
theorem GB.gd {R : PV → Prop} {b : PV} {d : Nat} (k : ∀ w, R w → Gd d st w) (h : GB R b) : Gd (d + 2) st b := by
  rcases h with ⟨c, _, _, rfl⟩ | ⟨nm, ws, _, _, rfl, a⟩
  · exact Gd.mk (by simp) (by simp only [List.mem_cons, List.not_mem_nil, or_false, forall_eq_or_imp, forall_eq]; exact ⟨Gd.int, Gd.int⟩)
  · exact Gd.mk (by simp) (by simp only [List.mem_cons, List.not_mem_nil, or_false, forall_eq_or_imp, forall_eq]; exact ⟨Gd.int, Gd.int, Gd.args k a⟩)
theorem Gd.two {d : Nat} {a b : PV} (h1 : Gd d st a) (h2 : Gd d st b) : Gd (d + 1) st (.tup [a, b]) := Gd.mk (by simp) (by simp only [List.mem_cons, List.not_mem_nil, or_false, forall_eq_or_imp, forall_eq]; exact ⟨h1, h2⟩)
theorem GW.gd : ∀ {h : Nat} {w : PV}, GW h w → Gd (4 * h) st w
  | 0, _, h => h.elim
  | h + 1, _, ⟨b, bag, e, hb, hl, ht, so⟩ => by
    subst e
    exact Gd.two (d := 4 * h + 3) (hb.gd (d := 4 * h) fun _ z => GW.gd z).up (Gd.mk (d := 4 * h + 2) (by omega) fun t htt => (ht t htt).gd fun _ z => GW.gd z)
/-! ### exact -/
theorem TT.it {R : PV → Prop} {t : PV} {d : Nat} (k : ∀ w, R w → IT d w) (h : TT R t) : IT (d + 2) t := by
  obtain ⟨nm, ws, _, _, rfl, hl, hw⟩ := h
  exact .inr ⟨_, rfl, sz24 (by simp), by
    simp only [List.mem_cons, List.not_mem_nil, or_false, forall_eq_or_imp, forall_eq]
    exact ⟨.inl ⟨_, rfl⟩, .inr ⟨_, rfl, sz24 (by omega), fun w hw' => k w (hw w hw')⟩⟩⟩
theorem BB.it {R : PV → Prop} {t : PV} {d : Nat} (k : ∀ w, R w → IT d w) (h : BB R t) : IT (d + 2) t := by
  rcases h with ⟨c, _, _, rfl⟩ | ⟨nm, ws, _, _, rfl, hl, hw⟩
  · exact .inr ⟨_, rfl, sz24 (by simp), by
      simp only [List.mem_cons, List.not_mem_nil, or_false, forall_eq_or_imp, forall_eq]
      exact ⟨.inl ⟨_, rfl⟩, .inl ⟨_, rfl⟩⟩⟩
  · exact .inr ⟨_, rfl, sz24 (by simp), by
      simp only [List.mem_cons, List.not_mem_nil, or_false, forall_eq_or_imp, forall_eq]
      exact ⟨.inl ⟨_, rfl⟩, .inl ⟨_, rfl⟩, .inr ⟨_, rfl, sz24 (by omega), fun w hw' => k w (hw w hw')⟩⟩⟩
theorem IT.up : ∀ {d : Nat} {x : PV}, IT d x → IT (d + 1) x
  | 0, _, h => .inl h
  | d + 1, _, .inl h => .inl h
  | d + 1, _, .inr ⟨xs, e, l, h⟩ => .inr ⟨xs, e, l, fun y hy => IT.up (h y hy)⟩
theorem IT.le {d e : Nat} {x : PV} (h : IT d x) (hk : d ≤ e) : IT e x := by
  induction hk with
  | refl => exact h
  | step _ ih => exact ih.up
theorem WW.it : ∀ {h : Nat} {w : PV}, WW h w → IT (4 * h) w
  | 0, _, h => h.elim
  | h + 1, _, ⟨b, bag, e, hb, hl, ht⟩ => by
    subst e
    have e4 : 4 * (h + 1) = (4 * h + 3) + 1 := by omega
    rw [e4]
    exact .inr ⟨_, rfl, sz24 (by simp), by
      simp only [List.mem_cons, List.not_mem_nil, or_false, forall_eq_or_imp, forall_eq]
      exact ⟨(hb.it fun _ z => WW.it z).up, .inr ⟨_, rfl, sz24 (by omega), fun t htt => (ht t htt).it fun _ z => WW.it z⟩⟩⟩
theorem IT.mk {d : Nat} {xs : List PV} (hl : xs.length ≤ 1000) (h : ∀ y ∈ xs, IT d y) : IT (d + 1) (.tup xs) := .inr ⟨xs, rfl, sz24 (by omega), h⟩
/-! ### told right: the worth's depth as a tuple is told apart from its height -/
theorem ok_dg {i : Int} (h0 : 0 ≤ i) (h1 : i < 100) : ∀ c ∈ dg i, c < 0x110000 := by
  obtain ⟨m, rfl⟩ := Int.eq_ofNat_of_zero_le h0
  have hm : m < 100 := by omega
  have key : (List.range 100).all (fun m => (dg (m : Int)).all fun c => c < 0x110000) = true := by rfl
  have := List.all_eq_true.mp (List.all_eq_true.mp key m (List.mem_range.mpr hm))
  intro c hc
  simpa using this c hc
theorem strOk_mk {l : List Nat} (h : ∀ c ∈ l, c < 0x110000) : PyData.strOk (mkS l) = true := by
  simp only [PyData.strOk, mkS, List.all_toArray, List.all_eq_true, decide_eq_true_eq]
  exact h
theorem ok_argl {f : PV → List Nat} : ∀ {ws : List PV}, (∀ w ∈ ws, ∀ c ∈ f w, c < 0x110000) → ∀ c ∈ argl f ws, c < 0x110000
  | [], _, c, hc => by simp [argl] at hc
  | [w], h, c, hc => by simp only [argl] at hc; exact h w (by simp) c hc
  | w :: v :: ws, h, c, hc => by
    have ih := ok_argl (f := f) (ws := v :: ws) fun x hx => h x (by simp at hx ⊢; exact .inr hx)
    simp only [argl, List.mem_append, List.mem_cons] at hc ih
    rcases hc with hc | rfl | rfl | hc
    · exact h w (by simp) c hc
    · decide
    · decide
    · exact ih c hc
theorem ok_cl {f : PV → List Nat} {nm : Int} {ws : List PV} (h0 : 0 ≤ nm) (h1 : nm < 100) (h : ∀ w ∈ ws, ∀ c ∈ f w, c < 0x110000) : ∀ c ∈ cl f nm ws, c < 0x110000 := by
  intro c hc
  simp only [cl, List.mem_append, List.mem_cons, List.not_mem_nil, or_false] at hc
  rcases hc with hc | rfl | hc | rfl
  · exact ok_dg h0 h1 c hc
  · decide
  · exact ok_argl h c hc
  · decide
theorem ok_bl {f : PV → List Nat} {R : PV → Prop} (hf : ∀ w, R w → ∀ c ∈ f w, c < 0x110000) : ∀ {ts : List PV}, (∀ t ∈ ts, TT R t) → ∀ c ∈ bl f ts, c < 0x110000
  | [], _, c, hc => by simp [bl] at hc
  | t :: ts, h, c, hc => by
    have ih := ok_bl hf (ts := ts) fun x hx => h x (by simp [hx])
    obtain ⟨nm, ws, h0, h1, rfl, hl, hw⟩ := h t (by simp)
    simp only [bl, tl1, List.mem_append, List.mem_cons] at hc
    rcases hc with rfl | rfl | rfl | hc | hc
    · decide
    · decide
    · decide
    · exact ok_cl h0 h1 (fun w hw' => hf w (hw w hw')) c hc
    · exact ih c hc
theorem ok_tl : ∀ {h : Nat} {w : PV}, WW h w → ∀ c ∈ tl h w, c < 0x110000
  | 0, _, h => h.elim
  | h + 1, _, ⟨b, bag, e, hb, hl, ht⟩ => by
    subst e
    intro c hc
    simp only [tl, wl, List.mem_append] at hc
    rcases hc with hc | hc
    · rcases hb with ⟨j, c0, c1, rfl⟩ | ⟨nm, ws, c0, c1, rfl, d⟩
      · simp only [fl, List.mem_cons] at hc
        rcases hc with rfl | hc
        · decide
        · exact ok_dg c0 c1 c hc
      · simp only [fl] at hc
        exact ok_cl c0 c1 (fun w hw => ok_tl (d.2 w hw)) c hc
    · exact ok_bl (R := WW h) (fun w hw => ok_tl hw) ht c hc
theorem w_told {h : Nat} {w : PV} (hh : h ≤ 30) (hw : GW (h + 1) w) (hsz : nt w ≤ 60000) (hn : 130 ≤ n)
    (kk : ∀ jk, Q (.bl true) (st ++ jk)) : wO (callF ds (n + 1) 36 [w] st) Q := by
  rw [w_callF]
  show wA (some d36) _
  rw [wA_some]
  simp -implicitDefEqProofs only [d36, exS, exSs, evX, evs, evt, pr, condOf, w_bin, w_neg, w_cmp, w_isn, w_isb, w_and, w_or, w_not, w_ife, w_tup, w_lst, w_star, w_ix, w_sli, w_call, w_bi, w_met, w_isi, w_comp, w_fstr, w_dict0, w_lvals, w_nil, w_cons, w_tst, w_tnot, w_tand, w_tor, w_var, Kg.w_next, w_seq, w_asg, w_set, w_expr, w_ret, w_if, w_for, w_aug, wO_some, wF_some, wA_some, wA_map, wO_ite, wA_ite, isStar, spl, startE, wipeE, bindT, bindTs, List.map_cons, List.map_nil, List.length_cons, List.length_nil, List.replicate, List.cons_append, List.nil_append, List.append_nil, List.append_assoc, Nat.reduceAdd, Nat.reduceSub, Nat.reduceLT, Nat.reduceLeDiff, List.getElem?_cons_zero, List.getElem?_cons_succ, List.getElem?_nil, Option.join_some, Option.join_none, List.set_cons_zero, List.set_cons_succ, if_true, if_false, Bool.false_eq_true, Bool.true_eq_false, reduceIte, reduceCtorEq, true_and, and_true, Option.map_some, Option.map_none, Nat.succ_eq_add_one, Nat.zero_add, Nat.add_zero, List.singleton_append]
  obtain ⟨m, rfl⟩ : ∃ m, n = m + 3 * 42 + 1 := ⟨n - 127, by omega⟩
  refine w_worth (k := 42) (by decide) _ _ _ (hw.gd.le (by omega)) fun jk => ?_
  rw [hw.ok (k := 42) (by omega)]
  have hb : (isBl true (.bl true) != true) = false := rfl
  simp -implicitDefEqProofs only [hb, tru_b, exS, exSs, evX, evs, evt, pr, condOf, w_bin, w_neg, w_cmp, w_isn, w_isb, w_and, w_or, w_not, w_ife, w_tup, w_lst, w_star, w_ix, w_sli, w_call, w_bi, w_met, w_isi, w_comp, w_fstr, w_dict0, w_lvals, w_nil, w_cons, w_tst, w_tnot, w_tand, w_tor, w_var, Kg.w_next, w_seq, w_asg, w_set, w_expr, w_ret, w_if, w_for, w_aug, wO_some, wF_some, wA_some, wA_map, wO_ite, wA_ite, isStar, spl, startE, wipeE, bindT, bindTs, List.map_cons, List.map_nil, List.length_cons, List.length_nil, List.replicate, List.cons_append, List.nil_append, List.append_nil, List.append_assoc, Nat.reduceAdd, Nat.reduceSub, Nat.reduceLT, Nat.reduceLeDiff, List.getElem?_cons_zero, List.getElem?_cons_succ, List.getElem?_nil, Option.join_some, Option.join_none, List.set_cons_zero, List.set_cons_succ, if_true, if_false, Bool.false_eq_true, Bool.true_eq_false, reduceIte, reduceCtorEq, true_and, and_true, Option.map_some, Option.map_none, Nat.succ_eq_add_one, Nat.zero_add, Nat.add_zero, List.singleton_append]
  refine w_text (h := h + 1) (m + 3 * 42) _ _ (by omega) hw.W hsz fun jk2 => ?_
  refine w_tdue (h := h + 1) (m + 3 * 42) _ _ (by omega) hw.W hsz fun jk3 => ?_
  have hs : isP (.str (tx (h + 1) w)) = true := by
    simp only [isP]
    exact strOk_mk (ok_tl hw.W)
  rw [cop_ne_P hs hs (by unfold dLim; simp [dpt, dD, PyData.depth])]
  simp -implicitDefEqProofs only [decide_true, Bool.not_true, tru_b, exS, exSs, evX, evs, evt, pr, condOf, w_bin, w_neg, w_cmp, w_isn, w_isb, w_and, w_or, w_not, w_ife, w_tup, w_lst, w_star, w_ix, w_sli, w_call, w_bi, w_met, w_isi, w_comp, w_fstr, w_dict0, w_lvals, w_nil, w_cons, w_tst, w_tnot, w_tand, w_tor, w_var, Kg.w_next, w_seq, w_asg, w_set, w_expr, w_ret, w_if, w_for, w_aug, wO_some, wF_some, wA_some, wA_map, wO_ite, wA_ite, isStar, spl, startE, wipeE, bindT, bindTs, List.map_cons, List.map_nil, List.length_cons, List.length_nil, List.replicate, List.cons_append, List.nil_append, List.append_nil, List.append_assoc, Nat.reduceAdd, Nat.reduceSub, Nat.reduceLT, Nat.reduceLeDiff, List.getElem?_cons_zero, List.getElem?_cons_succ, List.getElem?_nil, Option.join_some, Option.join_none, List.set_cons_zero, List.set_cons_succ, if_true, if_false, Bool.false_eq_true, Bool.true_eq_false, reduceIte, reduceCtorEq, true_and, and_true, Option.map_some, Option.map_none, Nat.succ_eq_add_one, Nat.zero_add, Nat.add_zero, List.singleton_append]
  have hp : ∀ v, v ∈ parts w → WW h v := fun v hv => parts_W hw.W hv
  obtain ⟨m2, hm2⟩ : ∃ m2, m + 3 * 42 + 1 = m2 + 2 := ⟨m + 3 * 42 - 1, by omega⟩
  rw [hm2]
  refine w_partsA (by omega) hw.W fun ys jk4 a1 m1 l1 => ?_
  refine w_partsDA (by omega) hw.W fun zs jk5 a2 m2' l2 => ?_
  obtain rfl : ys = zs := Asc.eq (fun x hx => (hp x ((m1 x).mp hx)).isP) (fun x hx y hy => (hp x ((m1 x).mp hx)).alike y (hp y ((m1 y).mp hy))) a1 a2 fun x => by rw [m1, m2']
  refine w_exact (d := 4 * h + 1) (m2 + 1) _ _ (by omega) (IT.mk (by omega) fun y hy => (hp y ((m1 y).mp hy)).it) fun jk6 => ?_
  simp -implicitDefEqProofs only [tru_b, exS, exSs, evX, evs, evt, pr, condOf, w_bin, w_neg, w_cmp, w_isn, w_isb, w_and, w_or, w_not, w_ife, w_tup, w_lst, w_star, w_ix, w_sli, w_call, w_bi, w_met, w_isi, w_comp, w_fstr, w_dict0, w_lvals, w_nil, w_cons, w_tst, w_tnot, w_tand, w_tor, w_var, Kg.w_next, w_seq, w_asg, w_set, w_expr, w_ret, w_if, w_for, w_aug, wO_some, wF_some, wA_some, wA_map, wO_ite, wA_ite, isStar, spl, startE, wipeE, bindT, bindTs, List.map_cons, List.map_nil, List.length_cons, List.length_nil, List.replicate, List.cons_append, List.nil_append, List.append_nil, List.append_assoc, Nat.reduceAdd, Nat.reduceSub, Nat.reduceLT, Nat.reduceLeDiff, List.getElem?_cons_zero, List.getElem?_cons_succ, List.getElem?_nil, Option.join_some, Option.join_none, List.set_cons_zero, List.set_cons_succ, if_true, if_false, Bool.false_eq_true, Bool.true_eq_false, reduceIte, reduceCtorEq, true_and, and_true, Option.map_some, Option.map_none, Nat.succ_eq_add_one, Nat.zero_add, Nat.add_zero, List.singleton_append]
  have hwW := hw.W
  obtain ⟨b, bag, rfl, hb2, hl, ht, so⟩ := hw
  refine w_bagsA (h := h) rfl (by omega) hwW fun ys2 jk7 a3 m3 l3 => ?_
  refine w_bagsD (h := h) (by omega) hwW so fun zs2 jk8 a4 m4 l4 => ?_
  have hbW : ∀ y ∈ ys2, WW (h + 1) y := fun y hy => by
    obtain ⟨s, hs, rfl⟩ := (m3 y).mp hy
    obtain ⟨b', bag', e0, hb', hl', ht'⟩ := hwW
    cases e0
    exact ⟨b, s, rfl, hb', Nat.le_trans hs.length_le hl', fun t htt => ht' t (hs.subset htt)⟩
  obtain rfl : ys2 = zs2 := Asc.eq (fun x hx => (hbW x hx).isP) (fun x hx y hy => (hbW x hx).alike y (hbW y hy)) a3 a4 fun x => by rw [m3, m4]
  refine w_exact (d := 4 * (h + 1) + 1) (m2 + 1) _ _ (by omega) (IT.mk (by omega) fun y hy => (hbW y hy).it) fun jk9 => ?_
  simp only [List.append_assoc]
  exact kk _
end K04
/-! K04ea: the pool. -/
namespace K04
open PySem Kg
open Classical
variable {n : Nat} {st : Sto} {Q : PV → Sto → Prop}

theorem hM : ds[14]? = some mixedDef := rfl
theorem hTk : ds[15]? = some (takeDef 14) := rfl
theorem take_ {h c : Nat} {m : Int} (H : Hand st h c) (m1 : 0 < m) (m2 : m < 1073741824) (k : ∀ (i : Int) (st' : Sto), 0 ≤ i → i < m → Keep [h] st st' → Hand st' h c → Q (.int i) st') : wO (callF ds (n + 2) 15 [.ref h, .int m] st) Q := w_take hM hTk H m1 m2 k
theorem atI_in {xs : List PV} {i : Int} (h0 : 0 ≤ i) (h1 : i < xs.length) : ∃ x, L2.atI xs i = some x ∧ x ∈ xs := by
  obtain ⟨k, rfl⟩ := Int.eq_ofNat_of_zero_le h0
  exact ⟨_, atI_nat (by omega), List.getElem_mem (by omega)⟩
/-- a list or a tuple handed in -/
def Arg (st : Sto) (v : PV) (xs : List PV) : Prop := v = .tup xs ∨ ∃ r, v = .ref r ∧ st[r]? = some (.lst xs)
theorem Arg.app {v : PV} {xs : List PV} {jk : Sto} (a : Arg st v xs) : Arg (st ++ jk) v xs := by
  rcases a with rfl | ⟨r, rfl, hr⟩
  · exact .inl rfl
  · exact .inr ⟨r, rfl, app_get hr⟩
theorem Arg.list {v : PV} {xs : List PV} (a : Arg st v xs) : biV .list [v] st = some (.ref st.length, st ++ [.lst xs]) := by
  rcases a with rfl | ⟨r, rfl, hr⟩
  · rfl
  · exact list_l hr
theorem Arg.tuple {v : PV} {xs : List PV} (a : Arg st v xs) : biV .tuple [v] st = some (.tup xs, st) := by
  rcases a with rfl | ⟨r, rfl, hr⟩
  · rfl
  · exact tuple_l hr
theorem Arg.len {v : PV} {xs : List PV} (a : Arg st v xs) : biV .len [v] st = some (.int xs.length, st) := by
  rcases a with rfl | ⟨r, rfl, hr⟩
  · rfl
  · exact len_l hr
theorem Arg.ix {v : PV} {xs : List PV} {i : Int} (a : Arg st v xs) : ixV v (.int i) st = L2.atI xs i := by
  rcases a with rfl | ⟨r, rfl, hr⟩
  · rfl
  · exact ixV_ref hr
theorem Arg.keep {st st' : Sto} {v : PV} {xs : List PV} {S : List Nat} (a : Arg st v xs) (k : Keep S st st') (hS : ∀ r, v = .ref r → r ∉ S) : Arg st' v xs := by
  rcases a with rfl | ⟨r, rfl, hr⟩
  · exact .inl rfl
  · exact .inr ⟨r, rfl, k.get hr (hS r rfl)⟩
theorem _root_.Kg.Keep.appR {S : List Nat} {a b jk : Sto} (k : Keep S a b) : Keep S a (b ++ jk) := k.trans Keep.app
theorem _root_.Kg.Hand.app {h c : Nat} {jk : Sto} (H : Hand st h c) : Hand (st ++ jk) h c := H.keep (S := []) Keep.app (by simp) (by simp)
theorem _root_.Kg.Hand.lt {h c : Nat} (H : Hand st h c) : h < st.length := by
  obtain ⟨⟨_, _, _, _, e1, _⟩, _⟩ := H
  exact get_lt e1
theorem _root_.Kg.Hand.lt2 {h c : Nat} (H : Hand st h c) : c < st.length := by
  obtain ⟨⟨_, _, _, _, _, e1⟩, _⟩ := H
  exact get_lt e1
/-- a list or a tuple of it, as is drawn -/
theorem w_given {h c : Nat} {xs : List PV} (H : Hand st h c) (k : ∀ v st', Keep [h] st st' → Hand st' h c → Arg st' v xs → (∀ r, v = .ref r → r ≠ h) → Q v st') : wO (callF ds (n + 3) 18 [.ref h, .tup xs] st) Q := by
  rw [w_callF]
  show wA (some d18) _
  rw [wA_some]
  simp -implicitDefEqProofs only [d18, exS, exSs, evX, evs, evt, pr, condOf, w_bin, w_neg, w_cmp, w_isn, w_isb, w_and, w_or, w_not, w_ife, w_tup, w_lst, w_star, w_ix, w_sli, w_call, w_bi, w_met, w_isi, w_comp, w_fstr, w_dict0, w_lvals, w_nil, w_cons, w_tst, w_tnot, w_tand, w_tor, w_var, Kg.w_next, w_seq, w_asg, w_set, w_expr, w_ret, w_if, w_for, w_aug, wO_some, wF_some, wA_some, wA_map, wO_ite, wA_ite, isStar, spl, startE, wipeE, bindT, bindTs, List.map_cons, List.map_nil, List.length_cons, List.length_nil, List.replicate, List.cons_append, List.nil_append, List.append_nil, List.append_assoc, Nat.reduceAdd, Nat.reduceSub, Nat.reduceLT, Nat.reduceLeDiff, List.getElem?_cons_zero, List.getElem?_cons_succ, List.getElem?_nil, Option.join_some, Option.join_none, List.set_cons_zero, List.set_cons_succ, if_true, if_false, Bool.false_eq_true, Bool.true_eq_false, reduceIte, reduceCtorEq, true_and, and_true, Option.map_some, Option.map_none, Nat.succ_eq_add_one, Nat.zero_add, Nat.add_zero, List.singleton_append]
  refine take_ H (by omega) (by omega) fun j s1 j0 j1 kp1 H1 => ?_
  simp -implicitDefEqProofs only [cop_eq_i, tru_b, dec_if, list_t, tuple_t, exS, exSs, evX, evs, evt, pr, condOf, w_bin, w_neg, w_cmp, w_isn, w_isb, w_and, w_or, w_not, w_ife, w_tup, w_lst, w_star, w_ix, w_sli, w_call, w_bi, w_met, w_isi, w_comp, w_fstr, w_dict0, w_lvals, w_nil, w_cons, w_tst, w_tnot, w_tand, w_tor, w_var, Kg.w_next, w_seq, w_asg, w_set, w_expr, w_ret, w_if, w_for, w_aug, wO_some, wF_some, wA_some, wA_map, wO_ite, wA_ite, isStar, spl, startE, wipeE, bindT, bindTs, List.map_cons, List.map_nil, List.length_cons, List.length_nil, List.replicate, List.cons_append, List.nil_append, List.append_nil, List.append_assoc, Nat.reduceAdd, Nat.reduceSub, Nat.reduceLT, Nat.reduceLeDiff, List.getElem?_cons_zero, List.getElem?_cons_succ, List.getElem?_nil, Option.join_some, Option.join_none, List.set_cons_zero, List.set_cons_succ, if_true, if_false, Bool.false_eq_true, Bool.true_eq_false, reduceIte, reduceCtorEq, true_and, and_true, Option.map_some, Option.map_none, Nat.succ_eq_add_one, Nat.zero_add, Nat.add_zero, List.singleton_append]
  split
  · exact k _ _ kp1.appR (Hand.app H1) (.inr ⟨_, rfl, last_get⟩) (fun r e => by cases e; have := H1.lt; omega)
  · exact k _ _ kp1 H1 (.inl rfl) (fun r e => by cases e)
/-! ### sizes -/
def bagL : PV → Nat | .tup [_, .tup bag] => bag.length | _ => 0
structure EntD (i : Nat) (w : PV) (k : Int) : Prop where
  g : GW (i + 1) w
  s : (nt w : Int) + 2 * (7 - (bagL w : Int)) ≤ 18 * k
  k0 : 1 ≤ k
  k1 : k ≤ 108
def Ent (i : Nat) (e : PV) : Prop := ∃ (w : PV) (k : Int), e = .tup [w, .int k] ∧ EntD i w k
theorem EntD.up {i : Nat} {w : PV} {k : Int} (h : EntD i w k) : EntD (i + 1) w k := ⟨h.g.up, h.s, h.k0, h.k1⟩
theorem Ent.up {i : Nat} {e : PV} (h : Ent i e) : Ent (i + 1) e := by
  obtain ⟨w, k, e, a⟩ := h
  exact ⟨w, k, e, a.up⟩
theorem Ent.le {i j : Nat} {e : PV} (h : Ent i e) (hij : i ≤ j) : Ent j e := by
  induction hij with
  | refl => exact h
  | step _ ih => exact ih.up
theorem GW.bag7 {h : Nat} {w : PV} (hw : GW h w) : bagL w ≤ 7 := by
  cases h with
  | zero => exact hw.elim
  | succ h =>
    obtain ⟨b, bag, rfl, hb, hl, ht, so⟩ := hw
    exact hl
theorem EntD.nt {i : Nat} {w : PV} {k : Int} (h : EntD i w k) : (K04.nt w : Int) ≤ 18 * k := by
  have := h.s
  have := h.g.bag7
  omega
structure Pl (ents : List PV) (i : Nat) : Prop where
  l3 : 3 ≤ ents.length
  li : ents.length ≤ 3 + i
  all : ∀ e ∈ ents, Ent i e
  one : ∀ j : Nat, j < 3 → ∀ e, ents[j]? = some e → ∃ w, e = .tup [w, .int 1]
theorem w_pick {h c p i : Nat} {ents : List PV} {room : Int} (H : Hand st h c) (ne : p ≠ h) (hp : st[p]? = some (.lst ents)) (P : Pl ents i) (hi : i ≤ 50) (h1 : 1 ≤ room)
    (k : ∀ w kk st', EntD i w kk → kk ≤ room → Keep [h] st st' → Hand st' h c → Q (.tup [w, .int kk]) st') : wO (callF ds (n + 3) 20 [.ref h, .ref p, .int room] st) Q := by
  rw [w_callF]
  show wA (some d20) _
  rw [wA_some]
  have hpn : p ∉ [h] := by simpa using ne
  have l3 := P.l3
  have li := P.li
  simp -implicitDefEqProofs only [d20, len_l hp, exS, exSs, evX, evs, evt, pr, condOf, w_bin, w_neg, w_cmp, w_isn, w_isb, w_and, w_or, w_not, w_ife, w_tup, w_lst, w_star, w_ix, w_sli, w_call, w_bi, w_met, w_isi, w_comp, w_fstr, w_dict0, w_lvals, w_nil, w_cons, w_tst, w_tnot, w_tand, w_tor, w_var, Kg.w_next, w_seq, w_asg, w_set, w_expr, w_ret, w_if, w_for, w_aug, wO_some, wF_some, wA_some, wA_map, wO_ite, wA_ite, isStar, spl, startE, wipeE, bindT, bindTs, List.map_cons, List.map_nil, List.length_cons, List.length_nil, List.replicate, List.cons_append, List.nil_append, List.append_nil, List.append_assoc, Nat.reduceAdd, Nat.reduceSub, Nat.reduceLT, Nat.reduceLeDiff, List.getElem?_cons_zero, List.getElem?_cons_succ, List.getElem?_nil, Option.join_some, Option.join_none, List.set_cons_zero, List.set_cons_succ, if_true, if_false, Bool.false_eq_true, Bool.true_eq_false, reduceIte, reduceCtorEq, true_and, and_true, Option.map_some, Option.map_none, Nat.succ_eq_add_one, Nat.zero_add, Nat.add_zero, List.singleton_append]
  refine take_ H (by omega) (by omega) fun j s1 i0 i1 kp1 H1 => ?_
  obtain ⟨e, he, hem⟩ := atI_in i0 i1
  rw [ixV_ref (kp1.get hp hpn), he, wA_some]
  obtain ⟨w, kk, rfl, hD⟩ := P.all e hem
  simp -implicitDefEqProofs only [ixV_tup, atI1, cop_gt_i, tru_b, dec_if, exS, exSs, evX, evs, evt, pr, condOf, w_bin, w_neg, w_cmp, w_isn, w_isb, w_and, w_or, w_not, w_ife, w_tup, w_lst, w_star, w_ix, w_sli, w_call, w_bi, w_met, w_isi, w_comp, w_fstr, w_dict0, w_lvals, w_nil, w_cons, w_tst, w_tnot, w_tand, w_tor, w_var, Kg.w_next, w_seq, w_asg, w_set, w_expr, w_ret, w_if, w_for, w_aug, wO_some, wF_some, wA_some, wA_map, wO_ite, wA_ite, isStar, spl, startE, wipeE, bindT, bindTs, List.map_cons, List.map_nil, List.length_cons, List.length_nil, List.replicate, List.cons_append, List.nil_append, List.append_nil, List.append_assoc, Nat.reduceAdd, Nat.reduceSub, Nat.reduceLT, Nat.reduceLeDiff, List.getElem?_cons_zero, List.getElem?_cons_succ, List.getElem?_nil, Option.join_some, Option.join_none, List.set_cons_zero, List.set_cons_succ, if_true, if_false, Bool.false_eq_true, Bool.true_eq_false, reduceIte, reduceCtorEq, true_and, and_true, Option.map_some, Option.map_none, Nat.succ_eq_add_one, Nat.zero_add, Nat.add_zero, List.singleton_append]
  split
  · refine take_ H1 (by omega) (by omega) fun i2 s2 j0 j1 kp2 H2 => ?_
    obtain ⟨q, rfl⟩ := Int.eq_ofNat_of_zero_le j0
    have hq : q < ents.length := by omega
    rw [ixV_ref ((kp1.trans kp2).get hp hpn), atI_nat hq, wA_some]
    obtain ⟨w2, e2⟩ := P.one q (by omega) _ (List.getElem?_eq_getElem hq)
    obtain ⟨w3, k3, e3, hD3⟩ := P.all _ (List.getElem_mem hq)
    rw [e2] at e3
    cases e3
    rw [e2]
    exact k _ _ _ hD3 h1 (kp1.trans kp2) H2
  · exact k _ _ _ hD (by omega) kp1 H1
theorem w_name {h c : Nat} (H : Hand st h c) (k : ∀ (i : Int) (st' : Sto), 0 ≤ i → i < 100 → Keep [h] st st' → Hand st' h c → Q (.int i) st') : wO (callF ds (n + 3) 21 [.ref h] st) Q := by
  rw [w_callF]
  show wA (some d21) _
  rw [wA_some]
  simp -implicitDefEqProofs only [d21, exS, exSs, evX, evs, evt, pr, condOf, w_bin, w_neg, w_cmp, w_isn, w_isb, w_and, w_or, w_not, w_ife, w_tup, w_lst, w_star, w_ix, w_sli, w_call, w_bi, w_met, w_isi, w_comp, w_fstr, w_dict0, w_lvals, w_nil, w_cons, w_tst, w_tnot, w_tand, w_tor, w_var, Kg.w_next, w_seq, w_asg, w_set, w_expr, w_ret, w_if, w_for, w_aug, wO_some, wF_some, wA_some, wA_map, wO_ite, wA_ite, isStar, spl, startE, wipeE, bindT, bindTs, List.map_cons, List.map_nil, List.length_cons, List.length_nil, List.replicate, List.cons_append, List.nil_append, List.append_nil, List.append_assoc, Nat.reduceAdd, Nat.reduceSub, Nat.reduceLT, Nat.reduceLeDiff, List.getElem?_cons_zero, List.getElem?_cons_succ, List.getElem?_nil, Option.join_some, Option.join_none, List.set_cons_zero, List.set_cons_succ, if_true, if_false, Bool.false_eq_true, Bool.true_eq_false, reduceIte, reduceCtorEq, true_and, and_true, Option.map_some, Option.map_none, Nat.succ_eq_add_one, Nat.zero_add, Nat.add_zero, List.singleton_append]
  refine take_ H (by omega) (by omega) fun i s1 i0 i1 kp1 H1 => ?_
  simp -implicitDefEqProofs only [cop_eq_i, tru_b, dec_if, exS, exSs, evX, evs, evt, pr, condOf, w_bin, w_neg, w_cmp, w_isn, w_isb, w_and, w_or, w_not, w_ife, w_tup, w_lst, w_star, w_ix, w_sli, w_call, w_bi, w_met, w_isi, w_comp, w_fstr, w_dict0, w_lvals, w_nil, w_cons, w_tst, w_tnot, w_tand, w_tor, w_var, Kg.w_next, w_seq, w_asg, w_set, w_expr, w_ret, w_if, w_for, w_aug, wO_some, wF_some, wA_some, wA_map, wO_ite, wA_ite, isStar, spl, startE, wipeE, bindT, bindTs, List.map_cons, List.map_nil, List.length_cons, List.length_nil, List.replicate, List.cons_append, List.nil_append, List.append_nil, List.append_assoc, Nat.reduceAdd, Nat.reduceSub, Nat.reduceLT, Nat.reduceLeDiff, List.getElem?_cons_zero, List.getElem?_cons_succ, List.getElem?_nil, Option.join_some, Option.join_none, List.set_cons_zero, List.set_cons_succ, if_true, if_false, Bool.false_eq_true, Bool.true_eq_false, reduceIte, reduceCtorEq, true_and, and_true, Option.map_some, Option.map_none, Nat.succ_eq_add_one, Nat.zero_add, Nat.add_zero, List.singleton_append]
  split
  · exact take_ H1 (by omega) (by omega) fun i2 s2 j0 j1 kp2 H2 => k _ _ j0 (by omega) (kp1.trans kp2) H2
  · exact take_ H1 (by omega) (by omega) fun i2 s2 j0 j1 kp2 H2 => k _ _ j0 (by omega) (kp1.trans kp2) H2
theorem range_any {j : Int} (h0 : 0 ≤ j) (h1 : j < 1000000) : ∃ m : Nat, (m : Int) = j ∧ iterV .range [.int j] st = some ⟨(List.range m).map fun i => PV.int (i : Nat), none⟩ := by
  obtain ⟨m, rfl⟩ := Int.eq_ofNat_of_zero_le h0
  refine ⟨m, rfl, ?_⟩
  rw [rangeS (by rw [sizeLine_eq]; omega), ← rangeI_eq]
theorem intsP_map : ∀ bs : List Int, intsP (bs.map PV.int) = some bs
  | [] => rfl
  | b :: bs => by simp only [List.map_cons, intsP, intsP_map bs, Option.map_some]
def fst2 : PV → PV | .tup [w, _] => w | _ => .non
def snd2 : PV → PV | .tup [_, w] => w | _ => .non
def sndI : PV → Int | .tup [_, .int k] => k | _ => 0
/-- worths that are picked -/
structure Pk (i : Nat) (ws : List PV) (K : Int) : Prop where
  l : ws.length ≤ 4
  g : ∀ w ∈ ws, GW (i + 1) w
  s : (nts ws : Int) ≤ 18 * K
  k0 : 0 ≤ K
  k1 : K ≤ 48
theorem pk_of {i : Nat} : ∀ {acc : List PV}, (∀ e ∈ acc, ∃ w kk, e = .tup [w, .int kk] ∧ EntD i w kk ∧ kk ≤ 12) →
    (∀ w ∈ acc.map fst2, GW (i + 1) w) ∧ (nts (acc.map fst2) : Int) ≤ 18 * (acc.map sndI).sum ∧ 0 ≤ (acc.map sndI).sum ∧ (acc.map sndI).sum ≤ 12 * acc.length
  | [], _ => by simp [nts]
  | e :: acc, h => by
    obtain ⟨w, kk, rfl, hD, h12⟩ := h e (by simp)
    obtain ⟨a, b, c, d⟩ := pk_of (acc := acc) fun x hx => h x (by simp [hx])
    have := hD.nt
    have := hD.k0
    simp only [List.map_cons, List.sum_cons, fst2, sndI, nts, List.length_cons, List.mem_cons, forall_eq_or_imp]
    exact ⟨⟨hD.g, a⟩, by omega, by omega, by omega⟩
theorem w_picks {h c p i : Nat} {ents : List PV} (H : Hand st h c) (ne : p ≠ h) (hp : st[p]? = some (.lst ents)) (P : Pl ents i) (hi : i ≤ 50)
    (k : ∀ ws (K : Int) st', Pk i ws K → Keep [h] st st' → Hand st' h c → Q (.tup [.tup ws, .int K]) st') : wO (callF ds (n + 4) 22 [.ref h, .ref p] st) Q := by
  have hpn : p ∉ [h] := by simpa using ne
  rw [w_callF]
  show wA (some d22) _
  rw [wA_some]
  simp -implicitDefEqProofs only [d22, exS, exSs, evX, evs, evt, pr, condOf, w_bin, w_neg, w_cmp, w_isn, w_isb, w_and, w_or, w_not, w_ife, w_tup, w_lst, w_star, w_ix, w_sli, w_call, w_bi, w_met, w_isi, w_comp, w_fstr, w_dict0, w_lvals, w_nil, w_cons, w_tst, w_tnot, w_tand, w_tor, w_var, Kg.w_next, w_seq, w_asg, w_set, w_expr, w_ret, w_if, w_for, w_aug, wO_some, wF_some, wA_some, wA_map, wO_ite, wA_ite, isStar, spl, startE, wipeE, bindT, bindTs, List.map_cons, List.map_nil, List.length_cons, List.length_nil, List.replicate, List.cons_append, List.nil_append, List.append_nil, List.append_assoc, Nat.reduceAdd, Nat.reduceSub, Nat.reduceLT, Nat.reduceLeDiff, List.getElem?_cons_zero, List.getElem?_cons_succ, List.getElem?_nil, Option.join_some, Option.join_none, List.set_cons_zero, List.set_cons_succ, if_true, if_false, Bool.false_eq_true, Bool.true_eq_false, reduceIte, reduceCtorEq, true_and, and_true, Option.map_some, Option.map_none, Nat.succ_eq_add_one, Nat.zero_add, Nat.add_zero, List.singleton_append]
  refine take_ H (by omega) (by omega) fun j s1 j0 j1 kp1 H1 => ?_
  obtain ⟨m, hm, hr⟩ := range_any (st := s1) j0 (by omega)
  rw [hr, wA_some]
  refine w_compL (c := none) (fun ys acc s => acc.length + ys.length = m ∧ (∀ e ∈ acc, ∃ w kk, e = .tup [w, .int kk] ∧ EntD i w kk ∧ kk ≤ 12) ∧ Keep [h] st s ∧ Hand s h c ∧ ∀ y ∈ ys, ∃ z, y = .int z) (fun _ _ _ _ => trivial) ⟨by simp, by simp, kp1, H1, by simp⟩ ?_ ?_
  · rintro y ys acc s ⟨hl, ha, kp, Hs, hy⟩
    simp -implicitDefEqProofs only [exS, exSs, evX, evs, evt, pr, condOf, w_bin, w_neg, w_cmp, w_isn, w_isb, w_and, w_or, w_not, w_ife, w_tup, w_lst, w_star, w_ix, w_sli, w_call, w_bi, w_met, w_isi, w_comp, w_fstr, w_dict0, w_lvals, w_nil, w_cons, w_tst, w_tnot, w_tand, w_tor, w_var, Kg.w_next, w_seq, w_asg, w_set, w_expr, w_ret, w_if, w_for, w_aug, wO_some, wF_some, wA_some, wA_map, wO_ite, wA_ite, isStar, spl, startE, wipeE, bindT, bindTs, List.map_cons, List.map_nil, List.length_cons, List.length_nil, List.replicate, List.cons_append, List.nil_append, List.append_nil, List.append_assoc, Nat.reduceAdd, Nat.reduceSub, Nat.reduceLT, Nat.reduceLeDiff, List.getElem?_cons_zero, List.getElem?_cons_succ, List.getElem?_nil, Option.join_some, Option.join_none, List.set_cons_zero, List.set_cons_succ, if_true, if_false, Bool.false_eq_true, Bool.true_eq_false, reduceIte, reduceCtorEq, true_and, and_true, Option.map_some, Option.map_none, Nat.succ_eq_add_one, Nat.zero_add, Nat.add_zero, List.singleton_append]
    refine w_pick Hs ne (kp.get hp hpn) P hi (by decide) fun w kk s2 hD h12 kp2 H2 => ?_
    rw [List.length_cons] at hl
    refine ⟨by rw [sizeLine_eq]; omega, by rw [List.length_append, List.length_singleton]; omega, fun x hx => ?_, kp.trans kp2, H2, fun z hz => hy z (by simp [hz])⟩
    rcases List.mem_append.mp hx with hx | hx
    · exact ha x hx
    · rw [List.mem_singleton.mp hx]; exact ⟨w, kk, rfl, hD, h12⟩
  · rintro acc s ⟨hl, ha, kp, Hs, _⟩
    have hl4 : acc.length ≤ 4 := by simp at hl; omega
    have g0 : (s ++ [Ob.lst acc])[s.length]? = some (.lst acc) := last_get
    simp -implicitDefEqProofs only [seq_l g0, exS, exSs, evX, evs, evt, pr, condOf, w_bin, w_neg, w_cmp, w_isn, w_isb, w_and, w_or, w_not, w_ife, w_tup, w_lst, w_star, w_ix, w_sli, w_call, w_bi, w_met, w_isi, w_comp, w_fstr, w_dict0, w_lvals, w_nil, w_cons, w_tst, w_tnot, w_tand, w_tor, w_var, Kg.w_next, w_seq, w_asg, w_set, w_expr, w_ret, w_if, w_for, w_aug, wO_some, wF_some, wA_some, wA_map, wO_ite, wA_ite, isStar, spl, startE, wipeE, bindT, bindTs, List.map_cons, List.map_nil, List.length_cons, List.length_nil, List.replicate, List.cons_append, List.nil_append, List.append_nil, List.append_assoc, Nat.reduceAdd, Nat.reduceSub, Nat.reduceLT, Nat.reduceLeDiff, List.getElem?_cons_zero, List.getElem?_cons_succ, List.getElem?_nil, Option.join_some, Option.join_none, List.set_cons_zero, List.set_cons_succ, if_true, if_false, Bool.false_eq_true, Bool.true_eq_false, reduceIte, reduceCtorEq, true_and, and_true, Option.map_some, Option.map_none, Nat.succ_eq_add_one, Nat.zero_add, Nat.add_zero, List.singleton_append]
    refine w_compMap fst2 (show itOk (some (s.length, .lst acc)) (s ++ [Ob.lst acc]) from g0) (show acc.length ≤ sizeLine from sz24 (by omega)) (fun x hx jk Q hQ => ?_) fun jk => ?_
    · obtain ⟨w, kk, rfl, _, _⟩ := ha x hx
      simp -implicitDefEqProofs only [ixV_tup, atI0, exS, exSs, evX, evs, evt, pr, condOf, w_bin, w_neg, w_cmp, w_isn, w_isb, w_and, w_or, w_not, w_ife, w_tup, w_lst, w_star, w_ix, w_sli, w_call, w_bi, w_met, w_isi, w_comp, w_fstr, w_dict0, w_lvals, w_nil, w_cons, w_tst, w_tnot, w_tand, w_tor, w_var, Kg.w_next, w_seq, w_asg, w_set, w_expr, w_ret, w_if, w_for, w_aug, wO_some, wF_some, wA_some, wA_map, wO_ite, wA_ite, isStar, spl, startE, wipeE, bindT, bindTs, List.map_cons, List.map_nil, List.length_cons, List.length_nil, List.replicate, List.cons_append, List.nil_append, List.append_nil, List.append_assoc, Nat.reduceAdd, Nat.reduceSub, Nat.reduceLT, Nat.reduceLeDiff, List.getElem?_cons_zero, List.getElem?_cons_succ, List.getElem?_nil, Option.join_some, Option.join_none, List.set_cons_zero, List.set_cons_succ, if_true, if_false, Bool.false_eq_true, Bool.true_eq_false, reduceIte, reduceCtorEq, true_and, and_true, Option.map_some, Option.map_none, Nat.succ_eq_add_one, Nat.zero_add, Nat.add_zero, List.singleton_append]
      have := hQ []
      simpa [fst2] using this
    · have g1 : (s ++ [Ob.lst acc] ++ jk ++ [Ob.lst (acc.map fst2)])[s.length]? = some (.lst acc) := app_get (app_get g0)
      rw [tuple_l last_get, wO_some, seq_l g1, wA_some]
      refine w_compMap snd2 (show itOk (some (s.length, .lst acc)) _ from g1) (show acc.length ≤ sizeLine from sz24 (by omega)) (fun x hx jk2 Q hQ => ?_) fun jk2 => ?_
      · obtain ⟨w, kk, rfl, _, _⟩ := ha x hx
        simp -implicitDefEqProofs only [ixV_tup, atI1, exS, exSs, evX, evs, evt, pr, condOf, w_bin, w_neg, w_cmp, w_isn, w_isb, w_and, w_or, w_not, w_ife, w_tup, w_lst, w_star, w_ix, w_sli, w_call, w_bi, w_met, w_isi, w_comp, w_fstr, w_dict0, w_lvals, w_nil, w_cons, w_tst, w_tnot, w_tand, w_tor, w_var, Kg.w_next, w_seq, w_asg, w_set, w_expr, w_ret, w_if, w_for, w_aug, wO_some, wF_some, wA_some, wA_map, wO_ite, wA_ite, isStar, spl, startE, wipeE, bindT, bindTs, List.map_cons, List.map_nil, List.length_cons, List.length_nil, List.replicate, List.cons_append, List.nil_append, List.append_nil, List.append_assoc, Nat.reduceAdd, Nat.reduceSub, Nat.reduceLT, Nat.reduceLeDiff, List.getElem?_cons_zero, List.getElem?_cons_succ, List.getElem?_nil, Option.join_some, Option.join_none, List.set_cons_zero, List.set_cons_succ, if_true, if_false, Bool.false_eq_true, Bool.true_eq_false, reduceIte, reduceCtorEq, true_and, and_true, Option.map_some, Option.map_none, Nat.succ_eq_add_one, Nat.zero_add, Nat.add_zero, List.singleton_append]
        have := hQ []
        simpa [snd2] using this
      · have hks : acc.map snd2 = (acc.map sndI).map PV.int := by
          rw [List.map_map]
          apply List.map_congr_left
          intro x hx
          obtain ⟨w, kk, rfl, _, _⟩ := ha x hx
          rfl
        have hsum : ∀ S : Sto, biV .sum [.ref S.length] (S ++ [Ob.lst (acc.map snd2)]) = some (.int (acc.map sndI).sum, S ++ [Ob.lst (acc.map snd2)]) := fun S => by
          simp only [biV, last_get]
          rw [hks, intsP_map]
          rfl
        rw [hsum, wO_some]
        obtain ⟨p1, p2, p3, p4⟩ := pk_of ha
        refine ⟨by decide, k _ _ _ ⟨by rw [List.length_map]; exact hl4, p1, p2, p3, by omega⟩ (kp.appR.appR.appR.appR.appR) (Hand.app (Hand.app (Hand.app (Hand.app (Hand.app Hs)))))⟩
theorem nts_perm {xs ys : List PV} (h : xs.Perm ys) : nts xs = nts ys := by
  induction h with
  | nil => rfl
  | cons x _ ih => simp only [nts, ih]
  | swap x y l => simp only [nts]; omega
  | trans _ _ i1 i2 => exact i1.trans i2
end K04
/-! K04eb: worths made and added. -/
namespace K04
open PySem Kg
open Classical
variable {n : Nat} {st : Sto} {Q : PV → Sto → Prop}

def tn (nm : Int) (ws : List PV) : PV := .tup [.int nm, .tup ws]
theorem turns_ok {h : Nat} {bag : List PV} (hT : ∀ t ∈ bag, TT (WW h) t) (hh : h ≤ 300) (hl : bag.length ≤ 1000) : srtOk bag :=
  srtOk_P (fun t htt => (hT t htt).isP fun _ => WW.isP) (fun a ha b hb => (hT a ha).alike (fun _ z _ y => WW.alike z _ y) (hT b hb)) (fun t htt => by obtain ⟨_, _, _, _, rfl, _⟩ := hT t htt; exact ⟨_, _, rfl⟩)
    (fun t htt => Nat.le_trans ((hT t htt).dpt (d := 4 * h) fun _ => WW.dpt) (by unfold dLim; omega)) (sz24 (by omega))
theorem tn_T {R : PV → Prop} {nm : Int} {ws : List PV} (h0 : 0 ≤ nm) (h1 : nm < 100) (a : Args R ws) : TT R (tn nm ws) := ⟨nm, ws, h0, h1, rfl, a⟩
theorem w_turned {h : Nat} {b : PV} {bag ws : List PV} {nm : Int} (hh : h ≤ 300) (hT : ∀ t ∈ bag, TT (WW h) t) (hl : bag.length ≤ 100) (h0 : 0 ≤ nm) (h1 : nm < 100) (a : Args (WW h) ws)
    (k : ∀ jk, Q (.tup [b, .tup (srt (bag ++ [tn nm ws]))]) (st ++ jk)) : wO (callF ds (n + 1) 23 [.tup [b, .tup bag], .int nm, .tup ws] st) Q := by
  rw [w_callF]
  show wA (some d23) _
  rw [wA_some]
  simp -implicitDefEqProofs only [d23, ixV_tup, atI0, atI1, list_t, exS, exSs, evX, evs, evt, pr, condOf, w_bin, w_neg, w_cmp, w_isn, w_isb, w_and, w_or, w_not, w_ife, w_tup, w_lst, w_star, w_ix, w_sli, w_call, w_bi, w_met, w_isi, w_comp, w_fstr, w_dict0, w_lvals, w_nil, w_cons, w_tst, w_tnot, w_tand, w_tor, w_var, Kg.w_next, w_seq, w_asg, w_set, w_expr, w_ret, w_if, w_for, w_aug, wO_some, wF_some, wA_some, wA_map, wO_ite, wA_ite, isStar, spl, startE, wipeE, bindT, bindTs, List.map_cons, List.map_nil, List.length_cons, List.length_nil, List.replicate, List.cons_append, List.nil_append, List.append_nil, List.append_assoc, Nat.reduceAdd, Nat.reduceSub, Nat.reduceLT, Nat.reduceLeDiff, List.getElem?_cons_zero, List.getElem?_cons_succ, List.getElem?_nil, Option.join_some, Option.join_none, List.set_cons_zero, List.set_cons_succ, if_true, if_false, Bool.false_eq_true, Bool.true_eq_false, reduceIte, reduceCtorEq, true_and, and_true, Option.map_some, Option.map_none, Nat.succ_eq_add_one, Nat.zero_add, Nat.add_zero, List.singleton_append]
  refine ⟨by decide, by decide, ?_⟩
  have hT2 : ∀ t ∈ bag ++ [tn nm ws], TT (WW h) t := fun t htt => by
    rcases List.mem_append.mp htt with z | z
    · exact hT t z
    · rw [List.mem_singleton.mp z]; exact tn_T h0 h1 a
  have g2 : (st ++ [Ob.lst bag, Ob.lst [PV.tup [.int nm, .tup ws]]])[st.length]? = some (.lst bag) := by simp
  have g3 : (st ++ [Ob.lst bag, Ob.lst [PV.tup [.int nm, .tup ws]]])[(st ++ [Ob.lst bag]).length]? = some (.lst [PV.tup [.int nm, .tup ws]]) := by simp
  rw [cat_l g2 g3 (sz24 (by simp; omega)), wO_some]
  have ok := turns_ok hT2 hh (by simp; omega)
  unfold tn at ok
  rw [sorted_l last_get ok, wO_some, tuple_l last_get, wO_some]
  refine ⟨by decide, ?_⟩
  rw [List.append_assoc, List.append_assoc]
  exact k _
theorem w_added {h : Nat} {b v : PV} {bag ws : List PV} {nm : Int} (av : Arg st v ws) (hh : h ≤ 300) (hT : ∀ t ∈ bag, TT (WW h) t) (hl : bag.length ≤ 100) (h0 : 0 ≤ nm) (h1 : nm < 100) (a : Args (WW h) ws)
    (k : ∀ jk, Q (.tup [b, .tup (srt (bag ++ [tn nm ws]))]) (st ++ jk)) : wO (callF ds (n + 1) 7 [.tup [b, .tup bag], .int nm, v] st) Q := by
  rw [w_callF]
  show wA (some d7) _
  rw [wA_some]
  have hT2 : ∀ t ∈ bag ++ [tn nm ws], TT (WW h) t := fun t htt => by
    rcases List.mem_append.mp htt with z | z
    · exact hT t z
    · rw [List.mem_singleton.mp z]; exact tn_T h0 h1 a
  have ok := turns_ok hT2 hh (by simp; omega)
  unfold tn at ok
  simp -implicitDefEqProofs only [d7, ixV_tup, atI0, atI1, sqOf, av.tuple, exS, exSs, evX, evs, evt, pr, condOf, w_bin, w_neg, w_cmp, w_isn, w_isb, w_and, w_or, w_not, w_ife, w_tup, w_lst, w_star, w_ix, w_sli, w_call, w_bi, w_met, w_isi, w_comp, w_fstr, w_dict0, w_lvals, w_nil, w_cons, w_tst, w_tnot, w_tand, w_tor, w_var, Kg.w_next, w_seq, w_asg, w_set, w_expr, w_ret, w_if, w_for, w_aug, wO_some, wF_some, wA_some, wA_map, wO_ite, wA_ite, isStar, spl, startE, wipeE, bindT, bindTs, List.map_cons, List.map_nil, List.length_cons, List.length_nil, List.replicate, List.cons_append, List.nil_append, List.append_nil, List.append_assoc, Nat.reduceAdd, Nat.reduceSub, Nat.reduceLT, Nat.reduceLeDiff, List.getElem?_cons_zero, List.getElem?_cons_succ, List.getElem?_nil, Option.join_some, Option.join_none, List.set_cons_zero, List.set_cons_succ, if_true, if_false, Bool.false_eq_true, Bool.true_eq_false, reduceIte, reduceCtorEq, true_and, and_true, Option.map_some, Option.map_none, Nat.succ_eq_add_one, Nat.zero_add, Nat.add_zero, List.singleton_append]
  refine ⟨by decide, sz24 (by simp; omega), ?_⟩
  rw [sorted_l last_get ok, wO_some, tuple_l last_get, wO_some]
  refine ⟨by decide, ?_⟩
  rw [List.append_assoc]
  exact k _
theorem w_made {v : PV} {ws : List PV} {nm : Int} (av : Arg st v ws) (k : Q (.tup [.tup [.int 1, .int nm, .tup ws], .tup []]) st) : wO (callF ds (n + 1) 6 [.int nm, v] st) Q := by
  rw [w_callF]
  show wA (some d6) _
  rw [wA_some]
  simp -implicitDefEqProofs only [d6, av.tuple, exS, exSs, evX, evs, evt, pr, condOf, w_bin, w_neg, w_cmp, w_isn, w_isb, w_and, w_or, w_not, w_ife, w_tup, w_lst, w_star, w_ix, w_sli, w_call, w_bi, w_met, w_isi, w_comp, w_fstr, w_dict0, w_lvals, w_nil, w_cons, w_tst, w_tnot, w_tand, w_tor, w_var, Kg.w_next, w_seq, w_asg, w_set, w_expr, w_ret, w_if, w_for, w_aug, wO_some, wF_some, wA_some, wA_map, wO_ite, wA_ite, isStar, spl, startE, wipeE, bindT, bindTs, List.map_cons, List.map_nil, List.length_cons, List.length_nil, List.replicate, List.cons_append, List.nil_append, List.append_nil, List.append_assoc, Nat.reduceAdd, Nat.reduceSub, Nat.reduceLT, Nat.reduceLeDiff, List.getElem?_cons_zero, List.getElem?_cons_succ, List.getElem?_nil, Option.join_some, Option.join_none, List.set_cons_zero, List.set_cons_succ, if_true, if_false, Bool.false_eq_true, Bool.true_eq_false, reduceIte, reduceCtorEq, true_and, and_true, Option.map_some, Option.map_none, Nat.succ_eq_add_one, Nat.zero_add, Nat.add_zero, List.singleton_append]
  exact ⟨by decide, by decide, by decide, k⟩
theorem w_exactW {h : Nat} {w : PV} (hw : WW h w) (hn : 4 * h + 1 ≤ n) (k : ∀ jk, Q (.bl true) (st ++ jk)) : wO (callF ds (n + 1) 17 [w, w] st) Q := w_exact (d := 4 * h) n st Q hn hw.it k
/-- one turn more -/
theorem GW.turn {i : Nat} {b : PV} {bag ws : List PV} {nm : Int} (hw : GW (i + 1) (.tup [b, .tup bag])) (hl : bag.length < 7) (h0 : 0 ≤ nm) (h1 : nm < 100) (a : Args (GW (i + 1)) ws) : GW (i + 2) (.tup [b, .tup (srt (bag ++ [tn nm ws]))]) := by
  obtain ⟨b', bag', e0, hb, hl', ht, so⟩ := hw
  cases e0
  refine ⟨b, _, rfl, hb.mono fun _ z => z.up, by rw [(srt_perm _).length_eq]; simp; omega, fun t htt => ?_, srt_sorted _⟩
  rcases List.mem_append.mp (srt_mem.mp htt) with z | z
  · exact (ht t z).mono fun _ z => z.up
  · rw [List.mem_singleton.mp z]; exact tn_T h0 h1 a
theorem turn_nt {b : PV} {bag ws : List PV} {nm : Int} : nt (.tup [b, .tup (srt (bag ++ [tn nm ws]))]) = nt (.tup [b, .tup bag]) + 2 + nts ws := by
  simp only [nt, nts]
  rw [nts_perm (srt_perm _), nts_app]
  simp only [tn, nt, nts]
  omega
theorem turn_L {b : PV} {bag ws : List PV} {nm : Int} : bagL (.tup [b, .tup (srt (bag ++ [tn nm ws]))]) = bag.length + 1 := by
  simp only [bagL]
  rw [(srt_perm _).length_eq]
  simp
theorem turn_swap {h : Nat} {bag ws vs : List PV} {nm nm2 : Int} (hT : ∀ t ∈ bag, TT (WW h) t) (a1 : TT (WW h) (tn nm ws)) (a2 : TT (WW h) (tn nm2 vs)) :
    srt (srt (bag ++ [tn nm2 vs]) ++ [tn nm ws]) = srt (srt (bag ++ [tn nm ws]) ++ [tn nm2 vs]) := by
  have hT2 : ∀ t ∈ srt (bag ++ [tn nm2 vs]) ++ [tn nm ws], TT (WW h) t := fun t htt => by
    rcases List.mem_append.mp htt with z | z
    · rcases List.mem_append.mp (srt_mem.mp z) with z | z
      · exact hT t z
      · rw [List.mem_singleton.mp z]; exact a2
    · rw [List.mem_singleton.mp z]; exact a1
  refine srt_eq (fun t htt => (hT2 t htt).isP fun _ => WW.isP) (fun a ha b hb => (hT2 a ha).alike (fun _ z _ y => WW.alike z _ y) (hT2 b hb)) ?_
  refine ((srt_perm _).append_right _).trans (List.Perm.trans ?_ ((srt_perm _).append_right _).symm)
  rw [List.append_assoc, List.append_assoc]
  exact (List.Perm.swap _ _ []).append_left bag
theorem w_two {cf : CF} {xs ys : List S} {env : En} {R : Fl → En → Sto → Prop} : wF (exSs cf (xs ++ ys) env st) R = wF (exSs cf xs env st) fun fl e s => match fl with | .nx => wF (exSs cf ys e s) R | fl => R fl e s := by
  induction xs generalizing env st with
  | nil => simp only [List.nil_append, exSs]; rfl
  | cons x xs ih =>
    simp only [List.cons_append, exSs, w_seq]
    congr 1
    funext fl e s
    cases fl <;> first | exact ih | rfl
theorem w_addtail {h c i : Nat} {ws os bag : List PV} {b : PV} {nm sec : Int} {e5 e11 : Option PV} {ep : Option PV} (H : Hand st h c) (hi : i ≤ 20)
    (hw : GW (i + 1) (.tup [b, .tup bag])) (hl : bag.length < 6) (h0 : 0 ≤ nm) (h1 : nm < 100) (ga : Args (GW (i + 1)) ws) (q0 : 0 ≤ sec) (q1 : sec < 100) (go : Args (GW (i + 1)) os) (hn : 116 ≤ n) :
    wF (exSs (callF ds (n + 4)) (d30.body.drop 8) [some (.ref h), ep, some (.tup [b, .tup bag]), some (.int nm), some (.tup ws), e5, some (.tup [b, .tup (srt (bag ++ [tn nm ws]))]), some (.tup [b, .tup (srt (bag ++ [tn nm ws]))]), some (.int sec), none, some (.tup os), e11] st)
      (fun fl _ s => fl = .rt (.bl true) ∧ Keep [h] st s ∧ Hand s h c) := by
  have wa : Args (WW (i + 2)) ws := ga.mono fun _ z => z.W.up
  have wo : Args (WW (i + 2)) os := go.mono fun _ z => z.W.up
  have hT1 : ∀ t ∈ bag, TT (WW (i + 2)) t := fun t htt => by
    obtain ⟨b', bag', e0, hb, hl', ht, so⟩ := hw
    cases e0
    exact (ht t htt).mono fun _ z => z.W.up.up
  have hT2 : ∀ (m : Int) (us : List PV), 0 ≤ m → m < 100 → Args (WW (i + 2)) us → ∀ t ∈ srt (bag ++ [tn m us]), TT (WW (i + 2)) t := fun m us m0 m1 au t htt => by
    rcases List.mem_append.mp (srt_mem.mp htt) with z | z
    · exact hT1 t z
    · rw [List.mem_singleton.mp z]; exact tn_T m0 m1 au
  have hL : ∀ (m : Int) (us : List PV), (srt (bag ++ [tn m us])).length ≤ 6 := fun m us => by rw [(srt_perm _).length_eq]; simp; omega
  have hD1 := hw.turn (by omega) h0 h1 ga
  have hD2 := hD1.turn (by have := hL nm ws; omega) q0 q1 (go.mono fun _ z => z.up)
  have sw := turn_swap (h := i + 2) hT1 (tn_T h0 h1 wa) (tn_T q0 q1 wo)
  obtain ⟨D2, hDe⟩ : ∃ D, D = PV.tup [b, .tup (srt (srt (bag ++ [tn nm ws]) ++ [tn sec os]))] := ⟨_, rfl⟩
  have hDW : WW (i + 3) D2 := hDe ▸ hD2.W
  simp -implicitDefEqProofs only [d30, List.drop_succ_cons, List.drop_zero, exS, exSs, evX, evs, evt, pr, condOf, w_bin, w_neg, w_cmp, w_isn, w_isb, w_and, w_or, w_not, w_ife, w_tup, w_lst, w_star, w_ix, w_sli, w_call, w_bi, w_met, w_isi, w_comp, w_fstr, w_dict0, w_lvals, w_nil, w_cons, w_tst, w_tnot, w_tand, w_tor, w_var, Kg.w_next, w_seq, w_asg, w_set, w_expr, w_ret, w_if, w_for, w_aug, wO_some, wF_some, wA_some, wA_map, wO_ite, wA_ite, isStar, spl, startE, wipeE, bindT, bindTs, List.map_cons, List.map_nil, List.length_cons, List.length_nil, List.replicate, List.cons_append, List.nil_append, List.append_nil, List.append_assoc, Nat.reduceAdd, Nat.reduceSub, Nat.reduceLT, Nat.reduceLeDiff, List.getElem?_cons_zero, List.getElem?_cons_succ, List.getElem?_nil, Option.join_some, Option.join_none, List.set_cons_zero, List.set_cons_succ, if_true, if_false, Bool.false_eq_true, Bool.true_eq_false, reduceIte, reduceCtorEq, true_and, and_true, Option.map_some, Option.map_none, Nat.succ_eq_add_one, Nat.zero_add, Nat.add_zero, List.singleton_append]
  refine w_turned (n := n + 3) (h := i + 2) (by omega) (hT2 nm ws h0 h1 wa) (by have := hL nm ws; omega) q0 q1 wo fun j1 => ?_
  try simp -implicitDefEqProofs only [exS, exSs, evX, evs, evt, pr, condOf, w_bin, w_neg, w_cmp, w_isn, w_isb, w_and, w_or, w_not, w_ife, w_tup, w_lst, w_star, w_ix, w_sli, w_call, w_bi, w_met, w_isi, w_comp, w_fstr, w_dict0, w_lvals, w_nil, w_cons, w_tst, w_tnot, w_tand, w_tor, w_var, Kg.w_next, w_seq, w_asg, w_set, w_expr, w_ret, w_if, w_for, w_aug, wO_some, wF_some, wA_some, wA_map, wO_ite, wA_ite, isStar, spl, startE, wipeE, bindT, bindTs, List.map_cons, List.map_nil, List.length_cons, List.length_nil, List.replicate, List.cons_append, List.nil_append, List.append_nil, List.append_assoc, Nat.reduceAdd, Nat.reduceSub, Nat.reduceLT, Nat.reduceLeDiff, List.getElem?_cons_zero, List.getElem?_cons_succ, List.getElem?_nil, Option.join_some, Option.join_none, List.set_cons_zero, List.set_cons_succ, if_true, if_false, Bool.false_eq_true, Bool.true_eq_false, reduceIte, reduceCtorEq, true_and, and_true, Option.map_some, Option.map_none, Nat.succ_eq_add_one, Nat.zero_add, Nat.add_zero, List.singleton_append]
  refine w_given (n := n + 1) (Hand.app H) fun v s1 kp1 H1 a1 r1 => ?_
  try simp -implicitDefEqProofs only [exS, exSs, evX, evs, evt, pr, condOf, w_bin, w_neg, w_cmp, w_isn, w_isb, w_and, w_or, w_not, w_ife, w_tup, w_lst, w_star, w_ix, w_sli, w_call, w_bi, w_met, w_isi, w_comp, w_fstr, w_dict0, w_lvals, w_nil, w_cons, w_tst, w_tnot, w_tand, w_tor, w_var, Kg.w_next, w_seq, w_asg, w_set, w_expr, w_ret, w_if, w_for, w_aug, wO_some, wF_some, wA_some, wA_map, wO_ite, wA_ite, isStar, spl, startE, wipeE, bindT, bindTs, List.map_cons, List.map_nil, List.length_cons, List.length_nil, List.replicate, List.cons_append, List.nil_append, List.append_nil, List.append_assoc, Nat.reduceAdd, Nat.reduceSub, Nat.reduceLT, Nat.reduceLeDiff, List.getElem?_cons_zero, List.getElem?_cons_succ, List.getElem?_nil, Option.join_some, Option.join_none, List.set_cons_zero, List.set_cons_succ, if_true, if_false, Bool.false_eq_true, Bool.true_eq_false, reduceIte, reduceCtorEq, true_and, and_true, Option.map_some, Option.map_none, Nat.succ_eq_add_one, Nat.zero_add, Nat.add_zero, List.singleton_append]
  refine w_added (n := n + 3) (h := i + 2) a1 (by omega) (hT2 nm ws h0 h1 wa) (by have := hL nm ws; omega) q0 q1 wo fun j2 => ?_
  try simp -implicitDefEqProofs only [exS, exSs, evX, evs, evt, pr, condOf, w_bin, w_neg, w_cmp, w_isn, w_isb, w_and, w_or, w_not, w_ife, w_tup, w_lst, w_star, w_ix, w_sli, w_call, w_bi, w_met, w_isi, w_comp, w_fstr, w_dict0, w_lvals, w_nil, w_cons, w_tst, w_tnot, w_tand, w_tor, w_var, Kg.w_next, w_seq, w_asg, w_set, w_expr, w_ret, w_if, w_for, w_aug, wO_some, wF_some, wA_some, wA_map, wO_ite, wA_ite, isStar, spl, startE, wipeE, bindT, bindTs, List.map_cons, List.map_nil, List.length_cons, List.length_nil, List.replicate, List.cons_append, List.nil_append, List.append_nil, List.append_assoc, Nat.reduceAdd, Nat.reduceSub, Nat.reduceLT, Nat.reduceLeDiff, List.getElem?_cons_zero, List.getElem?_cons_succ, List.getElem?_nil, Option.join_some, Option.join_none, List.set_cons_zero, List.set_cons_succ, if_true, if_false, Bool.false_eq_true, Bool.true_eq_false, reduceIte, reduceCtorEq, true_and, and_true, Option.map_some, Option.map_none, Nat.succ_eq_add_one, Nat.zero_add, Nat.add_zero, List.singleton_append]
  rw [← hDe]
  refine w_exactW (n := n + 3) hDW (by omega) fun j3 => ?_
  try simp -implicitDefEqProofs only [tru_b, exS, exSs, evX, evs, evt, pr, condOf, w_bin, w_neg, w_cmp, w_isn, w_isb, w_and, w_or, w_not, w_ife, w_tup, w_lst, w_star, w_ix, w_sli, w_call, w_bi, w_met, w_isi, w_comp, w_fstr, w_dict0, w_lvals, w_nil, w_cons, w_tst, w_tnot, w_tand, w_tor, w_var, Kg.w_next, w_seq, w_asg, w_set, w_expr, w_ret, w_if, w_for, w_aug, wO_some, wF_some, wA_some, wA_map, wO_ite, wA_ite, isStar, spl, startE, wipeE, bindT, bindTs, List.map_cons, List.map_nil, List.length_cons, List.length_nil, List.replicate, List.cons_append, List.nil_append, List.append_nil, List.append_assoc, Nat.reduceAdd, Nat.reduceSub, Nat.reduceLT, Nat.reduceLeDiff, List.getElem?_cons_zero, List.getElem?_cons_succ, List.getElem?_nil, Option.join_some, Option.join_none, List.set_cons_zero, List.set_cons_succ, if_true, if_false, Bool.false_eq_true, Bool.true_eq_false, reduceIte, reduceCtorEq, true_and, and_true, Option.map_some, Option.map_none, Nat.succ_eq_add_one, Nat.zero_add, Nat.add_zero, List.singleton_append]
  simp only [tru_b, wA_some, Bool.not_true, Bool.false_eq_true, if_false]
  refine w_added (n := n + 3) (h := i + 2) (.inl rfl) (by omega) hT1 (by omega) q0 q1 wo fun j4 => ?_
  try simp -implicitDefEqProofs only [exS, exSs, evX, evs, evt, pr, condOf, w_bin, w_neg, w_cmp, w_isn, w_isb, w_and, w_or, w_not, w_ife, w_tup, w_lst, w_star, w_ix, w_sli, w_call, w_bi, w_met, w_isi, w_comp, w_fstr, w_dict0, w_lvals, w_nil, w_cons, w_tst, w_tnot, w_tand, w_tor, w_var, Kg.w_next, w_seq, w_asg, w_set, w_expr, w_ret, w_if, w_for, w_aug, wO_some, wF_some, wA_some, wA_map, wO_ite, wA_ite, isStar, spl, startE, wipeE, bindT, bindTs, List.map_cons, List.map_nil, List.length_cons, List.length_nil, List.replicate, List.cons_append, List.nil_append, List.append_nil, List.append_assoc, Nat.reduceAdd, Nat.reduceSub, Nat.reduceLT, Nat.reduceLeDiff, List.getElem?_cons_zero, List.getElem?_cons_succ, List.getElem?_nil, Option.join_some, Option.join_none, List.set_cons_zero, List.set_cons_succ, if_true, if_false, Bool.false_eq_true, Bool.true_eq_false, reduceIte, reduceCtorEq, true_and, and_true, Option.map_some, Option.map_none, Nat.succ_eq_add_one, Nat.zero_add, Nat.add_zero, List.singleton_append]
  refine w_given (n := n + 1) (by repeat first | assumption | apply Hand.app) fun v2 s2 kp2 H2 a2 r2 => ?_
  try simp -implicitDefEqProofs only [exS, exSs, evX, evs, evt, pr, condOf, w_bin, w_neg, w_cmp, w_isn, w_isb, w_and, w_or, w_not, w_ife, w_tup, w_lst, w_star, w_ix, w_sli, w_call, w_bi, w_met, w_isi, w_comp, w_fstr, w_dict0, w_lvals, w_nil, w_cons, w_tst, w_tnot, w_tand, w_tor, w_var, Kg.w_next, w_seq, w_asg, w_set, w_expr, w_ret, w_if, w_for, w_aug, wO_some, wF_some, wA_some, wA_map, wO_ite, wA_ite, isStar, spl, startE, wipeE, bindT, bindTs, List.map_cons, List.map_nil, List.length_cons, List.length_nil, List.replicate, List.cons_append, List.nil_append, List.append_nil, List.append_assoc, Nat.reduceAdd, Nat.reduceSub, Nat.reduceLT, Nat.reduceLeDiff, List.getElem?_cons_zero, List.getElem?_cons_succ, List.getElem?_nil, Option.join_some, Option.join_none, List.set_cons_zero, List.set_cons_succ, if_true, if_false, Bool.false_eq_true, Bool.true_eq_false, reduceIte, reduceCtorEq, true_and, and_true, Option.map_some, Option.map_none, Nat.succ_eq_add_one, Nat.zero_add, Nat.add_zero, List.singleton_append]
  refine w_added (n := n + 3) (h := i + 2) a2 (by omega) (hT2 sec os q0 q1 wo) (by have := hL sec os; omega) h0 h1 wa fun j5 => ?_
  rw [sw, ← hDe]
  try simp -implicitDefEqProofs only [exS, exSs, evX, evs, evt, pr, condOf, w_bin, w_neg, w_cmp, w_isn, w_isb, w_and, w_or, w_not, w_ife, w_tup, w_lst, w_star, w_ix, w_sli, w_call, w_bi, w_met, w_isi, w_comp, w_fstr, w_dict0, w_lvals, w_nil, w_cons, w_tst, w_tnot, w_tand, w_tor, w_var, Kg.w_next, w_seq, w_asg, w_set, w_expr, w_ret, w_if, w_for, w_aug, wO_some, wF_some, wA_some, wA_map, wO_ite, wA_ite, isStar, spl, startE, wipeE, bindT, bindTs, List.map_cons, List.map_nil, List.length_cons, List.length_nil, List.replicate, List.cons_append, List.nil_append, List.append_nil, List.append_assoc, Nat.reduceAdd, Nat.reduceSub, Nat.reduceLT, Nat.reduceLeDiff, List.getElem?_cons_zero, List.getElem?_cons_succ, List.getElem?_nil, Option.join_some, Option.join_none, List.set_cons_zero, List.set_cons_succ, if_true, if_false, Bool.false_eq_true, Bool.true_eq_false, reduceIte, reduceCtorEq, true_and, and_true, Option.map_some, Option.map_none, Nat.succ_eq_add_one, Nat.zero_add, Nat.add_zero, List.singleton_append]
  refine w_exactW (n := n + 3) hDW (by omega) fun j6 => ?_
  refine ⟨rfl, ?_, by repeat first | assumption | apply Hand.app⟩
  have kz : Keep [h] st s2 := (Keep.app.trans kp1).trans (Keep.trans (by repeat first | exact Keep.refl | apply Keep.appR) kp2)
  repeat first | assumption | apply Keep.appR
theorem w_addtold {h c p i : Nat} {ents ws : List PV} {b : PV} {bag : List PV} {nm : Int} {K : Int} (H : Hand st h c) (ne : p ≠ h) (hp : st[p]? = some (.lst ents)) (P : Pl ents i) (hi : i ≤ 20)
    (hw : GW (i + 1) (.tup [b, .tup bag])) (hl : bag.length < 7) (h0 : 0 ≤ nm) (h1 : nm < 100) (pk : Pk i ws K) (hn : 116 ≤ n)
    (k : ∀ st', Keep [h] st st' → Hand st' h c → Q (.bl true) st') : wO (callF ds (n + 5) 30 [.ref h, .ref p, .tup [b, .tup bag], .int nm, .tup ws] st) Q := by
  have hpn : p ∉ [h] := by simpa using ne
  have ga : Args (GW (i + 1)) ws := ⟨pk.l, pk.g⟩
  have wa : Args (WW (i + 1)) ws := ga.mono fun _ => GW.W
  have hD1 := hw.turn hl h0 h1 ga
  have hT1 : ∀ t ∈ bag, TT (WW (i + 1)) t := fun t htt => by
    obtain ⟨b', bag', e0, hb, hl', ht, so⟩ := hw
    cases e0
    exact (ht t htt).mono fun _ z => z.W.up
  rw [w_callF]
  show wA (some d30) _
  rw [wA_some]
  refine ⟨rfl, ?_⟩
  rw [show d30.body = d30.body.take 8 ++ d30.body.drop 8 from rfl, w_two]
  generalize hT : exSs (callF ds (n + 4)) (d30.body.drop 8) = T
  have e0 : startE d30.names [PV.ref h, .ref p, .tup [b, .tup bag], .int nm, .tup ws] = [some (PV.ref h), some (.ref p), some (.tup [b, .tup bag]), some (.int nm), some (.tup ws), none, none, none, none, none, none, none] := rfl
  rw [e0]
  simp -implicitDefEqProofs only [d30, List.take_succ_cons, List.take_zero, exS, exSs, evX, evs, evt, pr, condOf, w_bin, w_neg, w_cmp, w_isn, w_isb, w_and, w_or, w_not, w_ife, w_tup, w_lst, w_star, w_ix, w_sli, w_call, w_bi, w_met, w_isi, w_comp, w_fstr, w_dict0, w_lvals, w_nil, w_cons, w_tst, w_tnot, w_tand, w_tor, w_var, Kg.w_next, w_seq, w_asg, w_set, w_expr, w_ret, w_if, w_for, w_aug, wO_some, wF_some, wA_some, wA_map, wO_ite, wA_ite, isStar, spl, startE, wipeE, bindT, bindTs, List.map_cons, List.map_nil, List.length_cons, List.length_nil, List.replicate, List.cons_append, List.nil_append, List.append_nil, List.append_assoc, Nat.reduceAdd, Nat.reduceSub, Nat.reduceLT, Nat.reduceLeDiff, List.getElem?_cons_zero, List.getElem?_cons_succ, List.getElem?_nil, Option.join_some, Option.join_none, List.set_cons_zero, List.set_cons_succ, if_true, if_false, Bool.false_eq_true, Bool.true_eq_false, reduceIte, reduceCtorEq, true_and, and_true, Option.map_some, Option.map_none, Nat.succ_eq_add_one, Nat.zero_add, Nat.add_zero, List.singleton_append]
  refine w_given (n := n + 1) H fun v s1 kp1 H1 a1 r1 => ?_
  try simp -implicitDefEqProofs only [exS, exSs, evX, evs, evt, pr, condOf, w_bin, w_neg, w_cmp, w_isn, w_isb, w_and, w_or, w_not, w_ife, w_tup, w_lst, w_star, w_ix, w_sli, w_call, w_bi, w_met, w_isi, w_comp, w_fstr, w_dict0, w_lvals, w_nil, w_cons, w_tst, w_tnot, w_tand, w_tor, w_var, Kg.w_next, w_seq, w_asg, w_set, w_expr, w_ret, w_if, w_for, w_aug, wO_some, wF_some, wA_some, wA_map, wO_ite, wA_ite, isStar, spl, startE, wipeE, bindT, bindTs, List.map_cons, List.map_nil, List.length_cons, List.length_nil, List.replicate, List.cons_append, List.nil_append, List.append_nil, List.append_assoc, Nat.reduceAdd, Nat.reduceSub, Nat.reduceLT, Nat.reduceLeDiff, List.getElem?_cons_zero, List.getElem?_cons_succ, List.getElem?_nil, Option.join_some, Option.join_none, List.set_cons_zero, List.set_cons_succ, if_true, if_false, Bool.false_eq_true, Bool.true_eq_false, reduceIte, reduceCtorEq, true_and, and_true, Option.map_some, Option.map_none, Nat.succ_eq_add_one, Nat.zero_add, Nat.add_zero, List.singleton_append]
  refine w_turned (n := n + 3) (h := i + 1) (by omega) hT1 (by omega) h0 h1 wa fun j1 => ?_
  try simp -implicitDefEqProofs only [exS, exSs, evX, evs, evt, pr, condOf, w_bin, w_neg, w_cmp, w_isn, w_isb, w_and, w_or, w_not, w_ife, w_tup, w_lst, w_star, w_ix, w_sli, w_call, w_bi, w_met, w_isi, w_comp, w_fstr, w_dict0, w_lvals, w_nil, w_cons, w_tst, w_tnot, w_tand, w_tor, w_var, Kg.w_next, w_seq, w_asg, w_set, w_expr, w_ret, w_if, w_for, w_aug, wO_some, wF_some, wA_some, wA_map, wO_ite, wA_ite, isStar, spl, startE, wipeE, bindT, bindTs, List.map_cons, List.map_nil, List.length_cons, List.length_nil, List.replicate, List.cons_append, List.nil_append, List.append_nil, List.append_assoc, Nat.reduceAdd, Nat.reduceSub, Nat.reduceLT, Nat.reduceLeDiff, List.getElem?_cons_zero, List.getElem?_cons_succ, List.getElem?_nil, Option.join_some, Option.join_none, List.set_cons_zero, List.set_cons_succ, if_true, if_false, Bool.false_eq_true, Bool.true_eq_false, reduceIte, reduceCtorEq, true_and, and_true, Option.map_some, Option.map_none, Nat.succ_eq_add_one, Nat.zero_add, Nat.add_zero, List.singleton_append]
  refine w_added (n := n + 3) (h := i + 1) a1.app (by omega) hT1 (by omega) h0 h1 wa fun j2 => ?_
  try simp -implicitDefEqProofs only [exS, exSs, evX, evs, evt, pr, condOf, w_bin, w_neg, w_cmp, w_isn, w_isb, w_and, w_or, w_not, w_ife, w_tup, w_lst, w_star, w_ix, w_sli, w_call, w_bi, w_met, w_isi, w_comp, w_fstr, w_dict0, w_lvals, w_nil, w_cons, w_tst, w_tnot, w_tand, w_tor, w_var, Kg.w_next, w_seq, w_asg, w_set, w_expr, w_ret, w_if, w_for, w_aug, wO_some, wF_some, wA_some, wA_map, wO_ite, wA_ite, isStar, spl, startE, wipeE, bindT, bindTs, List.map_cons, List.map_nil, List.length_cons, List.length_nil, List.replicate, List.cons_append, List.nil_append, List.append_nil, List.append_assoc, Nat.reduceAdd, Nat.reduceSub, Nat.reduceLT, Nat.reduceLeDiff, List.getElem?_cons_zero, List.getElem?_cons_succ, List.getElem?_nil, Option.join_some, Option.join_none, List.set_cons_zero, List.set_cons_succ, if_true, if_false, Bool.false_eq_true, Bool.true_eq_false, reduceIte, reduceCtorEq, true_and, and_true, Option.map_some, Option.map_none, Nat.succ_eq_add_one, Nat.zero_add, Nat.add_zero, List.singleton_append]
  have hDW : WW (i + 2) _ := hD1.W
  generalize hDe : PV.tup [b, .tup (srt (bag ++ [tn nm ws]))] = D1 at hDW ⊢
  refine w_exactW (n := n + 3) hDW (by omega) fun j3 => ?_
  subst hDe
  have hws : ∀ x ∈ ws, isP x = true := fun x hx => (wa.2 x hx).isP
  have hne : ∀ (S : Sto), cop .ne (.ref S.length) (.ref (S ++ [Ob.lst ws]).length) (S ++ [Ob.lst ws, Ob.lst ws]) = some false := fun S => by
    have := ne_ll (st := S ++ [Ob.lst ws, Ob.lst ws]) (r := S.length) (q := (S ++ [Ob.lst ws]).length) (xs := ws) (ys := ws) (by simp) (by simp) (isPs_iff.mpr hws) (isPs_iff.mpr hws) fun w hw => Nat.le_trans (Nat.add_le_add_right (wa.2 w hw).dpt 1) (by simp [dLim]; omega)
    simpa using this
  have a2 := Arg.app (jk := j1 ++ (j2 ++ j3)) a1
  have hB : (srt (bag ++ [tn nm ws])).length = bag.length + 1 := by rw [(srt_perm _).length_eq]; simp
  simp only [List.append_assoc]
  have kpS : Keep [h] st (s1 ++ (j1 ++ (j2 ++ j3))) := kp1.appR
  have HS := Hand.app (jk := j1 ++ (j2 ++ j3)) H1
  generalize s1 ++ (j1 ++ (j2 ++ j3)) = S at a2 kpS HS ⊢
  simp -implicitDefEqProofs only [tru_b, Bool.not_true, a2.list, list_t, hne, ixV_tup, atI1, len_t, cop_gt_i, hB, dec_if, exS, exSs, evX, evs, evt, pr, condOf, w_bin, w_neg, w_cmp, w_isn, w_isb, w_and, w_or, w_not, w_ife, w_tup, w_lst, w_star, w_ix, w_sli, w_call, w_bi, w_met, w_isi, w_comp, w_fstr, w_dict0, w_lvals, w_nil, w_cons, w_tst, w_tnot, w_tand, w_tor, w_var, Kg.w_next, w_seq, w_asg, w_set, w_expr, w_ret, w_if, w_for, w_aug, wO_some, wF_some, wA_some, wA_map, wO_ite, wA_ite, isStar, spl, startE, wipeE, bindT, bindTs, List.map_cons, List.map_nil, List.length_cons, List.length_nil, List.replicate, List.cons_append, List.nil_append, List.append_nil, List.append_assoc, Nat.reduceAdd, Nat.reduceSub, Nat.reduceLT, Nat.reduceLeDiff, List.getElem?_cons_zero, List.getElem?_cons_succ, List.getElem?_nil, Option.join_some, Option.join_none, List.set_cons_zero, List.set_cons_succ, if_true, if_false, Bool.false_eq_true, Bool.true_eq_false, reduceIte, reduceCtorEq, true_and, and_true, Option.map_some, Option.map_none, Nat.succ_eq_add_one, Nat.zero_add, Nat.add_zero, List.singleton_append]
  split
  · exact k _ kpS.appR (Hand.app HS)
  · rename_i h6
    have hl6 : bag.length < 6 := by omega
    have kp2 : Keep [h] st (S ++ [Ob.lst ws, Ob.lst ws]) := kpS.appR
    have H2 := Hand.app (jk := [Ob.lst ws, Ob.lst ws]) HS
    generalize S ++ [Ob.lst ws, Ob.lst ws] = S2 at kp2 H2 ⊢
    refine w_picks H2 ne (kp2.get hp hpn) P (by omega) fun os K2 s3 pk2 kp3 H3 => ?_
    try simp -implicitDefEqProofs only [exS, exSs, evX, evs, evt, pr, condOf, w_bin, w_neg, w_cmp, w_isn, w_isb, w_and, w_or, w_not, w_ife, w_tup, w_lst, w_star, w_ix, w_sli, w_call, w_bi, w_met, w_isi, w_comp, w_fstr, w_dict0, w_lvals, w_nil, w_cons, w_tst, w_tnot, w_tand, w_tor, w_var, Kg.w_next, w_seq, w_asg, w_set, w_expr, w_ret, w_if, w_for, w_aug, wO_some, wF_some, wA_some, wA_map, wO_ite, wA_ite, isStar, spl, startE, wipeE, bindT, bindTs, List.map_cons, List.map_nil, List.length_cons, List.length_nil, List.replicate, List.cons_append, List.nil_append, List.append_nil, List.append_assoc, Nat.reduceAdd, Nat.reduceSub, Nat.reduceLT, Nat.reduceLeDiff, List.getElem?_cons_zero, List.getElem?_cons_succ, List.getElem?_nil, Option.join_some, Option.join_none, List.set_cons_zero, List.set_cons_succ, if_true, if_false, Bool.false_eq_true, Bool.true_eq_false, reduceIte, reduceCtorEq, true_and, and_true, Option.map_some, Option.map_none, Nat.succ_eq_add_one, Nat.zero_add, Nat.add_zero, List.singleton_append]
    refine w_name (n := n + 1) H3 fun sec s4 q0 q1 kp4 H4 => ?_
    try simp -implicitDefEqProofs only [exS, exSs, evX, evs, evt, pr, condOf, w_bin, w_neg, w_cmp, w_isn, w_isb, w_and, w_or, w_not, w_ife, w_tup, w_lst, w_star, w_ix, w_sli, w_call, w_bi, w_met, w_isi, w_comp, w_fstr, w_dict0, w_lvals, w_nil, w_cons, w_tst, w_tnot, w_tand, w_tor, w_var, Kg.w_next, w_seq, w_asg, w_set, w_expr, w_ret, w_if, w_for, w_aug, wO_some, wF_some, wA_some, wA_map, wO_ite, wA_ite, isStar, spl, startE, wipeE, bindT, bindTs, List.map_cons, List.map_nil, List.length_cons, List.length_nil, List.replicate, List.cons_append, List.nil_append, List.append_nil, List.append_assoc, Nat.reduceAdd, Nat.reduceSub, Nat.reduceLT, Nat.reduceLeDiff, List.getElem?_cons_zero, List.getElem?_cons_succ, List.getElem?_nil, Option.join_some, Option.join_none, List.set_cons_zero, List.set_cons_succ, if_true, if_false, Bool.false_eq_true, Bool.true_eq_false, reduceIte, reduceCtorEq, true_and, and_true, Option.map_some, Option.map_none, Nat.succ_eq_add_one, Nat.zero_add, Nat.add_zero, List.singleton_append]
    refine take_ (n := n + 2) H4 (by omega) (by omega) fun j s5 j0 j1 kp5 H5 => ?_
    simp -implicitDefEqProofs only [cop_eq_i, tru_b, dec_if, exS, exSs, evX, evs, evt, pr, condOf, w_bin, w_neg, w_cmp, w_isn, w_isb, w_and, w_or, w_not, w_ife, w_tup, w_lst, w_star, w_ix, w_sli, w_call, w_bi, w_met, w_isi, w_comp, w_fstr, w_dict0, w_lvals, w_nil, w_cons, w_tst, w_tnot, w_tand, w_tor, w_var, Kg.w_next, w_seq, w_asg, w_set, w_expr, w_ret, w_if, w_for, w_aug, wO_some, wF_some, wA_some, wA_map, wO_ite, wA_ite, isStar, spl, startE, wipeE, bindT, bindTs, List.map_cons, List.map_nil, List.length_cons, List.length_nil, List.replicate, List.cons_append, List.nil_append, List.append_nil, List.append_assoc, Nat.reduceAdd, Nat.reduceSub, Nat.reduceLT, Nat.reduceLeDiff, List.getElem?_cons_zero, List.getElem?_cons_succ, List.getElem?_nil, Option.join_some, Option.join_none, List.set_cons_zero, List.set_cons_succ, if_true, if_false, Bool.false_eq_true, Bool.true_eq_false, reduceIte, reduceCtorEq, true_and, and_true, Option.map_some, Option.map_none, Nat.succ_eq_add_one, Nat.zero_add, Nat.add_zero, List.singleton_append]
    have fin : ∀ x : Int, 0 ≤ x → x < 100 → wF (T [some (.ref h), some (.ref p), some (.tup [b, .tup bag]), some (.int nm), some (.tup ws), some v, some (.tup [b, .tup (srt (bag ++ [tn nm ws]))]), some (.tup [b, .tup (srt (bag ++ [tn nm ws]))]), some (.int x), none, some (.tup os), some (.int K2)] s5)
        fun fl e s => match fl with | .nx => Q .non s | .rt v => Q v s | _ => False := fun x x0 x1 => by
      rw [← hT]
      refine wF_mono (w_addtail H5 hi hw hl6 h0 h1 ga x0 x1 ⟨pk2.l, pk2.g⟩ hn) ?_
      rintro fl e s ⟨rfl, kk, HH⟩
      exact k _ ((kp2.trans kp3).trans ((kp4.trans kp5).trans kk)) HH
    split
    · exact fin nm h0 h1
    · exact fin sec q0 q1
theorem w_madetold {h c i : Nat} {ws : List PV} {nm K : Int} {pv : PV} (H : Hand st h c) (hi : i ≤ 20) (h0 : 0 ≤ nm) (h1 : nm < 100) (pk : Pk i ws K) (hn : 116 ≤ n)
    (k : ∀ st', Keep [h] st st' → Hand st' h c → Q (.bl true) st') : wO (callF ds (n + 5) 29 [.ref h, pv, .tup ws, .int nm] st) Q := by
  have wa : Args (WW (i + 1)) ws := ⟨pk.l, fun w hw => (pk.g w hw).W⟩
  have hW : WW (i + 2) (.tup [.tup [.int 1, .int nm, .tup ws], .tup []]) := ⟨_, [], rfl, .inr ⟨nm, ws, h0, h1, rfl, wa⟩, by simp, by simp⟩
  rw [w_callF]
  show wA (some d29) _
  rw [wA_some]
  simp -implicitDefEqProofs only [d29, exS, exSs, evX, evs, evt, pr, condOf, w_bin, w_neg, w_cmp, w_isn, w_isb, w_and, w_or, w_not, w_ife, w_tup, w_lst, w_star, w_ix, w_sli, w_call, w_bi, w_met, w_isi, w_comp, w_fstr, w_dict0, w_lvals, w_nil, w_cons, w_tst, w_tnot, w_tand, w_tor, w_var, Kg.w_next, w_seq, w_asg, w_set, w_expr, w_ret, w_if, w_for, w_aug, wO_some, wF_some, wA_some, wA_map, wO_ite, wA_ite, isStar, spl, startE, wipeE, bindT, bindTs, List.map_cons, List.map_nil, List.length_cons, List.length_nil, List.replicate, List.cons_append, List.nil_append, List.append_nil, List.append_assoc, Nat.reduceAdd, Nat.reduceSub, Nat.reduceLT, Nat.reduceLeDiff, List.getElem?_cons_zero, List.getElem?_cons_succ, List.getElem?_nil, Option.join_some, Option.join_none, List.set_cons_zero, List.set_cons_succ, if_true, if_false, Bool.false_eq_true, Bool.true_eq_false, reduceIte, reduceCtorEq, true_and, and_true, Option.map_some, Option.map_none, Nat.succ_eq_add_one, Nat.zero_add, Nat.add_zero, List.singleton_append]
  refine w_given (n := n + 1) H fun v s1 kp1 H1 a1 r1 => ?_
  try simp -implicitDefEqProofs only [exS, exSs, evX, evs, evt, pr, condOf, w_bin, w_neg, w_cmp, w_isn, w_isb, w_and, w_or, w_not, w_ife, w_tup, w_lst, w_star, w_ix, w_sli, w_call, w_bi, w_met, w_isi, w_comp, w_fstr, w_dict0, w_lvals, w_nil, w_cons, w_tst, w_tnot, w_tand, w_tor, w_var, Kg.w_next, w_seq, w_asg, w_set, w_expr, w_ret, w_if, w_for, w_aug, wO_some, wF_some, wA_some, wA_map, wO_ite, wA_ite, isStar, spl, startE, wipeE, bindT, bindTs, List.map_cons, List.map_nil, List.length_cons, List.length_nil, List.replicate, List.cons_append, List.nil_append, List.append_nil, List.append_assoc, Nat.reduceAdd, Nat.reduceSub, Nat.reduceLT, Nat.reduceLeDiff, List.getElem?_cons_zero, List.getElem?_cons_succ, List.getElem?_nil, Option.join_some, Option.join_none, List.set_cons_zero, List.set_cons_succ, if_true, if_false, Bool.false_eq_true, Bool.true_eq_false, reduceIte, reduceCtorEq, true_and, and_true, Option.map_some, Option.map_none, Nat.succ_eq_add_one, Nat.zero_add, Nat.add_zero, List.singleton_append]
  refine w_made (n := n + 3) a1 ?_
  refine ⟨by decide, by decide, by decide, ?_⟩
  generalize PV.tup [.tup [.int 1, .int nm, .tup ws], .tup []] = D1 at hW ⊢
  refine w_exactW (n := n + 3) hW (by omega) fun j3 => ?_
  have a2 := Arg.app (jk := j3) a1
  have hl := wa.1
  simp -implicitDefEqProofs only [tru_b, Bool.not_true, a2.len, len_t, cop_eq_i, decide_true, exS, exSs, evX, evs, evt, pr, condOf, w_bin, w_neg, w_cmp, w_isn, w_isb, w_and, w_or, w_not, w_ife, w_tup, w_lst, w_star, w_ix, w_sli, w_call, w_bi, w_met, w_isi, w_comp, w_fstr, w_dict0, w_lvals, w_nil, w_cons, w_tst, w_tnot, w_tand, w_tor, w_var, Kg.w_next, w_seq, w_asg, w_set, w_expr, w_ret, w_if, w_for, w_aug, wO_some, wF_some, wA_some, wA_map, wO_ite, wA_ite, isStar, spl, startE, wipeE, bindT, bindTs, List.map_cons, List.map_nil, List.length_cons, List.length_nil, List.replicate, List.cons_append, List.nil_append, List.append_nil, List.append_assoc, Nat.reduceAdd, Nat.reduceSub, Nat.reduceLT, Nat.reduceLeDiff, List.getElem?_cons_zero, List.getElem?_cons_succ, List.getElem?_nil, Option.join_some, Option.join_none, List.set_cons_zero, List.set_cons_succ, if_true, if_false, Bool.false_eq_true, Bool.true_eq_false, reduceIte, reduceCtorEq, true_and, and_true, Option.map_some, Option.map_none, Nat.succ_eq_add_one, Nat.zero_add, Nat.add_zero, List.singleton_append]
  rw [rangeS (sz24 (by omega)), wA_some]
  refine w_compRange (fun _ => .bl true) (sz24 (by omega)) (fun i hi jk Q hQ => ?_) fun jk => ?_
  · have a3 := Arg.app (jk := jk) a2
    rw [List.append_assoc] at a3
    have hx := wa.2 _ (List.getElem_mem hi)
    simp -implicitDefEqProofs only [a3.ix, ixV_tup, atI_nat hi, cop_eq_P hx.isP hx.isP (W_dpt hx (by omega)), decide_true, exS, exSs, evX, evs, evt, pr, condOf, w_bin, w_neg, w_cmp, w_isn, w_isb, w_and, w_or, w_not, w_ife, w_tup, w_lst, w_star, w_ix, w_sli, w_call, w_bi, w_met, w_isi, w_comp, w_fstr, w_dict0, w_lvals, w_nil, w_cons, w_tst, w_tnot, w_tand, w_tor, w_var, Kg.w_next, w_seq, w_asg, w_set, w_expr, w_ret, w_if, w_for, w_aug, wO_some, wF_some, wA_some, wA_map, wO_ite, wA_ite, isStar, spl, startE, wipeE, bindT, bindTs, List.map_cons, List.map_nil, List.length_cons, List.length_nil, List.replicate, List.cons_append, List.nil_append, List.append_nil, List.append_assoc, Nat.reduceAdd, Nat.reduceSub, Nat.reduceLT, Nat.reduceLeDiff, List.getElem?_cons_zero, List.getElem?_cons_succ, List.getElem?_nil, Option.join_some, Option.join_none, List.set_cons_zero, List.set_cons_succ, if_true, if_false, Bool.false_eq_true, Bool.true_eq_false, reduceIte, reduceCtorEq, true_and, and_true, Option.map_some, Option.map_none, Nat.succ_eq_add_one, Nat.zero_add, Nat.add_zero, List.singleton_append]
    have := hQ []
    simpa using this
  · have e : (List.range ws.length).map (fun _ => PV.bl true) = ((List.range ws.length).map fun _ => true).map PV.bl := by rw [List.map_map]; rfl
    have hall : ∀ S : Sto, biV .all [.ref S.length] (S ++ [Ob.lst ((List.range ws.length).map fun _ => PV.bl true)]) = some (.bl true, S ++ [Ob.lst ((List.range ws.length).map fun _ => PV.bl true)]) := fun S => by
      simp only [biV, last_get]
      rw [e, boolsP_map]
      simp
    rw [hall, wO_some]
    exact k _ kp1.appR.appR.appR (Hand.app (Hand.app (Hand.app H1)))
end K04
/-! K04ec: the pool grown. -/
namespace K04
open PySem Kg
open Classical
variable {n : Nat} {st : Sto} {Q : PV → Sto → Prop}

theorem w_grown {h c p i : Nat} {ents : List PV} {most : Int} (H : Hand st h c) (ne : p ≠ h) (ne2 : p ≠ c) (hp : st[p]? = some (.lst ents)) (P : Pl ents i) (hi : i ≤ 20) (hm : most ≤ 7) (hn : 116 ≤ n)
    (k : ∀ e st', Pl (ents ++ [e]) (i + 1) → st'[p]? = some (.lst (ents ++ [e])) → Hand st' h c → Q (.bl true) st') : wO (callF ds (n + 6) 31 [.ref h, .ref p, .int most] st) Q := by
  have hpn : p ∉ [h] := by simpa using ne
  have lenE : ents.length < sizeLine := by have := P.li; rw [sizeLine_eq]; omega
  have fin : ∀ (w : PV) (kk : Int), EntD (i + 1) w kk → Pl (ents ++ [.tup [w, .int kk]]) (i + 1) := fun w kk hD =>
    ⟨by have := P.l3; simp; omega, by have := P.li; simp; omega, fun e he => by
      rcases List.mem_append.mp he with z | z
      · exact (P.all e z).up
      · rw [List.mem_singleton.mp z]; exact ⟨w, kk, rfl, hD⟩, fun j hj e he => P.one j hj e (by have := P.l3; rwa [List.getElem?_append_left (by omega)] at he)⟩
  rw [w_callF]
  show wA (some d31) _
  rw [wA_some]
  simp -implicitDefEqProofs only [d31, exS, exSs, evX, evs, evt, pr, condOf, w_bin, w_neg, w_cmp, w_isn, w_isb, w_and, w_or, w_not, w_ife, w_tup, w_lst, w_star, w_ix, w_sli, w_call, w_bi, w_met, w_isi, w_comp, w_fstr, w_dict0, w_lvals, w_nil, w_cons, w_tst, w_tnot, w_tand, w_tor, w_var, Kg.w_next, w_seq, w_asg, w_set, w_expr, w_ret, w_if, w_for, w_aug, wO_some, wF_some, wA_some, wA_map, wO_ite, wA_ite, isStar, spl, startE, wipeE, bindT, bindTs, List.map_cons, List.map_nil, List.length_cons, List.length_nil, List.replicate, List.cons_append, List.nil_append, List.append_nil, List.append_assoc, Nat.reduceAdd, Nat.reduceSub, Nat.reduceLT, Nat.reduceLeDiff, List.getElem?_cons_zero, List.getElem?_cons_succ, List.getElem?_nil, Option.join_some, Option.join_none, List.set_cons_zero, List.set_cons_succ, if_true, if_false, Bool.false_eq_true, Bool.true_eq_false, reduceIte, reduceCtorEq, true_and, and_true, Option.map_some, Option.map_none, Nat.succ_eq_add_one, Nat.zero_add, Nat.add_zero, List.singleton_append]
  refine w_picks (n := n + 1) H ne hp P (by omega) fun ws K s1 pk kp1 H1 => ?_
  try simp -implicitDefEqProofs only [exS, exSs, evX, evs, evt, pr, condOf, w_bin, w_neg, w_cmp, w_isn, w_isb, w_and, w_or, w_not, w_ife, w_tup, w_lst, w_star, w_ix, w_sli, w_call, w_bi, w_met, w_isi, w_comp, w_fstr, w_dict0, w_lvals, w_nil, w_cons, w_tst, w_tnot, w_tand, w_tor, w_var, Kg.w_next, w_seq, w_asg, w_set, w_expr, w_ret, w_if, w_for, w_aug, wO_some, wF_some, wA_some, wA_map, wO_ite, wA_ite, isStar, spl, startE, wipeE, bindT, bindTs, List.map_cons, List.map_nil, List.length_cons, List.length_nil, List.replicate, List.cons_append, List.nil_append, List.append_nil, List.append_assoc, Nat.reduceAdd, Nat.reduceSub, Nat.reduceLT, Nat.reduceLeDiff, List.getElem?_cons_zero, List.getElem?_cons_succ, List.getElem?_nil, Option.join_some, Option.join_none, List.set_cons_zero, List.set_cons_succ, if_true, if_false, Bool.false_eq_true, Bool.true_eq_false, reduceIte, reduceCtorEq, true_and, and_true, Option.map_some, Option.map_none, Nat.succ_eq_add_one, Nat.zero_add, Nat.add_zero, List.singleton_append]
  refine w_name (n := n + 2) H1 fun nm s2 n0 n1 kp2 H2 => ?_
  try simp -implicitDefEqProofs only [exS, exSs, evX, evs, evt, pr, condOf, w_bin, w_neg, w_cmp, w_isn, w_isb, w_and, w_or, w_not, w_ife, w_tup, w_lst, w_star, w_ix, w_sli, w_call, w_bi, w_met, w_isi, w_comp, w_fstr, w_dict0, w_lvals, w_nil, w_cons, w_tst, w_tnot, w_tand, w_tor, w_var, Kg.w_next, w_seq, w_asg, w_set, w_expr, w_ret, w_if, w_for, w_aug, wO_some, wF_some, wA_some, wA_map, wO_ite, wA_ite, isStar, spl, startE, wipeE, bindT, bindTs, List.map_cons, List.map_nil, List.length_cons, List.length_nil, List.replicate, List.cons_append, List.nil_append, List.append_nil, List.append_assoc, Nat.reduceAdd, Nat.reduceSub, Nat.reduceLT, Nat.reduceLeDiff, List.getElem?_cons_zero, List.getElem?_cons_succ, List.getElem?_nil, Option.join_some, Option.join_none, List.set_cons_zero, List.set_cons_succ, if_true, if_false, Bool.false_eq_true, Bool.true_eq_false, reduceIte, reduceCtorEq, true_and, and_true, Option.map_some, Option.map_none, Nat.succ_eq_add_one, Nat.zero_add, Nat.add_zero, List.singleton_append]
  refine w_pick (n := n + 2) H2 ne ((kp1.trans kp2).get hp hpn) P (by omega) (by decide) fun w kk s3 hD h60 kp3 H3 => ?_
  try simp -implicitDefEqProofs only [exS, exSs, evX, evs, evt, pr, condOf, w_bin, w_neg, w_cmp, w_isn, w_isb, w_and, w_or, w_not, w_ife, w_tup, w_lst, w_star, w_ix, w_sli, w_call, w_bi, w_met, w_isi, w_comp, w_fstr, w_dict0, w_lvals, w_nil, w_cons, w_tst, w_tnot, w_tand, w_tor, w_var, Kg.w_next, w_seq, w_asg, w_set, w_expr, w_ret, w_if, w_for, w_aug, wO_some, wF_some, wA_some, wA_map, wO_ite, wA_ite, isStar, spl, startE, wipeE, bindT, bindTs, List.map_cons, List.map_nil, List.length_cons, List.length_nil, List.replicate, List.cons_append, List.nil_append, List.append_nil, List.append_assoc, Nat.reduceAdd, Nat.reduceSub, Nat.reduceLT, Nat.reduceLeDiff, List.getElem?_cons_zero, List.getElem?_cons_succ, List.getElem?_nil, Option.join_some, Option.join_none, List.set_cons_zero, List.set_cons_succ, if_true, if_false, Bool.false_eq_true, Bool.true_eq_false, reduceIte, reduceCtorEq, true_and, and_true, Option.map_some, Option.map_none, Nat.succ_eq_add_one, Nat.zero_add, Nat.add_zero, List.singleton_append]
  refine take_ (n := n + 3) H3 (by omega) (by omega) fun j s4 j0 j1 kp4 H4 => ?_
  have kp := (kp1.trans kp2).trans (kp3.trans kp4)
  have hg := hD.g
  obtain ⟨b, bag, rfl, hb, hbl, hbt, hso⟩ := hg
  have ga : Args (GW (i + 1)) ws := ⟨pk.l, pk.g⟩
  have pK0 := pk.k0
  have pK1 := pk.k1
  have pS := pk.s
  have hset : ∀ {s : Sto} {e : PV}, s[p]? = some (.lst ents) → Hand s h c → (s.set p (.lst (ents ++ [e])))[p]? = some (.lst (ents ++ [e])) ∧ Hand (s.set p (.lst (ents ++ [e]))) h c := fun hps Hs =>
    ⟨set_get hps, Hs.keep (S := [p]) (Keep.set (by simp)) (by simpa using Ne.symm ne) (by simpa using Ne.symm ne2)⟩
  have made : ∀ (s : Sto), Keep [h] st s → Hand s h c →
      wO (meV .append (.ref p) [.tup [.tup [.tup [.int 1, .int nm, .tup ws], .tup []], .int (1 + K)]] s) fun _ s' => wO (callF ds (n + 5) 29 [.ref h, .ref p, .tup ws, .int nm] s') Q := fun s kps Hs => by
    have hps := kps.get hp hpn
    rw [app_l hps lenE, wO_some]
    obtain ⟨g1, g2⟩ := hset (e := .tup [.tup [.tup [.int 1, .int nm, .tup ws], .tup []], .int (1 + K)]) hps Hs
    refine w_madetold (n := n) g2 hi n0 n1 pk hn fun s' kp' H' => ?_
    refine k _ _ (fin _ _ ⟨⟨_, [], rfl, .inr ⟨nm, ws, n0, n1, rfl, ga⟩, by simp, by simp, by simp⟩, ?_, by omega, by omega⟩) (kp'.get g1 hpn) H'
    simp only [nt, nts, bagL, List.length_nil]
    omega
  have hp4 := kp.get hp hpn
  simp -implicitDefEqProofs only [cop_eq_i, tru_b, dec_if, ixV_tup, atI0, atI1, len_t, cop_lt_i, k_app, bop_add_i, isL_of hp4, exS, exSs, evX, evs, evt, pr, condOf, w_bin, w_neg, w_cmp, w_isn, w_isb, w_and, w_or, w_not, w_ife, w_tup, w_lst, w_star, w_ix, w_sli, w_call, w_bi, w_met, w_isi, w_comp, w_fstr, w_dict0, w_lvals, w_nil, w_cons, w_tst, w_tnot, w_tand, w_tor, w_var, Kg.w_next, w_seq, w_asg, w_set, w_expr, w_ret, w_if, w_for, w_aug, wO_some, wF_some, wA_some, wA_map, wO_ite, wA_ite, isStar, spl, startE, wipeE, bindT, bindTs, List.map_cons, List.map_nil, List.length_cons, List.length_nil, List.replicate, List.cons_append, List.nil_append, List.append_nil, List.append_assoc, Nat.reduceAdd, Nat.reduceSub, Nat.reduceLT, Nat.reduceLeDiff, List.getElem?_cons_zero, List.getElem?_cons_succ, List.getElem?_nil, Option.join_some, Option.join_none, List.set_cons_zero, List.set_cons_succ, if_true, if_false, Bool.false_eq_true, Bool.true_eq_false, reduceIte, reduceCtorEq, true_and, and_true, Option.map_some, Option.map_none, Nat.succ_eq_add_one, Nat.zero_add, Nat.add_zero, List.singleton_append]
  by_cases hj : j = 0
  · rw [if_pos hj]
    by_cases hlt : (bag.length : Int) < most
    · rw [if_pos hlt]
      refine w_addtold (n := n) H4 ne (kp.get hp hpn) P hi hD.g (by omega) n0 n1 pk hn fun s5 kp5 H5 => ?_
      have kq := kp.trans kp5
      have hp5 := kq.get hp hpn
      have hT1 : ∀ t ∈ bag, TT (WW (i + 1)) t := fun t htt => (hbt t htt).mono fun _ z => z.W.up
      simp -implicitDefEqProofs only [tru_b, Bool.not_true, isL_of hp5, exS, exSs, evX, evs, evt, pr, condOf, w_bin, w_neg, w_cmp, w_isn, w_isb, w_and, w_or, w_not, w_ife, w_tup, w_lst, w_star, w_ix, w_sli, w_call, w_bi, w_met, w_isi, w_comp, w_fstr, w_dict0, w_lvals, w_nil, w_cons, w_tst, w_tnot, w_tand, w_tor, w_var, Kg.w_next, w_seq, w_asg, w_set, w_expr, w_ret, w_if, w_for, w_aug, wO_some, wF_some, wA_some, wA_map, wO_ite, wA_ite, isStar, spl, startE, wipeE, bindT, bindTs, List.map_cons, List.map_nil, List.length_cons, List.length_nil, List.replicate, List.cons_append, List.nil_append, List.append_nil, List.append_assoc, Nat.reduceAdd, Nat.reduceSub, Nat.reduceLT, Nat.reduceLeDiff, List.getElem?_cons_zero, List.getElem?_cons_succ, List.getElem?_nil, Option.join_some, Option.join_none, List.set_cons_zero, List.set_cons_succ, if_true, if_false, Bool.false_eq_true, Bool.true_eq_false, reduceIte, reduceCtorEq, true_and, and_true, Option.map_some, Option.map_none, Nat.succ_eq_add_one, Nat.zero_add, Nat.add_zero, List.singleton_append]
      refine w_turned (n := n + 4) (h := i + 1) (by omega) hT1 (by omega) n0 n1 (ga.mono fun _ => GW.W) fun jk => ?_
      have hp6 := app_get (jk := jk) hp5
      refine ⟨by decide, ?_⟩
      rw [app_l hp6 lenE, wO_some]
      obtain ⟨g1, g2⟩ := hset (e := .tup [.tup [b, .tup (srt (bag ++ [tn nm ws]))], .int (kk + K)]) hp6 (Hand.app H5)
      refine k _ _ (fin _ _ ⟨hD.g.turn (by omega) n0 n1 ga, ?_, ?_, ?_⟩) g1 g2
      · have := hD.s
        rw [turn_nt, turn_L]
        simp only [bagL] at this
        omega
      · have := hD.k0; omega
      · omega
    · rw [if_neg hlt]
      exact ⟨by decide, by decide, by decide, by decide, made s4 kp H4⟩
  · rw [if_neg hj]
    exact ⟨by decide, by decide, by decide, by decide, made s4 kp H4⟩
theorem w_begun {y : PV} {c : Nat} (e : y = .int c) (hc : c ≤ 3) (k : ∀ jk, Q (.tup ((List.range c).map fun i => .tup [.tup [.int 0, .int (i : Nat)], .tup []])) (st ++ jk)) : wO (callF ds (n + 1) 5 [y] st) Q := by
  rw [w_callF]
  show wA (some d5) _
  rw [wA_some]
  simp -implicitDefEqProofs only [d5, e, rangeS (sz24 (show c ≤ 16777216 by omega)), exS, exSs, evX, evs, evt, pr, condOf, w_bin, w_neg, w_cmp, w_isn, w_isb, w_and, w_or, w_not, w_ife, w_tup, w_lst, w_star, w_ix, w_sli, w_call, w_bi, w_met, w_isi, w_comp, w_fstr, w_dict0, w_lvals, w_nil, w_cons, w_tst, w_tnot, w_tand, w_tor, w_var, Kg.w_next, w_seq, w_asg, w_set, w_expr, w_ret, w_if, w_for, w_aug, wO_some, wF_some, wA_some, wA_map, wO_ite, wA_ite, isStar, spl, startE, wipeE, bindT, bindTs, List.map_cons, List.map_nil, List.length_cons, List.length_nil, List.replicate, List.cons_append, List.nil_append, List.append_nil, List.append_assoc, Nat.reduceAdd, Nat.reduceSub, Nat.reduceLT, Nat.reduceLeDiff, List.getElem?_cons_zero, List.getElem?_cons_succ, List.getElem?_nil, Option.join_some, Option.join_none, List.set_cons_zero, List.set_cons_succ, if_true, if_false, Bool.false_eq_true, Bool.true_eq_false, reduceIte, reduceCtorEq, true_and, and_true, Option.map_some, Option.map_none, Nat.succ_eq_add_one, Nat.zero_add, Nat.add_zero, List.singleton_append]
  refine w_compRange (fun i => .tup [.tup [.int 0, .int (i : Nat)], .tup []]) (sz24 (by omega)) (fun i hi jk Q hQ => ?_) fun jk => ?_
  · simp -implicitDefEqProofs only [exS, exSs, evX, evs, evt, pr, condOf, w_bin, w_neg, w_cmp, w_isn, w_isb, w_and, w_or, w_not, w_ife, w_tup, w_lst, w_star, w_ix, w_sli, w_call, w_bi, w_met, w_isi, w_comp, w_fstr, w_dict0, w_lvals, w_nil, w_cons, w_tst, w_tnot, w_tand, w_tor, w_var, Kg.w_next, w_seq, w_asg, w_set, w_expr, w_ret, w_if, w_for, w_aug, wO_some, wF_some, wA_some, wA_map, wO_ite, wA_ite, isStar, spl, startE, wipeE, bindT, bindTs, List.map_cons, List.map_nil, List.length_cons, List.length_nil, List.replicate, List.cons_append, List.nil_append, List.append_nil, List.append_assoc, Nat.reduceAdd, Nat.reduceSub, Nat.reduceLT, Nat.reduceLeDiff, List.getElem?_cons_zero, List.getElem?_cons_succ, List.getElem?_nil, Option.join_some, Option.join_none, List.set_cons_zero, List.set_cons_succ, if_true, if_false, Bool.false_eq_true, Bool.true_eq_false, reduceIte, reduceCtorEq, true_and, and_true, Option.map_some, Option.map_none, Nat.succ_eq_add_one, Nat.zero_add, Nat.add_zero, List.singleton_append]
    refine ⟨by decide, by decide, by decide, ?_⟩
    have := hQ []
    simpa using this
  · rw [tuple_l last_get, wO_some, List.append_assoc]
    exact k _
theorem w_pool {h c : Nat} (H : Hand st h c) (k : ∀ p ents st', p ≠ h → p ≠ c → st'[p]? = some (.lst ents) → Pl ents 0 → Hand st' h c → Q (.ref p) st') : wO (callF ds (n + 1) 19 [] st) Q := by
  rw [w_callF]
  show wA (some d19) _
  rw [wA_some]
  have hr : ∀ s, iterV .range [.int 3] s = some ⟨rangeI 0 ((3 : Nat) : Int), none⟩ := fun s => by
    simp only [iterV]
    rw [if_pos (by decide)]
    rfl
  simp -implicitDefEqProofs only [d19, hr, exS, exSs, evX, evs, evt, pr, condOf, w_bin, w_neg, w_cmp, w_isn, w_isb, w_and, w_or, w_not, w_ife, w_tup, w_lst, w_star, w_ix, w_sli, w_call, w_bi, w_met, w_isi, w_comp, w_fstr, w_dict0, w_lvals, w_nil, w_cons, w_tst, w_tnot, w_tand, w_tor, w_var, Kg.w_next, w_seq, w_asg, w_set, w_expr, w_ret, w_if, w_for, w_aug, wO_some, wF_some, wA_some, wA_map, wO_ite, wA_ite, isStar, spl, startE, wipeE, bindT, bindTs, List.map_cons, List.map_nil, List.length_cons, List.length_nil, List.replicate, List.cons_append, List.nil_append, List.append_nil, List.append_assoc, Nat.reduceAdd, Nat.reduceSub, Nat.reduceLT, Nat.reduceLeDiff, List.getElem?_cons_zero, List.getElem?_cons_succ, List.getElem?_nil, Option.join_some, Option.join_none, List.set_cons_zero, List.set_cons_succ, if_true, if_false, Bool.false_eq_true, Bool.true_eq_false, reduceIte, reduceCtorEq, true_and, and_true, Option.map_some, Option.map_none, Nat.succ_eq_add_one, Nat.zero_add, Nat.add_zero, List.singleton_append]
  refine w_compRange (fun i => .tup [.tup [.tup [.int 0, .int (i : Nat)], .tup []], .int 1]) (by decide) (fun i hi jk Q hQ => ?_) fun jk => ?_
  · simp -implicitDefEqProofs only [exS, exSs, evX, evs, evt, pr, condOf, w_bin, w_neg, w_cmp, w_isn, w_isb, w_and, w_or, w_not, w_ife, w_tup, w_lst, w_star, w_ix, w_sli, w_call, w_bi, w_met, w_isi, w_comp, w_fstr, w_dict0, w_lvals, w_nil, w_cons, w_tst, w_tnot, w_tand, w_tor, w_var, Kg.w_next, w_seq, w_asg, w_set, w_expr, w_ret, w_if, w_for, w_aug, wO_some, wF_some, wA_some, wA_map, wO_ite, wA_ite, isStar, spl, startE, wipeE, bindT, bindTs, List.map_cons, List.map_nil, List.length_cons, List.length_nil, List.replicate, List.cons_append, List.nil_append, List.append_nil, List.append_assoc, Nat.reduceAdd, Nat.reduceSub, Nat.reduceLT, Nat.reduceLeDiff, List.getElem?_cons_zero, List.getElem?_cons_succ, List.getElem?_nil, Option.join_some, Option.join_none, List.set_cons_zero, List.set_cons_succ, if_true, if_false, Bool.false_eq_true, Bool.true_eq_false, reduceIte, reduceCtorEq, true_and, and_true, Option.map_some, Option.map_none, Nat.succ_eq_add_one, Nat.zero_add, Nat.add_zero, List.singleton_append]
    refine ⟨by decide, by decide, by decide, by decide, ?_⟩
    have := hQ []
    simpa using this
  · have hl := H.lt
    have hl2 := H.lt2
    refine k _ _ _ (by simp; omega) (by simp; omega) last_get ⟨by simp, by simp, fun e he => ?_, fun j hj e he => ?_⟩ (Hand.app (Hand.app H))
    · obtain ⟨i, hi, rfl⟩ := List.mem_map.mp he
      have hi := List.mem_range.mp hi
      exact ⟨_, _, rfl, ⟨_, [], rfl, .inl ⟨_, by omega, by omega, rfl⟩, by simp, by simp, by simp⟩, by simp [nt, nts, bagL], by decide, by decide⟩
    · rw [List.getElem?_map] at he
      have : (List.range 3)[j]? = some j := by rw [List.getElem?_range hj]
      rw [this] at he
      cases he
      exact ⟨_, rfl⟩
end K04
/-! K04ed: things that are no worth. -/
namespace K04
open PySem Kg
open Classical
variable {n : Nat} {st : Sto} {Q : PV → Sto → Prop}

def NW (x : PV) : Prop := ∀ k, okW k x = false
theorem NW.s {x : PV} (h : ∀ f, okWF f x = false) : NW x := fun k => by
  cases k with
  | zero => rfl
  | succ k => exact h _
theorem NW.flat {x : PV} (h : isTup x = false) : NW x := NW.s fun f => by cases x <;> simp [isTup] at h <;> rfl
theorem NW.base {b g : PV} (h : ∀ f, okBase f b = false) : NW (.tup [b, g]) := NW.s fun f => by
  unfold okWF
  split
  · rename_i b' bag e
    cases e
    rw [h, Bool.false_and]
  · rfl
theorem NW.bag {b g : PV} (h : isTup g = false) : NW (.tup [b, g]) := NW.s fun f => by
  unfold okWF
  split
  · rename_i b' bag e
    cases e
    cases h
  · rfl
theorem NW.turn {b t : PV} {bag : List PV} (ht : t ∈ bag) (h : ∀ f, okTurn f t = false) : NW (.tup [b, .tup bag]) := NW.s fun f => by
  simp only [okWF]
  have : bag.all (okTurn f) = false := by rw [List.all_eq_false]; exact ⟨t, ht, by rw [h]; decide⟩
  rw [this]
  simp
theorem NW.unsorted {b : PV} {bag : List PV} (h : ¬ bag.Pairwise fun a b => leP a b = true) : NW (.tup [b, .tup bag]) := NW.s fun f => by
  simp only [okWF]
  have : decide (bag = srt bag) = false := by rw [decide_eq_false_iff_not]; exact fun e => h (e ▸ srt_sorted bag)
  rw [this]
  simp
theorem okRow_in {f : PV → Bool} {ws : List PV} {v : PV} (hv : v ∈ ws) (h : f v = false) : okRow f (.tup ws) = false := by
  simp only [okRow]
  have : ws.all f = false := by rw [List.all_eq_false]; exact ⟨v, hv, by rw [h]; decide⟩
  rw [this, Bool.and_false]
theorem NW.inBase {a nm g v : PV} {ws : List PV} (hv : v ∈ ws) (h : NW v) : NW (.tup [.tup [a, nm, .tup ws], g]) := fun k => by
  cases k with
  | zero => rfl
  | succ k =>
    simp only [okW]
    unfold okWF
    split
    · rename_i b' bag e
      cases e
      have : okBase (okW k) (.tup [a, nm, .tup ws]) = false := by simp only [okBase]; rw [okRow_in hv (h k)]; simp
      rw [this, Bool.false_and]
    · rfl
theorem NW.inTurn {b nm v : PV} {ws bag : List PV} (hb : .tup [nm, .tup ws] ∈ bag) (hv : v ∈ ws) (h : NW v) : NW (.tup [b, .tup bag]) := fun k => by
  cases k with
  | zero => rfl
  | succ k =>
    simp only [okW, okWF]
    have : bag.all (okTurn (okW k)) = false := by rw [List.all_eq_false]; exact ⟨_, hb, by simp only [okTurn]; rw [okRow_in hv (h k)]; simp⟩
    rw [this]
    simp
theorem okWhole_lt {lo hi i : Int} (h : i < lo) : okWhole lo hi (.int i) = false := by simp only [okWhole, Bool.and_eq_false_iff, decide_eq_false_iff_not]; omega
theorem okWhole_gt {lo hi i : Int} (h : hi < i) : okWhole lo hi (.int i) = false := by simp only [okWhole, Bool.and_eq_false_iff, decide_eq_false_iff_not]; omega
theorem okWhole_bl {lo hi : Int} {b : Bool} : okWhole lo hi (.bl b) = false := rfl
theorem okWhole_tup {lo hi : Int} {xs : List PV} : okWhole lo hi (.tup xs) = false := rfl
theorem okRow_long {f : PV → Bool} {ws : List PV} (h : 4 < ws.length) : okRow f (.tup ws) = false := by
  simp only [okRow, Bool.and_eq_false_iff, decide_eq_false_iff_not]
  omega
theorem okRow_ref {f : PV → Bool} {r : Nat} : okRow f (.ref r) = false := rfl
/-! ### depths -/
theorem Gd.bl {d : Nat} {b : Bool} : Gd d st (.bl b) := by
  cases d with
  | zero => exact .inr (.inr (.inl ⟨_, rfl⟩))
  | succ d => exact .inl (.inr (.inr (.inl ⟨_, rfl⟩)))
theorem Gd.flat {d : Nat} {x : PV} (h : Flat st x) : Gd d st x := by
  cases d with
  | zero => exact h
  | succ d => exact .inl h
theorem Gd.ref {d r : Nat} {l : List PV} (h : st[r]? = some (.lst l)) : Gd d st (.ref r) := Gd.flat (.inr (.inr (.inr (.inr ⟨r, rfl, .inl ⟨l, h⟩⟩))))
theorem Gd.refK {d r : Nat} {l} (h : st[r]? = some (.dK l)) : Gd d st (.ref r) := Gd.flat (.inr (.inr (.inr (.inr ⟨r, rfl, .inr ⟨l, h⟩⟩))))
theorem Gd.nil {d : Nat} : Gd (d + 1) st (.tup []) := Gd.mk (by simp) (by simp)
theorem Gd.one {d : Nat} {a : PV} (h1 : Gd d st a) : Gd (d + 1) st (.tup [a]) := Gd.mk (by simp) (by simpa using h1)
theorem Gd.three {d : Nat} {a b c : PV} (h1 : Gd d st a) (h2 : Gd d st b) (h3 : Gd d st c) : Gd (d + 1) st (.tup [a, b, c]) := Gd.mk (by simp) (by simp only [List.mem_cons, List.not_mem_nil, or_false, forall_eq_or_imp, forall_eq]; exact ⟨h1, h2, h3⟩)
theorem Gd.app2 {d : Nat} {xs ys : List PV} (h1 : Gd (d + 1) st (.tup xs)) (hl : xs.length ≤ 500) (hl2 : ys.length ≤ 500) (h2 : ∀ y ∈ ys, Gd d st y) : Gd (d + 1) st (.tup (xs ++ ys)) := Gd.mk (by simp; omega) fun y hy => by
  rcases List.mem_append.mp hy with z | z
  · exact h1.tup.2 y z
  · exact h2 y z
theorem Gd.keep {st' : Sto} {h c : Nat} (k : Keep [h] st st') (H : Hand st' h c) : ∀ {d : Nat} {x : PV}, Gd d st x → Gd d st' x := by
  have fl : ∀ {x : PV}, Flat st x → Flat st' x := by
    intro x hx
    rcases hx with hx | hx | hx | hx | ⟨m, e, hx⟩
    · exact .inl hx
    · exact .inr (.inl hx)
    · exact .inr (.inr (.inl hx))
    · exact .inr (.inr (.inr (.inl hx)))
    · refine .inr (.inr (.inr (.inr ⟨m, e, ?_⟩)))
      by_cases hm : m = h
      · subst hm
        obtain ⟨⟨_, _, _, _, e1, _⟩, _⟩ := H
        exact .inl ⟨_, e1⟩
      · rcases hx with ⟨l, hx⟩ | ⟨l, hx⟩
        · exact .inl ⟨l, k.get hx (by simpa using hm)⟩
        · exact .inr ⟨l, k.get hx (by simpa using hm)⟩
  intro d
  induction d with
  | zero => intro x hx; exact fl hx
  | succ d ih =>
    rintro x (hx | ⟨xs, e, l, hx⟩)
    · exact .inl (fl hx)
    · exact .inr ⟨xs, e, l, fun y hy => ih (hx y hy)⟩
/-! ### a base's fault -/
theorem w_cat {xs ys : List PV} : wO (bop .add (.tup xs) (.tup ys) st) Q = (xs.length + ys.length ≤ sizeLine ∧ Q (.tup (xs ++ ys)) st) := by
  simp only [bop, wO_ite, wO_some]
theorem cut1 {x : PV} {xs : List PV} : cutP (x :: xs) (some 1) none = xs := cut_drop (xs := x :: xs) (i := 1) (by simp)
theorem cut2 {x y : PV} {xs : List PV} : cutP (x :: y :: xs) (some 2) none = xs := cut_drop (xs := x :: y :: xs) (i := 2) (by simp)
theorem pow6 : bop .pow (.int 10) (.int 6) st = some (.int 1000000, st) := by
  simp only [bop]
  rw [if_pos (by decide)]
  rfl
theorem pow9 : bop .pow (.int 10) (.int 9) st = some (.int 1000000000, st) := by
  simp only [bop]
  rw [if_pos (by decide)]
  rfl
theorem slV_tup {xs : List PV} {lo hi : Option Int} : slV (.tup xs) lo hi st = some (.tup (cutP xs lo hi), st) := rfl
end K04
/-! K04ee: things that are no worth, drawn. -/
namespace K04
open PySem Kg
open Classical
variable {n : Nat} {st : Sto} {Q : PV → Sto → Prop}

theorem Gd.i {d e : Nat} {x : PV} (hk : d ≤ e) (h : Gd d st x) : Gd e st x := h.le hk
theorem w_badbase {h c i : Nat} {b : PV} {bag : List PV} (H : Hand st h c) (hw : GW (i + 1) (.tup [b, .tup bag])) (hi : i ≤ 20)
    (k : ∀ x st', Keep [h] st st' → Hand st' h c → Gd (4 * i + 6) st' x → NW x → Q x st') : wO (callF ds (n + 4) 32 [.ref h, b, .tup bag] st) Q := by
  have gg : ∀ s, Gd (4 * i + 3) s b ∧ Gd (4 * i + 3) s (.tup bag) := fun s => by
    have := (hw.gd (st := s)).tup.2
    exact ⟨this _ (by simp), this _ (by simp)⟩
  rw [w_callF]
  show wA (some d32) _
  rw [wA_some]
  simp -implicitDefEqProofs only [d32, pow6, exS, exSs, evX, evs, evt, pr, condOf, w_bin, w_neg, w_cmp, w_isn, w_isb, w_and, w_or, w_not, w_ife, w_tup, w_lst, w_star, w_ix, w_sli, w_call, w_bi, w_met, w_isi, w_comp, w_fstr, w_dict0, w_lvals, w_nil, w_cons, w_tst, w_tnot, w_tand, w_tor, w_var, Kg.w_next, w_seq, w_asg, w_set, w_expr, w_ret, w_if, w_for, w_aug, wO_some, wF_some, wA_some, wA_map, wO_ite, wA_ite, isStar, spl, startE, wipeE, bindT, bindTs, List.map_cons, List.map_nil, List.length_cons, List.length_nil, List.replicate, List.cons_append, List.nil_append, List.append_nil, List.append_assoc, Nat.reduceAdd, Nat.reduceSub, Nat.reduceLT, Nat.reduceLeDiff, List.getElem?_cons_zero, List.getElem?_cons_succ, List.getElem?_nil, Option.join_some, Option.join_none, List.set_cons_zero, List.set_cons_succ, if_true, if_false, Bool.false_eq_true, Bool.true_eq_false, reduceIte, reduceCtorEq, true_and, and_true, Option.map_some, Option.map_none, Nat.succ_eq_add_one, Nat.zero_add, Nat.add_zero, List.singleton_append]
  refine take_ (n := n + 1) H (by omega) (by omega) fun far s1 f0 f1 kp1 H1 => ?_
  try simp -implicitDefEqProofs only [exS, exSs, evX, evs, evt, pr, condOf, w_bin, w_neg, w_cmp, w_isn, w_isb, w_and, w_or, w_not, w_ife, w_tup, w_lst, w_star, w_ix, w_sli, w_call, w_bi, w_met, w_isi, w_comp, w_fstr, w_dict0, w_lvals, w_nil, w_cons, w_tst, w_tnot, w_tand, w_tor, w_var, Kg.w_next, w_seq, w_asg, w_set, w_expr, w_ret, w_if, w_for, w_aug, wO_some, wF_some, wA_some, wA_map, wO_ite, wA_ite, isStar, spl, startE, wipeE, bindT, bindTs, List.map_cons, List.map_nil, List.length_cons, List.length_nil, List.replicate, List.cons_append, List.nil_append, List.append_nil, List.append_assoc, Nat.reduceAdd, Nat.reduceSub, Nat.reduceLT, Nat.reduceLeDiff, List.getElem?_cons_zero, List.getElem?_cons_succ, List.getElem?_nil, Option.join_some, Option.join_none, List.set_cons_zero, List.set_cons_succ, if_true, if_false, Bool.false_eq_true, Bool.true_eq_false, reduceIte, reduceCtorEq, true_and, and_true, Option.map_some, Option.map_none, Nat.succ_eq_add_one, Nat.zero_add, Nat.add_zero, List.singleton_append]
  refine take_ (n := n + 1) H1 (by omega) (by omega) fun way s2 w0 w1 kp2 H2 => ?_
  have fin : ∀ x s, Keep [h] s2 s → Hand s h c → Gd (4 * i + 5) s x → (∀ f, okBase f x = false) → Q (.tup [x, .tup bag]) s := fun x s kp Hs g nb =>
    k _ _ ((kp1.trans kp2).trans kp) Hs (Gd.two g ((gg s).2.le (by omega))) (NW.base nb)
  obtain ⟨b', bag', e0, hb, hl, ht, so⟩ := hw
  cases e0
  have e10 : ((1 : Int) = 0) = False := by simp
  have rest : ∀ (s4 : Sto) (nm : Int) (xs : List PV), Keep [h] s2 s4 → Hand s4 h c → 4 < xs.length → (∀ s, Gd (4 * i + 4) s (.tup xs)) → Q (.tup [.tup [.int 1, .int nm, .tup xs], .tup bag]) s4 := fun s4 nm xs kp Hs hx g =>
    fin _ _ kp Hs (Gd.three Gd.int Gd.int (g _)) fun f => by simp only [okBase, okRow_long hx, Bool.and_false]
  rcases hb with ⟨cc, c0, c1, rfl⟩ | ⟨nm, ws, n0, n1, rfl, a⟩
  · simp -implicitDefEqProofs only [cop_eq_i, tru_b, dec_if, ixV_tup, atI0, atI1, atI2, list_t, w_cat, slV_tup, cut1, cut2, sxI, bop_add_i, bop_sub_i, eq_self, e10, exS, exSs, evX, evs, evt, pr, condOf, w_bin, w_neg, w_cmp, w_isn, w_isb, w_and, w_or, w_not, w_ife, w_tup, w_lst, w_star, w_ix, w_sli, w_call, w_bi, w_met, w_isi, w_comp, w_fstr, w_dict0, w_lvals, w_nil, w_cons, w_tst, w_tnot, w_tand, w_tor, w_var, Kg.w_next, w_seq, w_asg, w_set, w_expr, w_ret, w_if, w_for, w_aug, wO_some, wF_some, wA_some, wA_map, wO_ite, wA_ite, isStar, spl, startE, wipeE, bindT, bindTs, List.map_cons, List.map_nil, List.length_cons, List.length_nil, List.replicate, List.cons_append, List.nil_append, List.append_nil, List.append_assoc, Nat.reduceAdd, Nat.reduceSub, Nat.reduceLT, Nat.reduceLeDiff, List.getElem?_cons_zero, List.getElem?_cons_succ, List.getElem?_nil, Option.join_some, Option.join_none, List.set_cons_zero, List.set_cons_succ, if_true, if_false, Bool.false_eq_true, Bool.true_eq_false, reduceIte, reduceCtorEq, true_and, and_true, Option.map_some, Option.map_none, Nat.succ_eq_add_one, Nat.zero_add, Nat.add_zero, List.singleton_append]
    split
    · refine take_ (n := n + 1) H2 (by omega) (by omega) fun j s3 j0 j1 kp3 H3 => ?_
      exact ⟨by decide, by decide, fin _ _ kp3 H3 (Gd.two Gd.int Gd.int) fun f => rfl⟩
    split
    · exact ⟨by decide, fin _ _ Keep.app (Hand.app H2) (Gd.ref last_get) fun f => rfl⟩
    split
    · exact ⟨by decide, by decide, by decide, fin _ _ Keep.refl H2 (Gd.two Gd.int Gd.int) fun f => rfl⟩
    split
    · exact ⟨by decide, by decide, fin _ _ Keep.refl H2 (Gd.two Gd.int Gd.int) fun f => by simp only [okBase]; rw [okWhole_gt (i := 3 + far) (by omega), Bool.and_false]⟩
    split
    · exact ⟨by decide, by decide, by decide, fin _ _ Keep.refl H2 (Gd.two Gd.int Gd.int) fun f => by simp only [okBase]; rw [okWhole_lt (i := -1 - far) (by omega), Bool.and_false]⟩
    split
    · exact ⟨by decide, by decide, by decide, fin _ _ Keep.refl H2 (Gd.two Gd.bl Gd.int) fun f => rfl⟩
    split
    · refine take_ (n := n + 1) H2 (by omega) (by omega) fun j s3 j0 j1 kp3 H3 => ?_
      simp -implicitDefEqProofs only [cop_eq_i, w_cat, slV_tup, cut2, sxI, exS, exSs, evX, evs, evt, pr, condOf, w_bin, w_neg, w_cmp, w_isn, w_isb, w_and, w_or, w_not, w_ife, w_tup, w_lst, w_star, w_ix, w_sli, w_call, w_bi, w_met, w_isi, w_comp, w_fstr, w_dict0, w_lvals, w_nil, w_cons, w_tst, w_tnot, w_tand, w_tor, w_var, Kg.w_next, w_seq, w_asg, w_set, w_expr, w_ret, w_if, w_for, w_aug, wO_some, wF_some, wA_some, wA_map, wO_ite, wA_ite, isStar, spl, startE, wipeE, bindT, bindTs, List.map_cons, List.map_nil, List.length_cons, List.length_nil, List.replicate, List.cons_append, List.nil_append, List.append_nil, List.append_assoc, Nat.reduceAdd, Nat.reduceSub, Nat.reduceLT, Nat.reduceLeDiff, List.getElem?_cons_zero, List.getElem?_cons_succ, List.getElem?_nil, Option.join_some, Option.join_none, List.set_cons_zero, List.set_cons_succ, if_true, if_false, Bool.false_eq_true, Bool.true_eq_false, reduceIte, reduceCtorEq, true_and, and_true, Option.map_some, Option.map_none, Nat.succ_eq_add_one, Nat.zero_add, Nat.add_zero, List.singleton_append]
      exact ⟨by decide, by decide, by decide, fin _ _ kp3 H3 (Gd.two Gd.int Gd.bl) fun f => by simp only [okBase, okWhole_bl, Bool.and_false]⟩
    split
    · refine w_name (n := n) H2 fun m s3 j0 j1 kp3 H3 => ?_
      try simp -implicitDefEqProofs only [exS, exSs, evX, evs, evt, pr, condOf, w_bin, w_neg, w_cmp, w_isn, w_isb, w_and, w_or, w_not, w_ife, w_tup, w_lst, w_star, w_ix, w_sli, w_call, w_bi, w_met, w_isi, w_comp, w_fstr, w_dict0, w_lvals, w_nil, w_cons, w_tst, w_tnot, w_tand, w_tor, w_var, Kg.w_next, w_seq, w_asg, w_set, w_expr, w_ret, w_if, w_for, w_aug, wO_some, wF_some, wA_some, wA_map, wO_ite, wA_ite, isStar, spl, startE, wipeE, bindT, bindTs, List.map_cons, List.map_nil, List.length_cons, List.length_nil, List.replicate, List.cons_append, List.nil_append, List.append_nil, List.append_assoc, Nat.reduceAdd, Nat.reduceSub, Nat.reduceLT, Nat.reduceLeDiff, List.getElem?_cons_zero, List.getElem?_cons_succ, List.getElem?_nil, Option.join_some, Option.join_none, List.set_cons_zero, List.set_cons_succ, if_true, if_false, Bool.false_eq_true, Bool.true_eq_false, reduceIte, reduceCtorEq, true_and, and_true, Option.map_some, Option.map_none, Nat.succ_eq_add_one, Nat.zero_add, Nat.add_zero, List.singleton_append]
      exact ⟨by decide, by decide, by decide, by decide, by decide, by decide, fin _ _ kp3.appR (Hand.app H3) (Gd.three Gd.int Gd.int (Gd.ref last_get)) fun f => by simp only [okBase, okRow_ref, Bool.and_false]⟩
    refine w_name (n := n) H2 fun m2 s3 q0 q1 kp3 H3 => ?_
    try simp -implicitDefEqProofs only [exS, exSs, evX, evs, evt, pr, condOf, w_bin, w_neg, w_cmp, w_isn, w_isb, w_and, w_or, w_not, w_ife, w_tup, w_lst, w_star, w_ix, w_sli, w_call, w_bi, w_met, w_isi, w_comp, w_fstr, w_dict0, w_lvals, w_nil, w_cons, w_tst, w_tnot, w_tand, w_tor, w_var, Kg.w_next, w_seq, w_asg, w_set, w_expr, w_ret, w_if, w_for, w_aug, wO_some, wF_some, wA_some, wA_map, wO_ite, wA_ite, isStar, spl, startE, wipeE, bindT, bindTs, List.map_cons, List.map_nil, List.length_cons, List.length_nil, List.replicate, List.cons_append, List.nil_append, List.append_nil, List.append_assoc, Nat.reduceAdd, Nat.reduceSub, Nat.reduceLT, Nat.reduceLeDiff, List.getElem?_cons_zero, List.getElem?_cons_succ, List.getElem?_nil, Option.join_some, Option.join_none, List.set_cons_zero, List.set_cons_succ, if_true, if_false, Bool.false_eq_true, Bool.true_eq_false, reduceIte, reduceCtorEq, true_and, and_true, Option.map_some, Option.map_none, Nat.succ_eq_add_one, Nat.zero_add, Nat.add_zero, List.singleton_append]
    refine take_ (n := n + 1) H3 (by omega) (by omega) fun j s4 j0 j1 kp4 H4 => ?_
    obtain ⟨m, hm, hr⟩ := range_any (st := s4) (j := 5 + j) (by omega) (by omega)
    simp -implicitDefEqProofs only [bop_add_i, hr, exS, exSs, evX, evs, evt, pr, condOf, w_bin, w_neg, w_cmp, w_isn, w_isb, w_and, w_or, w_not, w_ife, w_tup, w_lst, w_star, w_ix, w_sli, w_call, w_bi, w_met, w_isi, w_comp, w_fstr, w_dict0, w_lvals, w_nil, w_cons, w_tst, w_tnot, w_tand, w_tor, w_var, Kg.w_next, w_seq, w_asg, w_set, w_expr, w_ret, w_if, w_for, w_aug, wO_some, wF_some, wA_some, wA_map, wO_ite, wA_ite, isStar, spl, startE, wipeE, bindT, bindTs, List.map_cons, List.map_nil, List.length_cons, List.length_nil, List.replicate, List.cons_append, List.nil_append, List.append_nil, List.append_assoc, Nat.reduceAdd, Nat.reduceSub, Nat.reduceLT, Nat.reduceLeDiff, List.getElem?_cons_zero, List.getElem?_cons_succ, List.getElem?_nil, Option.join_some, Option.join_none, List.set_cons_zero, List.set_cons_succ, if_true, if_false, Bool.false_eq_true, Bool.true_eq_false, reduceIte, reduceCtorEq, true_and, and_true, Option.map_some, Option.map_none, Nat.succ_eq_add_one, Nat.zero_add, Nat.add_zero, List.singleton_append]
    refine w_compMap (fun _ => .tup [.tup [.int 0, .int 0], .tup []]) (trivial : itOk none s4) (by rw [List.length_map, List.length_range]; exact sz24 (by omega)) (fun x hx jk Q hQ => ?_) fun jk => ?_
    · obtain ⟨z, _, rfl⟩ := List.mem_map.mp hx
      try simp -implicitDefEqProofs only [exS, exSs, evX, evs, evt, pr, condOf, w_bin, w_neg, w_cmp, w_isn, w_isb, w_and, w_or, w_not, w_ife, w_tup, w_lst, w_star, w_ix, w_sli, w_call, w_bi, w_met, w_isi, w_comp, w_fstr, w_dict0, w_lvals, w_nil, w_cons, w_tst, w_tnot, w_tand, w_tor, w_var, Kg.w_next, w_seq, w_asg, w_set, w_expr, w_ret, w_if, w_for, w_aug, wO_some, wF_some, wA_some, wA_map, wO_ite, wA_ite, isStar, spl, startE, wipeE, bindT, bindTs, List.map_cons, List.map_nil, List.length_cons, List.length_nil, List.replicate, List.cons_append, List.nil_append, List.append_nil, List.append_assoc, Nat.reduceAdd, Nat.reduceSub, Nat.reduceLT, Nat.reduceLeDiff, List.getElem?_cons_zero, List.getElem?_cons_succ, List.getElem?_nil, Option.join_some, Option.join_none, List.set_cons_zero, List.set_cons_succ, if_true, if_false, Bool.false_eq_true, Bool.true_eq_false, reduceIte, reduceCtorEq, true_and, and_true, Option.map_some, Option.map_none, Nat.succ_eq_add_one, Nat.zero_add, Nat.add_zero, List.singleton_append]
      refine ⟨by decide, by decide, by decide, ?_⟩
      have := hQ []
      simpa using this
    · rw [tuple_l last_get, wO_some]
      exact ⟨by decide, by decide, rest _ _ _ (kp3.trans kp4).appR.appR (Hand.app (Hand.app H4)) (by simp; omega) (fun s => Gd.mk (by simp; omega) fun y hy => by
        obtain ⟨_, _, rfl⟩ := List.mem_map.mp hy
        exact Gd.two (Gd.two Gd.int Gd.int) Gd.nil)⟩
  · simp -implicitDefEqProofs only [cop_eq_i, tru_b, dec_if, ixV_tup, atI0, atI1, atI2, list_t, w_cat, slV_tup, cut1, cut2, sxI, bop_add_i, bop_sub_i, eq_self, e10, exS, exSs, evX, evs, evt, pr, condOf, w_bin, w_neg, w_cmp, w_isn, w_isb, w_and, w_or, w_not, w_ife, w_tup, w_lst, w_star, w_ix, w_sli, w_call, w_bi, w_met, w_isi, w_comp, w_fstr, w_dict0, w_lvals, w_nil, w_cons, w_tst, w_tnot, w_tand, w_tor, w_var, Kg.w_next, w_seq, w_asg, w_set, w_expr, w_ret, w_if, w_for, w_aug, wO_some, wF_some, wA_some, wA_map, wO_ite, wA_ite, isStar, spl, startE, wipeE, bindT, bindTs, List.map_cons, List.map_nil, List.length_cons, List.length_nil, List.replicate, List.cons_append, List.nil_append, List.append_nil, List.append_assoc, Nat.reduceAdd, Nat.reduceSub, Nat.reduceLT, Nat.reduceLeDiff, List.getElem?_cons_zero, List.getElem?_cons_succ, List.getElem?_nil, Option.join_some, Option.join_none, List.set_cons_zero, List.set_cons_succ, if_true, if_false, Bool.false_eq_true, Bool.true_eq_false, reduceIte, reduceCtorEq, true_and, and_true, Option.map_some, Option.map_none, Nat.succ_eq_add_one, Nat.zero_add, Nat.add_zero, List.singleton_append]
    have gws : ∀ s, Gd (4 * i + 4) s (.tup ws) := fun s => Gd.args (d := 4 * i + 3) (fun w hw => hw.gd.le (by omega)) a
    split
    · refine take_ (n := n + 1) H2 (by omega) (by omega) fun j s3 j0 j1 kp3 H3 => ?_
      exact ⟨by decide, by decide, fin _ _ kp3 H3 (Gd.two Gd.int Gd.int) fun f => rfl⟩
    split
    · exact ⟨by decide, fin _ _ Keep.app (Hand.app H2) (Gd.ref last_get) fun f => rfl⟩
    split
    · exact ⟨by decide, by decide, by decide, fin _ _ Keep.refl H2 (Gd.three Gd.int Gd.int (gws _)) fun f => rfl⟩
    split
    · exact ⟨by decide, by decide, fin _ _ Keep.refl H2 (Gd.three Gd.int Gd.int (gws _)) fun f => by simp only [okBase]; rw [okWhole_gt (i := 100 + far) (by omega), Bool.false_and, Bool.and_false]⟩
    split
    · exact ⟨by decide, by decide, by decide, fin _ _ Keep.refl H2 (Gd.three Gd.int Gd.int (gws _)) fun f => by simp only [okBase]; rw [okWhole_lt (i := -1 - far) (by omega), Bool.false_and, Bool.and_false]⟩
    split
    · exact ⟨by decide, by decide, by decide, fin _ _ Keep.refl H2 (Gd.three Gd.bl Gd.int (gws _)) fun f => rfl⟩
    split
    · refine take_ (n := n + 1) H2 (by omega) (by omega) fun j s3 j0 j1 kp3 H3 => ?_
      simp -implicitDefEqProofs only [cop_eq_i, w_cat, slV_tup, cut2, sxI, exS, exSs, evX, evs, evt, pr, condOf, w_bin, w_neg, w_cmp, w_isn, w_isb, w_and, w_or, w_not, w_ife, w_tup, w_lst, w_star, w_ix, w_sli, w_call, w_bi, w_met, w_isi, w_comp, w_fstr, w_dict0, w_lvals, w_nil, w_cons, w_tst, w_tnot, w_tand, w_tor, w_var, Kg.w_next, w_seq, w_asg, w_set, w_expr, w_ret, w_if, w_for, w_aug, wO_some, wF_some, wA_some, wA_map, wO_ite, wA_ite, isStar, spl, startE, wipeE, bindT, bindTs, List.map_cons, List.map_nil, List.length_cons, List.length_nil, List.replicate, List.cons_append, List.nil_append, List.append_nil, List.append_assoc, Nat.reduceAdd, Nat.reduceSub, Nat.reduceLT, Nat.reduceLeDiff, List.getElem?_cons_zero, List.getElem?_cons_succ, List.getElem?_nil, Option.join_some, Option.join_none, List.set_cons_zero, List.set_cons_succ, if_true, if_false, Bool.false_eq_true, Bool.true_eq_false, reduceIte, reduceCtorEq, true_and, and_true, Option.map_some, Option.map_none, Nat.succ_eq_add_one, Nat.zero_add, Nat.add_zero, List.singleton_append]
      exact ⟨by decide, by decide, by decide, fin _ _ kp3 H3 (Gd.three Gd.int Gd.bl (gws _)) fun f => by simp only [okBase, okWhole_bl, Bool.and_false, Bool.false_and]⟩
    split
    · refine w_name (n := n) H2 fun m s3 j0 j1 kp3 H3 => ?_
      try simp -implicitDefEqProofs only [exS, exSs, evX, evs, evt, pr, condOf, w_bin, w_neg, w_cmp, w_isn, w_isb, w_and, w_or, w_not, w_ife, w_tup, w_lst, w_star, w_ix, w_sli, w_call, w_bi, w_met, w_isi, w_comp, w_fstr, w_dict0, w_lvals, w_nil, w_cons, w_tst, w_tnot, w_tand, w_tor, w_var, Kg.w_next, w_seq, w_asg, w_set, w_expr, w_ret, w_if, w_for, w_aug, wO_some, wF_some, wA_some, wA_map, wO_ite, wA_ite, isStar, spl, startE, wipeE, bindT, bindTs, List.map_cons, List.map_nil, List.length_cons, List.length_nil, List.replicate, List.cons_append, List.nil_append, List.append_nil, List.append_assoc, Nat.reduceAdd, Nat.reduceSub, Nat.reduceLT, Nat.reduceLeDiff, List.getElem?_cons_zero, List.getElem?_cons_succ, List.getElem?_nil, Option.join_some, Option.join_none, List.set_cons_zero, List.set_cons_succ, if_true, if_false, Bool.false_eq_true, Bool.true_eq_false, reduceIte, reduceCtorEq, true_and, and_true, Option.map_some, Option.map_none, Nat.succ_eq_add_one, Nat.zero_add, Nat.add_zero, List.singleton_append]
      exact ⟨by decide, by decide, by decide, by decide, by decide, by decide, fin _ _ kp3.appR (Hand.app H3) (Gd.three Gd.int Gd.int (Gd.ref last_get)) fun f => by simp only [okBase, okRow_ref, Bool.and_false]⟩
    refine w_name (n := n) H2 fun m2 s3 q0 q1 kp3 H3 => ?_
    try simp -implicitDefEqProofs only [exS, exSs, evX, evs, evt, pr, condOf, w_bin, w_neg, w_cmp, w_isn, w_isb, w_and, w_or, w_not, w_ife, w_tup, w_lst, w_star, w_ix, w_sli, w_call, w_bi, w_met, w_isi, w_comp, w_fstr, w_dict0, w_lvals, w_nil, w_cons, w_tst, w_tnot, w_tand, w_tor, w_var, Kg.w_next, w_seq, w_asg, w_set, w_expr, w_ret, w_if, w_for, w_aug, wO_some, wF_some, wA_some, wA_map, wO_ite, wA_ite, isStar, spl, startE, wipeE, bindT, bindTs, List.map_cons, List.map_nil, List.length_cons, List.length_nil, List.replicate, List.cons_append, List.nil_append, List.append_nil, List.append_assoc, Nat.reduceAdd, Nat.reduceSub, Nat.reduceLT, Nat.reduceLeDiff, List.getElem?_cons_zero, List.getElem?_cons_succ, List.getElem?_nil, Option.join_some, Option.join_none, List.set_cons_zero, List.set_cons_succ, if_true, if_false, Bool.false_eq_true, Bool.true_eq_false, reduceIte, reduceCtorEq, true_and, and_true, Option.map_some, Option.map_none, Nat.succ_eq_add_one, Nat.zero_add, Nat.add_zero, List.singleton_append]
    refine take_ (n := n + 1) H3 (by omega) (by omega) fun j s4 j0 j1 kp4 H4 => ?_
    obtain ⟨m, hm, hr⟩ := range_any (st := s4) (j := 5 + j) (by omega) (by omega)
    simp -implicitDefEqProofs only [bop_add_i, hr, exS, exSs, evX, evs, evt, pr, condOf, w_bin, w_neg, w_cmp, w_isn, w_isb, w_and, w_or, w_not, w_ife, w_tup, w_lst, w_star, w_ix, w_sli, w_call, w_bi, w_met, w_isi, w_comp, w_fstr, w_dict0, w_lvals, w_nil, w_cons, w_tst, w_tnot, w_tand, w_tor, w_var, Kg.w_next, w_seq, w_asg, w_set, w_expr, w_ret, w_if, w_for, w_aug, wO_some, wF_some, wA_some, wA_map, wO_ite, wA_ite, isStar, spl, startE, wipeE, bindT, bindTs, List.map_cons, List.map_nil, List.length_cons, List.length_nil, List.replicate, List.cons_append, List.nil_append, List.append_nil, List.append_assoc, Nat.reduceAdd, Nat.reduceSub, Nat.reduceLT, Nat.reduceLeDiff, List.getElem?_cons_zero, List.getElem?_cons_succ, List.getElem?_nil, Option.join_some, Option.join_none, List.set_cons_zero, List.set_cons_succ, if_true, if_false, Bool.false_eq_true, Bool.true_eq_false, reduceIte, reduceCtorEq, true_and, and_true, Option.map_some, Option.map_none, Nat.succ_eq_add_one, Nat.zero_add, Nat.add_zero, List.singleton_append]
    refine w_compMap (fun _ => .tup [.tup [.int 0, .int 0], .tup []]) (trivial : itOk none s4) (by rw [List.length_map, List.length_range]; exact sz24 (by omega)) (fun x hx jk Q hQ => ?_) fun jk => ?_
    · obtain ⟨z, _, rfl⟩ := List.mem_map.mp hx
      try simp -implicitDefEqProofs only [exS, exSs, evX, evs, evt, pr, condOf, w_bin, w_neg, w_cmp, w_isn, w_isb, w_and, w_or, w_not, w_ife, w_tup, w_lst, w_star, w_ix, w_sli, w_call, w_bi, w_met, w_isi, w_comp, w_fstr, w_dict0, w_lvals, w_nil, w_cons, w_tst, w_tnot, w_tand, w_tor, w_var, Kg.w_next, w_seq, w_asg, w_set, w_expr, w_ret, w_if, w_for, w_aug, wO_some, wF_some, wA_some, wA_map, wO_ite, wA_ite, isStar, spl, startE, wipeE, bindT, bindTs, List.map_cons, List.map_nil, List.length_cons, List.length_nil, List.replicate, List.cons_append, List.nil_append, List.append_nil, List.append_assoc, Nat.reduceAdd, Nat.reduceSub, Nat.reduceLT, Nat.reduceLeDiff, List.getElem?_cons_zero, List.getElem?_cons_succ, List.getElem?_nil, Option.join_some, Option.join_none, List.set_cons_zero, List.set_cons_succ, if_true, if_false, Bool.false_eq_true, Bool.true_eq_false, reduceIte, reduceCtorEq, true_and, and_true, Option.map_some, Option.map_none, Nat.succ_eq_add_one, Nat.zero_add, Nat.add_zero, List.singleton_append]
      refine ⟨by decide, by decide, by decide, ?_⟩
      have := hQ []
      simpa using this
    · rw [tuple_l last_get, wO_some]
      exact ⟨by decide, by decide, rest _ _ _ (kp3.trans kp4).appR.appR (Hand.app (Hand.app H4)) (by simp; omega) (fun s => Gd.mk (by simp; omega) fun y hy => by
        obtain ⟨_, _, rfl⟩ := List.mem_map.mp hy
        exact Gd.two (Gd.two Gd.int Gd.int) Gd.nil)⟩
end K04
/-! K04ef: faults in a bag; no worths; within others. -/
namespace K04
open PySem Kg
open Classical
variable {n : Nat} {st : Sto} {Q : PV → Sto → Prop}

theorem unsorted99 {bag : List PV} : ¬ (bag ++ [PV.tup [.int 99, .tup []], .tup [.int 98, .tup []]]).Pairwise fun a b => leP a b = true := by
  intro h
  rw [List.pairwise_append] at h
  have := h.2.1
  simp only [List.pairwise_cons, List.mem_cons, List.not_mem_nil, or_false, forall_eq] at this
  have h2 := this.1
  have : leP (.tup [.int 99, .tup []]) (.tup [.int 98, .tup []]) = false := by decide +kernel
  rw [this] at h2
  cases h2
theorem w_badbag {h c i : Nat} {b : PV} {bag : List PV} (H : Hand st h c) (hw : GW (i + 1) (.tup [b, .tup bag])) (hi : i ≤ 20)
    (k : ∀ x st', Keep [h] st st' → Hand st' h c → Gd (4 * i + 6) st' x → NW x → Q x st') : wO (callF ds (n + 4) 33 [.ref h, b, .tup bag] st) Q := by
  have gg : ∀ s, Gd (4 * i + 3) s b ∧ Gd (4 * i + 3) s (.tup bag) := fun s => by
    have := (hw.gd (st := s)).tup.2
    exact ⟨this _ (by simp), this _ (by simp)⟩
  have hl : bag.length ≤ 7 := by
    obtain ⟨b', bag', e0, hb, hl, ht, so⟩ := hw
    cases e0
    exact hl
  rw [w_callF]
  show wA (some d33) _
  rw [wA_some]
  simp -implicitDefEqProofs only [d33, pow6, exS, exSs, evX, evs, evt, pr, condOf, w_bin, w_neg, w_cmp, w_isn, w_isb, w_and, w_or, w_not, w_ife, w_tup, w_lst, w_star, w_ix, w_sli, w_call, w_bi, w_met, w_isi, w_comp, w_fstr, w_dict0, w_lvals, w_nil, w_cons, w_tst, w_tnot, w_tand, w_tor, w_var, Kg.w_next, w_seq, w_asg, w_set, w_expr, w_ret, w_if, w_for, w_aug, wO_some, wF_some, wA_some, wA_map, wO_ite, wA_ite, isStar, spl, startE, wipeE, bindT, bindTs, List.map_cons, List.map_nil, List.length_cons, List.length_nil, List.replicate, List.cons_append, List.nil_append, List.append_nil, List.append_assoc, Nat.reduceAdd, Nat.reduceSub, Nat.reduceLT, Nat.reduceLeDiff, List.getElem?_cons_zero, List.getElem?_cons_succ, List.getElem?_nil, Option.join_some, Option.join_none, List.set_cons_zero, List.set_cons_succ, if_true, if_false, Bool.false_eq_true, Bool.true_eq_false, reduceIte, reduceCtorEq, true_and, and_true, Option.map_some, Option.map_none, Nat.succ_eq_add_one, Nat.zero_add, Nat.add_zero, List.singleton_append]
  refine take_ (n := n + 1) H (by omega) (by omega) fun far s1 f0 f1 kp1 H1 => ?_
  try simp -implicitDefEqProofs only [exS, exSs, evX, evs, evt, pr, condOf, w_bin, w_neg, w_cmp, w_isn, w_isb, w_and, w_or, w_not, w_ife, w_tup, w_lst, w_star, w_ix, w_sli, w_call, w_bi, w_met, w_isi, w_comp, w_fstr, w_dict0, w_lvals, w_nil, w_cons, w_tst, w_tnot, w_tand, w_tor, w_var, Kg.w_next, w_seq, w_asg, w_set, w_expr, w_ret, w_if, w_for, w_aug, wO_some, wF_some, wA_some, wA_map, wO_ite, wA_ite, isStar, spl, startE, wipeE, bindT, bindTs, List.map_cons, List.map_nil, List.length_cons, List.length_nil, List.replicate, List.cons_append, List.nil_append, List.append_nil, List.append_assoc, Nat.reduceAdd, Nat.reduceSub, Nat.reduceLT, Nat.reduceLeDiff, List.getElem?_cons_zero, List.getElem?_cons_succ, List.getElem?_nil, Option.join_some, Option.join_none, List.set_cons_zero, List.set_cons_succ, if_true, if_false, Bool.false_eq_true, Bool.true_eq_false, reduceIte, reduceCtorEq, true_and, and_true, Option.map_some, Option.map_none, Nat.succ_eq_add_one, Nat.zero_add, Nat.add_zero, List.singleton_append]
  refine take_ (n := n + 1) H1 (by omega) (by omega) fun way s2 w0 w1 kp2 H2 => ?_
  have fin : ∀ x s, Keep [h] s2 s → Hand s h c → Gd (4 * i + 5) s x → NW (.tup [b, x]) → Q (.tup [b, x]) s := fun x s kp Hs g nb =>
    k _ _ ((kp1.trans kp2).trans kp) Hs (Gd.two ((gg s).1.le (by omega)) g) nb
  -- the bag with a turn more
  have more : ∀ t s, Keep [h] s2 s → Hand s h c → Gd (4 * i + 4) s t → (∀ f, okTurn f t = false) → Q (.tup [b, .tup (bag ++ [t])]) s := fun t s kp Hs g nb =>
    fin _ _ kp Hs (Gd.app2 (d := 4 * i + 4) ((gg s).2.le (by omega)) (by omega) (by simp) (by simpa using g)) (NW.turn (t := t) (by simp) nb)
  have one : ∀ t s, Keep [h] s2 s → Hand s h c → Gd (4 * i + 4) s t → (∀ f, okTurn f t = false) → Q (.tup [b, .tup [t]]) s := fun t s kp Hs g nb =>
    fin _ _ kp Hs (Gd.one g) (NW.turn (t := t) (by simp) nb)
  have cl : ∀ (m : Nat), m ≤ 2 → bag.length + m ≤ sizeLine := fun m hm => sz24 (by omega)
  simp -implicitDefEqProofs only [cop_eq_i, tru_b, dec_if, list_t, w_cat, bop_add_i, bop_sub_i, exS, exSs, evX, evs, evt, pr, condOf, w_bin, w_neg, w_cmp, w_isn, w_isb, w_and, w_or, w_not, w_ife, w_tup, w_lst, w_star, w_ix, w_sli, w_call, w_bi, w_met, w_isi, w_comp, w_fstr, w_dict0, w_lvals, w_nil, w_cons, w_tst, w_tnot, w_tand, w_tor, w_var, Kg.w_next, w_seq, w_asg, w_set, w_expr, w_ret, w_if, w_for, w_aug, wO_some, wF_some, wA_some, wA_map, wO_ite, wA_ite, isStar, spl, startE, wipeE, bindT, bindTs, List.map_cons, List.map_nil, List.length_cons, List.length_nil, List.replicate, List.cons_append, List.nil_append, List.append_nil, List.append_assoc, Nat.reduceAdd, Nat.reduceSub, Nat.reduceLT, Nat.reduceLeDiff, List.getElem?_cons_zero, List.getElem?_cons_succ, List.getElem?_nil, Option.join_some, Option.join_none, List.set_cons_zero, List.set_cons_succ, if_true, if_false, Bool.false_eq_true, Bool.true_eq_false, reduceIte, reduceCtorEq, true_and, and_true, Option.map_some, Option.map_none, Nat.succ_eq_add_one, Nat.zero_add, Nat.add_zero, List.singleton_append]
  split
  · refine take_ (n := n + 1) H2 (by omega) (by omega) fun j s3 j0 j1 kp3 H3 => ?_
    simp -implicitDefEqProofs only [cop_eq_i, exS, exSs, evX, evs, evt, pr, condOf, w_bin, w_neg, w_cmp, w_isn, w_isb, w_and, w_or, w_not, w_ife, w_tup, w_lst, w_star, w_ix, w_sli, w_call, w_bi, w_met, w_isi, w_comp, w_fstr, w_dict0, w_lvals, w_nil, w_cons, w_tst, w_tnot, w_tand, w_tor, w_var, Kg.w_next, w_seq, w_asg, w_set, w_expr, w_ret, w_if, w_for, w_aug, wO_some, wF_some, wA_some, wA_map, wO_ite, wA_ite, isStar, spl, startE, wipeE, bindT, bindTs, List.map_cons, List.map_nil, List.length_cons, List.length_nil, List.replicate, List.cons_append, List.nil_append, List.append_nil, List.append_assoc, Nat.reduceAdd, Nat.reduceSub, Nat.reduceLT, Nat.reduceLeDiff, List.getElem?_cons_zero, List.getElem?_cons_succ, List.getElem?_nil, Option.join_some, Option.join_none, List.set_cons_zero, List.set_cons_succ, if_true, if_false, Bool.false_eq_true, Bool.true_eq_false, reduceIte, reduceCtorEq, true_and, and_true, Option.map_some, Option.map_none, Nat.succ_eq_add_one, Nat.zero_add, Nat.add_zero, List.singleton_append]
    exact ⟨by decide, by decide, by decide, by decide, one _ _ kp3 H3 (Gd.two Gd.bl Gd.nil) fun f => rfl⟩
  split
  · refine take_ (n := n + 1) H2 (by omega) (by omega) fun j s4 j0 j1 kp4 H4 => ?_
    obtain ⟨m, hm, hr⟩ := range_any (st := s4) (j := 5 + j) (by omega) (by omega)
    simp -implicitDefEqProofs only [bop_add_i, hr, exS, exSs, evX, evs, evt, pr, condOf, w_bin, w_neg, w_cmp, w_isn, w_isb, w_and, w_or, w_not, w_ife, w_tup, w_lst, w_star, w_ix, w_sli, w_call, w_bi, w_met, w_isi, w_comp, w_fstr, w_dict0, w_lvals, w_nil, w_cons, w_tst, w_tnot, w_tand, w_tor, w_var, Kg.w_next, w_seq, w_asg, w_set, w_expr, w_ret, w_if, w_for, w_aug, wO_some, wF_some, wA_some, wA_map, wO_ite, wA_ite, isStar, spl, startE, wipeE, bindT, bindTs, List.map_cons, List.map_nil, List.length_cons, List.length_nil, List.replicate, List.cons_append, List.nil_append, List.append_nil, List.append_assoc, Nat.reduceAdd, Nat.reduceSub, Nat.reduceLT, Nat.reduceLeDiff, List.getElem?_cons_zero, List.getElem?_cons_succ, List.getElem?_nil, Option.join_some, Option.join_none, List.set_cons_zero, List.set_cons_succ, if_true, if_false, Bool.false_eq_true, Bool.true_eq_false, reduceIte, reduceCtorEq, true_and, and_true, Option.map_some, Option.map_none, Nat.succ_eq_add_one, Nat.zero_add, Nat.add_zero, List.singleton_append]
    refine w_compMap (fun _ => .tup [.tup [.int 0, .int 0], .tup []]) (trivial : itOk none s4) (by rw [List.length_map, List.length_range]; exact sz24 (by omega)) (fun x hx jk Q hQ => ?_) fun jk => ?_
    · obtain ⟨z, _, rfl⟩ := List.mem_map.mp hx
      try simp -implicitDefEqProofs only [exS, exSs, evX, evs, evt, pr, condOf, w_bin, w_neg, w_cmp, w_isn, w_isb, w_and, w_or, w_not, w_ife, w_tup, w_lst, w_star, w_ix, w_sli, w_call, w_bi, w_met, w_isi, w_comp, w_fstr, w_dict0, w_lvals, w_nil, w_cons, w_tst, w_tnot, w_tand, w_tor, w_var, Kg.w_next, w_seq, w_asg, w_set, w_expr, w_ret, w_if, w_for, w_aug, wO_some, wF_some, wA_some, wA_map, wO_ite, wA_ite, isStar, spl, startE, wipeE, bindT, bindTs, List.map_cons, List.map_nil, List.length_cons, List.length_nil, List.replicate, List.cons_append, List.nil_append, List.append_nil, List.append_assoc, Nat.reduceAdd, Nat.reduceSub, Nat.reduceLT, Nat.reduceLeDiff, List.getElem?_cons_zero, List.getElem?_cons_succ, List.getElem?_nil, Option.join_some, Option.join_none, List.set_cons_zero, List.set_cons_succ, if_true, if_false, Bool.false_eq_true, Bool.true_eq_false, reduceIte, reduceCtorEq, true_and, and_true, Option.map_some, Option.map_none, Nat.succ_eq_add_one, Nat.zero_add, Nat.add_zero, List.singleton_append]
      refine ⟨by decide, by decide, by decide, ?_⟩
      have := hQ []
      simpa using this
    · rw [tuple_l last_get, wO_some]
      exact ⟨by decide, by decide, by decide, one _ _ kp4.appR.appR (Hand.app (Hand.app H4)) (Gd.two Gd.int (Gd.mk (d := 4 * i + 2) (by simp; omega) fun y hy => by
        obtain ⟨_, _, rfl⟩ := List.mem_map.mp hy
        exact Gd.two (Gd.two Gd.int Gd.int) Gd.nil)) fun f => by simp only [okTurn]; rw [okRow_long (by simp; omega), Bool.and_false]⟩
  split
  · exact ⟨by decide, fin _ _ Keep.app (Hand.app H2) (Gd.ref last_get) (NW.bag rfl)⟩
  split
  · exact ⟨by decide, by decide, by decide, by decide, by decide, cl 2 (by decide), by decide, fin _ _ Keep.refl H2 (Gd.app2 (d := 4 * i + 4) ((gg _).2.le (by omega)) (by omega) (by simp) (by simp only [List.mem_cons, List.not_mem_nil, or_false, forall_eq_or_imp, forall_eq]; exact ⟨Gd.two Gd.int Gd.nil, Gd.two Gd.int Gd.nil⟩)) (NW.unsorted unsorted99)⟩
  split
  · exact ⟨by decide, by decide, by decide, cl 1 (by decide), by decide, more _ _ Keep.refl H2 (Gd.three Gd.int Gd.nil Gd.int) fun f => rfl⟩
  split
  · exact ⟨by decide, by decide, by decide, cl 1 (by decide), by decide, more _ _ Keep.app (Hand.app H2) (Gd.ref last_get) fun f => rfl⟩
  split
  · exact ⟨by decide, by decide, by decide, cl 1 (by decide), by decide, more _ _ Keep.refl H2 (Gd.two Gd.int Gd.nil) fun f => by simp only [okTurn]; rw [okWhole_gt (i := 100 + far) (by omega), Bool.false_and]⟩
  split
  · exact ⟨by decide, by decide, by decide, sz24 (by omega), by decide, fin _ _ Keep.refl H2 (Gd.mk (d := 4 * i + 4) (by simp; omega) fun y hy => by
      rcases List.mem_cons.mp hy with rfl | hy
      · exact Gd.two Gd.int Gd.nil
      · exact ((gg _).2.tup.2 y hy).le (by omega)) (NW.turn (t := .tup [.int (-1 - far), .tup []]) (by simp) fun f => by simp only [okTurn]; rw [okWhole_lt (i := -1 - far) (by omega), Bool.false_and])⟩
  · exact ⟨by decide, by decide, by decide, by decide, by decide, by decide, cl 1 (by decide), by decide, more _ _ Keep.app (Hand.app H2) (Gd.two Gd.int (Gd.ref last_get)) fun f => by simp only [okTurn, okRow_ref, Bool.and_false]⟩
theorem w_noworth {h c i : Nat} {w : PV} (H : Hand st h c) (hw : GW (i + 1) w) (hi : i ≤ 20)
    (k : ∀ x st', Keep [h] st st' → Hand st' h c → Gd (4 * i + 6) st' x → NW x → Q x st') : wO (callF ds (n + 5) 34 [.ref h, w] st) Q := by
  have hw0 := hw
  obtain ⟨b, bag, rfl, hb, hl, ht, so⟩ := hw0
  have gg : ∀ s, Gd (4 * i + 3) s b ∧ Gd (4 * i + 3) s (.tup bag) := fun s => by
    have := (hw.gd (st := s)).tup.2
    exact ⟨this _ (by simp), this _ (by simp)⟩
  rw [w_callF]
  show wA (some d34) _
  rw [wA_some]
  simp -implicitDefEqProofs only [d34, exS, exSs, evX, evs, evt, pr, condOf, w_bin, w_neg, w_cmp, w_isn, w_isb, w_and, w_or, w_not, w_ife, w_tup, w_lst, w_star, w_ix, w_sli, w_call, w_bi, w_met, w_isi, w_comp, w_fstr, w_dict0, w_lvals, w_nil, w_cons, w_tst, w_tnot, w_tand, w_tor, w_var, Kg.w_next, w_seq, w_asg, w_set, w_expr, w_ret, w_if, w_for, w_aug, wO_some, wF_some, wA_some, wA_map, wO_ite, wA_ite, isStar, spl, startE, wipeE, bindT, bindTs, List.map_cons, List.map_nil, List.length_cons, List.length_nil, List.replicate, List.cons_append, List.nil_append, List.append_nil, List.append_assoc, Nat.reduceAdd, Nat.reduceSub, Nat.reduceLT, Nat.reduceLeDiff, List.getElem?_cons_zero, List.getElem?_cons_succ, List.getElem?_nil, Option.join_some, Option.join_none, List.set_cons_zero, List.set_cons_succ, if_true, if_false, Bool.false_eq_true, Bool.true_eq_false, reduceIte, reduceCtorEq, true_and, and_true, Option.map_some, Option.map_none, Nat.succ_eq_add_one, Nat.zero_add, Nat.add_zero, List.singleton_append]
  refine take_ (n := n + 2) H (by omega) (by omega) fun way s1 w0 w1 kp1 H1 => ?_
  simp -implicitDefEqProofs only [cop_lt_i, tru_b, dec_if, pow9, exS, exSs, evX, evs, evt, pr, condOf, w_bin, w_neg, w_cmp, w_isn, w_isb, w_and, w_or, w_not, w_ife, w_tup, w_lst, w_star, w_ix, w_sli, w_call, w_bi, w_met, w_isi, w_comp, w_fstr, w_dict0, w_lvals, w_nil, w_cons, w_tst, w_tnot, w_tand, w_tor, w_var, Kg.w_next, w_seq, w_asg, w_set, w_expr, w_ret, w_if, w_for, w_aug, wO_some, wF_some, wA_some, wA_map, wO_ite, wA_ite, isStar, spl, startE, wipeE, bindT, bindTs, List.map_cons, List.map_nil, List.length_cons, List.length_nil, List.replicate, List.cons_append, List.nil_append, List.append_nil, List.append_assoc, Nat.reduceAdd, Nat.reduceSub, Nat.reduceLT, Nat.reduceLeDiff, List.getElem?_cons_zero, List.getElem?_cons_succ, List.getElem?_nil, Option.join_some, Option.join_none, List.set_cons_zero, List.set_cons_succ, if_true, if_false, Bool.false_eq_true, Bool.true_eq_false, reduceIte, reduceCtorEq, true_and, and_true, Option.map_some, Option.map_none, Nat.succ_eq_add_one, Nat.zero_add, Nat.add_zero, List.singleton_append]
  split
  · exact w_badbase (n := n) H1 hw hi fun x s kp Hs g nw => k x s (kp1.trans kp) Hs g nw
  split
  · exact w_badbag (n := n) H1 hw hi fun x s kp Hs g nw => k x s (kp1.trans kp) Hs g nw
  refine ⟨by decide, by decide, by decide, by decide, ?_⟩
  refine take_ (n := n + 2) (Hand.app H1) (by omega) (by omega) fun big s2 b0 b1 kp2 H2 => ?_
  refine ⟨by decide, by decide, by decide, ?_⟩
  try simp -implicitDefEqProofs only [exS, exSs, evX, evs, evt, pr, condOf, w_bin, w_neg, w_cmp, w_isn, w_isb, w_and, w_or, w_not, w_ife, w_tup, w_lst, w_star, w_ix, w_sli, w_call, w_bi, w_met, w_isi, w_comp, w_fstr, w_dict0, w_lvals, w_nil, w_cons, w_tst, w_tnot, w_tand, w_tor, w_var, Kg.w_next, w_seq, w_asg, w_set, w_expr, w_ret, w_if, w_for, w_aug, wO_some, wF_some, wA_some, wA_map, wO_ite, wA_ite, isStar, spl, startE, wipeE, bindT, bindTs, List.map_cons, List.map_nil, List.length_cons, List.length_nil, List.replicate, List.cons_append, List.nil_append, List.append_nil, List.append_assoc, Nat.reduceAdd, Nat.reduceSub, Nat.reduceLT, Nat.reduceLeDiff, List.getElem?_cons_zero, List.getElem?_cons_succ, List.getElem?_nil, Option.join_some, Option.join_none, List.set_cons_zero, List.set_cons_succ, if_true, if_false, Bool.false_eq_true, Bool.true_eq_false, reduceIte, reduceCtorEq, true_and, and_true, Option.map_some, Option.map_none, Nat.succ_eq_add_one, Nat.zero_add, Nat.add_zero, List.singleton_append]
  have kp12 := (kp1.appR (jk := [Ob.lst [b, .tup bag]])).trans kp2
  have r1 : s2[s1.length]? = some (.lst [b, .tup bag]) := kp2.get last_get (by have := H1.lt; simp; omega)
  refine take_ (n := n + 2) (Hand.app H2) (by omega) (by omega) fun j s3 j0 j1 kp3 H3 => ?_
  have r2 : s3[s1.length]? = some (.lst [b, .tup bag]) := kp3.get (app_get r1) (by have := H1.lt; simp; omega)
  have hl2 := H2.lt
  have g1 : s3[s2.length]? = some (.lst []) := kp3.get (by simp) (by simp; omega)
  have g2 : s3[(s2 ++ [Ob.lst []]).length]? = some (.dK []) := kp3.get (by simp) (by simp; omega)
  have g3 := kp3.get (n := (s2 ++ [Ob.lst [], Ob.dK []]).length) (o := .lst [PV.ref (List.length s1), PV.tup [b], PV.tup [b, PV.tup bag, PV.tup []], b, PV.non, PV.int big,
            PV.str (Str.ofString "b0"), PV.tup [PV.tup bag, b], PV.ref (List.length s2), PV.ref (s2 ++ [Ob.lst []]).length]) (by simp) (by simp; omega)
  obtain ⟨m, rfl⟩ := Int.eq_ofNat_of_zero_le j0
  have hm : m < 10 := by omega
  rw [ixV_ref g3, atI_nat (by simpa using hm), wA_some]
  have nb : NW b := by
    rcases hb with ⟨cc, c0, c1, rfl⟩ | ⟨nm, ws, n0, n1, rfl, a⟩
    · exact NW.bag rfl
    · exact NW.s fun f => rfl
  have nbb : NW (.tup [.tup bag, b]) := NW.base fun f => by
    have hT : ∀ t ∈ bag, ∃ xs, t = .tup xs := fun t htt => by
      obtain ⟨nm, ws, _, _, rfl, _⟩ := ht t htt
      exact ⟨_, rfl⟩
    unfold okBase
    split
    · rename_i x y e
      cases e
      obtain ⟨xs, rfl⟩ := hT x (by simp)
      rw [okWhole_tup, Bool.false_and]
    · rename_i x y z e
      cases e
      obtain ⟨xs, rfl⟩ := hT x (by simp)
      rw [okWhole_tup, Bool.false_and]
    · rfl
  have G1 := gg s3
  have all : ∀ x ∈ [PV.ref (List.length s1), PV.tup [b], PV.tup [b, PV.tup bag, PV.tup []], b, PV.non, PV.int big,
            PV.str (Str.ofString "b0"), PV.tup [PV.tup bag, b], PV.ref (List.length s2), PV.ref (s2 ++ [Ob.lst []]).length], Gd (4 * i + 6) s3 x ∧ NW x := by
    simp only [List.mem_cons, List.not_mem_nil, or_false, forall_eq_or_imp, forall_eq]
    refine ⟨⟨Gd.ref r2, NW.flat rfl⟩, ⟨Gd.one (G1.1.le (by omega)), NW.s fun f => rfl⟩, ⟨Gd.three (G1.1.le (by omega)) (G1.2.le (by omega)) Gd.nil, NW.s fun f => rfl⟩, ⟨G1.1.le (by omega), nb⟩, ⟨Gd.flat (.inl rfl), NW.flat rfl⟩, ⟨Gd.int, NW.flat rfl⟩,
      ⟨Gd.flat (.inr (.inr (.inr (.inl ⟨_, rfl⟩)))), NW.flat rfl⟩, ⟨Gd.two (G1.2.le (by omega)) (G1.1.le (by omega)), nbb⟩, ⟨Gd.ref g1, NW.flat rfl⟩, ⟨Gd.refK g2, NW.flat rfl⟩⟩
  obtain ⟨a1, a2⟩ := all _ (List.getElem_mem (by simpa using hm))
  exact k _ _ (kp12.trans (Keep.trans Keep.app kp3)) H3 a1 a2
/-- a thing that is no worth within one that is right else -/
theorem w_within {h c p i : Nat} {ents : List PV} {x : PV} (H : Hand st h c) (ne : p ≠ h) (hp : st[p]? = some (.lst ents)) (P : Pl ents i) (hi : i ≤ 20) (gx : Gd (4 * i + 6) st x) (nx : NW x)
    (k : ∀ y st', Keep [h] st st' → Hand st' h c → Gd (4 * i + 10) st' y → NW y → Q y st') : wO (callF ds (n + 5) 35 [.ref h, .ref p, x] st) Q := by
  have hpn : p ∉ [h] := by simpa using ne
  have l3 := P.l3
  have li := P.li
  rw [w_callF]
  show wA (some d35) _
  rw [wA_some]
  simp -implicitDefEqProofs only [d35, len_l hp, exS, exSs, evX, evs, evt, pr, condOf, w_bin, w_neg, w_cmp, w_isn, w_isb, w_and, w_or, w_not, w_ife, w_tup, w_lst, w_star, w_ix, w_sli, w_call, w_bi, w_met, w_isi, w_comp, w_fstr, w_dict0, w_lvals, w_nil, w_cons, w_tst, w_tnot, w_tand, w_tor, w_var, Kg.w_next, w_seq, w_asg, w_set, w_expr, w_ret, w_if, w_for, w_aug, wO_some, wF_some, wA_some, wA_map, wO_ite, wA_ite, isStar, spl, startE, wipeE, bindT, bindTs, List.map_cons, List.map_nil, List.length_cons, List.length_nil, List.replicate, List.cons_append, List.nil_append, List.append_nil, List.append_assoc, Nat.reduceAdd, Nat.reduceSub, Nat.reduceLT, Nat.reduceLeDiff, List.getElem?_cons_zero, List.getElem?_cons_succ, List.getElem?_nil, Option.join_some, Option.join_none, List.set_cons_zero, List.set_cons_succ, if_true, if_false, Bool.false_eq_true, Bool.true_eq_false, reduceIte, reduceCtorEq, true_and, and_true, Option.map_some, Option.map_none, Nat.succ_eq_add_one, Nat.zero_add, Nat.add_zero, List.singleton_append]
  refine take_ (n := n + 2) H (by omega) (by omega) fun j s1 j0 j1 kp1 H1 => ?_
  obtain ⟨e, he, hem⟩ := atI_in j0 j1
  rw [ixV_ref (kp1.get hp hpn), he, wA_some]
  obtain ⟨w, kk, rfl, hD⟩ := P.all e hem
  simp -implicitDefEqProofs only [ixV_tup, atI0, exS, exSs, evX, evs, evt, pr, condOf, w_bin, w_neg, w_cmp, w_isn, w_isb, w_and, w_or, w_not, w_ife, w_tup, w_lst, w_star, w_ix, w_sli, w_call, w_bi, w_met, w_isi, w_comp, w_fstr, w_dict0, w_lvals, w_nil, w_cons, w_tst, w_tnot, w_tand, w_tor, w_var, Kg.w_next, w_seq, w_asg, w_set, w_expr, w_ret, w_if, w_for, w_aug, wO_some, wF_some, wA_some, wA_map, wO_ite, wA_ite, isStar, spl, startE, wipeE, bindT, bindTs, List.map_cons, List.map_nil, List.length_cons, List.length_nil, List.replicate, List.cons_append, List.nil_append, List.append_nil, List.append_assoc, Nat.reduceAdd, Nat.reduceSub, Nat.reduceLT, Nat.reduceLeDiff, List.getElem?_cons_zero, List.getElem?_cons_succ, List.getElem?_nil, Option.join_some, Option.join_none, List.set_cons_zero, List.set_cons_succ, if_true, if_false, Bool.false_eq_true, Bool.true_eq_false, reduceIte, reduceCtorEq, true_and, and_true, Option.map_some, Option.map_none, Nat.succ_eq_add_one, Nat.zero_add, Nat.add_zero, List.singleton_append]
  refine take_ (n := n + 2) H1 (by omega) (by omega) fun way s2 w0 w1 kp2 H2 => ?_
  have hg := hD.g
  obtain ⟨b, bag, rfl, hb, hl, ht, so⟩ := hg
  have gw : ∀ s, Gd (4 * i + 4) s (.tup [b, .tup bag]) := fun s => hD.g.gd
  have kp := kp1.trans kp2
  have gx3 : ∀ s, Keep [h] s2 s → Hand s h c → Gd (4 * i + 6) s x := fun s k2 Hs => Gd.keep (kp.trans k2) Hs gx
  simp -implicitDefEqProofs only [cop_eq_i, tru_b, dec_if, ixV_tup, atI0, exS, exSs, evX, evs, evt, pr, condOf, w_bin, w_neg, w_cmp, w_isn, w_isb, w_and, w_or, w_not, w_ife, w_tup, w_lst, w_star, w_ix, w_sli, w_call, w_bi, w_met, w_isi, w_comp, w_fstr, w_dict0, w_lvals, w_nil, w_cons, w_tst, w_tnot, w_tand, w_tor, w_var, Kg.w_next, w_seq, w_asg, w_set, w_expr, w_ret, w_if, w_for, w_aug, wO_some, wF_some, wA_some, wA_map, wO_ite, wA_ite, isStar, spl, startE, wipeE, bindT, bindTs, List.map_cons, List.map_nil, List.length_cons, List.length_nil, List.replicate, List.cons_append, List.nil_append, List.append_nil, List.append_assoc, Nat.reduceAdd, Nat.reduceSub, Nat.reduceLT, Nat.reduceLeDiff, List.getElem?_cons_zero, List.getElem?_cons_succ, List.getElem?_nil, Option.join_some, Option.join_none, List.set_cons_zero, List.set_cons_succ, if_true, if_false, Bool.false_eq_true, Bool.true_eq_false, reduceIte, reduceCtorEq, true_and, and_true, Option.map_some, Option.map_none, Nat.succ_eq_add_one, Nat.zero_add, Nat.add_zero, List.singleton_append]
  split
  · refine w_name (n := n + 1) H2 fun nm s3 n0 n1 kp3 H3 => ?_
    try simp -implicitDefEqProofs only [exS, exSs, evX, evs, evt, pr, condOf, w_bin, w_neg, w_cmp, w_isn, w_isb, w_and, w_or, w_not, w_ife, w_tup, w_lst, w_star, w_ix, w_sli, w_call, w_bi, w_met, w_isi, w_comp, w_fstr, w_dict0, w_lvals, w_nil, w_cons, w_tst, w_tnot, w_tand, w_tor, w_var, Kg.w_next, w_seq, w_asg, w_set, w_expr, w_ret, w_if, w_for, w_aug, wO_some, wF_some, wA_some, wA_map, wO_ite, wA_ite, isStar, spl, startE, wipeE, bindT, bindTs, List.map_cons, List.map_nil, List.length_cons, List.length_nil, List.replicate, List.cons_append, List.nil_append, List.append_nil, List.append_assoc, Nat.reduceAdd, Nat.reduceSub, Nat.reduceLT, Nat.reduceLeDiff, List.getElem?_cons_zero, List.getElem?_cons_succ, List.getElem?_nil, Option.join_some, Option.join_none, List.set_cons_zero, List.set_cons_succ, if_true, if_false, Bool.false_eq_true, Bool.true_eq_false, reduceIte, reduceCtorEq, true_and, and_true, Option.map_some, Option.map_none, Nat.succ_eq_add_one, Nat.zero_add, Nat.add_zero, List.singleton_append]
    exact ⟨by decide, by decide, by decide, by decide, k _ _ (kp.trans kp3) H3 (Gd.two (Gd.three Gd.int Gd.int (Gd.two ((gw _).le (by omega)) ((gx3 _ kp3 H3).le (by omega)))) Gd.nil) (NW.inBase (v := x) (by simp) nx)⟩
  split
  · refine w_name (n := n + 1) H2 fun nm s3 n0 n1 kp3 H3 => ?_
    try simp -implicitDefEqProofs only [exS, exSs, evX, evs, evt, pr, condOf, w_bin, w_neg, w_cmp, w_isn, w_isb, w_and, w_or, w_not, w_ife, w_tup, w_lst, w_star, w_ix, w_sli, w_call, w_bi, w_met, w_isi, w_comp, w_fstr, w_dict0, w_lvals, w_nil, w_cons, w_tst, w_tnot, w_tand, w_tor, w_var, Kg.w_next, w_seq, w_asg, w_set, w_expr, w_ret, w_if, w_for, w_aug, wO_some, wF_some, wA_some, wA_map, wO_ite, wA_ite, isStar, spl, startE, wipeE, bindT, bindTs, List.map_cons, List.map_nil, List.length_cons, List.length_nil, List.replicate, List.cons_append, List.nil_append, List.append_nil, List.append_assoc, Nat.reduceAdd, Nat.reduceSub, Nat.reduceLT, Nat.reduceLeDiff, List.getElem?_cons_zero, List.getElem?_cons_succ, List.getElem?_nil, Option.join_some, Option.join_none, List.set_cons_zero, List.set_cons_succ, if_true, if_false, Bool.false_eq_true, Bool.true_eq_false, reduceIte, reduceCtorEq, true_and, and_true, Option.map_some, Option.map_none, Nat.succ_eq_add_one, Nat.zero_add, Nat.add_zero, List.singleton_append]
    exact ⟨by decide, by decide, by decide, by decide, k _ _ (kp.trans kp3) H3 (Gd.two (Gd.three Gd.int Gd.int (Gd.one ((gx3 _ kp3 H3).le (by omega)))) Gd.nil) (NW.inBase (v := x) (by simp) nx)⟩
  split
  · refine w_name (n := n + 1) H2 fun nm s3 n0 n1 kp3 H3 => ?_
    try simp -implicitDefEqProofs only [exS, exSs, evX, evs, evt, pr, condOf, w_bin, w_neg, w_cmp, w_isn, w_isb, w_and, w_or, w_not, w_ife, w_tup, w_lst, w_star, w_ix, w_sli, w_call, w_bi, w_met, w_isi, w_comp, w_fstr, w_dict0, w_lvals, w_nil, w_cons, w_tst, w_tnot, w_tand, w_tor, w_var, Kg.w_next, w_seq, w_asg, w_set, w_expr, w_ret, w_if, w_for, w_aug, wO_some, wF_some, wA_some, wA_map, wO_ite, wA_ite, isStar, spl, startE, wipeE, bindT, bindTs, List.map_cons, List.map_nil, List.length_cons, List.length_nil, List.replicate, List.cons_append, List.nil_append, List.append_nil, List.append_assoc, Nat.reduceAdd, Nat.reduceSub, Nat.reduceLT, Nat.reduceLeDiff, List.getElem?_cons_zero, List.getElem?_cons_succ, List.getElem?_nil, Option.join_some, Option.join_none, List.set_cons_zero, List.set_cons_succ, if_true, if_false, Bool.false_eq_true, Bool.true_eq_false, reduceIte, reduceCtorEq, true_and, and_true, Option.map_some, Option.map_none, Nat.succ_eq_add_one, Nat.zero_add, Nat.add_zero, List.singleton_append]
    exact ⟨by decide, by decide, by decide, by decide, k _ _ (kp.trans kp3) H3 (Gd.two ((gw _).tup.2 b (by simp) |>.le (by omega)) (Gd.one (Gd.two Gd.int (Gd.two ((gw _).le (by omega)) (gx3 _ kp3 H3))))) (NW.inTurn (nm := .int nm) (ws := [.tup [b, .tup bag], x]) (v := x) (by simp) (by simp) nx)⟩
  · refine ⟨by decide, w_name (n := n + 1) H2 fun nm s3 n0 n1 kp3 H3 => ?_⟩
    try simp -implicitDefEqProofs only [exS, exSs, evX, evs, evt, pr, condOf, w_bin, w_neg, w_cmp, w_isn, w_isb, w_and, w_or, w_not, w_ife, w_tup, w_lst, w_star, w_ix, w_sli, w_call, w_bi, w_met, w_isi, w_comp, w_fstr, w_dict0, w_lvals, w_nil, w_cons, w_tst, w_tnot, w_tand, w_tor, w_var, Kg.w_next, w_seq, w_asg, w_set, w_expr, w_ret, w_if, w_for, w_aug, wO_some, wF_some, wA_some, wA_map, wO_ite, wA_ite, isStar, spl, startE, wipeE, bindT, bindTs, List.map_cons, List.map_nil, List.length_cons, List.length_nil, List.replicate, List.cons_append, List.nil_append, List.append_nil, List.append_assoc, Nat.reduceAdd, Nat.reduceSub, Nat.reduceLT, Nat.reduceLeDiff, List.getElem?_cons_zero, List.getElem?_cons_succ, List.getElem?_nil, Option.join_some, Option.join_none, List.set_cons_zero, List.set_cons_succ, if_true, if_false, Bool.false_eq_true, Bool.true_eq_false, reduceIte, reduceCtorEq, true_and, and_true, Option.map_some, Option.map_none, Nat.succ_eq_add_one, Nat.zero_add, Nat.add_zero, List.singleton_append]
    exact ⟨by decide, by decide, by decide, by decide, k _ _ (kp.trans kp3) H3 (Gd.two (Gd.two Gd.int Gd.int) (Gd.one (Gd.two Gd.int (Gd.one (gx3 _ kp3 H3))))) (NW.inTurn (nm := .int nm) (ws := [x]) (v := x) (by simp) (by simp) nx)⟩
end K04
/-! K04eg: worths thirty functions deep; the law. -/
namespace K04
open PySem Kg
open Classical
variable {n : Nat} {st : Sto} {Q : PV → Sto → Prop}

def lnk (nm : Int) (x : PV) : PV := .tup [.tup [.int 1, .int nm, .tup [x]], .tup []]
def chain : PV → List Int → PV
  | x, [] => x
  | x, nm :: r => chain (lnk nm x) r
theorem chain_GW : ∀ {ns : List Int} {h : Nat} {x : PV}, (∀ m ∈ ns, 0 ≤ m ∧ m < 100) → GW h x → GW (h + ns.length) (chain x ns)
  | [], h, x, _, g => g
  | m :: ns, h, x, hn, g => by
    have h0 := hn m (by simp)
    have : GW (h + 1) (lnk m x) := ⟨_, [], rfl, .inr ⟨m, [x], h0.1, h0.2, rfl, by simp, by simpa using g⟩, by simp, by simp, by simp⟩
    have ih := chain_GW (ns := ns) (fun k hk => hn k (by simp [hk])) this
    have e : h + (m :: ns).length = h + 1 + ns.length := by simp; omega
    rw [e]
    exact ih
theorem chain_nt : ∀ {ns : List Int} {x : PV}, nt (chain x ns) = nt x + 4 * ns.length
  | [], x => rfl
  | m :: ns, x => by
    simp only [chain]
    rw [chain_nt (ns := ns)]
    simp only [lnk, nt, nts, List.length_cons]
    omega
theorem chain_NW : ∀ {ns : List Int} {x : PV}, NW x → NW (chain x ns)
  | [], _, h => h
  | m :: ns, x, h => chain_NW (ns := ns) (NW.inBase (v := x) (by simp) h)
theorem chain_Gd : ∀ {ns : List Int} {d : Nat} {x : PV}, Gd d st x → Gd (d + 3 * ns.length) st (chain x ns)
  | [], _, _, h => h
  | m :: ns, d, x, h => by
    have ih := chain_Gd (ns := ns) (d := d + 3) (x := lnk m x) (Gd.two (Gd.three Gd.int Gd.int (Gd.one h)) Gd.nil)
    have e : d + 3 * (m :: ns).length = d + 3 + 3 * ns.length := by simp; omega
    rw [e]
    exact ih
theorem w_chain {r : Nat} {x : PV} {ns : List Int} (hr : st[r]? = some (.lst (ns.map PV.int))) (k : Q (chain x ns) st) : wO (callF ds (n + 1) 37 [x, .ref r] st) Q := by
  rw [w_callF]
  show wA (some d37) _
  rw [wA_some]
  simp -implicitDefEqProofs only [d37, seq_l hr, exS, exSs, evX, evs, evt, pr, condOf, w_bin, w_neg, w_cmp, w_isn, w_isb, w_and, w_or, w_not, w_ife, w_tup, w_lst, w_star, w_ix, w_sli, w_call, w_bi, w_met, w_isi, w_comp, w_fstr, w_dict0, w_lvals, w_nil, w_cons, w_tst, w_tnot, w_tand, w_tor, w_var, Kg.w_next, w_seq, w_asg, w_set, w_expr, w_ret, w_if, w_for, w_aug, wO_some, wF_some, wA_some, wA_map, wO_ite, wA_ite, isStar, spl, startE, wipeE, bindT, bindTs, List.map_cons, List.map_nil, List.length_cons, List.length_nil, List.replicate, List.cons_append, List.nil_append, List.append_nil, List.append_assoc, Nat.reduceAdd, Nat.reduceSub, Nat.reduceLT, Nat.reduceLeDiff, List.getElem?_cons_zero, List.getElem?_cons_succ, List.getElem?_nil, Option.join_some, Option.join_none, List.set_cons_zero, List.set_cons_succ, if_true, if_false, Bool.false_eq_true, Bool.true_eq_false, reduceIte, reduceCtorEq, true_and, and_true, Option.map_some, Option.map_none, Nat.succ_eq_add_one, Nat.zero_add, Nat.add_zero, List.singleton_append]
  refine w_forL (fun ys e s => ∃ (ms : List Int) (cur : PV) (e3 : Option PV), ys = ms.map PV.int ∧ e = [some x, some (.ref r), some cur, e3] ∧ s = st ∧ chain cur ms = chain x ns) ?_ ⟨ns, x, none, rfl, rfl, rfl, rfl⟩ ?_ ?_
  · rintro ys e s ⟨ms, cur, e3, _, _, rfl, _⟩
    exact hr
  · rintro y ys e s ⟨ms, cur, e3, hy, rfl, rfl, hc⟩
    cases ms with
    | nil => cases hy
    | cons m ms =>
      rw [List.map_cons] at hy
      obtain ⟨h1, h2⟩ := List.cons.inj hy
      subst h1
      subst h2
      simp -implicitDefEqProofs only [exS, exSs, evX, evs, evt, pr, condOf, w_bin, w_neg, w_cmp, w_isn, w_isb, w_and, w_or, w_not, w_ife, w_tup, w_lst, w_star, w_ix, w_sli, w_call, w_bi, w_met, w_isi, w_comp, w_fstr, w_dict0, w_lvals, w_nil, w_cons, w_tst, w_tnot, w_tand, w_tor, w_var, Kg.w_next, w_seq, w_asg, w_set, w_expr, w_ret, w_if, w_for, w_aug, wO_some, wF_some, wA_some, wA_map, wO_ite, wA_ite, isStar, spl, startE, wipeE, bindT, bindTs, List.map_cons, List.map_nil, List.length_cons, List.length_nil, List.replicate, List.cons_append, List.nil_append, List.append_nil, List.append_assoc, Nat.reduceAdd, Nat.reduceSub, Nat.reduceLT, Nat.reduceLeDiff, List.getElem?_cons_zero, List.getElem?_cons_succ, List.getElem?_nil, Option.join_some, Option.join_none, List.set_cons_zero, List.set_cons_succ, if_true, if_false, Bool.false_eq_true, Bool.true_eq_false, reduceIte, reduceCtorEq, true_and, and_true, Option.map_some, Option.map_none, Nat.succ_eq_add_one, Nat.zero_add, Nat.add_zero, List.singleton_append]
      refine ⟨by decide, by decide, by decide, by decide, ms, lnk m cur, some (.int m), ?_⟩
      first | exact ⟨rfl, rfl, rfl, hc⟩ | exact ⟨rfl, rfl, hc⟩ | exact ⟨rfl, hc⟩
  · rintro e s ⟨ms, cur, e3, hy, rfl, rfl, hc⟩
    have : ms = [] := by cases ms with | nil => rfl | cons => cases hy
    subst this
    simp -implicitDefEqProofs only [exS, exSs, evX, evs, evt, pr, condOf, w_bin, w_neg, w_cmp, w_isn, w_isb, w_and, w_or, w_not, w_ife, w_tup, w_lst, w_star, w_ix, w_sli, w_call, w_bi, w_met, w_isi, w_comp, w_fstr, w_dict0, w_lvals, w_nil, w_cons, w_tst, w_tnot, w_tand, w_tor, w_var, Kg.w_next, w_seq, w_asg, w_set, w_expr, w_ret, w_if, w_for, w_aug, wO_some, wF_some, wA_some, wA_map, wO_ite, wA_ite, isStar, spl, startE, wipeE, bindT, bindTs, List.map_cons, List.map_nil, List.length_cons, List.length_nil, List.replicate, List.cons_append, List.nil_append, List.append_nil, List.append_assoc, Nat.reduceAdd, Nat.reduceSub, Nat.reduceLT, Nat.reduceLeDiff, List.getElem?_cons_zero, List.getElem?_cons_succ, List.getElem?_nil, Option.join_some, Option.join_none, List.set_cons_zero, List.set_cons_succ, if_true, if_false, Bool.false_eq_true, Bool.true_eq_false, reduceIte, reduceCtorEq, true_and, and_true, Option.map_some, Option.map_none, Nat.succ_eq_add_one, Nat.zero_add, Nat.add_zero, List.singleton_append]
    simp only [chain] at hc
    rw [hc]
    exact k
theorem w_isno {x : PV} {m : Nat} (g : Gd 126 st x) (nx : NW x) (hm : 127 ≤ m) (k : ∀ jk, Q (.bl false) (st ++ jk)) : wO (callF ds m 4 [x] st) Q := by
  obtain ⟨n, rfl⟩ : ∃ n, m = n + 3 * 42 + 1 := ⟨m - 127, by omega⟩
  refine w_worth (k := 42) (by decide) _ _ _ g fun jk => ?_
  rw [nx 42]
  exact k jk
theorem w_deep {h c : Nat} {x : PV} (H : Hand st h c) (gx : Gd 45 st x) (nx : NW x) (k : ∀ s, Q (.bl true) s) : wO (callF ds 132 38 [.ref h, x] st) Q := by
  rw [w_callF (n := 131)]
  show wA (some d38) _
  rw [wA_some]
  have hr : ∀ s, iterV .range [.int 30] s = some ⟨(List.range 30).map fun i => PV.int (i : Nat), none⟩ := fun s => by
    have := rangeS (st := s) (j := 30) (by rw [sizeLine_eq]; decide)
    rw [rangeI_eq] at this
    exact this
  simp -implicitDefEqProofs only [d38, hr, exS, exSs, evX, evs, evt, pr, condOf, w_bin, w_neg, w_cmp, w_isn, w_isb, w_and, w_or, w_not, w_ife, w_tup, w_lst, w_star, w_ix, w_sli, w_call, w_bi, w_met, w_isi, w_comp, w_fstr, w_dict0, w_lvals, w_nil, w_cons, w_tst, w_tnot, w_tand, w_tor, w_var, Kg.w_next, w_seq, w_asg, w_set, w_expr, w_ret, w_if, w_for, w_aug, wO_some, wF_some, wA_some, wA_map, wO_ite, wA_ite, isStar, spl, startE, wipeE, bindT, bindTs, List.map_cons, List.map_nil, List.length_cons, List.length_nil, List.replicate, List.cons_append, List.nil_append, List.append_nil, List.append_assoc, Nat.reduceAdd, Nat.reduceSub, Nat.reduceLT, Nat.reduceLeDiff, List.getElem?_cons_zero, List.getElem?_cons_succ, List.getElem?_nil, Option.join_some, Option.join_none, List.set_cons_zero, List.set_cons_succ, if_true, if_false, Bool.false_eq_true, Bool.true_eq_false, reduceIte, reduceCtorEq, true_and, and_true, Option.map_some, Option.map_none, Nat.succ_eq_add_one, Nat.zero_add, Nat.add_zero, List.singleton_append]
  refine w_compL (c := none) (fun ys acc s => ∃ ms : List Int, acc = ms.map PV.int ∧ ms.length + ys.length = 30 ∧ (∀ m ∈ ms, 0 ≤ m ∧ m < 100) ∧ Keep [h] st s ∧ Hand s h c ∧ ∀ y ∈ ys, ∃ z, y = .int z) (fun _ _ _ _ => trivial) ⟨[], rfl, by simp, by simp, Keep.refl, H, by simp⟩ ?_ ?_
  · rintro y ys acc s ⟨ms, rfl, hl, hms, kp, Hs, hy⟩
    try simp -implicitDefEqProofs only [exS, exSs, evX, evs, evt, pr, condOf, w_bin, w_neg, w_cmp, w_isn, w_isb, w_and, w_or, w_not, w_ife, w_tup, w_lst, w_star, w_ix, w_sli, w_call, w_bi, w_met, w_isi, w_comp, w_fstr, w_dict0, w_lvals, w_nil, w_cons, w_tst, w_tnot, w_tand, w_tor, w_var, Kg.w_next, w_seq, w_asg, w_set, w_expr, w_ret, w_if, w_for, w_aug, wO_some, wF_some, wA_some, wA_map, wO_ite, wA_ite, isStar, spl, startE, wipeE, bindT, bindTs, List.map_cons, List.map_nil, List.length_cons, List.length_nil, List.replicate, List.cons_append, List.nil_append, List.append_nil, List.append_assoc, Nat.reduceAdd, Nat.reduceSub, Nat.reduceLT, Nat.reduceLeDiff, List.getElem?_cons_zero, List.getElem?_cons_succ, List.getElem?_nil, Option.join_some, Option.join_none, List.set_cons_zero, List.set_cons_succ, if_true, if_false, Bool.false_eq_true, Bool.true_eq_false, reduceIte, reduceCtorEq, true_and, and_true, Option.map_some, Option.map_none, Nat.succ_eq_add_one, Nat.zero_add, Nat.add_zero, List.singleton_append]
    refine w_name (n := 128) Hs fun m s2 m0 m1 kp2 H2 => ?_
    rw [List.length_cons] at hl
    refine ⟨by rw [sizeLine_eq]; simp; omega, ms ++ [m], by simp, by simp; omega, fun z hz => ?_, kp.trans kp2, H2, fun z hz => hy z (by simp [hz])⟩
    rcases List.mem_append.mp hz with z1 | z1
    · exact hms z z1
    · rw [List.mem_singleton.mp z1]; exact ⟨m0, m1⟩
  · rintro acc s ⟨ms, rfl, hl, hms, kp, Hs, _⟩
    have hl30 : ms.length = 30 := by simpa using hl
    have hsn : s.length ≠ h := by have := Hs.lt; omega
    have g0 : (s ++ [Ob.lst (ms.map PV.int)])[s.length]? = some (.lst (ms.map PV.int)) := last_get
    try simp -implicitDefEqProofs only [exS, exSs, evX, evs, evt, pr, condOf, w_bin, w_neg, w_cmp, w_isn, w_isb, w_and, w_or, w_not, w_ife, w_tup, w_lst, w_star, w_ix, w_sli, w_call, w_bi, w_met, w_isi, w_comp, w_fstr, w_dict0, w_lvals, w_nil, w_cons, w_tst, w_tnot, w_tand, w_tor, w_var, Kg.w_next, w_seq, w_asg, w_set, w_expr, w_ret, w_if, w_for, w_aug, wO_some, wF_some, wA_some, wA_map, wO_ite, wA_ite, isStar, spl, startE, wipeE, bindT, bindTs, List.map_cons, List.map_nil, List.length_cons, List.length_nil, List.replicate, List.cons_append, List.nil_append, List.append_nil, List.append_assoc, Nat.reduceAdd, Nat.reduceSub, Nat.reduceLT, Nat.reduceLeDiff, List.getElem?_cons_zero, List.getElem?_cons_succ, List.getElem?_nil, Option.join_some, Option.join_none, List.set_cons_zero, List.set_cons_succ, if_true, if_false, Bool.false_eq_true, Bool.true_eq_false, reduceIte, reduceCtorEq, true_and, and_true, Option.map_some, Option.map_none, Nat.succ_eq_add_one, Nat.zero_add, Nat.add_zero, List.singleton_append]
    refine take_ (n := 129) (Hand.app Hs) (by omega) (by omega) fun j s1 j0 j1 kp1 H1 => ?_
    have g1 := kp1.get g0 (by simpa using hsn)
    have cutm : ∀ (q : Nat), q ≤ 30 → cutP (ms.map PV.int) none (some (q : Int)) = (ms.take q).map PV.int := fun q hq => by
      rw [cut_take (by simp; omega), List.map_take]
    have sl29 : slV (.ref s.length) none (some 29) s1 = some (.ref s1.length, s1 ++ [.lst ((ms.take 29).map PV.int)]) := by
      simp only [slV, g1]
      have := cutm 29 (by decide)
      rw [show ((29 : Nat) : Int) = 29 from rfl] at this
      rw [this]
    simp -implicitDefEqProofs only [sxI, sl29, exS, exSs, evX, evs, evt, pr, condOf, w_bin, w_neg, w_cmp, w_isn, w_isb, w_and, w_or, w_not, w_ife, w_tup, w_lst, w_star, w_ix, w_sli, w_call, w_bi, w_met, w_isi, w_comp, w_fstr, w_dict0, w_lvals, w_nil, w_cons, w_tst, w_tnot, w_tand, w_tor, w_var, Kg.w_next, w_seq, w_asg, w_set, w_expr, w_ret, w_if, w_for, w_aug, wO_some, wF_some, wA_some, wA_map, wO_ite, wA_ite, isStar, spl, startE, wipeE, bindT, bindTs, List.map_cons, List.map_nil, List.length_cons, List.length_nil, List.replicate, List.cons_append, List.nil_append, List.append_nil, List.append_assoc, Nat.reduceAdd, Nat.reduceSub, Nat.reduceLT, Nat.reduceLeDiff, List.getElem?_cons_zero, List.getElem?_cons_succ, List.getElem?_nil, Option.join_some, Option.join_none, List.set_cons_zero, List.set_cons_succ, if_true, if_false, Bool.false_eq_true, Bool.true_eq_false, reduceIte, reduceCtorEq, true_and, and_true, Option.map_some, Option.map_none, Nat.succ_eq_add_one, Nat.zero_add, Nat.add_zero, List.singleton_append]
    refine ⟨by decide, by decide, by decide, ?_⟩
    refine w_chain (n := 130) last_get ?_
    have hms29 : ∀ m ∈ ms.take 29, 0 ≤ m ∧ m < 100 := fun m hm => hms m (List.mem_of_mem_take hm)
    have hg0 : GW 1 (.tup [.tup [.int 0, .int j], .tup []]) := ⟨_, [], rfl, .inl ⟨j, j0, j1, rfl⟩, by simp, by simp, by simp⟩
    have hg29 := chain_GW hms29 hg0
    have hn29 := chain_nt (ns := ms.take 29) (x := .tup [.tup [.int 0, .int j], .tup []])
    rw [List.length_take, hl30] at hg29 hn29
    generalize hdp : chain (PV.tup [.tup [.int 0, .int j], .tup []]) (ms.take 29) = deep at hg29 hn29 ⊢
    have hix : ∀ s', s'[s.length]? = some (.lst (ms.map PV.int)) → ∃ m, ixV (.ref s.length) (.int 29) s' = some (.int m) ∧ 0 ≤ m ∧ m < 100 := fun s' hs' => by
      refine ⟨ms[29], ?_, hms _ (List.getElem_mem _)⟩
      rw [ixV_ref hs']
      have := atI_nat (xs := ms.map PV.int) (k := 29) (by simp; omega)
      rw [show ((29 : Nat) : Int) = 29 from rfl] at this
      rw [this, List.getElem_map]
    have g2 : (s1 ++ [Ob.lst ((ms.take 29).map PV.int)])[s.length]? = some (.lst (ms.map PV.int)) := app_get g1
    obtain ⟨m, hm, m0, m1⟩ := hix _ g2
    have e29 : L2.atI (ms.map PV.int) 29 = some (.int m) := by rw [ixV_ref g2] at hm; exact hm
    have hW : GW 31 (lnk m deep) := (show GW (1 + min 29 30 + 1) (lnk m deep) from ⟨_, [], rfl, .inr ⟨m, [deep], m0, m1, rfl, by simp, by simpa using hg29⟩, by simp, by simp, by simp⟩)
    have hnt : nt (lnk m deep) ≤ 60000 := by
      simp only [nt, nts] at hn29
      simp only [lnk, nt, nts]
      omega
    try simp -implicitDefEqProofs only [exS, exSs, evX, evs, evt, pr, condOf, w_bin, w_neg, w_cmp, w_isn, w_isb, w_and, w_or, w_not, w_ife, w_tup, w_lst, w_star, w_ix, w_sli, w_call, w_bi, w_met, w_isi, w_comp, w_fstr, w_dict0, w_lvals, w_nil, w_cons, w_tst, w_tnot, w_tand, w_tor, w_var, Kg.w_next, w_seq, w_asg, w_set, w_expr, w_ret, w_if, w_for, w_aug, wO_some, wF_some, wA_some, wA_map, wO_ite, wA_ite, isStar, spl, startE, wipeE, bindT, bindTs, List.map_cons, List.map_nil, List.length_cons, List.length_nil, List.replicate, List.cons_append, List.nil_append, List.append_nil, List.append_assoc, Nat.reduceAdd, Nat.reduceSub, Nat.reduceLT, Nat.reduceLeDiff, List.getElem?_cons_zero, List.getElem?_cons_succ, List.getElem?_nil, Option.join_some, Option.join_none, List.set_cons_zero, List.set_cons_succ, if_true, if_false, Bool.false_eq_true, Bool.true_eq_false, reduceIte, reduceCtorEq, true_and, and_true, Option.map_some, Option.map_none, Nat.succ_eq_add_one, Nat.zero_add, Nat.add_zero, List.singleton_append]
    rw [hm, wA_some]
    refine ⟨by decide, ?_⟩
    refine w_made (n := 130) (ws := [deep]) (.inr ⟨_, rfl, by simp⟩) ?_
    have g3 : (s1 ++ [Ob.lst ((ms.take 29).map PV.int), Ob.lst [deep]])[s.length]? = some (.lst (ms.map PV.int)) := by
      rw [show s1 ++ [Ob.lst ((ms.take 29).map PV.int), Ob.lst [deep]] = (s1 ++ [Ob.lst ((ms.take 29).map PV.int)]) ++ [Ob.lst [deep]] from by simp]
      exact app_get g2
    have hm3 : ∀ S : Sto, S[s.length]? = some (.lst (ms.map PV.int)) → ixV (.ref s.length) (.int 29) S = some (.int m) := fun S hS => by rw [ixV_ref hS]; exact e29
    try simp -implicitDefEqProofs only [hm3 _ g3, exS, exSs, evX, evs, evt, pr, condOf, w_bin, w_neg, w_cmp, w_isn, w_isb, w_and, w_or, w_not, w_ife, w_tup, w_lst, w_star, w_ix, w_sli, w_call, w_bi, w_met, w_isi, w_comp, w_fstr, w_dict0, w_lvals, w_nil, w_cons, w_tst, w_tnot, w_tand, w_tor, w_var, Kg.w_next, w_seq, w_asg, w_set, w_expr, w_ret, w_if, w_for, w_aug, wO_some, wF_some, wA_some, wA_map, wO_ite, wA_ite, isStar, spl, startE, wipeE, bindT, bindTs, List.map_cons, List.map_nil, List.length_cons, List.length_nil, List.replicate, List.cons_append, List.nil_append, List.append_nil, List.append_assoc, Nat.reduceAdd, Nat.reduceSub, Nat.reduceLT, Nat.reduceLeDiff, List.getElem?_cons_zero, List.getElem?_cons_succ, List.getElem?_nil, Option.join_some, Option.join_none, List.set_cons_zero, List.set_cons_succ, if_true, if_false, Bool.false_eq_true, Bool.true_eq_false, reduceIte, reduceCtorEq, true_and, and_true, Option.map_some, Option.map_none, Nat.succ_eq_add_one, Nat.zero_add, Nat.add_zero, List.singleton_append]
    generalize hD : PV.tup [.tup [.int 1, .int m, .tup [deep]], .tup []] = D
    have hD' : lnk m deep = D := hD
    rw [hD'] at hW hnt
    refine ⟨by decide, by decide, by decide, by decide, ?_⟩
    refine w_exactW (n := 130) hW.W (by omega) fun j3 => ?_
    try simp -implicitDefEqProofs only [tru_b, exS, exSs, evX, evs, evt, pr, condOf, w_bin, w_neg, w_cmp, w_isn, w_isb, w_and, w_or, w_not, w_ife, w_tup, w_lst, w_star, w_ix, w_sli, w_call, w_bi, w_met, w_isi, w_comp, w_fstr, w_dict0, w_lvals, w_nil, w_cons, w_tst, w_tnot, w_tand, w_tor, w_var, Kg.w_next, w_seq, w_asg, w_set, w_expr, w_ret, w_if, w_for, w_aug, wO_some, wF_some, wA_some, wA_map, wO_ite, wA_ite, isStar, spl, startE, wipeE, bindT, bindTs, List.map_cons, List.map_nil, List.length_cons, List.length_nil, List.replicate, List.cons_append, List.nil_append, List.append_nil, List.append_assoc, Nat.reduceAdd, Nat.reduceSub, Nat.reduceLT, Nat.reduceLeDiff, List.getElem?_cons_zero, List.getElem?_cons_succ, List.getElem?_nil, Option.join_some, Option.join_none, List.set_cons_zero, List.set_cons_succ, if_true, if_false, Bool.false_eq_true, Bool.true_eq_false, reduceIte, reduceCtorEq, true_and, and_true, Option.map_some, Option.map_none, Nat.succ_eq_add_one, Nat.zero_add, Nat.add_zero, List.singleton_append]
    refine w_told (n := 130) (h := 30) (by omega) hW hnt (by omega) fun j4 => ?_
    simp only [List.append_assoc, tru_b, wA_some, Bool.not_true, Bool.false_eq_true, if_false]
    have gz := Gd.keep (kp.trans ((Keep.app (jk := [Ob.lst (ms.map PV.int)])).trans kp1)) H1 gx
    have g4 := app_get (jk := j3 ++ j4) g3
    have sl18 : ∀ S : Sto, S[s.length]? = some (.lst (ms.map PV.int)) → slV (.ref s.length) none (some 18) S = some (.ref S.length, S ++ [.lst ((ms.take 18).map PV.int)]) := fun S hS => by
      simp only [slV, hS]
      have := cutm 18 (by decide)
      rw [show ((18 : Nat) : Int) = 18 from rfl] at this
      rw [this]
    have hms18 : (ms.take 18).length = 18 := by simp; omega
    have hS' : ∃ S, S = s1 ++ (Ob.lst (List.map PV.int (List.take 29 ms)) :: Ob.lst [deep] :: (j3 ++ j4)) := ⟨_, rfl⟩
    obtain ⟨S, hS'⟩ := hS'
    have hS' := hS'.symm
    have g4 : S[s.length]? = some (.lst (ms.map PV.int)) := by rw [← hS']; simpa using g4
    simp only [List.cons_append, List.nil_append]
    rw [hS', sl18 S g4, wO_some]
    refine w_chain (n := 130) last_get ?_
    have gS : Gd 45 (S ++ [Ob.lst ((ms.take 18).map PV.int)]) x := by
      rw [← hS']
      exact (gz.app).app
    have gc := chain_Gd (ns := ms.take 18) gS
    rw [hms18] at gc
    refine w_isno (m := 131) (gc.le (by decide)) (chain_NW nx) (by decide) fun jk => ?_
    exact k _
end K04
/-! K04eh: the law. -/
namespace K04
open PySem Kg
open Classical
variable {n : Nat} {st : Sto} {Q : PV → Sto → Prop}

def Rr : Fl → En → Sto → Prop := fun fl _ _ => match fl with | .nx => PV.non = PV.bl true | .rt v => v = PV.bl true | _ => False
theorem isT : (isBl true (.bl true) != false) = true := rfl
theorem isF : (isBl false (.bl false) != true) = false := rfl
theorem w_tail {h c p i : Nat} {ents : List PV} {e0 e2 e4 e5 e6 e7 e8 : Option PV} (H : Hand st h c) (ne : p ≠ h) (hp : st[p]? = some (.lst ents)) (P : Pl ents i) (hi : i ≤ 8) :
    wF (exSs (callF ds 132) (d39.body.drop 7) [e0, some (.ref h), e2, some (.ref p), e4, e5, e6, e7, e8] st) Rr := by
  have hpn : p ∉ [h] := by simpa using ne
  have l3 := P.l3
  have li := P.li
  simp -implicitDefEqProofs only [d39, List.drop_succ_cons, List.drop_zero, len_l hp, exS, exSs, evX, evs, evt, pr, condOf, w_bin, w_neg, w_cmp, w_isn, w_isb, w_and, w_or, w_not, w_ife, w_tup, w_lst, w_star, w_ix, w_sli, w_call, w_bi, w_met, w_isi, w_comp, w_fstr, w_dict0, w_lvals, w_nil, w_cons, w_tst, w_tnot, w_tand, w_tor, w_var, Kg.w_next, w_seq, w_asg, w_set, w_expr, w_ret, w_if, w_for, w_aug, wO_some, wF_some, wA_some, wA_map, wO_ite, wA_ite, isStar, spl, startE, wipeE, bindT, bindTs, List.map_cons, List.map_nil, List.length_cons, List.length_nil, List.replicate, List.cons_append, List.nil_append, List.append_nil, List.append_assoc, Nat.reduceAdd, Nat.reduceSub, Nat.reduceLT, Nat.reduceLeDiff, List.getElem?_cons_zero, List.getElem?_cons_succ, List.getElem?_nil, Option.join_some, Option.join_none, List.set_cons_zero, List.set_cons_succ, if_true, if_false, Bool.false_eq_true, Bool.true_eq_false, reduceIte, reduceCtorEq, true_and, and_true, Option.map_some, Option.map_none, Nat.succ_eq_add_one, Nat.zero_add, Nat.add_zero, List.singleton_append]
  refine take_ (n := 130) H (by omega) (by omega) fun j s1 j0 j1 kp1 H1 => ?_
  obtain ⟨e, he, hem⟩ := atI_in j0 j1
  rw [ixV_ref (kp1.get hp hpn), he, wA_some]
  obtain ⟨w, kk, rfl, hD⟩ := P.all e hem
  simp -implicitDefEqProofs only [ixV_tup, atI0, exS, exSs, evX, evs, evt, pr, condOf, w_bin, w_neg, w_cmp, w_isn, w_isb, w_and, w_or, w_not, w_ife, w_tup, w_lst, w_star, w_ix, w_sli, w_call, w_bi, w_met, w_isi, w_comp, w_fstr, w_dict0, w_lvals, w_nil, w_cons, w_tst, w_tnot, w_tand, w_tor, w_var, Kg.w_next, w_seq, w_asg, w_set, w_expr, w_ret, w_if, w_for, w_aug, wO_some, wF_some, wA_some, wA_map, wO_ite, wA_ite, isStar, spl, startE, wipeE, bindT, bindTs, List.map_cons, List.map_nil, List.length_cons, List.length_nil, List.replicate, List.cons_append, List.nil_append, List.append_nil, List.append_assoc, Nat.reduceAdd, Nat.reduceSub, Nat.reduceLT, Nat.reduceLeDiff, List.getElem?_cons_zero, List.getElem?_cons_succ, List.getElem?_nil, Option.join_some, Option.join_none, List.set_cons_zero, List.set_cons_succ, if_true, if_false, Bool.false_eq_true, Bool.true_eq_false, reduceIte, reduceCtorEq, true_and, and_true, Option.map_some, Option.map_none, Nat.succ_eq_add_one, Nat.zero_add, Nat.add_zero, List.singleton_append]
  refine w_noworth (n := 127) H1 hD.g (by omega) fun x s2 kp2 H2 gx nx => ?_
  refine w_deep H2 (gx.le (by omega)) nx fun s => ?_
  exact rfl
theorem w_six {h c p i : Nat} {ents : List PV} {e0 e2 e4 e5 e6 e7 e8 : Option PV} (H : Hand st h c) (ne : p ≠ h) (hp : st[p]? = some (.lst ents)) (P : Pl ents i) (hi : i ≤ 8) :
    wF (exSs (callF ds 132) (d39.body.drop 6) [e0, some (.ref h), e2, some (.ref p), e4, e5, e6, e7, e8] st) Rr := by
  have hpn : p ∉ [h] := by simpa using ne
  have l3 := P.l3
  have li := P.li
  rw [show d39.body.drop 6 = (d39.body.drop 6).take 1 ++ d39.body.drop 7 from rfl, w_two]
  generalize hT : exSs (callF ds 132) (d39.body.drop 7) = T
  have hr : ∀ s, iterV .range [.int 6] s = some ⟨(List.range 6).map fun i => PV.int (i : Nat), none⟩ := fun s => by
    have := rangeS (st := s) (j := 6) (by rw [sizeLine_eq]; decide)
    rw [rangeI_eq] at this
    exact this
  simp -implicitDefEqProofs only [d39, List.drop_succ_cons, List.drop_zero, List.take_succ_cons, List.take_zero, hr, exS, exSs, evX, evs, evt, pr, condOf, w_bin, w_neg, w_cmp, w_isn, w_isb, w_and, w_or, w_not, w_ife, w_tup, w_lst, w_star, w_ix, w_sli, w_call, w_bi, w_met, w_isi, w_comp, w_fstr, w_dict0, w_lvals, w_nil, w_cons, w_tst, w_tnot, w_tand, w_tor, w_var, Kg.w_next, w_seq, w_asg, w_set, w_expr, w_ret, w_if, w_for, w_aug, wO_some, wF_some, wA_some, wA_map, wO_ite, wA_ite, isStar, spl, startE, wipeE, bindT, bindTs, List.map_cons, List.map_nil, List.length_cons, List.length_nil, List.replicate, List.cons_append, List.nil_append, List.append_nil, List.append_assoc, Nat.reduceAdd, Nat.reduceSub, Nat.reduceLT, Nat.reduceLeDiff, List.getElem?_cons_zero, List.getElem?_cons_succ, List.getElem?_nil, Option.join_some, Option.join_none, List.set_cons_zero, List.set_cons_succ, if_true, if_false, Bool.false_eq_true, Bool.true_eq_false, reduceIte, reduceCtorEq, true_and, and_true, Option.map_some, Option.map_none, Nat.succ_eq_add_one, Nat.zero_add, Nat.add_zero, List.singleton_append]
  refine w_forL (c := none) (fun ys e s => ∃ e5 e7, e = [e0, some (.ref h), e2, some (.ref p), e4, e5, e6, e7, e8] ∧ Keep [h] st s ∧ Hand s h c) (fun _ _ _ _ => trivial) ⟨e5, e7, rfl, Keep.refl, H⟩ ?_ ?_
  · rintro y ys e s ⟨e5, e7, rfl, kp, Hs⟩
    have hps := kp.get hp hpn
    simp -implicitDefEqProofs only [len_l hps, exS, exSs, evX, evs, evt, pr, condOf, w_bin, w_neg, w_cmp, w_isn, w_isb, w_and, w_or, w_not, w_ife, w_tup, w_lst, w_star, w_ix, w_sli, w_call, w_bi, w_met, w_isi, w_comp, w_fstr, w_dict0, w_lvals, w_nil, w_cons, w_tst, w_tnot, w_tand, w_tor, w_var, Kg.w_next, w_seq, w_asg, w_set, w_expr, w_ret, w_if, w_for, w_aug, wO_some, wF_some, wA_some, wA_map, wO_ite, wA_ite, isStar, spl, startE, wipeE, bindT, bindTs, List.map_cons, List.map_nil, List.length_cons, List.length_nil, List.replicate, List.cons_append, List.nil_append, List.append_nil, List.append_assoc, Nat.reduceAdd, Nat.reduceSub, Nat.reduceLT, Nat.reduceLeDiff, List.getElem?_cons_zero, List.getElem?_cons_succ, List.getElem?_nil, Option.join_some, Option.join_none, List.set_cons_zero, List.set_cons_succ, if_true, if_false, Bool.false_eq_true, Bool.true_eq_false, reduceIte, reduceCtorEq, true_and, and_true, Option.map_some, Option.map_none, Nat.succ_eq_add_one, Nat.zero_add, Nat.add_zero, List.singleton_append]
    refine take_ (n := 130) Hs (by omega) (by omega) fun j s1 j0 j1 kp1 H1 => ?_
    obtain ⟨e, he, hem⟩ := atI_in j0 j1
    rw [ixV_ref (kp1.get hps hpn), he, wA_some]
    obtain ⟨w, kk, rfl, hD⟩ := P.all e hem
    simp -implicitDefEqProofs only [ixV_tup, atI0, exS, exSs, evX, evs, evt, pr, condOf, w_bin, w_neg, w_cmp, w_isn, w_isb, w_and, w_or, w_not, w_ife, w_tup, w_lst, w_star, w_ix, w_sli, w_call, w_bi, w_met, w_isi, w_comp, w_fstr, w_dict0, w_lvals, w_nil, w_cons, w_tst, w_tnot, w_tand, w_tor, w_var, Kg.w_next, w_seq, w_asg, w_set, w_expr, w_ret, w_if, w_for, w_aug, wO_some, wF_some, wA_some, wA_map, wO_ite, wA_ite, isStar, spl, startE, wipeE, bindT, bindTs, List.map_cons, List.map_nil, List.length_cons, List.length_nil, List.replicate, List.cons_append, List.nil_append, List.append_nil, List.append_assoc, Nat.reduceAdd, Nat.reduceSub, Nat.reduceLT, Nat.reduceLeDiff, List.getElem?_cons_zero, List.getElem?_cons_succ, List.getElem?_nil, Option.join_some, Option.join_none, List.set_cons_zero, List.set_cons_succ, if_true, if_false, Bool.false_eq_true, Bool.true_eq_false, reduceIte, reduceCtorEq, true_and, and_true, Option.map_some, Option.map_none, Nat.succ_eq_add_one, Nat.zero_add, Nat.add_zero, List.singleton_append]
    refine w_noworth (n := 127) H1 hD.g (by omega) fun x s2 kp2 H2 gx nx => ?_
    try simp -implicitDefEqProofs only [exS, exSs, evX, evs, evt, pr, condOf, w_bin, w_neg, w_cmp, w_isn, w_isb, w_and, w_or, w_not, w_ife, w_tup, w_lst, w_star, w_ix, w_sli, w_call, w_bi, w_met, w_isi, w_comp, w_fstr, w_dict0, w_lvals, w_nil, w_cons, w_tst, w_tnot, w_tand, w_tor, w_var, Kg.w_next, w_seq, w_asg, w_set, w_expr, w_ret, w_if, w_for, w_aug, wO_some, wF_some, wA_some, wA_map, wO_ite, wA_ite, isStar, spl, startE, wipeE, bindT, bindTs, List.map_cons, List.map_nil, List.length_cons, List.length_nil, List.replicate, List.cons_append, List.nil_append, List.append_nil, List.append_assoc, Nat.reduceAdd, Nat.reduceSub, Nat.reduceLT, Nat.reduceLeDiff, List.getElem?_cons_zero, List.getElem?_cons_succ, List.getElem?_nil, Option.join_some, Option.join_none, List.set_cons_zero, List.set_cons_succ, if_true, if_false, Bool.false_eq_true, Bool.true_eq_false, reduceIte, reduceCtorEq, true_and, and_true, Option.map_some, Option.map_none, Nat.succ_eq_add_one, Nat.zero_add, Nat.add_zero, List.singleton_append]
    refine w_isno (m := 132) (gx.le (by omega)) nx (by decide) fun jk => ?_
    have kq := ((kp.trans kp1).trans kp2).appR (jk := jk)
    simp -implicitDefEqProofs only [isF, tru_b, exS, exSs, evX, evs, evt, pr, condOf, w_bin, w_neg, w_cmp, w_isn, w_isb, w_and, w_or, w_not, w_ife, w_tup, w_lst, w_star, w_ix, w_sli, w_call, w_bi, w_met, w_isi, w_comp, w_fstr, w_dict0, w_lvals, w_nil, w_cons, w_tst, w_tnot, w_tand, w_tor, w_var, Kg.w_next, w_seq, w_asg, w_set, w_expr, w_ret, w_if, w_for, w_aug, wO_some, wF_some, wA_some, wA_map, wO_ite, wA_ite, isStar, spl, startE, wipeE, bindT, bindTs, List.map_cons, List.map_nil, List.length_cons, List.length_nil, List.replicate, List.cons_append, List.nil_append, List.append_nil, List.append_assoc, Nat.reduceAdd, Nat.reduceSub, Nat.reduceLT, Nat.reduceLeDiff, List.getElem?_cons_zero, List.getElem?_cons_succ, List.getElem?_nil, Option.join_some, Option.join_none, List.set_cons_zero, List.set_cons_succ, if_true, if_false, Bool.false_eq_true, Bool.true_eq_false, reduceIte, reduceCtorEq, true_and, and_true, Option.map_some, Option.map_none, Nat.succ_eq_add_one, Nat.zero_add, Nat.add_zero, List.singleton_append]
    refine w_within (n := 127) (Hand.app H2) ne (kq.get hp hpn) P (by omega) gx.app nx fun y s3 kp3 H3 gy ny => ?_
    try simp -implicitDefEqProofs only [exS, exSs, evX, evs, evt, pr, condOf, w_bin, w_neg, w_cmp, w_isn, w_isb, w_and, w_or, w_not, w_ife, w_tup, w_lst, w_star, w_ix, w_sli, w_call, w_bi, w_met, w_isi, w_comp, w_fstr, w_dict0, w_lvals, w_nil, w_cons, w_tst, w_tnot, w_tand, w_tor, w_var, Kg.w_next, w_seq, w_asg, w_set, w_expr, w_ret, w_if, w_for, w_aug, wO_some, wF_some, wA_some, wA_map, wO_ite, wA_ite, isStar, spl, startE, wipeE, bindT, bindTs, List.map_cons, List.map_nil, List.length_cons, List.length_nil, List.replicate, List.cons_append, List.nil_append, List.append_nil, List.append_assoc, Nat.reduceAdd, Nat.reduceSub, Nat.reduceLT, Nat.reduceLeDiff, List.getElem?_cons_zero, List.getElem?_cons_succ, List.getElem?_nil, Option.join_some, Option.join_none, List.set_cons_zero, List.set_cons_succ, if_true, if_false, Bool.false_eq_true, Bool.true_eq_false, reduceIte, reduceCtorEq, true_and, and_true, Option.map_some, Option.map_none, Nat.succ_eq_add_one, Nat.zero_add, Nat.add_zero, List.singleton_append]
    refine w_isno (m := 132) (gy.le (by omega)) ny (by decide) fun jk2 => ?_
    simp -implicitDefEqProofs only [isF, tru_b, exS, exSs, evX, evs, evt, pr, condOf, w_bin, w_neg, w_cmp, w_isn, w_isb, w_and, w_or, w_not, w_ife, w_tup, w_lst, w_star, w_ix, w_sli, w_call, w_bi, w_met, w_isi, w_comp, w_fstr, w_dict0, w_lvals, w_nil, w_cons, w_tst, w_tnot, w_tand, w_tor, w_var, Kg.w_next, w_seq, w_asg, w_set, w_expr, w_ret, w_if, w_for, w_aug, wO_some, wF_some, wA_some, wA_map, wO_ite, wA_ite, isStar, spl, startE, wipeE, bindT, bindTs, List.map_cons, List.map_nil, List.length_cons, List.length_nil, List.replicate, List.cons_append, List.nil_append, List.append_nil, List.append_assoc, Nat.reduceAdd, Nat.reduceSub, Nat.reduceLT, Nat.reduceLeDiff, List.getElem?_cons_zero, List.getElem?_cons_succ, List.getElem?_nil, Option.join_some, Option.join_none, List.set_cons_zero, List.set_cons_succ, if_true, if_false, Bool.false_eq_true, Bool.true_eq_false, reduceIte, reduceCtorEq, true_and, and_true, Option.map_some, Option.map_none, Nat.succ_eq_add_one, Nat.zero_add, Nat.add_zero, List.singleton_append]
    exact ⟨_, _, rfl, (kq.trans kp3).appR, Hand.app H3⟩
  · rintro e s ⟨e5, e7, rfl, kp, Hs⟩
    rw [← hT]
    try simp -implicitDefEqProofs only [exS, exSs, evX, evs, evt, pr, condOf, w_bin, w_neg, w_cmp, w_isn, w_isb, w_and, w_or, w_not, w_ife, w_tup, w_lst, w_star, w_ix, w_sli, w_call, w_bi, w_met, w_isi, w_comp, w_fstr, w_dict0, w_lvals, w_nil, w_cons, w_tst, w_tnot, w_tand, w_tor, w_var, Kg.w_next, w_seq, w_asg, w_set, w_expr, w_ret, w_if, w_for, w_aug, wO_some, wF_some, wA_some, wA_map, wO_ite, wA_ite, isStar, spl, startE, wipeE, bindT, bindTs, List.map_cons, List.map_nil, List.length_cons, List.length_nil, List.replicate, List.cons_append, List.nil_append, List.append_nil, List.append_assoc, Nat.reduceAdd, Nat.reduceSub, Nat.reduceLT, Nat.reduceLeDiff, List.getElem?_cons_zero, List.getElem?_cons_succ, List.getElem?_nil, Option.join_some, Option.join_none, List.set_cons_zero, List.set_cons_succ, if_true, if_false, Bool.false_eq_true, Bool.true_eq_false, reduceIte, reduceCtorEq, true_and, and_true, Option.map_some, Option.map_none, Nat.succ_eq_add_one, Nat.zero_add, Nat.add_zero, List.singleton_append]
    exact w_tail Hs ne (kp.get hp hpn) P hi
theorem w_tells {h c p i : Nat} {ents : List PV} {e0 e2 e4 e5 e6 e7 e8 : Option PV} (H : Hand st h c) (ne : p ≠ h) (hp : st[p]? = some (.lst ents)) (P : Pl ents i) (hi : i ≤ 8) :
    wF (exSs (callF ds 132) (d39.body.drop 5) [e0, some (.ref h), e2, some (.ref p), e4, e5, e6, e7, e8] st) Rr := by
  rw [show d39.body.drop 5 = (d39.body.drop 5).take 1 ++ d39.body.drop 6 from rfl, w_two]
  generalize hT : exSs (callF ds 132) (d39.body.drop 6) = T
  simp -implicitDefEqProofs only [d39, List.drop_succ_cons, List.drop_zero, List.take_succ_cons, List.take_zero, seq_l hp, exS, exSs, evX, evs, evt, pr, condOf, w_bin, w_neg, w_cmp, w_isn, w_isb, w_and, w_or, w_not, w_ife, w_tup, w_lst, w_star, w_ix, w_sli, w_call, w_bi, w_met, w_isi, w_comp, w_fstr, w_dict0, w_lvals, w_nil, w_cons, w_tst, w_tnot, w_tand, w_tor, w_var, Kg.w_next, w_seq, w_asg, w_set, w_expr, w_ret, w_if, w_for, w_aug, wO_some, wF_some, wA_some, wA_map, wO_ite, wA_ite, isStar, spl, startE, wipeE, bindT, bindTs, List.map_cons, List.map_nil, List.length_cons, List.length_nil, List.replicate, List.cons_append, List.nil_append, List.append_nil, List.append_assoc, Nat.reduceAdd, Nat.reduceSub, Nat.reduceLT, Nat.reduceLeDiff, List.getElem?_cons_zero, List.getElem?_cons_succ, List.getElem?_nil, Option.join_some, Option.join_none, List.set_cons_zero, List.set_cons_succ, if_true, if_false, Bool.false_eq_true, Bool.true_eq_false, reduceIte, reduceCtorEq, true_and, and_true, Option.map_some, Option.map_none, Nat.succ_eq_add_one, Nat.zero_add, Nat.add_zero, List.singleton_append]
  refine w_forL (fun ys e s => ∃ e6 jk, e = [e0, some (.ref h), e2, some (.ref p), e4, e5, e6, e7, e8] ∧ s = st ++ jk ∧ ∀ y ∈ ys, y ∈ ents) ?_ ⟨e6, [], rfl, by simp, fun _ h => h⟩ ?_ ?_
  · rintro ys e s ⟨e6, jk, _, rfl, _⟩
    exact app_get hp
  · rintro y ys e s ⟨e6, jk, rfl, rfl, hy⟩
    obtain ⟨w, kk, rfl, hD⟩ := P.all y (hy y (by simp))
    have h1 := hD.nt
    have h2 := hD.k1
    simp -implicitDefEqProofs only [ixV_tup, atI0, exS, exSs, evX, evs, evt, pr, condOf, w_bin, w_neg, w_cmp, w_isn, w_isb, w_and, w_or, w_not, w_ife, w_tup, w_lst, w_star, w_ix, w_sli, w_call, w_bi, w_met, w_isi, w_comp, w_fstr, w_dict0, w_lvals, w_nil, w_cons, w_tst, w_tnot, w_tand, w_tor, w_var, Kg.w_next, w_seq, w_asg, w_set, w_expr, w_ret, w_if, w_for, w_aug, wO_some, wF_some, wA_some, wA_map, wO_ite, wA_ite, isStar, spl, startE, wipeE, bindT, bindTs, List.map_cons, List.map_nil, List.length_cons, List.length_nil, List.replicate, List.cons_append, List.nil_append, List.append_nil, List.append_assoc, Nat.reduceAdd, Nat.reduceSub, Nat.reduceLT, Nat.reduceLeDiff, List.getElem?_cons_zero, List.getElem?_cons_succ, List.getElem?_nil, Option.join_some, Option.join_none, List.set_cons_zero, List.set_cons_succ, if_true, if_false, Bool.false_eq_true, Bool.true_eq_false, reduceIte, reduceCtorEq, true_and, and_true, Option.map_some, Option.map_none, Nat.succ_eq_add_one, Nat.zero_add, Nat.add_zero, List.singleton_append]
    refine w_told (n := 131) (h := i) (by omega) hD.g (by omega) (by omega) fun jk2 => ?_
    simp -implicitDefEqProofs only [tru_b, Bool.not_true, exS, exSs, evX, evs, evt, pr, condOf, w_bin, w_neg, w_cmp, w_isn, w_isb, w_and, w_or, w_not, w_ife, w_tup, w_lst, w_star, w_ix, w_sli, w_call, w_bi, w_met, w_isi, w_comp, w_fstr, w_dict0, w_lvals, w_nil, w_cons, w_tst, w_tnot, w_tand, w_tor, w_var, Kg.w_next, w_seq, w_asg, w_set, w_expr, w_ret, w_if, w_for, w_aug, wO_some, wF_some, wA_some, wA_map, wO_ite, wA_ite, isStar, spl, startE, wipeE, bindT, bindTs, List.map_cons, List.map_nil, List.length_cons, List.length_nil, List.replicate, List.cons_append, List.nil_append, List.append_nil, List.append_assoc, Nat.reduceAdd, Nat.reduceSub, Nat.reduceLT, Nat.reduceLeDiff, List.getElem?_cons_zero, List.getElem?_cons_succ, List.getElem?_nil, Option.join_some, Option.join_none, List.set_cons_zero, List.set_cons_succ, if_true, if_false, Bool.false_eq_true, Bool.true_eq_false, reduceIte, reduceCtorEq, true_and, and_true, Option.map_some, Option.map_none, Nat.succ_eq_add_one, Nat.zero_add, Nat.add_zero, List.singleton_append]
    exact ⟨_, jk ++ jk2, rfl, by simp, fun z hz => hy z (by simp [hz])⟩
  · rintro e s ⟨e6, jk, rfl, rfl, hy⟩
    rw [← hT]
    try simp -implicitDefEqProofs only [exS, exSs, evX, evs, evt, pr, condOf, w_bin, w_neg, w_cmp, w_isn, w_isb, w_and, w_or, w_not, w_ife, w_tup, w_lst, w_star, w_ix, w_sli, w_call, w_bi, w_met, w_isi, w_comp, w_fstr, w_dict0, w_lvals, w_nil, w_cons, w_tst, w_tnot, w_tand, w_tor, w_var, Kg.w_next, w_seq, w_asg, w_set, w_expr, w_ret, w_if, w_for, w_aug, wO_some, wF_some, wA_some, wA_map, wO_ite, wA_ite, isStar, spl, startE, wipeE, bindT, bindTs, List.map_cons, List.map_nil, List.length_cons, List.length_nil, List.replicate, List.cons_append, List.nil_append, List.append_nil, List.append_assoc, Nat.reduceAdd, Nat.reduceSub, Nat.reduceLT, Nat.reduceLeDiff, List.getElem?_cons_zero, List.getElem?_cons_succ, List.getElem?_nil, Option.join_some, Option.join_none, List.set_cons_zero, List.set_cons_succ, if_true, if_false, Bool.false_eq_true, Bool.true_eq_false, reduceIte, reduceCtorEq, true_and, and_true, Option.map_some, Option.map_none, Nat.succ_eq_add_one, Nat.zero_add, Nat.add_zero, List.singleton_append]
    exact w_six (Hand.app H) ne (app_get hp) P hi
theorem w_grows {h c p : Nat} {ents : List PV} {most : Int} {e0 e2 e5 e6 e7 e8 : Option PV} (H : Hand st h c) (ne : p ≠ h) (ne2 : p ≠ c) (hp : st[p]? = some (.lst ents)) (P : Pl ents 0) (hm : most ≤ 7) :
    wF (exSs (callF ds 132) (d39.body.drop 4) [e0, some (.ref h), e2, some (.ref p), some (.int most), e5, e6, e7, e8] st) Rr := by
  rw [show d39.body.drop 4 = (d39.body.drop 4).take 1 ++ d39.body.drop 5 from rfl, w_two]
  generalize hT : exSs (callF ds 132) (d39.body.drop 5) = T
  simp -implicitDefEqProofs only [d39, List.drop_succ_cons, List.drop_zero, List.take_succ_cons, List.take_zero, exS, exSs, evX, evs, evt, pr, condOf, w_bin, w_neg, w_cmp, w_isn, w_isb, w_and, w_or, w_not, w_ife, w_tup, w_lst, w_star, w_ix, w_sli, w_call, w_bi, w_met, w_isi, w_comp, w_fstr, w_dict0, w_lvals, w_nil, w_cons, w_tst, w_tnot, w_tand, w_tor, w_var, Kg.w_next, w_seq, w_asg, w_set, w_expr, w_ret, w_if, w_for, w_aug, wO_some, wF_some, wA_some, wA_map, wO_ite, wA_ite, isStar, spl, startE, wipeE, bindT, bindTs, List.map_cons, List.map_nil, List.length_cons, List.length_nil, List.replicate, List.cons_append, List.nil_append, List.append_nil, List.append_assoc, Nat.reduceAdd, Nat.reduceSub, Nat.reduceLT, Nat.reduceLeDiff, List.getElem?_cons_zero, List.getElem?_cons_succ, List.getElem?_nil, Option.join_some, Option.join_none, List.set_cons_zero, List.set_cons_succ, if_true, if_false, Bool.false_eq_true, Bool.true_eq_false, reduceIte, reduceCtorEq, true_and, and_true, Option.map_some, Option.map_none, Nat.succ_eq_add_one, Nat.zero_add, Nat.add_zero, List.singleton_append]
  refine take_ (n := 130) H (by omega) (by omega) fun j s1 j0 j1 kp1 H1 => ?_
  rw [bop_add_i, wO_some]
  obtain ⟨m, hm2, hr⟩ := range_any (st := s1) (j := 2 + j) (by omega) (by omega)
  rw [hr, wA_some]
  refine w_forL (c := none) (fun ys e s => ∃ i e5 ents, e = [e0, some (.ref h), e2, some (.ref p), some (.int most), e5, e6, e7, e8] ∧ i + ys.length = m ∧ Hand s h c ∧ s[p]? = some (.lst ents) ∧ Pl ents i) (fun _ _ _ _ => trivial)
    ⟨0, e5, ents, rfl, by simp, H1, kp1.get hp (by simpa using ne), P⟩ ?_ ?_
  · rintro y ys e s ⟨i, e5, ents, rfl, hi, Hs, hps, P⟩
    rw [List.length_cons] at hi
    try simp -implicitDefEqProofs only [exS, exSs, evX, evs, evt, pr, condOf, w_bin, w_neg, w_cmp, w_isn, w_isb, w_and, w_or, w_not, w_ife, w_tup, w_lst, w_star, w_ix, w_sli, w_call, w_bi, w_met, w_isi, w_comp, w_fstr, w_dict0, w_lvals, w_nil, w_cons, w_tst, w_tnot, w_tand, w_tor, w_var, Kg.w_next, w_seq, w_asg, w_set, w_expr, w_ret, w_if, w_for, w_aug, wO_some, wF_some, wA_some, wA_map, wO_ite, wA_ite, isStar, spl, startE, wipeE, bindT, bindTs, List.map_cons, List.map_nil, List.length_cons, List.length_nil, List.replicate, List.cons_append, List.nil_append, List.append_nil, List.append_assoc, Nat.reduceAdd, Nat.reduceSub, Nat.reduceLT, Nat.reduceLeDiff, List.getElem?_cons_zero, List.getElem?_cons_succ, List.getElem?_nil, Option.join_some, Option.join_none, List.set_cons_zero, List.set_cons_succ, if_true, if_false, Bool.false_eq_true, Bool.true_eq_false, reduceIte, reduceCtorEq, true_and, and_true, Option.map_some, Option.map_none, Nat.succ_eq_add_one, Nat.zero_add, Nat.add_zero, List.singleton_append]
    refine w_grown (n := 126) Hs ne ne2 hps P (by omega) hm (by decide) fun e2' s2 P2 hp2 H2 => ?_
    simp -implicitDefEqProofs only [tru_b, Bool.not_true, exS, exSs, evX, evs, evt, pr, condOf, w_bin, w_neg, w_cmp, w_isn, w_isb, w_and, w_or, w_not, w_ife, w_tup, w_lst, w_star, w_ix, w_sli, w_call, w_bi, w_met, w_isi, w_comp, w_fstr, w_dict0, w_lvals, w_nil, w_cons, w_tst, w_tnot, w_tand, w_tor, w_var, Kg.w_next, w_seq, w_asg, w_set, w_expr, w_ret, w_if, w_for, w_aug, wO_some, wF_some, wA_some, wA_map, wO_ite, wA_ite, isStar, spl, startE, wipeE, bindT, bindTs, List.map_cons, List.map_nil, List.length_cons, List.length_nil, List.replicate, List.cons_append, List.nil_append, List.append_nil, List.append_assoc, Nat.reduceAdd, Nat.reduceSub, Nat.reduceLT, Nat.reduceLeDiff, List.getElem?_cons_zero, List.getElem?_cons_succ, List.getElem?_nil, Option.join_some, Option.join_none, List.set_cons_zero, List.set_cons_succ, if_true, if_false, Bool.false_eq_true, Bool.true_eq_false, reduceIte, reduceCtorEq, true_and, and_true, Option.map_some, Option.map_none, Nat.succ_eq_add_one, Nat.zero_add, Nat.add_zero, List.singleton_append]
    exact ⟨i + 1, _, _, rfl, by omega, H2, hp2, P2⟩
  · rintro e s ⟨i, e5, ents, rfl, hi, Hs, hps, P⟩
    rw [← hT]
    try simp -implicitDefEqProofs only [exS, exSs, evX, evs, evt, pr, condOf, w_bin, w_neg, w_cmp, w_isn, w_isb, w_and, w_or, w_not, w_ife, w_tup, w_lst, w_star, w_ix, w_sli, w_call, w_bi, w_met, w_isi, w_comp, w_fstr, w_dict0, w_lvals, w_nil, w_cons, w_tst, w_tnot, w_tand, w_tor, w_var, Kg.w_next, w_seq, w_asg, w_set, w_expr, w_ret, w_if, w_for, w_aug, wO_some, wF_some, wA_some, wA_map, wO_ite, wA_ite, isStar, spl, startE, wipeE, bindT, bindTs, List.map_cons, List.map_nil, List.length_cons, List.length_nil, List.replicate, List.cons_append, List.nil_append, List.append_nil, List.append_assoc, Nat.reduceAdd, Nat.reduceSub, Nat.reduceLT, Nat.reduceLeDiff, List.getElem?_cons_zero, List.getElem?_cons_succ, List.getElem?_nil, Option.join_some, Option.join_none, List.set_cons_zero, List.set_cons_succ, if_true, if_false, Bool.false_eq_true, Bool.true_eq_false, reduceIte, reduceCtorEq, true_and, and_true, Option.map_some, Option.map_none, Nat.succ_eq_add_one, Nat.zero_add, Nat.add_zero, List.singleton_append]
    exact w_tells Hs ne hps P (by simp at hi; omega)
theorem w_cells {h c : Nat} {e0 e2 : Option PV} (H : Hand st h c) (R : Fl → En → Sto → Prop) (k : ∀ e2 s, Hand s h c → R .nx [e0, some (.ref h), e2, none, none, none, none, none, none] s) :
    wF (exSs (callF ds 132) ((d39.body.drop 1).take 1) [e0, some (.ref h), e2, none, none, none, none, none, none] st) R := by
  have hr : ∀ s, iterV .range [.int 1, .int 4] s = some ⟨[.int 1, .int 2, .int 3], none⟩ := fun s => by
    simp only [iterV]
    rw [if_pos (by decide)]
    rfl
  simp -implicitDefEqProofs only [d39, List.drop_succ_cons, List.drop_zero, List.take_succ_cons, List.take_zero, hr, exS, exSs, evX, evs, evt, pr, condOf, w_bin, w_neg, w_cmp, w_isn, w_isb, w_and, w_or, w_not, w_ife, w_tup, w_lst, w_star, w_ix, w_sli, w_call, w_bi, w_met, w_isi, w_comp, w_fstr, w_dict0, w_lvals, w_nil, w_cons, w_tst, w_tnot, w_tand, w_tor, w_var, Kg.w_next, w_seq, w_asg, w_set, w_expr, w_ret, w_if, w_for, w_aug, wO_some, wF_some, wA_some, wA_map, wO_ite, wA_ite, isStar, spl, startE, wipeE, bindT, bindTs, List.map_cons, List.map_nil, List.length_cons, List.length_nil, List.replicate, List.cons_append, List.nil_append, List.append_nil, List.append_assoc, Nat.reduceAdd, Nat.reduceSub, Nat.reduceLT, Nat.reduceLeDiff, List.getElem?_cons_zero, List.getElem?_cons_succ, List.getElem?_nil, Option.join_some, Option.join_none, List.set_cons_zero, List.set_cons_succ, if_true, if_false, Bool.false_eq_true, Bool.true_eq_false, reduceIte, reduceCtorEq, true_and, and_true, Option.map_some, Option.map_none, Nat.succ_eq_add_one, Nat.zero_add, Nat.add_zero, List.singleton_append]
  refine w_forL (c := none) (fun ys e s => ∃ e2, e = [e0, some (.ref h), e2, none, none, none, none, none, none] ∧ Hand s h c ∧ ∀ y ∈ ys, ∃ m : Nat, y = .int m ∧ m ≤ 3) (fun _ _ _ _ => trivial) ⟨e2, rfl, H, fun y hy => ?_⟩ ?_ ?_
  · simp only [List.mem_cons, List.not_mem_nil, or_false] at hy
    rcases hy with rfl | rfl | rfl
    · exact ⟨1, rfl, by decide⟩
    · exact ⟨2, rfl, by decide⟩
    · exact ⟨3, rfl, by decide⟩
  · rintro y ys e s ⟨e2, rfl, Hs, hy⟩
    obtain ⟨m, e, hm⟩ := hy y (by simp)
    try simp -implicitDefEqProofs only [exS, exSs, evX, evs, evt, pr, condOf, w_bin, w_neg, w_cmp, w_isn, w_isb, w_and, w_or, w_not, w_ife, w_tup, w_lst, w_star, w_ix, w_sli, w_call, w_bi, w_met, w_isi, w_comp, w_fstr, w_dict0, w_lvals, w_nil, w_cons, w_tst, w_tnot, w_tand, w_tor, w_var, Kg.w_next, w_seq, w_asg, w_set, w_expr, w_ret, w_if, w_for, w_aug, wO_some, wF_some, wA_some, wA_map, wO_ite, wA_ite, isStar, spl, startE, wipeE, bindT, bindTs, List.map_cons, List.map_nil, List.length_cons, List.length_nil, List.replicate, List.cons_append, List.nil_append, List.append_nil, List.append_assoc, Nat.reduceAdd, Nat.reduceSub, Nat.reduceLT, Nat.reduceLeDiff, List.getElem?_cons_zero, List.getElem?_cons_succ, List.getElem?_nil, Option.join_some, Option.join_none, List.set_cons_zero, List.set_cons_succ, if_true, if_false, Bool.false_eq_true, Bool.true_eq_false, reduceIte, reduceCtorEq, true_and, and_true, Option.map_some, Option.map_none, Nat.succ_eq_add_one, Nat.zero_add, Nat.add_zero, List.singleton_append]
    refine w_begun (n := 131) e hm fun jk => ?_
    subst e
    simp -implicitDefEqProofs only [rangeS (sz24 (show m ≤ 16777216 by omega)), exS, exSs, evX, evs, evt, pr, condOf, w_bin, w_neg, w_cmp, w_isn, w_isb, w_and, w_or, w_not, w_ife, w_tup, w_lst, w_star, w_ix, w_sli, w_call, w_bi, w_met, w_isi, w_comp, w_fstr, w_dict0, w_lvals, w_nil, w_cons, w_tst, w_tnot, w_tand, w_tor, w_var, Kg.w_next, w_seq, w_asg, w_set, w_expr, w_ret, w_if, w_for, w_aug, wO_some, wF_some, wA_some, wA_map, wO_ite, wA_ite, isStar, spl, startE, wipeE, bindT, bindTs, List.map_cons, List.map_nil, List.length_cons, List.length_nil, List.replicate, List.cons_append, List.nil_append, List.append_nil, List.append_assoc, Nat.reduceAdd, Nat.reduceSub, Nat.reduceLT, Nat.reduceLeDiff, List.getElem?_cons_zero, List.getElem?_cons_succ, List.getElem?_nil, Option.join_some, Option.join_none, List.set_cons_zero, List.set_cons_succ, if_true, if_false, Bool.false_eq_true, Bool.true_eq_false, reduceIte, reduceCtorEq, true_and, and_true, Option.map_some, Option.map_none, Nat.succ_eq_add_one, Nat.zero_add, Nat.add_zero, List.singleton_append]
    refine w_compRange (fun i => .tup [.tup [.int 0, .int (i : Nat)], .tup []]) (sz24 (by omega)) (fun i hi jk2 Q hQ => ?_) fun jk2 => ?_
    · simp -implicitDefEqProofs only [exS, exSs, evX, evs, evt, pr, condOf, w_bin, w_neg, w_cmp, w_isn, w_isb, w_and, w_or, w_not, w_ife, w_tup, w_lst, w_star, w_ix, w_sli, w_call, w_bi, w_met, w_isi, w_comp, w_fstr, w_dict0, w_lvals, w_nil, w_cons, w_tst, w_tnot, w_tand, w_tor, w_var, Kg.w_next, w_seq, w_asg, w_set, w_expr, w_ret, w_if, w_for, w_aug, wO_some, wF_some, wA_some, wA_map, wO_ite, wA_ite, isStar, spl, startE, wipeE, bindT, bindTs, List.map_cons, List.map_nil, List.length_cons, List.length_nil, List.replicate, List.cons_append, List.nil_append, List.append_nil, List.append_assoc, Nat.reduceAdd, Nat.reduceSub, Nat.reduceLT, Nat.reduceLeDiff, List.getElem?_cons_zero, List.getElem?_cons_succ, List.getElem?_nil, Option.join_some, Option.join_none, List.set_cons_zero, List.set_cons_succ, if_true, if_false, Bool.false_eq_true, Bool.true_eq_false, reduceIte, reduceCtorEq, true_and, and_true, Option.map_some, Option.map_none, Nat.succ_eq_add_one, Nat.zero_add, Nat.add_zero, List.singleton_append]
      refine ⟨by decide, by decide, by decide, ?_⟩
      have := hQ []
      simpa using this
    · rw [tuple_l last_get, wO_some]
      have hW : ∀ w ∈ (List.range m).map fun i => PV.tup [.tup [.int 0, .int (i : Nat)], .tup []], WW 1 w := fun w hw => by
        obtain ⟨i, hi, rfl⟩ := List.mem_map.mp hw
        have hi := List.mem_range.mp hi
        exact ⟨_, [], rfl, .inl ⟨_, by omega, by omega, rfl⟩, by simp, by simp⟩
      have hl : ((List.range m).map fun i => PV.tup [.tup [.int 0, .int (i : Nat)], .tup []]).length ≤ 1000 := by simp; omega
      generalize ((List.range m).map fun i => PV.tup [.tup [.int 0, .int (i : Nat)], .tup []]) = ws at hW hl ⊢
      refine w_exact (d := 5) 131 _ _ (by decide) (IT.mk hl fun y hy => (hW y hy).it) fun jk3 => ?_
      simp -implicitDefEqProofs only [tru_b, Bool.not_true, exS, exSs, evX, evs, evt, pr, condOf, w_bin, w_neg, w_cmp, w_isn, w_isb, w_and, w_or, w_not, w_ife, w_tup, w_lst, w_star, w_ix, w_sli, w_call, w_bi, w_met, w_isi, w_comp, w_fstr, w_dict0, w_lvals, w_nil, w_cons, w_tst, w_tnot, w_tand, w_tor, w_var, Kg.w_next, w_seq, w_asg, w_set, w_expr, w_ret, w_if, w_for, w_aug, wO_some, wF_some, wA_some, wA_map, wO_ite, wA_ite, isStar, spl, startE, wipeE, bindT, bindTs, List.map_cons, List.map_nil, List.length_cons, List.length_nil, List.replicate, List.cons_append, List.nil_append, List.append_nil, List.append_assoc, Nat.reduceAdd, Nat.reduceSub, Nat.reduceLT, Nat.reduceLeDiff, List.getElem?_cons_zero, List.getElem?_cons_succ, List.getElem?_nil, Option.join_some, Option.join_none, List.set_cons_zero, List.set_cons_succ, if_true, if_false, Bool.false_eq_true, Bool.true_eq_false, reduceIte, reduceCtorEq, true_and, and_true, Option.map_some, Option.map_none, Nat.succ_eq_add_one, Nat.zero_add, Nat.add_zero, List.singleton_append]
      exact ⟨_, rfl, by repeat first | assumption | apply Hand.app, fun z hz => hy z (by simp [hz])⟩
  · rintro e s ⟨e2, rfl, Hs, hy⟩
    exact k _ _ Hs
theorem w_law {ns : List Int} (hl : ns.length ≤ 63) : wO (callF ds 133 39 [.rol (ns.map PV.int)] []) fun v _ => v = .bl true := by
  rw [w_callF (n := 132)]
  show wA (some d39) _
  rw [wA_some]
  refine ⟨rfl, wF_mono (Q := Rr) ?_ fun fl e s h => by cases fl <;> exact h⟩
  rw [show d39.body = d39.body.take 1 ++ ((d39.body.drop 1).take 1 ++ ((d39.body.drop 2).take 2 ++ d39.body.drop 4)) from rfl, w_two]
  generalize hT : exSs (callF ds 132) ((d39.body.drop 1).take 1 ++ ((d39.body.drop 2).take 2 ++ d39.body.drop 4)) = T
  have e0 : startE d39.names [PV.rol (ns.map PV.int)] = [some (PV.rol (ns.map PV.int)), none, none, none, none, none, none, none, none] := rfl
  rw [e0]
  simp -implicitDefEqProofs only [d39, List.take_succ_cons, List.take_zero, exS, exSs, evX, evs, evt, pr, condOf, w_bin, w_neg, w_cmp, w_isn, w_isb, w_and, w_or, w_not, w_ife, w_tup, w_lst, w_star, w_ix, w_sli, w_call, w_bi, w_met, w_isi, w_comp, w_fstr, w_dict0, w_lvals, w_nil, w_cons, w_tst, w_tnot, w_tand, w_tor, w_var, Kg.w_next, w_seq, w_asg, w_set, w_expr, w_ret, w_if, w_for, w_aug, wO_some, wF_some, wA_some, wA_map, wO_ite, wA_ite, isStar, spl, startE, wipeE, bindT, bindTs, List.map_cons, List.map_nil, List.length_cons, List.length_nil, List.replicate, List.cons_append, List.nil_append, List.append_nil, List.append_assoc, Nat.reduceAdd, Nat.reduceSub, Nat.reduceLT, Nat.reduceLeDiff, List.getElem?_cons_zero, List.getElem?_cons_succ, List.getElem?_nil, Option.join_some, Option.join_none, List.set_cons_zero, List.set_cons_succ, if_true, if_false, Bool.false_eq_true, Bool.true_eq_false, reduceIte, reduceCtorEq, true_and, and_true, Option.map_some, Option.map_none, Nat.succ_eq_add_one, Nat.zero_add, Nat.add_zero, List.singleton_append]
  refine w_hand (ih := 13) rfl hl fun s0 h c _ _ _ H0 => ?_
  try simp -implicitDefEqProofs only [exS, exSs, evX, evs, evt, pr, condOf, w_bin, w_neg, w_cmp, w_isn, w_isb, w_and, w_or, w_not, w_ife, w_tup, w_lst, w_star, w_ix, w_sli, w_call, w_bi, w_met, w_isi, w_comp, w_fstr, w_dict0, w_lvals, w_nil, w_cons, w_tst, w_tnot, w_tand, w_tor, w_var, Kg.w_next, w_seq, w_asg, w_set, w_expr, w_ret, w_if, w_for, w_aug, wO_some, wF_some, wA_some, wA_map, wO_ite, wA_ite, isStar, spl, startE, wipeE, bindT, bindTs, List.map_cons, List.map_nil, List.length_cons, List.length_nil, List.replicate, List.cons_append, List.nil_append, List.append_nil, List.append_assoc, Nat.reduceAdd, Nat.reduceSub, Nat.reduceLT, Nat.reduceLeDiff, List.getElem?_cons_zero, List.getElem?_cons_succ, List.getElem?_nil, Option.join_some, Option.join_none, List.set_cons_zero, List.set_cons_succ, if_true, if_false, Bool.false_eq_true, Bool.true_eq_false, reduceIte, reduceCtorEq, true_and, and_true, Option.map_some, Option.map_none, Nat.succ_eq_add_one, Nat.zero_add, Nat.add_zero, List.singleton_append]
  rw [← hT, w_two]
  refine w_cells H0 _ fun e2 s1 H1 => ?_
  show wF _ _
  rw [w_two]
  generalize hT : exSs (callF ds 132) (d39.body.drop 4) = T
  simp -implicitDefEqProofs only [d39, List.drop_succ_cons, List.drop_zero, List.take_succ_cons, List.take_zero, exS, exSs, evX, evs, evt, pr, condOf, w_bin, w_neg, w_cmp, w_isn, w_isb, w_and, w_or, w_not, w_ife, w_tup, w_lst, w_star, w_ix, w_sli, w_call, w_bi, w_met, w_isi, w_comp, w_fstr, w_dict0, w_lvals, w_nil, w_cons, w_tst, w_tnot, w_tand, w_tor, w_var, Kg.w_next, w_seq, w_asg, w_set, w_expr, w_ret, w_if, w_for, w_aug, wO_some, wF_some, wA_some, wA_map, wO_ite, wA_ite, isStar, spl, startE, wipeE, bindT, bindTs, List.map_cons, List.map_nil, List.length_cons, List.length_nil, List.replicate, List.cons_append, List.nil_append, List.append_nil, List.append_assoc, Nat.reduceAdd, Nat.reduceSub, Nat.reduceLT, Nat.reduceLeDiff, List.getElem?_cons_zero, List.getElem?_cons_succ, List.getElem?_nil, Option.join_some, Option.join_none, List.set_cons_zero, List.set_cons_succ, if_true, if_false, Bool.false_eq_true, Bool.true_eq_false, reduceIte, reduceCtorEq, true_and, and_true, Option.map_some, Option.map_none, Nat.succ_eq_add_one, Nat.zero_add, Nat.add_zero, List.singleton_append]
  refine w_pool (n := 131) H1 fun p ents s2 ne ne2 hp P H2 => ?_
  try simp -implicitDefEqProofs only [exS, exSs, evX, evs, evt, pr, condOf, w_bin, w_neg, w_cmp, w_isn, w_isb, w_and, w_or, w_not, w_ife, w_tup, w_lst, w_star, w_ix, w_sli, w_call, w_bi, w_met, w_isi, w_comp, w_fstr, w_dict0, w_lvals, w_nil, w_cons, w_tst, w_tnot, w_tand, w_tor, w_var, Kg.w_next, w_seq, w_asg, w_set, w_expr, w_ret, w_if, w_for, w_aug, wO_some, wF_some, wA_some, wA_map, wO_ite, wA_ite, isStar, spl, startE, wipeE, bindT, bindTs, List.map_cons, List.map_nil, List.length_cons, List.length_nil, List.replicate, List.cons_append, List.nil_append, List.append_nil, List.append_assoc, Nat.reduceAdd, Nat.reduceSub, Nat.reduceLT, Nat.reduceLeDiff, List.getElem?_cons_zero, List.getElem?_cons_succ, List.getElem?_nil, Option.join_some, Option.join_none, List.set_cons_zero, List.set_cons_succ, if_true, if_false, Bool.false_eq_true, Bool.true_eq_false, reduceIte, reduceCtorEq, true_and, and_true, Option.map_some, Option.map_none, Nat.succ_eq_add_one, Nat.zero_add, Nat.add_zero, List.singleton_append]
  refine take_ (n := 130) H2 (by omega) (by omega) fun j s3 j0 j1 kp3 H3 => ?_
  have hp3 := kp3.get hp (by simpa using ne)
  simp -implicitDefEqProofs only [cop_eq_i, tru_b, dec_if, exS, exSs, evX, evs, evt, pr, condOf, w_bin, w_neg, w_cmp, w_isn, w_isb, w_and, w_or, w_not, w_ife, w_tup, w_lst, w_star, w_ix, w_sli, w_call, w_bi, w_met, w_isi, w_comp, w_fstr, w_dict0, w_lvals, w_nil, w_cons, w_tst, w_tnot, w_tand, w_tor, w_var, Kg.w_next, w_seq, w_asg, w_set, w_expr, w_ret, w_if, w_for, w_aug, wO_some, wF_some, wA_some, wA_map, wO_ite, wA_ite, isStar, spl, startE, wipeE, bindT, bindTs, List.map_cons, List.map_nil, List.length_cons, List.length_nil, List.replicate, List.cons_append, List.nil_append, List.append_nil, List.append_assoc, Nat.reduceAdd, Nat.reduceSub, Nat.reduceLT, Nat.reduceLeDiff, List.getElem?_cons_zero, List.getElem?_cons_succ, List.getElem?_nil, Option.join_some, Option.join_none, List.set_cons_zero, List.set_cons_succ, if_true, if_false, Bool.false_eq_true, Bool.true_eq_false, reduceIte, reduceCtorEq, true_and, and_true, Option.map_some, Option.map_none, Nat.succ_eq_add_one, Nat.zero_add, Nat.add_zero, List.singleton_append]
  split
  · rw [← hT]
    exact w_grows H3 ne ne2 hp3 P (by decide)
  · rw [← hT]
    exact w_grows H3 ne ne2 hp3 P (by decide)
theorem law (ns : List Int) (h : ns.length ≤ 63) : ∃ st, callF ds 133 39 [.rol (ns.map PV.int)] [] = some (.bl true, st) := by
  obtain ⟨v, s, e, rfl⟩ := wO_ex.mp (w_law h)
  exact ⟨s, e⟩
end K04
namespace K04
open PySem PySem.Spec PyProof.Rows L2 Kg
abbrev R : PySem.W.OpenRow := PySem.W.OpenLaw.row PySem.Challenge.rw_knownguards_k04_whole_worths_made_and_to
def fn : List He.DefD := fs.map FD.toD
def fa : List He.Fa := faOf fs free
abbrev hk : PySem.W.Hook := He.hookD 4 fa fn
def ob (s : PySem.W.SharedT) : He.AlD := He.obsDG 4 fa fn (HandSHeadRun.getT s)
theorem ob_eq (s : PySem.W.SharedT) : ob s = hk.obs s.abs := He.obsDG_eq (HandSHeadRun.getT_eq s)
def loose : List PySem.Str := [("is_whole" : PySem.Str), ("is_worth_row" : PySem.Str), ("is_worth_base" : PySem.Str), ("is_worth_turn" : PySem.Str), ("is_worth" : PySem.Str), ("begun_store" : PySem.Str), ("made_worth" : PySem.Str), ("added_worth" : PySem.Str), ("unlike_worths" : PySem.Str), ("parts_of" : PySem.Str), ("bags_within" : PySem.Str), ("call_text" : PySem.Str), ("worth_text" : PySem.Str), ("_law_hand" : PySem.Str), ("_law_mixed" : PySem.Str), ("_law_take" : PySem.Str), ("_law_whole" : PySem.Str), ("_law_exact" : PySem.Str), ("_law_given" : PySem.Str), ("_law_begun_pool" : PySem.Str), ("_law_pick" : PySem.Str), ("_law_name" : PySem.Str), ("_law_picks" : PySem.Str), ("_law_turned" : PySem.Str), ("_law_unlike" : PySem.Str), ("_law_parts_due" : PySem.Str), ("_law_bags_due" : PySem.Str), ("_law_call_due" : PySem.Str), ("_law_text_due" : PySem.Str), ("_law_made_told" : PySem.Str), ("_law_added_told" : PySem.Str), ("_law_grown" : PySem.Str), ("_law_bad_base" : PySem.Str), ("_law_bad_bag" : PySem.Str), ("_law_no_worth" : PySem.Str), ("_law_within" : PySem.Str), ("_law_told_right" : PySem.Str), ("_law_chain" : PySem.Str), ("_law_deep_right" : PySem.Str)]
theorem run (w : World) : HandSHeadRun.RunEq R (PySem.W.view R.prog [42]) hk ob 3000 loose w := by
  intro os
  kernel_rfl
end K04
open PySem PySem.W PySem.Calls PyProof.Rows
theorem PySem.Challenge.cw_knownguards_k04_whole_worths_made_and_to_holds : PySem.Challenge.rw_knownguards_k04_whole_worths_made_and_to.Holds := by
  w_on; o_law
  refine HandSHeadRun.head_any (r := OpenLaw.row PySem.Challenge.rw_knownguards_k04_whole_worths_made_and_to) (q := view K04.R.prog [42]) (H := K04.hk) (ob := K04.ob) (M := 3000) (loose := K04.loose) (d := HandSHeadRun.topDef K04.R.prog 42) (kwd := []) K04.ob_eq
    (by kernel_rfl) (fun s => by kernel_rfl) K04.run (by kernel_rfl) (by kernel_rfl) (by kernel_rfl) (by rfl) (by first | assumption | decide +kernel) (by decide +kernel) ⟨rfl, rfl, rfl, rfl, rfl, by decide +kernel⟩ ?hw ?hc
  case hw => w_witness2
  case hc =>
    refine L2.walk_ofE (l := PySem.Challenge.rw_knownguards_k04_whole_worths_made_and_to) (n := 63) (k := 221) (x := "_law_script") (CX := L2.CX0) rfl (by decide) (by kernel_rfl) ⟨rfl, by decide, by decide⟩ ?F (fun _ _ _ _ z => z)
    intro w mg fa h Y G hmg0
    obtain ⟨K, KX, c⟩ := Y
    have hmg : mg (K04.f39.nm) = some (.ref fa) := by
      have e : (HandSHeadRun.topDef K04.R.prog 42).name = K04.f39.nm := by kernel_rfl
      rw [← e]
      exact hmg0
    obtain ⟨fd, sp, h1, h2, h3⟩ := Kg.law_facts (P := (PySem.Challenge.rw_knownguards_k04_whole_worths_made_and_to).prog) (w := w) K04.st KX G c 133 39 63 K04.f39 "_law_script" rfl rfl rfl K04.bdL hmg K04.law
    exact ⟨K, fd, sp, KX, h1, h2, h3⟩
