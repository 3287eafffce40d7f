import PyProof.Rows.All
import Wide.All
import OpenK.AllK
import Wide.FinOn
import HandS.ForMost
import HandS.ForExc
import HandS.ExcInit
import HandS.CallSlots
import HandS.Defaults
import HandS.IsInst
import HandS.TupAny
import HandS.Zip
import HandS.Deep
import HandS.Style
import HandS.Flow
import HandS.Wide
import HandS.Conv
import HandS.OwnEq
import HandS.Zip0
import KE.KDictPairs
import KE.KStateDown
import HandS.Ends
import HandS.More
import HandS.Words
import HandS.WordsExc
import HandS.Head0
import HandS.Head1
import HandS.Head2
import HandS.HeadEnd
import HandS.HeadHook1
import HandS.HeadHook2
import PySem.Challenge.RW_secondruns_k03_trees_told
set_option Elab.async false
section T_M1
set_option Elab.async false
set_option linter.all false
/-! Mini: values, objects, the little language. -/
namespace Mini
open PySem
open L2 (Key)

inductive PV where
  | non | bl (b : Bool) | int (i : Int) | str (s : Str) | tup (xs : List PV) | ref (i : Nat) | fl (xs : List PV)
  deriving Inhabited
inductive VO where
  | lst (xs : List PV)
  | dct (kvs : List (Key × PV))
  | ins (c : Nat) (fs : List (Str × PV))
abbrev VH := List VO
abbrev Env := List (Option PV)
inductive Res (α : Type) where
  | ok (a : α) (h : VH)
  | exc (c : Nat) (fs : List (Str × PV)) (h : VH)
  | stuck
def Res.bind {α β : Type} (r : Res α) (f : α → VH → Res β) : Res β := match r with
  | .ok a h => f a h
  | .exc c fs h => .exc c fs h
  | .stuck => .stuck
@[simp] theorem Res.bind_ok {α β : Type} (a : α) (h : VH) (f : α → VH → Res β) : (Res.ok a h).bind f = f a h := rfl
@[simp] theorem Res.bind_exc {α β : Type} (c fs) (h : VH) (f : α → VH → Res β) : (Res.exc c fs h : Res α).bind f = .exc c fs h := rfl
@[simp] theorem Res.bind_stuck {α β : Type} (f : α → VH → Res β) : (Res.stuck : Res α).bind f = .stuck := rfl
/-- nothing may be raised here -/
def Res.bindN {α β : Type} (r : Res α) (f : α → VH → Res β) : Res β := match r with
  | .ok a h => f a h
  | _ => .stuck
@[simp] theorem Res.bindN_ok {α β : Type} (a : α) (h : VH) (f : α → VH → Res β) : (Res.ok a h).bindN f = f a h := rfl

inductive Ty where
  | str | int | bool | list | tuple | dict | own (c : Nat)
/-- what a name is stored to -/
inductive Tg where
  | nm (i : Nat) | tp (is : List Nat)
mutual
inductive Ex where
  | con (p : PV) | var (i : Nat) | glo (x : Str) (p : PV) | absent | nev
  | bin (o : Operator) (a b : Ex) | neg (a : Ex)
  | cmp (o : CmpOp) (a b : Ex) | cmp2 (o1 o2 : CmpOp) (a b c : Ex)
  | and2 (a b : Ex) | or2 (a b : Ex) | not (a : Ex) | ite (t a b : Ex)
  | tup (es : Exs) | lst (es : Exs) | dct0 | dsum (a b : Ex)
  | idx (a i : Ex) | sl (a lo hi : Ex)
  | call (f : Nat) (es : Exs) | new (c : Nat) (es : Exs) | omt (m : Str) (o : Ex) (es : Exs) | fld (o : Ex) (f : Str)
  | blt (b : String) (es : Exs) | bmt (m : String) (o : Ex) (es : Exs) | isi (a : Ex) (ts : List Ty)
  | lc (elt : Ex) (tg : Tg) (it : It) (cs : Exs) (own : List Nat)
inductive Exs where
  | nil | cons (e : Ex) (es : Exs)
inductive It where
  | val (e : Ex) | rng1 (a : Ex) | rng2 (a b : Ex) | enum (e : Ex) | zip (a b : Ex)
end
mutual
inductive Sm where
  | asg (tg : Tg) (e : Ex) | par (i j : Nat) (a b : Ex) | setf (o : Ex) (f : Str) (e : Ex) | seti (o i e : Ex) | aug (i : Nat) (o : Operator) (e : Ex)
  | exp (e : Ex) | ret (e : Ex) | retn | ite (t : Ex) (a b : Sms) | whl (t : Ex) (b : Sms) | for (tg : Tg) (it : It) (b : Sms)
  | rai (c : Nat) (es : Exs) | pass | cont | brk | never
inductive Sms where
  | nil | cons (s : Sm) (r : Sms)
end
/-- a def: its global name (a method: its own), the parameters, all names by slot, the defaults, the body -/
structure Fn where
  name : Str
  meth : Bool
  ps : List Str
  N : List Str
  dfl : List PV
  body : Sms
/-- a class: its name, whether it is an error, its __init__, its methods, the attributes of its instances (an error: its fields) -/
structure Cl where
  name : Str
  exc : Bool
  init : Option Nat
  meths : List (Str × Nat)
  attrs : List Str
structure Tab where
  fns : List Fn
  cls : List Cl
  consts : List (Str × PV)
  free : List Str

/-! ### values -/
def typ (T : Tab) (vh : VH) : PV → Ty → Option Bool
  | .ref i, t => match vh[i]? with
    | some (.lst _) => some (match t with | .list => true | _ => false)
    | some (.dct _) => some (match t with | .dict => true | _ => false)
    | some (.ins c _) => match T.cls[c]? with
      | some cl => if cl.exc = true then none else some (match t with | .own d => c == d | _ => false)
      | none => none
    | none => none
  | .non, _ => some false
  | .bl _, t => some (match t with | .bool => true | .int => true | _ => false)
  | .int _, t => some (match t with | .int => true | _ => false)
  | .str _, t => some (match t with | .str => true | _ => false)
  | .tup _, t => some (match t with | .tuple => true | _ => false)
  | .fl _, _ => none
def isIn (T : Tab) (vh : VH) (p : PV) : List Ty → Option Bool
  | [] => some false
  | t :: ts => match typ T vh p t with
    | some true => some true
    | some false => isIn T vh p ts
    | none => none
/-- a list or a tuple: its items -/
def seqOf (vh : VH) : PV → Option (List PV)
  | .tup xs => some xs
  | .fl xs => some xs
  | .ref i => match vh[i]? with
    | some (.lst xs) => some xs
    | _ => none
  | _ => none
def mapO {α β : Type} (f : α → Option β) : List α → Option (List β)
  | [] => some []
  | x :: xs => match f x with
    | some y => match mapO f xs with
      | some ys => some (y :: ys)
      | none => none
    | none => none
def toD (vh : VH) : Nat → PV → Option PyData
  | 0, _ => none
  | n + 1, p => match p with
    | .non => some .none
    | .bl b => some (.bool b)
    | .int i => some (.int i)
    | .str s => if PyData.strOk s then some (.str s) else none
    | .tup xs => (mapO (toD vh n) xs).map .tuple
    | .fl xs => (mapO (toD vh n) xs).map .list
    | .ref i => match vh[i]? with
      | some (.lst xs) => (mapO (toD vh n) xs).map .list
      | _ => none
def eqP (vh : VH) (p q : PV) : Option Bool := match toD vh 190 p, toD vh 190 q with
  | some d, some e => some (PyData.eqv d e)
  | _, _ => none
def kOf : PV → Option Key
  | .int i => some (.inl i)
  | .str s => some (.inr s)
  | _ => none
def valP (kvs : List (Key × PV)) (k : Key) : Option PV := (kvs.find? fun kv => decide (kv.1 = k)).map (·.2)
def putP (kvs : List (Key × PV)) (k : Key) (v : PV) : List (Key × PV) :=
  if (kvs.any fun kv => decide (kv.1 = k)) = true then kvs.map (fun kv => if kv.1 = k then (kv.1, v) else kv) else kvs ++ [(k, v)]
def putFP (f : Str) (v : PV) : List (Str × PV) → List (Str × PV)
  | [] => [(f, v)]
  | (g, x) :: r => if g = f then (g, v) :: r else (g, x) :: putFP f v r
abbrev atP (xs : List PV) (i : Int) : Option PV := L2.atI xs i
def cutP (xs : List PV) (lo hi : Option Int) : List PV := (xs.drop (HT.sIx xs.length 0 lo)).take (HT.sIx xs.length xs.length hi - HT.sIx xs.length 0 lo)
def Res.o {α : Type} (r : Option (α × VH)) : Res α := match r with
  | some (p, vh) => .ok p vh
  | none => .stuck
def Res.ofB (o : Option Bool) (vh : VH) : Res PV := match o with
  | some b => .ok (.bl b) vh
  | none => .stuck
def alloc (o : VO) (vh : VH) : Option (PV × VH) := some ((.ref vh.length), (vh ++ [o]))
def newL (xs : List PV) (vh : VH) : Option (PV × VH) := if xs.length ≤ sizeLine then alloc (.lst xs) vh else none
def newT (xs : List PV) (vh : VH) : Option (PV × VH) := if xs.length ≤ sizeLine then some ((.tup xs), vh) else none

/-! ### operators -/
def addP (p q : PV) (vh : VH) : Option (PV × VH) := match p, q with
  | .int i, .int j => some ((.int (i + j)), vh)
  | .str a, .str b => if a.length + b.length ≤ sizeLine then some ((.str (a ++ b)), vh) else none
  | .tup xs, .tup ys => if xs.length + ys.length ≤ sizeLine then some ((.tup (xs ++ ys)), vh) else none
  | .ref a, .ref b => match vh[a]?, vh[b]? with
    | some (.lst xs), some (.lst ys) => newL (xs ++ ys) vh
    | _, _ => none
  | _, _ => none
def intP (ok : Int → Int → Bool) (g : Int → Int → Int) (p q : PV) (vh : VH) : Option (PV × VH) := match p, q with
  | .int i, .int j => if ok i j then some ((.int (g i j)), vh) else none
  | _, _ => none
def small64 (i : Int) : Bool := decide (-(2 ^ 64) < i) && decide (i < 2 ^ 64)
def mulP (p q : PV) (vh : VH) : Option (PV × VH) := match p, q with
  | .int i, .int j => if small64 i || small64 j then some ((.int (i * j)), vh) else none
  | .ref a, .int k => match vh[a]? with
    | some (.lst xs) => if k < 2 ^ 63 ∧ -(2 ^ 63) ≤ k ∧ xs.length * k.toNat ≤ sizeLine then newL (List.replicate k.toNat xs).flatten vh else none
    | _ => none
  | _, _ => none
def binop (o : Operator) (p q : PV) (vh : VH) : Option (PV × VH) := match o with
  | .Add => addP p q vh
  | .Sub => intP (fun _ _ => true) (fun i j => i - j) p q vh
  | .Mult => mulP p q vh
  | .FloorDiv => intP (fun _ j => decide (0 < j) && decide (j < 1073741824)) (fun i j => i / j) p q vh
  | .Mod => intP (fun _ j => decide (0 < j)) (fun i j => i % j) p q vh
  | .Pow => intP (fun i j => decide (0 ≤ j) && decide (j ≤ 1000000) && decide (i.natAbs < 2 ^ 64)) (fun i j => i ^ j.toNat) p q vh
  | _ => none
/-- p op= q: whole numbers -/
def augop (o : Operator) (p q : PV) (vh : VH) : Option (PV × VH) := match o with
  | .Add => intP (fun _ _ => true) (fun i j => i + j) p q vh
  | .Sub => intP (fun _ _ => true) (fun i j => i - j) p q vh
  | _ => none
/-- is: one side None or a truth -/
def isP (p q : PV) : Option Bool := match q with
  | .non => some (match p with | .non => true | _ => false)
  | .bl b => match p with
    | .bl c => some (decide (c = b))
    | _ => none
  | _ => none
def inSeq (vh : VH) (p : PV) (xs : List PV) : Option Bool := match toD vh 190 p, mapO (toD vh 190) xs with
  | some d, some ds => some (ds.any fun z => PyData.eqv z d)
  | _, _ => none
def inP (p q : PV) (vh : VH) : Option Bool := match q with
  | .str t => match p with
    | .str s => if s.cps.size = 1 then some (decide (s.cps[0]! ∈ t.cps.toList)) else none
    | _ => none
  | .ref a => match vh[a]? with
    | some (.dct kvs) => (kOf p).map fun k => (valP kvs k).isSome
    | some (.lst xs) => inSeq vh p xs
    | _ => none
  | .tup xs => inSeq vh p xs
  | .fl xs => inSeq vh p xs
  | _ => none
def ordP (o : CmpOp) (p q : PV) : Option Bool := match p, q with
  | .int i, .int j => match o with
    | .Lt => some (decide (i < j))
    | .LtE => some (decide (i ≤ j))
    | .Gt => some (decide (j < i))
    | .GtE => some (decide (j ≤ i))
    | _ => none
  | .str a, .str b => match o with
    | .Lt => some (decide (a.cps.toList < b.cps.toList))
    | _ => none
  | _, _ => none
def cmpop (o : CmpOp) (p q : PV) (vh : VH) : Option Bool := match o with
  | .Eq => eqP vh p q
  | .NotEq => (eqP vh p q).map (!·)
  | .Is => isP p q
  | .IsNot => (isP p q).map (!·)
  | .In => inP p q vh
  | .NotIn => (inP p q vh).map (!·)
  | o => ordP o p q
def negP (p : PV) (vh : VH) : Option (PV × VH) := match p with
  | .int i => some ((.int (-i)), vh)
  | _ => none

/-! ### subscripts -/
def idxP (p q : PV) (vh : VH) : Option (PV × VH) := match p, q with
  | .tup xs, .int i => match atP xs i with | some y => some (y, vh) | none => none
  | .fl xs, .int i => match atP xs i with | some y => some (y, vh) | none => none
  | .ref a, q => match vh[a]? with
    | some (.lst xs) => match q with
      | .int i => match atP xs i with | some y => some (y, vh) | none => none
      | _ => none
    | some (.dct kvs) => match kOf q with
      | some k => match valP kvs k with | some y => some (y, vh) | none => none
      | none => none
    | _ => none
  | _, _ => none
def isAbs : Ex → Bool
  | .absent => true
  | _ => false
def partI (ab : Bool) (p : PV) (vh : VH) : Res (Option Int) := match ab, p with
  | true, _ => .ok none vh
  | false, .int i => .ok (some i) vh
  | false, _ => .stuck
def slP (p : PV) (lo hi : Option Int) (vh : VH) : Option (PV × VH) := match p with
  | .tup xs => some (.tup (cutP xs lo hi), vh)
  | .fl xs => newL (cutP xs lo hi) vh
  | .ref i => (match vh[i]? with
    | some (.lst xs) => newL (cutP xs lo hi) vh
    | _ => none)
  | _ => none
/-- a[i] = v -/
def setP (o i v : PV) (vh : VH) : Option VH := match o with
  | .ref a => match vh[a]? with
    | some (.lst xs) => match i with
      | .int k => match L2.ixN xs.length k with
        | some j => some (vh.set a (.lst (xs.set j v)))
        | none => none
      | _ => none
    | some (.dct kvs) => match kOf i with
      | some k => if kvs.length < sizeLine then some (vh.set a (.dct (putP kvs k v))) else none
      | none => none
    | _ => none
  | _ => none

/-! ### built-in functions and methods -/
def boolsOf : List PV → Option (List Bool) := mapO fun p => match p with | .bl b => some b | _ => none
def intsOf : List PV → Option (List Int) := mapO fun p => match p with | .int b => some b | _ => none
def pairP : PV → Option (Key × PV)
  | .tup [k, v] => (kOf k).map fun k => (k, v)
  | _ => none
def mergeP (kvs more : List (Key × PV)) : List (Key × PV) := more.foldl (fun acc kv => putP acc kv.1 kv.2) kvs
def lenP (p : PV) (vh : VH) : Option (PV × VH) := match p with
  | .str s => if s.length ≤ sizeLine then some ((.int s.length), vh) else none
  | .tup xs => some ((.int xs.length), vh)
  | .fl xs => some ((.int xs.length), vh)
  | .ref a => match vh[a]? with
    | some (.lst xs) => some ((.int xs.length), vh)
    | some (.dct kvs) => some ((.int kvs.length), vh)
    | _ => none
  | _ => none
def listP (p : PV) (vh : VH) : Option (PV × VH) := match p with
  | .tup xs => newL xs vh
  | .fl xs => newL xs vh
  | .ref a => match vh[a]? with
    | some (.lst xs) => newL xs vh
    | _ => none
  | _ => none
def tupleP (p : PV) (vh : VH) : Option (PV × VH) := match p with
  | .tup xs => some ((.tup xs), vh)
  | .ref a => match vh[a]? with
    | some (.lst xs) => some ((.tup xs), vh)
    | _ => none
  | _ => none
def allP (isAll : Bool) (p : PV) (vh : VH) : Option (PV × VH) := match p with
  | .ref a => match vh[a]? with
    | some (.lst xs) => match boolsOf xs with
      | some bs => some ((.bl (if isAll then bs.all id else bs.any id)), vh)
      | none => none
    | _ => none
  | _ => none
def sumP (p : PV) (vh : VH) : Option (PV × VH) := match p with
  | .ref a => match vh[a]? with
    | some (.lst xs) => match intsOf xs with
      | some bs => some ((.int bs.sum), vh)
      | none => none
    | _ => none
  | _ => none
def dictP (p : PV) (vh : VH) : Option (PV × VH) := match p with
  | .ref a => match vh[a]? with
    | some (.lst xs) => match mapO pairP xs with
      | some kvs => alloc (.dct (mergeP [] kvs)) vh
      | none => none
    | _ => none
  | _ => none
/-- dict(t + u) of two tuples of pairs -/
def dsumP (p q : PV) (vh : VH) : Option (PV × VH) := match p, q with
  | .tup xs, .tup ys => if xs.length ≠ 0 ∧ ys.length ≠ 0 ∧ xs.length + ys.length ≤ sizeLine then (match mapO pairP (xs ++ ys) with
    | some kvs => alloc (.dct (mergeP [] kvs)) vh
    | none => none) else none
  | _, _ => none
def blt (b : String) (ps : List PV) (vh : VH) : Option (PV × VH) := match ps with
  | [p] =>
    if b = "len" then lenP p vh
    else if b = "abs" then (match p with | .int i => some ((.int (if i < 0 then -i else i)), vh) | _ => none)
    else if b = "int" then (match p with | .int i => some ((.int i), vh) | _ => none)
    else if b = "list" then listP p vh
    else if b = "tuple" then tupleP p vh
    else if b = "all" then allP true p vh
    else if b = "any" then allP false p vh
    else if b = "sum" then sumP p vh
    else if b = "dict" then dictP p vh
    else none
  | _ => none
def isLst (vh : VH) : PV → Bool
  | .ref a => match vh[a]? with
    | some (.lst _) => true
    | _ => false
  | _ => false
def bmt (m : String) (o : PV) (ps : List PV) (vh : VH) : Option (PV × VH) := match o with
  | .ref a => match vh[a]? with
    | some (.lst xs) =>
      if m = "append" then (match ps with
        | [p] => if xs.length < sizeLine then some (.non, (vh.set a (.lst (xs ++ [p])))) else none
        | _ => none)
      else if m = "extend" then (match ps with
        | [.ref b] => match vh[b]? with
          | some (.lst ys) => if a ≠ b ∧ xs.length + ys.length ≤ sizeLine then some (.non, (vh.set a (.lst (xs ++ ys)))) else none
          | _ => none
        | _ => none)
      else if m = "pop" then (match ps with
        | [.int i] => if 0 ≤ i ∧ i < 2 ^ 63 then (match xs[i.toNat]? with
          | some y => some (y, (vh.set a (.lst (xs.eraseIdx i.toNat))))
          | none => none) else none
        | _ => none)
      else none
    | _ => none
  | _ => none

/-! ### what is walked -/
inductive Src where
  | vals (xs : List PV) | ls (a : Nat) | enum (s : Src) | zip (s t : Src)
/-- the k-th item: some none behind the last one -/
def itemAt (vh : VH) : Src → Nat → Option (Option PV)
  | .vals xs, k => some xs[k]?
  | .ls a, k => match vh[a]? with
    | some (.lst xs) => some xs[k]?
    | _ => none
  | .enum s, k => match itemAt vh s k with
    | some (some p) => some (some (.tup [.int k, p]))
    | r => r
  | .zip s t, k => match itemAt vh s k, itemAt vh t k with
    | some (some p), some (some q) => some (some (.tup [p, q]))
    | some none, some none => some none
    | _, _ => none
def Src.len (vh : VH) : Src → Nat
  | .vals xs => xs.length
  | .ls a => match vh[a]? with
    | some (.lst xs) => xs.length
    | _ => 0
  | .enum s => s.len vh
  | .zip s _ => s.len vh
def srcOf (vh : VH) : PV → Option Src
  | .tup xs => some (.vals xs)
  | .fl xs => some (.vals xs)
  | .str s => some (.vals (s.cps.toList.map fun c => .str ⟨#[c]⟩))
  | .ref a => match vh[a]? with
    | some (.lst _) => some (.ls a)
    | _ => none
  | _ => none
def rngS (lo hi : Int) : Option Src :=
  if -(2 ^ 62) ≤ lo ∧ lo < 2 ^ 62 ∧ -(2 ^ 62) ≤ hi ∧ hi < 2 ^ 62 then some (.vals ((List.range (hi - lo).toNat).map fun (i : Nat) => .int (lo + i))) else none
def setEnv (env : Env) (i : Nat) (p : PV) : Env := env.set i (some p)
def setAll : List Nat → List PV → Env → Option Env
  | [], [], env => some env
  | i :: is, p :: ps, env => setAll is ps (setEnv env i p)
  | _, _, _ => none
def setTg (vh : VH) (tg : Tg) (p : PV) (env : Env) : Option Env := match tg with
  | .nm i => some (setEnv env i p)
  | .tp is => match p with
    | .tup xs => setAll is xs env
    | .ref a => match vh[a]? with
      | some (.lst xs) => setAll is xs env
      | _ => none
    | _ => none
def wipeE (env : Env) : List Nat → Env
  | [] => env
  | v :: vs => (wipeE env vs).set v none
def lcLoop (src : Src) (D : Nat) (step : PV → VH → Res (Option PV)) : Nat → Nat → VH → Res PV
  | 0, k, vh => match itemAt vh src k with
    | some none => .ok (.ref D) vh
    | _ => .stuck
  | n + 1, k, vh => match itemAt vh src k with
    | some none => .ok (.ref D) vh
    | some (some p) => (step p vh).bindN fun r vh1 => match r with
      | none => lcLoop src D step n (k + 1) vh1
      | some y => match vh1[D]? with
        | some (.lst acc) => if acc.length < sizeLine then lcLoop src D step n (k + 1) (vh1.set D (.lst (acc ++ [y]))) else .stuck
        | _ => .stuck
    | none => .stuck
inductive Fl where
  | nx (e : Env) | rt (p : PV) | bk (e : Env) | ct (e : Env) | ex (c : Nat) (fs : List (Str × PV)) (e : Env)
/-- an expression in a statement: what it raises ends the statement -/
def Res.bindS {α : Type} (r : Res α) (env : Env) (f : α → VH → Res Fl) : Res Fl := match r with
  | .ok a h => f a h
  | .exc c fs h => .ok (.ex c fs env) h
  | .stuck => .stuck
def forLoop (src : Src) (bind : PV → Env → VH → Option Env) (body : Env → VH → Res Fl) : Nat → Nat → Env → VH → Res Fl
  | 0, k, env, vh => match itemAt vh src k with
    | some none => .ok (.nx env) vh
    | _ => .stuck
  | n + 1, k, env, vh => match itemAt vh src k with
    | some none => .ok (.nx env) vh
    | some (some p) => match bind p env vh with
      | some env1 => (body env1 vh).bind fun f vh1 => match f with
        | .nx e => forLoop src bind body n (k + 1) e vh1
        | .ct e => forLoop src bind body n (k + 1) e vh1
        | .bk e => .ok (.nx e) vh1
        | f => .ok f vh1
      | none => .stuck
    | none => .stuck
def asB (p : PV) (vh : VH) : Res Bool := match p with
  | .bl b => .ok b vh
  | _ => .stuck
def whileLoop (test : Env → VH → Res PV) (body : Env → VH → Res Fl) : Nat → Env → VH → Res Fl
  | 0, _, _ => .stuck
  | n + 1, env, vh => ((test env vh).bind asB).bindS env fun b vh1 => match b with
    | false => .ok (.nx env) vh1
    | true => (body env vh1).bind fun f vh2 => match f with
      | .nx e => whileLoop test body n e vh2
      | .ct e => whileLoop test body n e vh2
      | .bk e => .ok (.nx e) vh2
      | f => .ok f vh2

def Exs.len : Exs → Nat
  | .nil => 0
  | .cons _ r => r.len + 1

/-! ### evaluation -/
section
variable (T : Tab) (call : Nat → List PV → VH → Res PV)
/-- a new instance, then its __init__ -/
def newP (c : Nat) (ps : List PV) (vh : VH) : Res PV := match T.cls[c]? with
  | some cl => match cl.init with
    | some f => if cl.exc = true then .stuck else (call f (.ref vh.length :: ps) (vh ++ [.ins c []])).bind fun r vh1 => match r with
      | .non => .ok (.ref vh.length) vh1
      | _ => .stuck
    | none => .stuck
  | none => .stuck
def arity (f k : Nat) : Bool := match T.fns[f]? with
  | some fn => decide (k ≤ fn.ps.length) && decide (fn.ps.length ≤ k + fn.dfl.length)
  | none => false
/-- the method m of what p is, for k arguments -/
def resM (m : Str) (k : Nat) (p : PV) (vh : VH) : Option Nat := match p with
  | .ref a => match vh[a]? with
    | some (.ins c fs) => match fs.lookup m with
      | none => match T.cls[c]? with
        | some cl => if cl.exc = true then none else (match cl.meths.lookup m with
          | some f => if arity T f (k + 1) = true then some f else none
          | none => none)
        | none => none
      | some _ => none
    | _ => none
  | _ => none
def hasAttr (c : Nat) (f : Str) : Bool := match T.cls[c]? with
  | some cl => !cl.exc && cl.attrs.contains f
  | none => false
def fldP (o : PV) (f : Str) (vh : VH) : Option (PV × VH) := match o with
  | .ref a => match vh[a]? with
    | some (.ins c fs) => if hasAttr T c f = true then (match fs.lookup f with
      | some p => some (p, vh)
      | none => none) else none
    | _ => none
  | _ => none
def setfP (o : PV) (f : Str) (v : PV) (vh : VH) : Option VH := match o with
  | .ref a => match vh[a]? with
    | some (.ins c fs) => if hasAttr T c f = true ∧ fs.length < 1000 then some (vh.set a (.ins c (putFP f v fs))) else none
    | _ => none
  | _ => none
mutual
def evE : Ex → Env → VH → Res PV
  | .con p, _, vh => .ok p vh
  | .var i, env, vh => match env[i]? with
    | some (some p) => .ok p vh
    | _ => .stuck
  | .glo _ p, _, vh => .ok p vh
  | .absent, _, vh => .ok .non vh
  | .nev, _, _ => .stuck
  | .bin o a b, env, vh => (evE a env vh).bind fun p vh1 => (evE b env vh1).bind fun q vh2 => Res.o (binop o p q vh2)
  | .neg a, env, vh => (evE a env vh).bind fun p vh1 => Res.o (negP p vh1)
  | .cmp o a b, env, vh => (evE a env vh).bind fun p vh1 => (evE b env vh1).bind fun q vh2 => Res.ofB (cmpop o p q vh2) vh2
  | .cmp2 o1 o2 a b c, env, vh => (evE a env vh).bind fun p vh1 => (evE b env vh1).bind fun q vh2 => match cmpop o1 p q vh2 with
    | some true => (evE c env vh2).bind fun r vh3 => Res.ofB (cmpop o2 q r vh3) vh3
    | some false => .ok (.bl false) vh2
    | none => .stuck
  | .and2 a b, env, vh => ((evE a env vh).bind asB).bind fun c vh1 => if c = true then evE b env vh1 else .ok (.bl false) vh1
  | .or2 a b, env, vh => ((evE a env vh).bind asB).bind fun c vh1 => if c = true then .ok (.bl true) vh1 else evE b env vh1
  | .not a, env, vh => ((evE a env vh).bind asB).bind fun c vh1 => .ok (.bl (!c)) vh1
  | .ite t a b, env, vh => ((evE t env vh).bind asB).bind fun c vh1 => if c = true then evE a env vh1 else evE b env vh1
  | .tup es, env, vh => (evEs es env vh).bind fun ps vh1 => Res.o (newT ps vh1)
  | .lst es, env, vh => (evEs es env vh).bind fun ps vh1 => Res.o (newL ps vh1)
  | .dct0, _, vh => Res.o (alloc (.dct []) vh)
  | .dsum a b, env, vh => (evE a env vh).bind fun p vh1 => (evE b env vh1).bind fun q vh2 => Res.o (dsumP p q vh2)
  | .idx a i, env, vh => (evE a env vh).bind fun p vh1 => (evE i env vh1).bind fun q vh2 => Res.o (idxP p q vh2)
  | .sl a lo hi, env, vh => (evE a env vh).bind fun p vh1 => ((evE lo env vh1).bind (partI (isAbs lo))).bind fun q vh2 => ((evE hi env vh2).bind (partI (isAbs hi))).bind fun r vh3 => Res.o (slP p q r vh3)
  | .call f es, env, vh => (evEs es env vh).bind fun ps vh1 => call f ps vh1
  | .new c es, env, vh => (evEs es env vh).bind fun ps vh1 => newP T call c ps vh1
  | .omt m o es, env, vh => (evE o env vh).bind fun p vh1 => match resM T m es.len p vh1 with
    | some f => (evEs es env vh1).bind fun ps vh2 => call f (p :: ps) vh2
    | none => .stuck
  | .fld o f, env, vh => (evE o env vh).bind fun p vh1 => Res.o (fldP T p f vh1)
  | .blt b es, env, vh => (evEs es env vh).bind fun ps vh1 => Res.o (blt b ps vh1)
  | .bmt m o es, env, vh => (evE o env vh).bind fun p vh1 => if isLst vh1 p = true then (evEs es env vh1).bind fun ps vh2 => Res.o (bmt m p ps vh2) else .stuck
  | .isi a ts, env, vh => (evE a env vh).bind fun p vh1 => Res.ofB (isIn T vh1 p ts) vh1
  | .lc elt tg it cs own, env, vh => (evI it env vh).bind fun src vh1 =>
      lcLoop src vh1.length (fun p vh2 => match setTg vh2 tg p (wipeE env own) with
        | some env1 => (evC cs env1 vh2).bindN fun b vh3 => match b with
          | true => (evE elt env1 vh3).bindN fun y vh4 => .ok (some y) vh4
          | false => .ok none vh3
        | none => .stuck) (src.len vh1) 0 (vh1 ++ [.lst []])
def evEs : Exs → Env → VH → Res (List PV)
  | .nil, _, vh => .ok [] vh
  | .cons e es, env, vh => (evE e env vh).bind fun p vh1 => (evEs es env vh1).bind fun ps vh2 => .ok (p :: ps) vh2
/-- a comprehension's tests: none or one -/
def evC : Exs → Env → VH → Res Bool
  | .nil, _, vh => .ok true vh
  | .cons e _, env, vh => (evE e env vh).bindN asB
def evI : It → Env → VH → Res Src
  | .val e, env, vh => (evE e env vh).bind fun p vh1 => match srcOf vh1 p with
    | some s => .ok s vh1
    | none => .stuck
  | .rng1 a, env, vh => (evE a env vh).bind fun p vh1 => match p with
    | .int j => match rngS 0 j with
      | some s => .ok s vh1
      | none => .stuck
    | _ => .stuck
  | .rng2 a b, env, vh => (evE a env vh).bind fun p vh1 => (evE b env vh1).bind fun q vh2 => match p, q with
    | .int i, .int j => match rngS i j with
      | some s => .ok s vh2
      | none => .stuck
    | _, _ => .stuck
  | .enum e, env, vh => (evE e env vh).bind fun p vh1 => match p with
    | .tup xs => .ok (.enum (.vals xs)) vh1
    | .ref a => (match vh1[a]? with
      | some (.lst _) => .ok (.enum (.ls a)) vh1
      | _ => .stuck)
    | _ => .stuck
  | .zip a b, env, vh => (evE a env vh).bind fun p vh1 => (evE b env vh1).bind fun q vh2 => match p, q with
    | .tup xs, .tup ys => .ok (.zip (.vals xs) (.vals ys)) vh2
    | .ref i, .ref j => (match vh2[i]?, vh2[j]? with
      | some (.lst _), some (.lst _) => .ok (.zip (.ls i) (.ls j)) vh2
      | _, _ => .stuck)
    | _, _ => .stuck
end
/-- how often a while may turn -/
def wfuel : Nat := 100000
mutual
def evS : Sm → Env → VH → Res Fl
  | .asg tg e, env, vh => (evE T call e env vh).bindS env fun p vh1 => match setTg vh1 tg p env with
    | some env1 => .ok (.nx env1) vh1
    | none => .stuck
  | .par i j a b, env, vh => (evEs T call (.cons a (.cons b .nil)) env vh).bindS env fun ps vh1 => match ps with
    | [p, q] => .ok (.nx (setEnv (setEnv env i p) j q)) vh1
    | _ => .stuck
  | .setf o f e, env, vh => (evE T call e env vh).bindS env fun p vh1 => (evE T call o env vh1).bindS env fun q vh2 => match setfP T q f p vh2 with
    | some vh3 => .ok (.nx env) vh3
    | none => .stuck
  | .seti o i e, env, vh => (evE T call e env vh).bindS env fun p vh1 => (evE T call o env vh1).bindS env fun q vh2 => (evE T call i env vh2).bindS env fun r vh3 => match setP q r p vh3 with
    | some vh4 => .ok (.nx env) vh4
    | none => .stuck
  | .aug i o e, env, vh => match env[i]? with
    | some (some p) => (evE T call e env vh).bindS env fun q vh1 => (Res.o (augop o p q vh1)).bindS env fun r vh2 => .ok (.nx (setEnv env i r)) vh2
    | _ => .stuck
  | .exp e, env, vh => (evE T call e env vh).bindS env fun _ vh1 => .ok (.nx env) vh1
  | .ret e, env, vh => (evE T call e env vh).bindS env fun p vh1 => .ok (.rt p) vh1
  | .retn, _, vh => .ok (.rt .non) vh
  | .ite t a b, env, vh => ((evE T call t env vh).bind asB).bindS env fun c vh1 => if c = true then evSs a env vh1 else evSs b env vh1
  | .whl t b, env, vh => whileLoop (evE T call t) (evSs b) wfuel env vh
  | .for tg it b, env, vh => (evI T call it env vh).bindS env fun src vh1 => forLoop src (fun p env vh => setTg vh tg p env) (evSs b) (src.len vh1) 0 env vh1
  | .rai _ _, _, _ => .stuck
  | .pass, env, vh => .ok (.nx env) vh
  | .cont, env, vh => .ok (.ct env) vh
  | .brk, env, vh => .ok (.bk env) vh
  | .never, _, _ => .stuck
def evSs : Sms → Env → VH → Res Fl
  | .nil, env, vh => .ok (.nx env) vh
  | .cons s r, env, vh => (evS s env vh).bind fun f vh1 => match f with
    | .nx e => evSs r e vh1
    | f => .ok f vh1
end
end
def runFn (T : Tab) (call : Nat → List PV → VH → Res PV) (fn : Fn) (ps : List PV) (vh : VH) : Res PV :=
  let qs := ps ++ fn.dfl.drop (fn.dfl.length + ps.length - fn.ps.length)
  if qs.length = fn.ps.length then
    (evSs T call fn.body (qs.map some ++ List.replicate (fn.N.length - qs.length) none) vh).bindN fun f vh1 => match f with
      | .nx _ => .ok .non vh1
      | .rt p => .ok p vh1
      | .ex c fs _ => .exc c fs vh1
      | _ => .stuck
  else .stuck
def callF (T : Tab) : Nat → Nat → List PV → VH → Res PV
  | 0, _, _, _ => .stuck
  | n + 1, f, ps, vh => match T.fns[f]? with
    | some fn => runFn T (callF T n) fn ps vh
    | none => .stuck
end Mini
end T_M1

section T_M2
set_option Elab.async false
set_option linter.all false
set_option autoImplicit false
/-! Mini: how the little language's values and objects stand for those of the hand layer. -/
namespace Mini
open PySem PySem.Spec PyProof.Rows L2

/-! ### heaps that go on: tuples and locked things stay -/
structure Ext (H H' : Hp) : Prop where
  tups : ∀ a xs, H a = some (.tup xs) → H' a = some (.tup xs)
  frzs : ∀ a o u, H a = some (.frz o u) → H' a = some (.frz o u)
theorem Ext.refl (H : Hp) : Ext H H := ⟨fun _ _ h => h, fun _ _ _ h => h⟩
theorem Ext.trans {H H1 H2 : Hp} (a : Ext H H1) (b : Ext H1 H2) : Ext H H2 := ⟨fun c xs h => b.tups c xs (a.tups c xs h), fun c o u h => b.frzs c o u (a.frzs c o u h)⟩
theorem Ext.new {H : Hp} {p : Addr} {o : HO} (h : H p = none) : Ext H (upd H p o) :=
  ⟨fun _ _ q => by rw [upd_ne (ne_of_none q h)]; exact q, fun _ _ _ q => by rw [upd_ne (ne_of_none q h)]; exact q⟩
def Soft : HO → Prop
  | .tup _ => False
  | .frz _ _ => False
  | _ => True
theorem Ext.put {H : Hp} {p : Addr} {o u : HO} (h : H p = some u) (s : Soft u) : Ext H (upd H p o) := by
  refine ⟨fun a xs q => ?_, fun a ob w q => ?_⟩ <;>
  · have hn : a ≠ p := fun e => by
      rw [e, h] at q
      cases q
      exact s
    rw [upd_ne hn]
    exact q
theorem Ext.sqT {K : PySem.W.Frag} {H H' : Hp} {a : Addr} {xs : List V} (e : Ext H H') (h : SqT K H a xs) : SqT K H' a xs := by
  rcases h with (h | ⟨o, h⟩) | h
  · exact .inl (.inl (e.tups _ _ h))
  · exact .inl (.inr ⟨o, e.frzs _ _ _ h⟩)
  · exact .inr h
/-- a list that nobody changes -/
def FzL (K : PySem.W.Frag) (H : Hp) (a : Addr) (xs : List V) : Prop :=
  (∃ o, H a = some (.frz o (.lst xs))) ∨
    ∃ (o : Obj) (its : Array Value) (n : Nat), K.lookup a = some o ∧ o.cls = .type "list" ∧ o.dict = none ∧ o.data = .seq its n ∧ its.size ≤ sizeLine ∧ Vals xs its.toList
theorem FzL.sq {K : PySem.W.Frag} {H : Hp} {a : Addr} {xs : List V} (h : FzL K H a xs) : SqL K H a xs := by
  rcases h with ⟨o, h⟩ | h
  · exact .inl (.inr ⟨o, h⟩)
  · exact .inr h
theorem Ext.fzL {K : PySem.W.Frag} {H H' : Hp} {a : Addr} {xs : List V} (e : Ext H H') (h : FzL K H a xs) : FzL K H' a xs := by
  rcases h with ⟨o, h⟩ | h
  · exact .inl ⟨o, e.frzs _ _ _ h⟩
  · exact .inr h

/-! ### values -/
section
variable (K : PySem.W.Frag)
mutual
inductive RP (ρ : List Addr) (H : Hp) : PV → V → Prop
  | non : RP ρ H .non .non
  | bl (b : Bool) : RP ρ H (.bl b) (.bl b)
  | int (i : Int) : RP ρ H (.int i) (.int i)
  | str (s : Str) : RP ρ H (.str s) (.str s)
  | ref {i : Nat} {a : Addr} : ρ[i]? = some a → RP ρ H (.ref i) (.ref a)
  | tup {xs : List PV} {a : Addr} {vs : List V} : SqT K H a vs → RPs ρ H xs vs → RP ρ H (.tup xs) (.ref a)
  | fl {xs : List PV} {a : Addr} {vs : List V} : FzL K H a vs → RPs ρ H xs vs → RP ρ H (.fl xs) (.ref a)
inductive RPs (ρ : List Addr) (H : Hp) : List PV → List V → Prop
  | nil : RPs ρ H [] []
  | cons {p : PV} {ps : List PV} {v : V} {vs : List V} : RP ρ H p v → RPs ρ H ps vs → RPs ρ H (p :: ps) (v :: vs)
end
end
section
variable {K : PySem.W.Frag} {ρ ρ' : List Addr} {H H' : Hp}
theorem pre_get {ρ ρ' : List Addr} (h : ρ <+: ρ') {i : Nat} {a : Addr} (e : ρ[i]? = some a) : ρ'[i]? = some a := by
  obtain ⟨t, rfl⟩ := h
  obtain ⟨hi, _⟩ := List.getElem?_eq_some_iff.mp e
  rw [List.getElem?_append_left hi]
  exact e
mutual
theorem RP.mono (hp : ρ <+: ρ') (hx : Ext H H') : ∀ {p : PV} {v : V}, RP K ρ H p v → RP K ρ' H' p v
  | _, _, .non => .non
  | _, _, .bl b => .bl b
  | _, _, .int i => .int i
  | _, _, .str s => .str s
  | _, _, .ref e => .ref (pre_get hp e)
  | _, _, .tup h r => .tup (hx.sqT h) (RPs.mono hp hx r)
  | _, _, .fl h r => .fl (hx.fzL h) (RPs.mono hp hx r)
theorem RPs.mono (hp : ρ <+: ρ') (hx : Ext H H') : ∀ {ps : List PV} {vs : List V}, RPs K ρ H ps vs → RPs K ρ' H' ps vs
  | _, _, .nil => .nil
  | _, _, .cons r t => .cons (RP.mono hp hx r) (RPs.mono hp hx t)
end
theorem RPs.length : ∀ {ps : List PV} {vs : List V}, RPs K ρ H ps vs → ps.length = vs.length
  | _, _, .nil => rfl
  | _, _, .cons _ t => congrArg Nat.succ (RPs.length t)
theorem RPs.append : ∀ {ps qs : List PV} {vs ws : List V}, RPs K ρ H ps vs → RPs K ρ H qs ws → RPs K ρ H (ps ++ qs) (vs ++ ws)
  | _, _, _, _, .nil, s => s
  | _, _, _, _, .cons r t, s => .cons r (RPs.append t s)
theorem RPs.get : ∀ {ps : List PV} {vs : List V} {i : Nat} {p : PV}, RPs K ρ H ps vs → ps[i]? = some p → ∃ v, vs[i]? = some v ∧ RP K ρ H p v
  | _, _, _, _, .nil, e => by simp at e
  | _, _, 0, _, .cons r _, e => by simp at e; subst e; exact ⟨_, rfl, r⟩
  | _, _, i + 1, p, .cons _ t, e => by
    obtain ⟨u, h1, h2⟩ := RPs.get (i := i) (p := p) t (by simpa using e)
    exact ⟨u, by simpa using h1, h2⟩
theorem RPs.set {p : PV} {v : V} (r : RP K ρ H p v) : ∀ {ps : List PV} {vs : List V} (i : Nat), RPs K ρ H ps vs → RPs K ρ H (ps.set i p) (vs.set i v)
  | _, _, _, .nil => .nil
  | _, _, 0, .cons _ t => .cons r t
  | _, _, i + 1, .cons q t => .cons q (RPs.set r i t)
theorem RPs.take : ∀ {ps : List PV} {vs : List V} (n : Nat), RPs K ρ H ps vs → RPs K ρ H (ps.take n) (vs.take n)
  | _, _, 0, _ => .nil
  | _, _, _ + 1, .nil => .nil
  | _, _, n + 1, .cons r t => .cons r (RPs.take n t)
theorem RPs.drop : ∀ {ps : List PV} {vs : List V} (n : Nat), RPs K ρ H ps vs → RPs K ρ H (ps.drop n) (vs.drop n)
  | _, _, 0, r => r
  | _, _, _ + 1, .nil => .nil
  | _, _, n + 1, .cons _ t => RPs.drop n t
theorem RPs.eraseIdx : ∀ {ps : List PV} {vs : List V} (n : Nat), RPs K ρ H ps vs → RPs K ρ H (ps.eraseIdx n) (vs.eraseIdx n)
  | _, _, _, .nil => .nil
  | _, _, 0, .cons _ t => t
  | _, _, n + 1, .cons r t => .cons r (RPs.eraseIdx n t)
theorem RPs.none_of {ps : List PV} {vs : List V} {i : Nat} (r : RPs K ρ H ps vs) (e : ps[i]? = none) : vs[i]? = none := by
  have h1 := r.length
  have h2 : ps.length ≤ i := List.getElem?_eq_none_iff.mp e
  exact List.getElem?_eq_none_iff.mpr (by omega)
end

theorem nodup_at {ρ : List Addr} (hN : ρ.Nodup) {i j : Nat} {x : Addr} (a : ρ[i]? = some x) (b : ρ[j]? = some x) : i = j := by
  obtain ⟨h1, e1⟩ := List.getElem?_eq_some_iff.mp a
  obtain ⟨h2, e2⟩ := List.getElem?_eq_some_iff.mp b
  exact (List.getElem_inj hN).mp (e1.trans e2.symm)

/-! ### objects -/
abbrev RFs (K : PySem.W.Frag) (ρ : List Addr) (H : Hp) : List (Str × PV) → List (Str × V) → Prop := Paired fun p q => p.1 = q.1 ∧ RP K ρ H p.2 q.2
abbrev RKs (K : PySem.W.Frag) (ρ : List Addr) (H : Hp) : List (Key × PV) → List (Key × V) → Prop := Paired fun p q => p.1 = q.1 ∧ RP K ρ H p.2 q.2
def RO (K : PySem.W.Frag) (CA : Nat → Addr) (ρ : List Addr) (H : Hp) : VO → Addr → Prop
  | .lst ps, a => ∃ vs, H a = some (.lst vs) ∧ RPs K ρ H ps vs
  | .dct kvs, a => ∃ ws, H a = some (.dK ws) ∧ RKs K ρ H kvs ws
  | .ins c fs, a => ∃ dx gs, H a = some (.ins (CA c) dx gs) ∧ RFs K ρ H fs gs
structure RH (K : PySem.W.Frag) (CA : Nat → Addr) (ρ : List Addr) (vh : VH) (H : Hp) : Prop where
  len : ρ.length = vh.length
  nd : ρ.Nodup
  get : ∀ (i : Nat) (o : VO) (a : Addr), vh[i]? = some o → ρ[i]? = some a → RO K CA ρ H o a
section
variable {K : PySem.W.Frag} {CA : Nat → Addr} {ρ ρ' : List Addr} {H H' : Hp} {vh : VH}
theorem RFs.mono {fs : List (Str × PV)} {gs : List (Str × V)} (hp : ρ <+: ρ') (hx : Ext H H') (r : RFs K ρ H fs gs) : RFs K ρ' H' fs gs := Paired.mapP r fun _ _ z => ⟨z.1, z.2.mono hp hx⟩
theorem RKs.mono {fs : List (Key × PV)} {gs : List (Key × V)} (hp : ρ <+: ρ') (hx : Ext H H') (r : RKs K ρ H fs gs) : RKs K ρ' H' fs gs := Paired.mapP r fun _ _ z => ⟨z.1, z.2.mono hp hx⟩
theorem RO.some {o : VO} {a : Addr} (r : RO K CA ρ H o a) : ∃ u, H a = some u ∧ Soft u := by
  cases o with
  | lst ps => obtain ⟨vs, e, _⟩ := r; exact ⟨_, e, trivial⟩
  | dct kvs => obtain ⟨ws, e, _⟩ := r; exact ⟨_, e, trivial⟩
  | ins c fs => obtain ⟨dx, gs, e, _⟩ := r; exact ⟨_, e, trivial⟩
theorem RO.keep {o : VO} {a : Addr} (hp : ρ <+: ρ') (hx : Ext H H') (e : H' a = H a) (r : RO K CA ρ H o a) : RO K CA ρ' H' o a := by
  cases o with
  | lst ps => obtain ⟨vs, q, t⟩ := r; exact ⟨vs, e.trans q, t.mono hp hx⟩
  | dct kvs => obtain ⟨ws, q, t⟩ := r; exact ⟨ws, e.trans q, t.mono hp hx⟩
  | ins c fs => obtain ⟨dx, gs, q, t⟩ := r; exact ⟨dx, gs, e.trans q, t.mono hp hx⟩
theorem RH.addr (h : RH K CA ρ vh H) {i : Nat} {o : VO} (e : vh[i]? = Option.some o) : ∃ a, ρ[i]? = Option.some a ∧ RO K CA ρ H o a := by
  obtain ⟨hi, _⟩ := List.getElem?_eq_some_iff.mp e
  have hr : i < ρ.length := by rw [h.len]; exact hi
  exact ⟨ρ[i], List.getElem?_eq_getElem hr, h.get i o _ e (List.getElem?_eq_getElem hr)⟩
theorem RH.obj (h : RH K CA ρ vh H) {i : Nat} {a : Addr} (e : ρ[i]? = Option.some a) : ∃ o, vh[i]? = Option.some o ∧ RO K CA ρ H o a := by
  obtain ⟨hi, _⟩ := List.getElem?_eq_some_iff.mp e
  have hr : i < vh.length := by rw [← h.len]; exact hi
  exact ⟨vh[i], List.getElem?_eq_getElem hr, h.get i _ a (List.getElem?_eq_getElem hr) e⟩
theorem RH.notIn (h : RH K CA ρ vh H) {p : Addr} (n : H p = none) : p ∉ ρ := fun hm => by
  obtain ⟨i, hi⟩ := List.getElem?_of_mem hm
  obtain ⟨o, _, r⟩ := h.obj hi
  obtain ⟨u, e, _⟩ := r.some
  rw [n] at e
  cases e
/-- what is no object of ours may be new: a tuple, a dict of an instance .. -/
theorem RH.side (h : RH K CA ρ vh H) {p : Addr} {u : HO} (n : H p = none) : RH K CA ρ vh (upd H p u) :=
  ⟨h.len, h.nd, fun i o a e1 e2 => by
    have r := h.get i o a e1 e2
    obtain ⟨w, q, _⟩ := r.some
    exact r.keep (List.prefix_refl _) (Ext.new n) (upd_ne (ne_of_none q n))⟩
theorem RH.new (h : RH K CA ρ vh H) {p : Addr} {u : HO} {o : VO} (n : H p = none) (r : RO K CA (ρ ++ [p]) (upd H p u) o p) : RH K CA (ρ ++ [p]) (vh ++ [o]) (upd H p u) := by
  refine ⟨by simp [h.len], ?_, fun i ob a e1 e2 => ?_⟩
  · rw [List.nodup_append]
    refine ⟨h.nd, by simp, fun x hx y hy => ?_⟩
    have : y = p := by simpa using hy
    subst this
    exact fun e => h.notIn n (e ▸ hx)
  · by_cases hi : i < vh.length
    · rw [List.getElem?_append_left hi] at e1
      rw [List.getElem?_append_left (by rw [h.len]; exact hi)] at e2
      have q := h.get i ob a e1 e2
      obtain ⟨w, z, _⟩ := q.some
      exact q.keep (List.prefix_append _ _) (Ext.new n) (upd_ne (ne_of_none z n))
    · have hl : i = vh.length := by
        have := (List.getElem?_eq_some_iff.mp e1).1
        simp at this
        omega
      subst hl
      rw [List.getElem?_append_right (Nat.le_refl _)] at e1
      rw [List.getElem?_append_right (by rw [h.len]; exact Nat.le_refl _), h.len] at e2
      simp at e1 e2
      subst e1 e2
      exact r
/-- the object i is changed -/
theorem RH.put (h : RH K CA ρ vh H) {i : Nat} {p : Addr} {u : HO} {o : VO} (e : ρ[i]? = Option.some p) (r : RO K CA ρ (upd H p u) o p) : RH K CA ρ (vh.set i o) (upd H p u) := by
  obtain ⟨o0, q0, r0⟩ := h.obj e
  obtain ⟨w, z, sw⟩ := r0.some
  refine ⟨by simp [h.len], h.nd, fun j ob a e1 e2 => ?_⟩
  by_cases hj : j = i
  · subst hj
    rw [e] at e2
    cases e2
    rw [List.getElem?_set_self (List.getElem?_eq_some_iff.mp q0).1] at e1
    cases e1
    exact r
  · rw [List.getElem?_set_ne (Ne.symm hj)] at e1
    have q := h.get j ob a e1 e2
    have hn : a ≠ p := fun z => hj (nodup_at h.nd e2 (z ▸ e))
    exact q.keep (List.prefix_refl _) (Ext.put z sw) (upd_ne hn)
end

/-! ### slots -/
structure RE (K : PySem.W.Frag) (ρ : List Addr) (H : Hp) (env : Env) (σ : L2.St) : Prop where
  len : env.length = σ.length
  get : ∀ (i : Nat) (p : PV), env[i]? = some (some p) → ∃ v, σ[i]? = some (some v) ∧ RP K ρ H p v
section
variable {K : PySem.W.Frag} {ρ ρ' : List Addr} {H H' : Hp} {env : Env} {σ : L2.St}
theorem RE.mono (hp : ρ <+: ρ') (hx : Ext H H') (r : RE K ρ H env σ) : RE K ρ' H' env σ := ⟨r.len, fun i p e => let ⟨v, a, b⟩ := r.get i p e; ⟨v, a, b.mono hp hx⟩⟩
theorem RE.set (r : RE K ρ H env σ) {i : Nat} {p : PV} {v : V} (q : RP K ρ H p v) : RE K ρ H (setEnv env i p) (σ.set i (some v)) := by
  refine ⟨by simp [setEnv, r.len], fun j p' e => ?_⟩
  unfold setEnv at e
  by_cases hj : j = i
  · subst hj
    by_cases hl : j < env.length
    · rw [List.getElem?_set_self hl] at e
      cases e
      exact ⟨v, List.getElem?_set_self (by rw [← r.len]; exact hl), q⟩
    · rw [List.getElem?_eq_none (by simpa using hl)] at e
      cases e
  · rw [List.getElem?_set_ne (Ne.symm hj)] at e
    rw [List.getElem?_set_ne (Ne.symm hj)]
    exact r.get j p' e
theorem RE.unset (r : RE K ρ H env σ) {i : Nat} : RE K ρ H (env.set i none) (σ.set i none) := by
  refine ⟨by simp [r.len], fun j p' e => ?_⟩
  by_cases hj : j = i
  · subst hj
    by_cases hl : j < env.length
    · rw [List.getElem?_set_self hl] at e
      cases e
    · rw [List.getElem?_eq_none (by simpa using hl)] at e
      cases e
  · rw [List.getElem?_set_ne (Ne.symm hj)] at e
    rw [List.getElem?_set_ne (Ne.symm hj)]
    exact r.get j p' e
theorem RE.wipe (r : RE K ρ H env σ) : ∀ vs : List Nat, RE K ρ H (wipeE env vs) (wipe σ vs)
  | [] => r
  | _ :: vs => (RE.wipe r vs).unset
end

/-! ### outcomes -/
section
variable (K : PySem.W.Frag) (CA : Nat → Addr)
def Out (W : WX) (σ : L2.St) (ρ : List Addr) (H : Hp) (r : Res PV) (Q : VK) : Prop := match r with
  | .ok p vh => ∀ ρ' H' v, ρ <+: ρ' → Ext H H' → RH K CA ρ' vh H' → RP K ρ' H' p v → Q v H'
  | .exc c fs vh => ∀ ρ' H' d gs, ρ <+: ρ' → Ext H H' → RH K CA ρ' vh H' → H' d = some (.xd gs) → RFs K ρ' H' fs gs → W (.ref (CA c)) (some d) σ H'
  | .stuck => False
def OutA (W : WX) (σ : L2.St) (ρ : List Addr) (H : Hp) (r : Res (List PV)) (Q : List V → Hp → Prop) : Prop := match r with
  | .ok p vh => ∀ ρ' H' v, ρ <+: ρ' → Ext H H' → RH K CA ρ' vh H' → RPs K ρ' H' p v → Q v H'
  | .exc c fs vh => ∀ ρ' H' d gs, ρ <+: ρ' → Ext H H' → RH K CA ρ' vh H' → H' d = some (.xd gs) → RFs K ρ' H' fs gs → W (.ref (CA c)) (some d) σ H'
  | .stuck => False
/-- .. of anything that no value stands for -/
def OutU {α : Type} (W : WX) (σ : L2.St) (ρ : List Addr) (H : Hp) (r : Res α) (Q : α → List Addr → VH → Hp → Prop) : Prop := match r with
  | .ok a vh => ∀ ρ' H', ρ <+: ρ' → Ext H H' → RH K CA ρ' vh H' → Q a ρ' vh H'
  | .exc c fs vh => ∀ ρ' H' d gs, ρ <+: ρ' → Ext H H' → RH K CA ρ' vh H' → H' d = some (.xd gs) → RFs K ρ' H' fs gs → W (.ref (CA c)) (some d) σ H'
  | .stuck => False
end
section
variable {K : PySem.W.Frag} {CA : Nat → Addr} {W : WX} {σ : L2.St} {ρ ρ1 : List Addr} {H H1 : Hp}
theorem Out.mono {r : Res PV} {Q : VK} (hp : ρ <+: ρ1) (hx : Ext H H1) (h : Out K CA W σ ρ H r Q) : Out K CA W σ ρ1 H1 r Q := by
  cases r with
  | ok p vh => exact fun ρ' H' v a b => h ρ' H' v (hp.trans a) (hx.trans b)
  | exc c fs vh => exact fun ρ' H' d gs a b => h ρ' H' d gs (hp.trans a) (hx.trans b)
  | stuck => exact h
theorem OutA.mono {r : Res (List PV)} {Q : List V → Hp → Prop} (hp : ρ <+: ρ1) (hx : Ext H H1) (h : OutA K CA W σ ρ H r Q) : OutA K CA W σ ρ1 H1 r Q := by
  cases r with
  | ok p vh => exact fun ρ' H' v a b => h ρ' H' v (hp.trans a) (hx.trans b)
  | exc c fs vh => exact fun ρ' H' d gs a b => h ρ' H' d gs (hp.trans a) (hx.trans b)
  | stuck => exact h
theorem OutU.mono {α : Type} {r : Res α} {Q : α → List Addr → VH → Hp → Prop} (hp : ρ <+: ρ1) (hx : Ext H H1) (h : OutU K CA W σ ρ H r Q) : OutU K CA W σ ρ1 H1 r Q := by
  cases r with
  | ok p vh => exact fun ρ' H' a b => h ρ' H' (hp.trans a) (hx.trans b)
  | exc c fs vh => exact fun ρ' H' d gs a b => h ρ' H' d gs (hp.trans a) (hx.trans b)
  | stuck => exact h
/-- one step: what follows is known of each end -/
theorem Out.step {r : Res PV} {f : PV → VH → Res PV} {Q R : VK} (h : Out K CA W σ ρ H (r.bind f) Q)
    (k : ∀ p vh1 ρ1 H1 v, r = .ok p vh1 → ρ <+: ρ1 → Ext H H1 → RH K CA ρ1 vh1 H1 → RP K ρ1 H1 p v → Out K CA W σ ρ1 H1 (f p vh1) Q → R v H1) : Out K CA W σ ρ H r R := by
  cases r with
  | ok p vh => exact fun ρ' H' v a b c d => k p vh ρ' H' v rfl a b c d (Out.mono a b h)
  | exc c fs vh => exact h
  | stuck => exact h
theorem Out.stepA {r : Res (List PV)} {f : List PV → VH → Res PV} {Q : VK} {R : List V → Hp → Prop} (h : Out K CA W σ ρ H (r.bind f) Q)
    (k : ∀ p vh1 ρ1 H1 v, r = .ok p vh1 → ρ <+: ρ1 → Ext H H1 → RH K CA ρ1 vh1 H1 → RPs K ρ1 H1 p v → Out K CA W σ ρ1 H1 (f p vh1) Q → R v H1) : OutA K CA W σ ρ H r R := by
  cases r with
  | ok p vh => exact fun ρ' H' v a b c d => k p vh ρ' H' v rfl a b c d (Out.mono a b h)
  | exc c fs vh => exact h
  | stuck => exact h
theorem OutA.step {r : Res PV} {f : PV → VH → Res (List PV)} {Q : List V → Hp → Prop} {R : VK} (h : OutA K CA W σ ρ H (r.bind f) Q)
    (k : ∀ p vh1 ρ1 H1 v, r = .ok p vh1 → ρ <+: ρ1 → Ext H H1 → RH K CA ρ1 vh1 H1 → RP K ρ1 H1 p v → OutA K CA W σ ρ1 H1 (f p vh1) Q → R v H1) : Out K CA W σ ρ H r R := by
  cases r with
  | ok p vh => exact fun ρ' H' v a b c d => k p vh ρ' H' v rfl a b c d (OutA.mono a b h)
  | exc c fs vh => exact h
  | stuck => exact h
theorem OutA.stepA {r : Res (List PV)} {f : List PV → VH → Res (List PV)} {Q R : List V → Hp → Prop} (h : OutA K CA W σ ρ H (r.bind f) Q)
    (k : ∀ p vh1 ρ1 H1 v, r = .ok p vh1 → ρ <+: ρ1 → Ext H H1 → RH K CA ρ1 vh1 H1 → RPs K ρ1 H1 p v → OutA K CA W σ ρ1 H1 (f p vh1) Q → R v H1) : OutA K CA W σ ρ H r R := by
  cases r with
  | ok p vh => exact fun ρ' H' v a b c d => k p vh ρ' H' v rfl a b c d (OutA.mono a b h)
  | exc c fs vh => exact h
  | stuck => exact h
theorem OutU.step {α : Type} {r : Res PV} {f : PV → VH → Res α} {Q : α → List Addr → VH → Hp → Prop} {R : VK} (h : OutU K CA W σ ρ H (r.bind f) Q)
    (k : ∀ p vh1 ρ1 H1 v, r = .ok p vh1 → ρ <+: ρ1 → Ext H H1 → RH K CA ρ1 vh1 H1 → RP K ρ1 H1 p v → OutU K CA W σ ρ1 H1 (f p vh1) Q → R v H1) : Out K CA W σ ρ H r R := by
  cases r with
  | ok p vh => exact fun ρ' H' v a b c d => k p vh ρ' H' v rfl a b c d (OutU.mono a b h)
  | exc c fs vh => exact h
  | stuck => exact h
theorem OutU.stepA {α : Type} {r : Res (List PV)} {f : List PV → VH → Res α} {Q : α → List Addr → VH → Hp → Prop} {R : List V → Hp → Prop} (h : OutU K CA W σ ρ H (r.bind f) Q)
    (k : ∀ p vh1 ρ1 H1 v, r = .ok p vh1 → ρ <+: ρ1 → Ext H H1 → RH K CA ρ1 vh1 H1 → RPs K ρ1 H1 p v → OutU K CA W σ ρ1 H1 (f p vh1) Q → R v H1) : OutA K CA W σ ρ H r R := by
  cases r with
  | ok p vh => exact fun ρ' H' v a b c d => k p vh ρ' H' v rfl a b c d (OutU.mono a b h)
  | exc c fs vh => exact h
  | stuck => exact h
theorem OutU.stepU {α β : Type} {r : Res α} {f : α → VH → Res β} {Q : β → List Addr → VH → Hp → Prop} {R : α → List Addr → VH → Hp → Prop} (h : OutU K CA W σ ρ H (r.bind f) Q)
    (k : ∀ p vh1 ρ1 H1, r = .ok p vh1 → ρ <+: ρ1 → Ext H H1 → RH K CA ρ1 vh1 H1 → OutU K CA W σ ρ1 H1 (f p vh1) Q → R p ρ1 vh1 H1) : OutU K CA W σ ρ H r R := by
  cases r with
  | ok p vh => exact fun ρ' H' a b c => k p vh ρ' H' rfl a b c (OutU.mono a b h)
  | exc c fs vh => exact h
  | stuck => exact h
theorem Out.stepU {α : Type} {r : Res α} {f : α → VH → Res PV} {Q : VK} {R : α → List Addr → VH → Hp → Prop} (h : Out K CA W σ ρ H (r.bind f) Q)
    (k : ∀ p vh1 ρ1 H1, r = .ok p vh1 → ρ <+: ρ1 → Ext H H1 → RH K CA ρ1 vh1 H1 → Out K CA W σ ρ1 H1 (f p vh1) Q → R p ρ1 vh1 H1) : OutU K CA W σ ρ H r R := by
  cases r with
  | ok p vh => exact fun ρ' H' a b c => k p vh ρ' H' rfl a b c (Out.mono a b h)
  | exc c fs vh => exact h
  | stuck => exact h
end
end Mini
end T_M2

section T_M3
set_option Elab.async false
set_option linter.all false
set_option autoImplicit false
/-! Mini: the operations, by values. -/
namespace Mini
open PySem PySem.Spec PyProof.Rows L2

section
variable (K : PySem.W.Frag) (CA : Nat → Addr)
def OutO (ρ : List Addr) (H : Hp) (r : Option (PV × VH)) (Q : VK) : Prop := match r with
  | some (p, vh) => ∀ ρ' H' v, ρ <+: ρ' → Ext H H' → RH K CA ρ' vh H' → RP K ρ' H' p v → Q v H'
  | none => False
def OutB (ρ : List Addr) (H : Hp) (vh : VH) (r : Option Bool) (Q : VK) : Prop := match r with
  | some b => Q (.bl b) H
  | none => False
def rB (f : PV → PV → VH → Option (PV × VH)) : R2 := fun x y H Q => ∃ ρ vh p q, RH K CA ρ vh H ∧ RP K ρ H p x ∧ RP K ρ H q y ∧ OutO K CA ρ H (f p q vh) Q
def rC (f : PV → PV → VH → Option Bool) : R2 := fun x y H Q => ∃ ρ vh p q, RH K CA ρ vh H ∧ RP K ρ H p x ∧ RP K ρ H q y ∧ OutB ρ H vh (f p q vh) Q
end
section
variable {K : PySem.W.Frag} {CA : Nat → Addr} {ρ : List Addr} {H : Hp} {vh : VH} {Q : VK} {W : WX} {σ : L2.St}
theorem Out.o {r : Option (PV × VH)} (h : Out K CA W σ ρ H (Res.o r) Q) : OutO K CA ρ H r Q := by
  cases r with
  | none => exact h
  | some a => exact h
theorem Out.b {r : Option Bool} (hH : RH K CA ρ vh H) (h : Out K CA W σ ρ H (Res.ofB r vh) Q) : OutB ρ H vh r Q := by
  cases r with
  | none => exact h
  | some b => exact h ρ H _ (List.prefix_refl _) (Ext.refl _) hH (.bl b)
/-- the heap stays -/
theorem OutO.here {p : PV} {v : V} (h : OutO K CA ρ H (some (p, vh)) Q) (hH : RH K CA ρ vh H) (r : RP K ρ H p v) : Q v H := h ρ H v (List.prefix_refl _) (Ext.refl _) hH r
/-- a new tuple -/
theorem OutO.tup {xs : List PV} {vs : List V} (h : OutO K CA ρ H (some (.tup xs, vh)) Q) (hH : RH K CA ρ vh H) (r : RPs K ρ H xs vs) : ∀ p, H p = none → Q (.ref p) (upd H p (.tup vs)) := fun p n =>
  h ρ _ _ (List.prefix_refl _) (Ext.new n) (hH.side n) (.tup (SqT.of upd_same) (r.mono (List.prefix_refl _) (Ext.new n)))
/-- a new list -/
theorem OutO.lst {xs : List PV} {vs : List V} (h : OutO K CA ρ H (alloc (.lst xs) vh) Q) (hH : RH K CA ρ vh H) (r : RPs K ρ H xs vs) : ∀ p, H p = none → Q (.ref p) (upd H p (.lst vs)) := fun p n => by
  have hr : RPs K (ρ ++ [p]) (upd H p (.lst vs)) xs vs := r.mono (List.prefix_append _ _) (Ext.new n)
  refine h (ρ ++ [p]) _ _ (List.prefix_append _ _) (Ext.new n) (hH.new n ⟨vs, upd_same, hr⟩) (.ref ?_)
  rw [← hH.len]
  simp
theorem OutO.newL {xs : List PV} {vs : List V} (h : OutO K CA ρ H (newL xs vh) Q) (hH : RH K CA ρ vh H) (r : RPs K ρ H xs vs) : vs.length ≤ sizeLine ∧ ∀ p, H p = none → Q (.ref p) (upd H p (.lst vs)) := by
  unfold Mini.newL at h
  split at h
  · rename_i hl
    exact ⟨by rw [← r.length]; exact hl, h.lst hH r⟩
  · exact h.elim
theorem OutO.newT {xs : List PV} {vs : List V} (h : OutO K CA ρ H (newT xs vh) Q) (hH : RH K CA ρ vh H) (r : RPs K ρ H xs vs) : vs.length ≤ sizeLine ∧ ∀ p, H p = none → Q (.ref p) (upd H p (.tup vs)) := by
  unfold Mini.newT at h
  split at h
  · rename_i hl
    exact ⟨by rw [← r.length]; exact hl, h.tup hH r⟩
  · exact h.elim
/-- what stands at a reference -/
theorem RH.lst {i : Nat} {xs : List PV} {v : V} (hH : RH K CA ρ vh H) (e : vh[i]? = some (.lst xs)) (r : RP K ρ H (.ref i) v) : ∃ a vs, v = .ref a ∧ ρ[i]? = some a ∧ H a = some (.lst vs) ∧ RPs K ρ H xs vs := by
  cases r with
  | @ref _ a q =>
    obtain ⟨vs, e1, r1⟩ := hH.get i _ a e q
    exact ⟨a, vs, rfl, q, e1, r1⟩
theorem RH.dct {i : Nat} {xs : List (Key × PV)} {v : V} (hH : RH K CA ρ vh H) (e : vh[i]? = some (.dct xs)) (r : RP K ρ H (.ref i) v) : ∃ a vs, v = .ref a ∧ ρ[i]? = some a ∧ H a = some (.dK vs) ∧ RKs K ρ H xs vs := by
  cases r with
  | @ref _ a q =>
    obtain ⟨vs, e1, r1⟩ := hH.get i _ a e q
    exact ⟨a, vs, rfl, q, e1, r1⟩
theorem RH.ins {i c : Nat} {xs : List (Str × PV)} {v : V} (hH : RH K CA ρ vh H) (e : vh[i]? = some (.ins c xs)) (r : RP K ρ H (.ref i) v) : ∃ a dx vs, v = .ref a ∧ ρ[i]? = some a ∧ H a = some (.ins (CA c) dx vs) ∧ RFs K ρ H xs vs := by
  cases r with
  | @ref _ a q =>
    obtain ⟨dx, vs, e1, r1⟩ := hH.get i _ a e q
    exact ⟨a, dx, vs, rfl, q, e1, r1⟩
end

/-! ### arithmetic -/
section
variable {X : Cx} {CA : Nat → Addr}
theorem opr_add : OpR X (binaryOp .Add) (rB X.K CA addP) := by
  intro pins s σ H x y v u Q I rx ry h
  obtain ⟨ρ, vh, p, q, hH, rp, rq, h⟩ := h
  cases p with
  | int i =>
    cases q with
    | int j =>
      cases rp; cases rq
      exact op_add pins s σ H _ _ v u Q I rx ry ⟨i, j, rfl, rfl, h.here hH (.int _)⟩
    | _ => exact h.elim
  | str a =>
    cases q with
    | str b =>
      cases rp; cases rq
      unfold addP at h
      dsimp only at h
      split at h
      · exact (op_add_str pins s σ H _ _ v u Q I rx ry ⟨a, b, rfl, rfl, by assumption, h.here hH (.str _)⟩)
      · exact h.elim
    | _ => exact h.elim
  | tup xs =>
    cases q with
    | tup ys =>
      cases rp with
      | @tup _ a vs ha ra =>
        cases rq with
        | @tup _ b ws hb rb =>
          unfold addP at h
          dsimp only at h
          split at h
          · rename_i hl
            refine op_catA pins s σ H _ _ v u Q I rx ry ⟨a, b, vs, ws, rfl, rfl, ha, hb, ?_, fun e => ?_, fun _ e => ?_, fun _ _ => ?_⟩
            · rw [← ra.length, ← rb.length]; exact hl
            · subst e
              cases ra
              exact h.here hH (.tup hb rb)
            · subst e
              cases rb
              rw [List.append_nil] at h
              exact h.here hH (.tup ha ra)
            · exact h.tup hH (ra.append rb)
          · exact h.elim
    | _ => exact h.elim
  | ref i =>
    cases q with
    | ref j =>
      unfold addP at h
      dsimp only at h
      split at h
      · rename_i xs ys e1 e2
        obtain ⟨a, vs, rfl, _, ea, ra⟩ := hH.lst e1 rp
        obtain ⟨b, ws, rfl, _, eb, rb⟩ := hH.lst e2 rq
        obtain ⟨hl, hq⟩ := h.newL hH (ra.append rb)
        exact op_cat pins s σ H _ _ v u Q I rx ry ⟨a, b, vs, ws, rfl, rfl, ea, eb, by simpa using hl, hq⟩
      · exact h.elim
    | _ => exact h.elim
  | _ => exact h.elim
theorem opr_int {o : Operator} {C : Int → Int → Prop} {ok : Int → Int → Bool} {g : Int → Int → Int} (rule : OpR X (binaryOp o) (rI C fun i j => .int (g i j))) (hc : ∀ i j, ok i j = true → C i j) : OpR X (binaryOp o) (rB X.K CA (intP ok g)) := by
  intro pins s σ H x y v u Q I rx ry h
  obtain ⟨ρ, vh, p, q, hH, rp, rq, h⟩ := h
  cases p with
  | int i =>
    cases q with
    | int j =>
      cases rp; cases rq
      unfold intP at h
      dsimp only at h
      split at h
      · exact rule pins s σ H _ _ v u Q I rx ry ⟨i, j, rfl, rfl, hc i j (by assumption), h.here hH (.int _)⟩
      · exact h.elim
    | _ => exact h.elim
  | _ => exact h.elim
theorem opr_mul : OpR X (binaryOp .Mult) (rB X.K CA mulP) := by
  intro pins s σ H x y v u Q I rx ry h
  obtain ⟨ρ, vh, p, q, hH, rp, rq, h⟩ := h
  cases p with
  | int i =>
    cases q with
    | int j =>
      cases rp; cases rq
      unfold mulP at h
      dsimp only at h
      split at h
      · rename_i hc
        refine op_mul pins s σ H _ _ v u Q I rx ry ⟨i, j, rfl, rfl, ?_, h.here hH (.int _)⟩
        simp only [small64, Bool.or_eq_true, Bool.and_eq_true, decide_eq_true_eq] at hc
        exact hc
      · exact h.elim
    | _ => exact h.elim
  | ref i =>
    cases q with
    | int k =>
      cases rq
      unfold mulP at h
      dsimp only at h
      split at h
      · rename_i xs e1
        obtain ⟨a, vs, rfl, _, ea, ra⟩ := hH.lst e1 rp
        split at h
        · rename_i hc
          have rr : ∀ n : Nat, RPs X.K ρ H (List.replicate n xs).flatten (List.replicate n vs).flatten := by
            intro n
            induction n with
            | zero => exact .nil
            | succ n ih => rw [List.replicate_succ, List.replicate_succ, List.flatten_cons, List.flatten_cons]; exact ra.append ih
          obtain ⟨hl, hq⟩ := h.newL hH (rr k.toNat)
          exact op_rep pins s σ H _ _ v u Q I rx ry ⟨a, k, vs, rfl, rfl, ea, hc.2.1, hc.1, by rw [← ra.length]; exact hc.2.2, hq⟩
        · exact h.elim
      · exact h.elim
    | _ => exact h.elim
  | _ => exact h.elim
theorem opr_bin (o : Operator) : OpR X (binaryOp o) (rB X.K CA (binop o)) := by
  cases o with
  | Add => exact opr_add
  | Mult => exact opr_mul
  | Sub =>
    refine opr_int (C := fun _ _ => True) (ok := fun _ _ => true) (g := fun i j => i - j) ?_ fun _ _ _ => trivial
    intro pins s σ H x y v u Q I rx ry ⟨i, j, e1, e2, _, q⟩
    exact op_sub pins s σ H x y v u Q I rx ry ⟨i, j, e1, e2, q⟩
  | FloorDiv =>
    refine opr_int (ok := fun _ j => decide (0 < j) && decide (j < 1073741824)) (g := fun i j => i / j) op_fdiv fun i j h => ?_
    simp only [Bool.and_eq_true, decide_eq_true_eq] at h
    exact h
  | Mod =>
    refine opr_int (ok := fun _ j => decide (0 < j)) (g := fun i j => i % j) op_mod fun i j h => ?_
    simp only [decide_eq_true_eq] at h
    exact h
  | Pow =>
    refine opr_int (ok := fun i j => decide (0 ≤ j) && decide (j ≤ 1000000) && decide (i.natAbs < 2 ^ 64)) (g := fun i j => i ^ j.toNat) op_pow fun i j h => ?_
    simp only [Bool.and_eq_true, decide_eq_true_eq] at h
    exact ⟨h.1.1, h.1.2, h.2⟩
  | _ =>
    intro pins s σ H x y v u Q I rx ry ⟨ρ, vh, p, q, hH, rp, rq, h⟩
    exact h.elim
end

/-! ### data -/
section
variable {K : PySem.W.Frag} {CA : Nat → Addr} {ρ : List Addr} {H : Hp} {vh : VH}
theorem toD_dp (hH : RH K CA ρ vh H) : ∀ (n : Nat) (p : PV) (d : PyData) (v : V), toD vh n p = some d → RP K ρ H p v → Dp K H v d ∧ d.canLay0 = true ∧ d.depth ≤ n := by
  intro n
  induction n with
  | zero => intro p d v e; cases e
  | succ n ih =>
    have all : ∀ (xs : List PV) (ds : List PyData) (vs : List V), mapO (toD vh n) xs = some ds → RPs K ρ H xs vs → DpAll K H vs ds ∧ PyData.canLayAll0 ds = true ∧ PyData.depthAll ds ≤ n := by
      intro xs
      induction xs with
      | nil =>
        intro ds vs e r
        cases e
        cases r
        exact ⟨.nil, rfl, Nat.zero_le _⟩
      | cons x xs ihx =>
        intro ds vs e r
        cases r with
        | cons r1 r2 =>
          unfold mapO at e
          cases e1 : toD vh n x with
          | none => rw [e1] at e; cases e
          | some d =>
            rw [e1] at e
            cases e2 : mapO (toD vh n) xs with
            | none => rw [e2] at e; cases e
            | some es =>
              rw [e2] at e
              cases e
              obtain ⟨a1, a2, a3⟩ := ih x d _ e1 r1
              obtain ⟨b1, b2, b3⟩ := ihx es _ e2 r2
              refine ⟨.cons a1 b1, ?_, ?_⟩
              · show (d.canLay0 && PyData.canLayAll0 es) = true
                rw [a2, b2]; rfl
              · show max d.depth (PyData.depthAll es) ≤ n
                omega
    intro p d v e r
    unfold toD at e
    cases r with
    | non => cases e; exact ⟨.non, rfl, Nat.zero_le _⟩
    | bl b => cases e; exact ⟨.bl b, rfl, Nat.zero_le _⟩
    | int i => cases e; exact ⟨.int i, rfl, Nat.zero_le _⟩
    | str z =>
      dsimp only at e
      split at e
      · rename_i hs
        cases e
        exact ⟨.str z, hs, Nat.zero_le _⟩
      · cases e
    | @tup xs a vs ha ra =>
      dsimp only at e
      cases e2 : mapO (toD vh n) xs with
      | none => rw [e2] at e; cases e
      | some es =>
        rw [e2] at e
        cases e
        obtain ⟨b1, b2, b3⟩ := all xs es vs e2 ra
        exact ⟨.tup ha b1, b2, Nat.succ_le_succ b3⟩
    | @fl xs a vs ha ra =>
      dsimp only at e
      cases e2 : mapO (toD vh n) xs with
      | none => rw [e2] at e; cases e
      | some es =>
        rw [e2] at e
        cases e
        obtain ⟨b1, b2, b3⟩ := all xs es vs e2 ra
        exact ⟨.lst ha.sq b1, b2, Nat.succ_le_succ b3⟩
    | @ref i a q =>
      dsimp only at e
      split at e
      · rename_i xs ex
        obtain ⟨vs, ea, ra⟩ := hH.get i _ a ex q
        cases e2 : mapO (toD vh n) xs with
        | none => rw [e2] at e; cases e
        | some es =>
          rw [e2] at e
          cases e
          obtain ⟨b1, b2, b3⟩ := all xs es vs e2 ra
          exact ⟨.lst (SqL.of ea) b1, b2, Nat.succ_le_succ b3⟩
      · cases e
theorem toDs_dp (hH : RH K CA ρ vh H) (n : Nat) : ∀ (xs : List PV) (ds : List PyData) (vs : List V), mapO (toD vh n) xs = some ds → RPs K ρ H xs vs → DpAll K H vs ds ∧ PyData.canLayAll0 ds = true ∧ PyData.depthAll ds ≤ n := by
  intro xs
  induction xs with
  | nil =>
    intro ds vs e r
    cases e
    cases r
    exact ⟨.nil, rfl, Nat.zero_le _⟩
  | cons x xs ihx =>
    intro ds vs e r
    cases r with
    | cons r1 r2 =>
      unfold mapO at e
      cases e1 : toD vh n x with
      | none => rw [e1] at e; cases e
      | some d =>
        rw [e1] at e
        cases e2 : mapO (toD vh n) xs with
        | none => rw [e2] at e; cases e
        | some es =>
          rw [e2] at e
          cases e
          obtain ⟨a1, a2, a3⟩ := toD_dp hH n x d _ e1 r1
          obtain ⟨b1, b2, b3⟩ := ihx es _ e2 r2
          refine ⟨.cons a1 b1, ?_, ?_⟩
          · show (d.canLay0 && PyData.canLayAll0 es) = true
            rw [a2, b2]; rfl
          · show max d.depth (PyData.depthAll es) ≤ n
            omega
/-- keys -/
theorem kOf_rel {p : PV} {v : V} {k : Key} (e : kOf p = some k) (r : RP K ρ H p v) : v = kV k := by
  cases r <;> first | (cases e; rfl) | cases e
theorem valP_rel {k : Key} : ∀ {kvs : List (Key × PV)} {ws : List (Key × V)}, RKs K ρ H kvs ws → (∀ p, valP kvs k = some p → ∃ v, valV ws k = some v ∧ RP K ρ H p v) ∧ (valP kvs k = none → valV ws k = none)
  | _, _, .nil => by
    refine ⟨fun p e => ?_, fun _ => rfl⟩
    have e2 : (none : Option PV) = some p := e
    cases e2
  | _, _, .cons (a := a) (b := b) (l₁ := l) (l₂ := m) h t => by
    have ih := valP_rel (k := k) t
    by_cases e : a.1 = k
    · have e1 : valP (a :: l) k = some a.2 := by simp [valP, List.find?_cons, e]
      have e2 : valV (b :: m) k = some b.2 := valV_pos (h.1.symm.trans e)
      rw [e1, e2]
      exact ⟨fun p q => by cases q; exact ⟨_, rfl, h.2⟩, fun q => by cases q⟩
    · have e1 : valP (a :: l) k = valP l k := by simp [valP, List.find?_cons, e]
      have e2 : valV (b :: m) k = valV m k := valV_neg (fun z => e (h.1.trans z))
      rw [e1, e2]
      exact ih
theorem valP_isSome {k : Key} {kvs : List (Key × PV)} {ws : List (Key × V)} (r : RKs K ρ H kvs ws) : (valP kvs k).isSome = (valV ws k).isSome := by
  obtain ⟨h1, h2⟩ := valP_rel (k := k) r
  cases e : valP kvs k with
  | none => rw [h2 e]; rfl
  | some p => obtain ⟨v, q, _⟩ := h1 p e; rw [q]; rfl
theorem any_rel {k : Key} : ∀ {kvs : List (Key × PV)} {ws : List (Key × V)}, RKs K ρ H kvs ws → (kvs.any fun kv => decide (kv.1 = k)) = (ws.any fun kv => decide (kv.1 = k))
  | _, _, .nil => rfl
  | _, _, .cons h t => by rw [List.any_cons, List.any_cons, any_rel t, h.1]
theorem putP_rel {k : Key} {p : PV} {v : V} {kvs : List (Key × PV)} {ws : List (Key × V)} (r : RKs K ρ H kvs ws) (q : RP K ρ H p v) : RKs K ρ H (putP kvs k p) (putK ws k v) := by
  unfold putP putK
  rw [any_rel r]
  split
  · induction r with
    | nil => exact .nil
    | cons h t ih =>
      rename_i a b l m hh
      rw [List.map_cons, List.map_cons]
      refine .cons ?_ ?_
      · rw [h.1]
        split
        · exact ⟨rfl, q⟩
        · exact h
      · clear ih
        clear hh
        induction t with
        | nil => exact .nil
        | cons h t ih =>
          rw [List.map_cons, List.map_cons]
          refine .cons ?_ ih
          rw [h.1]
          split
          · exact ⟨rfl, q⟩
          · exact h
  · exact Paired.snoc r ⟨rfl, q⟩
end

/-! ### comparisons -/
section
variable {X : Cx} {CA : Nat → Addr}
theorem opr_eq (hu : X.A.units + 200 < cLine) : OpR X (compareOp .Eq) (rC X.K CA fun p q vh => eqP vh p q) := by
  intro pins s σ H x y v u Q I rx ry h
  obtain ⟨ρ, vh, p, q, hH, rp, rq, h⟩ := h
  unfold eqP at h
  dsimp only at h
  split at h
  · rename_i d e e1 e2
    obtain ⟨a1, a2, a3⟩ := toD_dp hH _ p d _ e1 rp
    obtain ⟨b1, b2, b3⟩ := toD_dp hH _ q e _ e2 rq
    obtain ⟨as, r1⟩ := Dp.reads I d x v a1 rx
    obtain ⟨bs, r2⟩ := Dp.reads I e y u b1 ry
    exact SeqAt.compareEq_reads r1 r2 a2 b2 (by omega) ⟨.bl _, H, I, rfl, h⟩
  · exact h.elim
theorem opr_ne (hu : X.A.units + 200 < cLine) : OpR X (compareOp .NotEq) (rC X.K CA fun p q vh => (eqP vh p q).map (!·)) := by
  intro pins s σ H x y v u Q I rx ry h
  obtain ⟨ρ, vh, p, q, hH, rp, rq, h⟩ := h
  unfold eqP at h
  dsimp only at h
  split at h
  · rename_i d e e1 e2
    obtain ⟨a1, a2, a3⟩ := toD_dp hH _ p d _ e1 rp
    obtain ⟨b1, b2, b3⟩ := toD_dp hH _ q e _ e2 rq
    obtain ⟨as, r1⟩ := Dp.reads I d x v a1 rx
    obtain ⟨bs, r2⟩ := Dp.reads I e y u b1 ry
    exact SeqAt.compareNe_reads r1 r2 a2 b2 (by omega) ⟨.bl _, H, I, rfl, h⟩
  · exact h.elim
theorem opr_is : OpR X (compareOp .Is) (rC X.K CA fun p q _ => isP p q) := by
  intro pins s σ H x y v u Q I rx ry h
  obtain ⟨ρ, vh, p, q, hH, rp, rq, h⟩ := h
  cases q with
  | non =>
    cases rq
    refine op_isN pins s σ H _ _ v u Q I rx ry ⟨rfl, ?_⟩
    cases rp <;> exact h
  | bl b =>
    cases rq
    cases p with
    | bl c =>
      cases rp
      exact op_isBl pins s σ H _ _ v u Q I rx ry ⟨c, b, rfl, rfl, h⟩
    | _ => exact h.elim
  | _ => exact h.elim
theorem opr_isnot : OpR X (compareOp .IsNot) (rC X.K CA fun p q _ => (isP p q).map (!·)) := by
  intro pins s σ H x y v u Q I rx ry h
  obtain ⟨ρ, vh, p, q, hH, rp, rq, h⟩ := h
  cases q with
  | non =>
    cases rq
    refine op_notN pins s σ H _ _ v u Q I rx ry ⟨rfl, ?_⟩
    cases rp <;> exact h
  | bl b =>
    cases rq
    cases p with
    | bl c =>
      cases rp
      exact op_notBl pins s σ H _ _ v u Q I rx ry ⟨c, b, rfl, rfl, h⟩
    | _ => exact h.elim
  | _ => exact h.elim
theorem str_one {z : Str} (h : z.cps.size = 1) : z = ⟨#[z.cps[0]!]⟩ := by
  obtain ⟨⟨l⟩⟩ := z
  match l, h with
  | [c], _ => rfl
theorem opr_in (hu : X.A.units + 200 < cLine) : OpR X (compareOp .In) (rC X.K CA fun p q vh => inP p q vh) := by
  intro pins s σ H x y v u Q I rx ry h
  obtain ⟨ρ, vh, p, q, hH, rp, rq, h⟩ := h
  have seq : ∀ {xs : List PV}, OutB ρ H vh (inSeq vh p xs) Q → ∃ d ds, toD vh 190 p = some d ∧ mapO (toD vh 190) xs = some ds ∧ Q (.bl (ds.any fun z => PyData.eqv z d)) H := fun {xs} h => by
    unfold inSeq at h
    split at h
    · rename_i d ds e1 e2
      exact ⟨d, ds, e1, e2, h⟩
    · exact h.elim
  unfold inP at h
  cases q with
  | str t =>
    cases rq
    cases p with
    | str z =>
      cases rp
      dsimp only at h
      split at h
      · rename_i hz
        exact op_in_sign pins s σ H _ _ v u Q I rx ry ⟨z.cps[0]!, t, by rw [← str_one hz], rfl, h⟩
      · exact h.elim
    | _ => exact h.elim
  | ref i =>
    dsimp only at h
    split at h
    · rename_i kvs e1
      obtain ⟨a, ws, rfl, _, ea, ra⟩ := hH.dct e1 rq
      cases e2 : kOf p with
      | none => rw [e2] at h; exact h.elim
      | some k =>
        rw [e2] at h
        have ex := kOf_rel e2 rp
        subst ex
        cases ry
        refine d_in (by omega) I (DGet.k (k := k) ea) rx fun s' I' => ⟨.bl _, H, I', rfl, ?_⟩
        rw [← valP_isSome ra]
        exact h
    · rename_i xs e1
      obtain ⟨a, vs, rfl, _, ea, ra⟩ := hH.lst e1 rq
      obtain ⟨d, ds, e2, e3, h⟩ := seq h
      obtain ⟨a1, a2, a3⟩ := toD_dp hH _ p d _ e2 rp
      obtain ⟨b1, b2, b3⟩ := toDs_dp hH _ xs ds _ e3 ra
      obtain ⟨as, r1⟩ := Dp.reads I d x v a1 rx
      obtain ⟨bs, r2⟩ := Dp.reads I (.list ds) _ u (.lst (SqL.of ea) b1) ry
      exact SeqAt.in_list_reads r2 r1 b2 a2 (by omega) ⟨.bl _, H, I, rfl, h⟩
    · exact h.elim
  | tup xs =>
    dsimp only at h
    obtain ⟨d, ds, e2, e3, h⟩ := seq h
    cases rq with
    | @tup _ a vs ha ra =>
      obtain ⟨a1, a2, a3⟩ := toD_dp hH _ p d _ e2 rp
      obtain ⟨b1, b2, b3⟩ := toDs_dp hH _ xs ds _ e3 ra
      obtain ⟨as, r1⟩ := Dp.reads I d x v a1 rx
      obtain ⟨bs, r2⟩ := Dp.reads I (.tuple ds) _ u (.tup ha b1) ry
      exact SeqAt.in_tuple_reads r2 r1 b2 a2 (by omega) ⟨.bl _, H, I, rfl, h⟩
  | fl xs =>
    dsimp only at h
    obtain ⟨d, ds, e2, e3, h⟩ := seq h
    cases rq with
    | @fl _ a vs ha ra =>
      obtain ⟨a1, a2, a3⟩ := toD_dp hH _ p d _ e2 rp
      obtain ⟨b1, b2, b3⟩ := toDs_dp hH _ xs ds _ e3 ra
      obtain ⟨as, r1⟩ := Dp.reads I d x v a1 rx
      obtain ⟨bs, r2⟩ := Dp.reads I (.list ds) _ u (.lst ha.sq b1) ry
      exact SeqAt.in_list_reads r2 r1 b2 a2 (by omega) ⟨.bl _, H, I, rfl, h⟩
  | _ => exact h.elim
theorem opr_notin (hu : X.A.units + 200 < cLine) : OpR X (compareOp .NotIn) (rC X.K CA fun p q vh => (inP p q vh).map (!·)) := by
  intro pins s σ H x y v u Q I rx ry h
  obtain ⟨ρ, vh, p, q, hH, rp, rq, h⟩ := h
  have seq : ∀ {xs : List PV}, OutB ρ H vh ((inSeq vh p xs).map (!·)) Q → ∃ d ds, toD vh 190 p = some d ∧ mapO (toD vh 190) xs = some ds ∧ Q (.bl (!ds.any fun z => PyData.eqv z d)) H := fun {xs} h => by
    unfold inSeq at h
    split at h
    · rename_i d ds e1 e2
      exact ⟨d, ds, e1, e2, h⟩
    · exact h.elim
  unfold inP at h
  cases q with
  | str t =>
    cases rq
    cases p with
    | str z =>
      cases rp
      dsimp only at h
      split at h
      · rename_i hz
        exact op_notIn_sign pins s σ H _ _ v u Q I rx ry ⟨z.cps[0]!, t, by rw [← str_one hz], rfl, h⟩
      · exact h.elim
    | _ => exact h.elim
  | ref i =>
    dsimp only at h
    split at h
    · rename_i kvs e1
      obtain ⟨a, ws, rfl, _, ea, ra⟩ := hH.dct e1 rq
      cases e2 : kOf p with
      | none => rw [e2] at h; exact h.elim
      | some k =>
        rw [e2] at h
        have ex := kOf_rel e2 rp
        subst ex
        cases ry
        refine d_notIn (by omega) I (DGet.k (k := k) ea) rx fun s' I' => ⟨.bl _, H, I', rfl, ?_⟩
        rw [← valP_isSome ra]
        exact h
    · rename_i xs e1
      obtain ⟨a, vs, rfl, _, ea, ra⟩ := hH.lst e1 rq
      obtain ⟨d, ds, e2, e3, h⟩ := seq h
      obtain ⟨a1, a2, a3⟩ := toD_dp hH _ p d _ e2 rp
      obtain ⟨b1, b2, b3⟩ := toDs_dp hH _ xs ds _ e3 ra
      obtain ⟨as, r1⟩ := Dp.reads I d x v a1 rx
      obtain ⟨bs, r2⟩ := Dp.reads I (.list ds) _ u (.lst (SqL.of ea) b1) ry
      exact SeqAt.notIn_list_reads r2 r1 b2 a2 (by omega) ⟨.bl _, H, I, rfl, h⟩
    · exact h.elim
  | tup xs =>
    dsimp only at h
    obtain ⟨d, ds, e2, e3, h⟩ := seq h
    cases rq with
    | @tup _ a vs ha ra =>
      obtain ⟨a1, a2, a3⟩ := toD_dp hH _ p d _ e2 rp
      obtain ⟨b1, b2, b3⟩ := toDs_dp hH _ xs ds _ e3 ra
      obtain ⟨as, r1⟩ := Dp.reads I d x v a1 rx
      obtain ⟨bs, r2⟩ := Dp.reads I (.tuple ds) _ u (.tup ha b1) ry
      exact SeqAt.notIn_tuple_reads r2 r1 b2 a2 (by omega) ⟨.bl _, H, I, rfl, h⟩
  | fl xs =>
    dsimp only at h
    obtain ⟨d, ds, e2, e3, h⟩ := seq h
    cases rq with
    | @fl _ a vs ha ra =>
      obtain ⟨a1, a2, a3⟩ := toD_dp hH _ p d _ e2 rp
      obtain ⟨b1, b2, b3⟩ := toDs_dp hH _ xs ds _ e3 ra
      obtain ⟨as, r1⟩ := Dp.reads I d x v a1 rx
      obtain ⟨bs, r2⟩ := Dp.reads I (.list ds) _ u (.lst ha.sq b1) ry
      exact SeqAt.notIn_list_reads r2 r1 b2 a2 (by omega) ⟨.bl _, H, I, rfl, h⟩
  | _ => exact h.elim
theorem opr_ord (o : CmpOp) : OpR X (compareOp o) (rC X.K CA fun p q _ => ordP o p q) := by
  intro pins s σ H x y v u Q I rx ry h
  obtain ⟨ρ, vh, p, q, hH, rp, rq, h⟩ := h
  cases p with
  | int i =>
    cases q with
    | int j =>
      cases rp; cases rq
      cases o with
      | Lt => exact op_lt pins s σ H _ _ v u Q I rx ry ⟨i, j, rfl, rfl, h⟩
      | LtE => exact op_le pins s σ H _ _ v u Q I rx ry ⟨i, j, rfl, rfl, h⟩
      | Gt => exact op_gt pins s σ H _ _ v u Q I rx ry ⟨i, j, rfl, rfl, h⟩
      | GtE => exact op_ge pins s σ H _ _ v u Q I rx ry ⟨i, j, rfl, rfl, h⟩
      | _ => exact h.elim
    | _ => exact h.elim
  | str a =>
    cases q with
    | str b =>
      cases rp; cases rq
      cases o with
      | Lt => exact op_lt_str pins s σ H _ _ v u Q I rx ry ⟨a, b, rfl, rfl, h⟩
      | _ => exact h.elim
    | _ => exact h.elim
  | _ => exact h.elim
theorem opr_cmp (hu : X.A.units + 200 < cLine) (o : CmpOp) : OpR X (compareOp o) (rC X.K CA (cmpop o)) := by
  cases o with
  | Eq => exact opr_eq hu
  | NotEq => exact opr_ne hu
  | Is => exact opr_is
  | IsNot => exact opr_isnot
  | In => exact opr_in hu
  | NotIn => exact opr_notin hu
  | Lt => exact opr_ord .Lt
  | LtE => exact opr_ord .LtE
  | Gt => exact opr_ord .Gt
  | GtE => exact opr_ord .GtE
end
end Mini
end T_M3

section T_M4
set_option Elab.async false
set_option linter.all false
set_option autoImplicit false
/-! Mini: built-in functions, methods, subscripts, isinstance, by values. -/
namespace Mini
open PySem PySem.Spec PyProof.Rows L2

section
variable (K : PySem.W.Frag) (CA : Nat → Addr)
def rA (f : List PV → VH → Option (PV × VH)) : List V → Hp → VK → Prop := fun xs H Q => ∃ ρ vh ps, RH K CA ρ vh H ∧ RPs K ρ H ps xs ∧ OutO K CA ρ H (f ps vh) Q
def rM (f : PV → List PV → VH → Option (PV × VH)) : V → List V → Hp → VK → Prop := fun x xs H Q => ∃ ρ vh p ps, RH K CA ρ vh H ∧ RP K ρ H p x ∧ RPs K ρ H ps xs ∧ OutO K CA ρ H (f p ps vh) Q
/-- one argument -/
def on1 (f : PV → VH → Option (PV × VH)) : List PV → VH → Option (PV × VH) := fun ps vh => match ps with
  | [p] => f p vh
  | _ => none
end
section
variable {K : PySem.W.Frag} {CA : Nat → Addr}
theorem on1_of {f : PV → VH → Option (PV × VH)} {xs : List V} {H : Hp} {Q : VK} (h : rA K CA (on1 f) xs H Q) : ∃ ρ vh p x, xs = [x] ∧ RH K CA ρ vh H ∧ RP K ρ H p x ∧ OutO K CA ρ H (f p vh) Q := by
  obtain ⟨ρ, vh, ps, hH, r, h⟩ := h
  cases r with
  | nil => exact h.elim
  | cons r t =>
    cases t with
    | nil => exact ⟨ρ, vh, _, _, rfl, hH, r, h⟩
    | cons _ _ => exact h.elim
end
section
variable {X : Cx} {CA : Nat → Addr}
theorem cr_len' : CallR X (.builtin "len") (rA X.K CA (on1 lenP)) := by
  intro pins s σ H xs us Q I r h0
  obtain ⟨ρ, vh, p, x, ex, hH, rp, h⟩ := on1_of h0
  clear h0
  subst ex
  cases rp with
  | str z =>
    unfold lenP at h
    dsimp only at h
    split at h
    · exact call_len pins s σ H _ us Q I r ⟨_, z.length, rfl, ⟨by assumption, rfl⟩, h.here hH (.int _)⟩
    · exact h.elim
  | @tup ps a vs ha ra => exact call_len pins s σ H _ us Q I r ⟨_, ps.length, rfl, .inr ⟨vs, ha, ra.length⟩, h.here hH (.int _)⟩
  | @fl ps a vs ha ra => exact call_len pins s σ H _ us Q I r ⟨_, ps.length, rfl, .inl ⟨vs, ha.sq, ra.length⟩, h.here hH (.int _)⟩
  | @ref i a q =>
    unfold lenP at h
    dsimp only at h
    split at h
    · rename_i ps e
      obtain ⟨vs, ea, ra⟩ := hH.get i _ a e q
      exact call_len pins s σ H _ us Q I r ⟨_, ps.length, rfl, .inl ⟨vs, SqL.of ea, ra.length⟩, h.here hH (.int _)⟩
    · rename_i ps e
      obtain ⟨vs, ea, ra⟩ := hH.get i _ a e q
      refine call_lenD pins s σ H _ us Q I r ⟨a, vs, rfl, ea, ?_⟩
      rw [← Paired.length ra]
      exact h.here hH (.int _)
    · exact h.elim
  | _ => exact h.elim
def absP (p : PV) (vh : VH) : Option (PV × VH) := match p with | .int i => some (.int (if i < 0 then -i else i), vh) | _ => none
def intOf (p : PV) (vh : VH) : Option (PV × VH) := match p with | .int i => some (.int i, vh) | _ => none
theorem cr_abs' : CallR X (.builtin "abs") (rA X.K CA (on1 absP)) := by
  intro pins s σ H xs us Q I r h0
  obtain ⟨ρ, vh, p, x, ex, hH, rp, h⟩ := on1_of h0
  clear h0
  subst ex
  cases rp with
  | int i => exact call_abs pins s σ H _ us Q I r ⟨i, rfl, h.here hH (.int _)⟩
  | _ => exact h.elim
theorem cr_int' : CallR X (.type "int") (rA X.K CA (on1 intOf)) := by
  intro pins s σ H xs us Q I r h0
  obtain ⟨ρ, vh, p, x, ex, hH, rp, h⟩ := on1_of h0
  clear h0
  subst ex
  cases rp with
  | int i => exact call_int1 pins s σ H _ us Q I r (.inl ⟨i, rfl, h.here hH (.int _)⟩)
  | _ => exact h.elim
theorem cr_list' : CallR X (.type "list") (rA X.K CA (on1 listP)) := by
  intro pins s σ H xs us Q I r h0
  obtain ⟨ρ, vh, p, x, ex, hH, rp, h⟩ := on1_of h0
  clear h0
  subst ex
  cases rp with
  | @tup ps a vs ha ra => exact call_list_of pins s σ H _ us Q I r ⟨a, vs, rfl, .inr ha, (OutO.newL h hH ra).2⟩
  | @fl ps a vs ha ra => exact call_list_of pins s σ H _ us Q I r ⟨a, vs, rfl, .inl ha.sq, (OutO.newL h hH ra).2⟩
  | @ref i a q =>
    unfold listP at h
    dsimp only at h
    split at h
    · rename_i ps e
      obtain ⟨vs, ea, ra⟩ := hH.get i _ a e q
      exact call_list_of pins s σ H _ us Q I r ⟨a, vs, rfl, .inl (SqL.of ea), (OutO.newL h hH ra).2⟩
    · exact h.elim
  | _ => exact h.elim
theorem cr_tuple' : CallR X (.type "tuple") (rA X.K CA (on1 tupleP)) := by
  intro pins s σ H xs us Q I r h0
  obtain ⟨ρ, vh, p, x, ex, hH, rp, h⟩ := on1_of h0
  clear h0
  subst ex
  cases rp with
  | @tup ps a vs ha ra => exact call_tuple_of pins s σ H _ us Q I r ⟨a, vs, rfl, .inr ⟨ha, h.here hH (.tup ha ra)⟩⟩
  | @ref i a q =>
    unfold tupleP at h
    dsimp only at h
    split at h
    · rename_i ps e
      obtain ⟨vs, ea, ra⟩ := hH.get i _ a e q
      exact call_tuple_of pins s σ H _ us Q I r ⟨a, vs, rfl, .inl ⟨SqL.of ea, h.tup hH ra⟩⟩
    · exact h.elim
  | _ => exact h.elim
theorem bools_rel {ρ : List Addr} {H : Hp} : ∀ {ps : List PV} {vs : List V} {bs : List Bool}, boolsOf ps = some bs → RPs X.K ρ H ps vs → vs = bs.map V.bl := by
  intro ps
  induction ps with
  | nil => intro vs bs e r; cases e; cases r; rfl
  | cons p ps ih =>
    intro vs bs e r
    cases r with
    | cons r t =>
      unfold boolsOf mapO at e
      cases p with
      | bl b =>
        cases r
        dsimp only at e
        cases e2 : boolsOf ps with
        | none => unfold boolsOf at e2; rw [e2] at e; cases e
        | some cs =>
          have := ih e2 t
          unfold boolsOf at e2
          rw [e2] at e
          cases e
          rw [this]
          rfl
      | _ => cases e
theorem ints_rel {ρ : List Addr} {H : Hp} : ∀ {ps : List PV} {vs : List V} {bs : List Int}, intsOf ps = some bs → RPs X.K ρ H ps vs → vs = bs.map V.int := by
  intro ps
  induction ps with
  | nil => intro vs bs e r; cases e; cases r; rfl
  | cons p ps ih =>
    intro vs bs e r
    cases r with
    | cons r t =>
      unfold intsOf mapO at e
      cases p with
      | int b =>
        cases r
        dsimp only at e
        cases e2 : intsOf ps with
        | none => unfold intsOf at e2; rw [e2] at e; cases e
        | some cs =>
          have := ih e2 t
          unfold intsOf at e2
          rw [e2] at e
          cases e
          rw [this]
          rfl
      | _ => cases e
theorem cr_all' (hc : X.calm = true) : CallR X (.builtin "all") (rA X.K CA (on1 (allP true))) := by
  intro pins s σ H xs us Q I r h0
  obtain ⟨ρ, vh, p, x, ex, hH, rp, h⟩ := on1_of h0
  clear h0
  subst ex
  cases rp with
  | @ref i a q =>
    unfold allP at h
    dsimp only at h
    split at h
    · rename_i ps e
      obtain ⟨vs, ea, ra⟩ := hH.get i _ a e q
      split at h
      · rename_i bs eb
        have ev := bools_rel eb ra
        subst ev
        exact cr_all hc pins s σ H _ us Q I r ⟨a, bs, rfl, SqL.of ea, h.here hH (.bl _)⟩
      · exact h.elim
    · exact h.elim
  | _ => exact h.elim
theorem cr_any' (hc : X.calm = true) : CallR X (.builtin "any") (rA X.K CA (on1 (allP false))) := by
  intro pins s σ H xs us Q I r h0
  obtain ⟨ρ, vh, p, x, ex, hH, rp, h⟩ := on1_of h0
  clear h0
  subst ex
  cases rp with
  | @ref i a q =>
    unfold allP at h
    dsimp only at h
    split at h
    · rename_i ps e
      obtain ⟨vs, ea, ra⟩ := hH.get i _ a e q
      split at h
      · rename_i bs eb
        have ev := bools_rel eb ra
        subst ev
        exact cr_any hc pins s σ H _ us Q I r ⟨a, bs, rfl, SqL.of ea, h.here hH (.bl _)⟩
      · exact h.elim
    · exact h.elim
  | _ => exact h.elim
theorem cr_sum' (hc : X.calm = true) : CallR X (.builtin "sum") (rA X.K CA (on1 sumP)) := by
  intro pins s σ H xs us Q I r h0
  obtain ⟨ρ, vh, p, x, ex, hH, rp, h⟩ := on1_of h0
  clear h0
  subst ex
  cases rp with
  | @ref i a q =>
    unfold sumP at h
    dsimp only at h
    split at h
    · rename_i ps e
      obtain ⟨vs, ea, ra⟩ := hH.get i _ a e q
      split at h
      · rename_i bs eb
        have ev := ints_rel eb ra
        subst ev
        exact cr_sum hc pins s σ H _ us Q I r ⟨a, bs, rfl, SqL.of ea, h.here hH (.int _)⟩
      · exact h.elim
    · exact h.elim
  | _ => exact h.elim

/-! ### dict(a list of pairs) -/
theorem pairs_rel {ρ : List Addr} {H : Hp} : ∀ {xs : List PV} {vs : List V} {kvs : List (Key × PV)}, mapO pairP xs = some kvs → RPs X.K ρ H xs vs →
    ∃ (ps : List Addr) (ws : List (Key × V)), vs = ps.map V.ref ∧ Paired (fun p kv => SqT X.K H p [kV kv.1, kv.2]) ps ws ∧ RKs X.K ρ H kvs ws := by
  intro xs
  induction xs with
  | nil => intro vs kvs e r; cases e; cases r; exact ⟨[], [], rfl, .nil, .nil⟩
  | cons x xs ih =>
    intro vs kvs e r
    cases r with
    | cons r t =>
      unfold mapO at e
      cases e1 : pairP x with
      | none => rw [e1] at e; cases e
      | some kv =>
        rw [e1] at e
        cases e2 : mapO pairP xs with
        | none => rw [e2] at e; cases e
        | some more =>
          rw [e2] at e
          cases e
          obtain ⟨ps, ws, ev, hp, hr⟩ := ih e2 t
          unfold pairP at e1
          split at e1
          · rename_i k p
            cases e3 : kOf k with
            | none => rw [e3] at e1; cases e1
            | some kk =>
              rw [e3] at e1
              cases e1
              cases r with
              | @tup _ a us ha ra =>
                cases ra with
                | cons rk ra =>
                  cases ra with
                  | cons rv ra =>
                    cases ra
                    have ek := kOf_rel e3 rk
                    subst ek
                    exact ⟨a :: ps, (kk, _) :: ws, by rw [ev]; rfl, .cons ha hp, .cons ⟨rfl, rv⟩ hr⟩
          · cases e1
theorem merge_rel {ρ : List Addr} {H : Hp} {K : PySem.W.Frag} : ∀ {more : List (Key × PV)} {ws : List (Key × V)} {kvs : List (Key × PV)} {us : List (Key × V)}, RKs K ρ H more ws → RKs K ρ H kvs us → RKs K ρ H (mergeP kvs more) (mergeK us ws) := by
  intro more ws kvs us r
  induction r generalizing kvs us with
  | nil => intro q; exact q
  | cons h t ih =>
    intro q
    show RKs K ρ H (mergeP (putP kvs _ _) _) (mergeK (putK us _ _) _)
    refine ih ?_
    rw [h.1]
    exact putP_rel q h.2
/-- a new dict -/
theorem OutO.dct {K : PySem.W.Frag} {ρ : List Addr} {H : Hp} {vh : VH} {Q : VK} {xs : List (Key × PV)} {vs : List (Key × V)} (h : OutO K CA ρ H (alloc (.dct xs) vh) Q) (hH : RH K CA ρ vh H) (r : RKs K ρ H xs vs) : ∀ p, H p = none → Q (.ref p) (upd H p (.dK vs)) := fun p n => by
  have hr : RKs K (ρ ++ [p]) (upd H p (.dK vs)) xs vs := RKs.mono (List.prefix_append _ _) (Ext.new n) r
  refine h (ρ ++ [p]) _ _ (List.prefix_append _ _) (Ext.new n) (hH.new n ⟨vs, upd_same, hr⟩) (.ref ?_)
  rw [← hH.len]
  simp
/-! ### methods of lists -/
theorem mr_append : MtR X "list.append" (rM X.K CA (bmt "append")) := by
  intro pins s σ H x xs v us Q I rx rxs h
  obtain ⟨ρ, vh, p, ps, hH, rp, rps, h⟩ := h
  unfold bmt at h
  cases p with
  | ref i =>
    dsimp only at h
    split at h
    · rename_i ys e
      obtain ⟨a, vs, rfl, ei, ea, ra⟩ := hH.lst e rp
      rw [if_pos rfl] at h
      split at h
      · cases rps with
        | @cons _ _ w _ r t =>
          cases t
          split at h
          · rename_i hl
            have hx : Ext H (upd H a (.lst (vs ++ [w]))) := Ext.put ea trivial
            exact mt_append pins s σ H _ _ v us Q I rx rxs ⟨a, vs, _, rfl, rfl, ea, by rw [← ra.length]; exact hl, h _ _ _ (List.prefix_refl _) hx (hH.put ei ⟨_, upd_same, (ra.append (.cons r .nil)).mono (List.prefix_refl _) hx⟩) .non⟩
          · exact h.elim
      · exact h.elim
    · exact h.elim
  | _ => exact h.elim
theorem mr_extend : MtR X "list.extend" (rM X.K CA (bmt "extend")) := by
  intro pins s σ H x xs v us Q I rx rxs h
  obtain ⟨ρ, vh, p, ps, hH, rp, rps, h⟩ := h
  unfold bmt at h
  cases p with
  | ref i =>
    dsimp only at h
    split at h
    · rename_i ys e
      obtain ⟨a, vs, rfl, ei, ea, ra⟩ := hH.lst e rp
      rw [if_neg (by decide), if_pos rfl] at h
      split at h
      · cases rps with
        | cons r t =>
          cases t
          split at h
          · rename_i zs e2
            obtain ⟨b, ws, rfl, ej, eb, rb⟩ := hH.lst e2 r
            split at h
            · rename_i hl
              have hx : Ext H (upd H a (.lst (vs ++ ws))) := Ext.put ea trivial
              exact mt_extend pins s σ H _ _ v us Q I rx rxs ⟨a, b, vs, ws, rfl, rfl, ea, eb, by rw [← ra.length, ← rb.length]; exact hl.2, h _ _ _ (List.prefix_refl _) hx (hH.put ei ⟨_, upd_same, (ra.append rb).mono (List.prefix_refl _) hx⟩) .non⟩
            · exact h.elim
          · exact h.elim
      · exact h.elim
    · exact h.elim
  | _ => exact h.elim
theorem mr_pop : MtR X "list.pop" (rM X.K CA (bmt "pop")) := by
  intro pins s σ H x xs v us Q I rx rxs h
  obtain ⟨ρ, vh, p, ps, hH, rp, rps, h⟩ := h
  unfold bmt at h
  cases p with
  | ref i =>
    dsimp only at h
    split at h
    · rename_i ys e
      obtain ⟨a, vs, rfl, ei, ea, ra⟩ := hH.lst e rp
      rw [if_neg (by decide), if_neg (by decide), if_pos rfl] at h
      split at h
      · rename_i k
        cases rps with
        | cons r t =>
          cases t
          cases r
          split at h
          · rename_i hl
            split at h
            · rename_i y ey
              obtain ⟨w, ew, rw'⟩ := ra.get ey
              have hx : Ext H (upd H a (.lst (vs.eraseIdx k.toNat))) := Ext.put ea trivial
              have hk : k.toNat < vs.length := (List.getElem?_eq_some_iff.mp ew).1
              refine mt_popAt pins s σ H _ _ v us Q I rx rxs ⟨a, vs, k, k.toNat, w, rfl, rfl, ea, by omega, hl.2, PySem.StrLaws.seqIndex_nonneg hl.1 (by omega), ew, ?_⟩
              exact h _ _ _ (List.prefix_refl _) hx (hH.put ei ⟨_, upd_same, (ra.eraseIdx _).mono (List.prefix_refl _) hx⟩) (rw'.mono (List.prefix_refl _) hx)
            · exact h.elim
          · exact h.elim
      · exact h.elim
    · exact h.elim
  | _ => exact h.elim
/-! ### subscripts -/
theorem atI_rel {K : PySem.W.Frag} {ρ : List Addr} {H : Hp} {xs : List PV} {vs : List V} {i : Int} {p : PV} (r : RPs K ρ H xs vs) (e : atP xs i = some p) : ∃ v, atI vs i = some v ∧ RP K ρ H p v := by
  unfold atP atI at e
  unfold atI
  rw [← r.length]
  cases e1 : ixN xs.length i with
  | none => rw [e1] at e; cases e
  | some j =>
    rw [e1] at e
    exact r.get e
theorem cut_rel {K : PySem.W.Frag} {ρ : List Addr} {H : Hp} {xs : List PV} {vs : List V} {lo hi : Option Int} (r : RPs K ρ H xs vs) : RPs K ρ H (cutP xs lo hi) (cutV vs lo hi) := by
  unfold cutP cutV
  rw [← r.length]
  exact (r.drop _).take _
theorem ixr_seq : IxR X (rB X.K CA fun p q vh => match p with | .ref _ => (match seqOf vh p with | some _ => idxP p q vh | none => none) | _ => idxP p q vh) := by
  intro value slice pins s σ H x y v u Q I rx ry h hs
  obtain ⟨ρ, vh, p, q, hH, rp, rq, h⟩ := h
  have fin : ∀ {xs : List PV} {i : Int}, OutO X.K CA ρ H (match atP xs i with | some y => some (y, vh) | none => none) Q → ∃ y, atP xs i = some y ∧ OutO X.K CA ρ H (some (y, vh)) Q := fun {xs i} h => by
    split at h
    · rename_i y ey
      exact ⟨y, ey, h⟩
    · exact h.elim
  cases p with
  | tup xs =>
    cases q with
    | int i =>
      cases rp with
      | @tup _ a vs ha ra =>
        cases rq
        obtain ⟨y, ey, h⟩ := fin h
        obtain ⟨w, ew, rw'⟩ := atI_rel ra ey
        exact ix_tup value slice pins s σ H _ _ v u Q I rx ry ⟨a, vs, i, w, rfl, rfl, ha, ew, h.here hH rw'⟩ hs
    | _ => exact h.elim
  | fl xs =>
    cases q with
    | int i =>
      cases rp with
      | @fl _ a vs ha ra =>
        cases rq
        obtain ⟨y, ey, h⟩ := fin h
        obtain ⟨w, ew, rw'⟩ := atI_rel ra ey
        exact ix_list value slice pins s σ H _ _ v u Q I rx ry ⟨a, vs, i, w, rfl, rfl, ha.sq, ew, h.here hH rw'⟩ hs
    | _ => exact h.elim
  | ref j =>
    dsimp only [seqOf, idxP] at h
    split at h
    · rename_i ys e
      split at e
      · rename_i xs e2
        cases e
        rw [e2] at h
        obtain ⟨a, vs, rfl, ei, ea, ra⟩ := hH.lst e2 rp
        cases q with
        | int i =>
          cases rq
          obtain ⟨y, ey, h⟩ := fin h
          obtain ⟨w, ew, rw'⟩ := atI_rel ra ey
          exact ix_list value slice pins s σ H _ _ v u Q I rx ry ⟨a, vs, i, w, rfl, rfl, SqL.of ea, ew, h.here hH rw'⟩ hs
        | _ => exact h.elim
      · cases e
    · exact h.elim
  | _ => exact h.elim
/-- what is wanted behind a store -/
def OutS (K : PySem.W.Frag) (CA : Nat → Addr) (ρ : List Addr) (H : Hp) (r : Option VH) (Q : Hp → Prop) : Prop := ∃ vh', r = some vh' ∧ ∀ ρ' H', ρ <+: ρ' → Ext H H' → RH K CA ρ' vh' H' → Q H'
theorem set_list' : PSet X (fun o i v H Q => ∃ ρ vh p q r, RH X.K CA ρ vh H ∧ RP X.K ρ H p o ∧ RP X.K ρ H q i ∧ RP X.K ρ H r v ∧ (∃ xs, seqOf vh p = some xs) ∧ OutS X.K CA ρ H (setP p q r vh) Q) := by
  intro pins s σ H o i v ov iv u Q I ro ri rv h
  obtain ⟨ρ, vh, p, q, r, hH, rp, rq, rr, ⟨zs, hz⟩, vh', hs, h⟩ := h
  cases p with
  | ref j =>
    unfold setP at hs
    unfold seqOf at hz
    dsimp only at hs hz
    split at hz
    · rename_i xs e
      rw [e] at hs
      dsimp only at hs
      obtain ⟨a, vs, rfl, ei, ea, ra⟩ := hH.lst e rp
      cases q with
      | int k =>
        cases rq
        dsimp only at hs
        split at hs
        · rename_i m em
          cases hs
          have hx : Ext H (upd H a (.lst (vs.set m v))) := Ext.put ea trivial
          exact set_list pins s σ H _ _ v ov iv u Q I ro ri rv ⟨a, vs, k, m, rfl, rfl, ea, by rw [← ra.length]; exact em, h _ _ (List.prefix_refl _) hx (hH.put ei ⟨_, upd_same, (ra.set rr m).mono (List.prefix_refl _) hx⟩)⟩
        · cases hs
      | _ => cases hs
    · cases hz
  | _ => cases hs
theorem slr_seq : SlR X (fun x lo hi H Q => ∃ ρ vh p, RH X.K CA ρ vh H ∧ RP X.K ρ H p x ∧ OutO X.K CA ρ H (slP p lo hi vh) Q) := by
  intro pins s σ H x v vl vu lo hi sl Q I rx hs pl pu h
  obtain ⟨ρ, vh, p, hH, rp, h⟩ := h
  unfold slP at h
  cases rp with
  | @tup xs a vs ha ra =>
    refine sl_tupA pins s σ H _ v vl vu lo hi sl Q I rx hs pl pu ⟨a, vs, rfl, ha, fun hw => ?_, fun _ => h.tup hH (cut_rel ra)⟩
    have e : cutP xs lo hi = xs := by
      unfold cutP
      rw [ra.length, hw.1, hw.2, List.drop_zero, Nat.sub_zero, ← ra.length]
      exact List.take_length
    dsimp only at h
    rw [e] at h
    exact h.here hH (.tup ha ra)
  | @fl xs a vs ha ra => exact sl_list pins s σ H _ v vl vu lo hi sl Q I rx hs pl pu ⟨a, vs, rfl, ha.sq, (OutO.newL h hH (cut_rel ra)).2⟩
  | @ref i a q =>
    dsimp only at h
    split at h
    · rename_i xs e
      obtain ⟨vs, ea, ra⟩ := hH.get i _ a e q
      exact sl_list pins s σ H _ v vl vu lo hi sl Q I rx hs pl pu ⟨a, vs, rfl, SqL.of ea, (OutO.newL h hH (cut_rel ra)).2⟩
    · exact h.elim
  | _ => exact h.elim
end
end Mini
end T_M4

section T_M5
set_option Elab.async false
set_option linter.all false
set_option autoImplicit false
/-! Mini: the text against the little language (matching), what is known of the program, readings. -/
namespace Mini
open PySem PySem.Spec PyProof.Rows L2

/-! ### forms of the text -/
def isStar : Expr → Bool
  | .Starred _ _ => true
  | _ => false
def isSlice : Expr → Bool
  | .Slice _ _ _ _ => true
  | _ => false
def isSet : Expr → Bool
  | .Set _ _ _ => true
  | _ => false
/-- not name() -/
def noCall0 : Expr → Bool
  | .Call (.Name _ _) [] [] _ => false
  | _ => true
def isComp : Expr → Bool
  | .ListComp _ _ _ _ => true
  | .SetComp _ _ _ _ => true
  | .DictComp _ _ _ _ _ => true
  | _ => false
def plainTest : Expr → Bool
  | .UnaryOp .Not _ _ => false
  | .BoolOp _ _ _ => false
  | .IfExp _ _ _ _ => false
  | .Compare _ _ _ _ => false
  | _ => true
theorem star_cons {e : Expr} {es : List Expr} {env : PySem.Env} (h : isStar e = false) : starEach (e :: es) env = (false, eval e env) :: starEach es env := by
  cases e <;> first | rfl | cases h
theorem star_none : ∀ {es : List Expr} {env : PySem.Env} {pos : Pos}, es.all (fun e => !isStar e) = true → (backTo pos (starEach es env)).any (·.1) = false
  | [], _, _, _ => rfl
  | e :: es, env, pos, h => by
    rw [List.all_cons, Bool.and_eq_true] at h
    have h1 : isStar e = false := by simpa using h.1
    rw [star_cons h1]
    have ih := star_none (env := env) (pos := pos) h.2
    simpa [backTo] using ih
theorem test_plain {e : Expr} (h : plainTest e = true) (env : PySem.Env) : ∀ whole, isTrue e env whole = (do let v ← whole; standAt e.pos; holding [v] (truthy v)) := by
  intro whole
  cases e with
  | UnaryOp op x p => cases op <;> first | rfl | cases h
  | BoolOp _ _ _ => cases h
  | IfExp _ _ _ _ => cases h
  | Compare _ _ _ _ => cases h
  | _ => rfl
theorem base_plain {o : Expr} {f : Str} {env : PySem.Env} {whole : Sem Value} (h : noCall0 o = true) : attributeBase o f env whole = whole := by
  unfold attributeBase
  split
  · cases h
  · rfl
theorem slice_plain {e : Expr} (h : isSlice e = false) : ∀ o i, subscripted e false o i = operate [o, i] (getItem o i) := by
  intro o i
  cases e <;> first | rfl | cases h
theorem set_plain {op : CmpOp} {e : Expr} (h : isSet e = false) : behindInMarks op e = false := by
  cases e <;> first | rfl | cases h
theorem folded_plain {e : Expr} (h : isSet e = false) (env : PySem.Env) : ∀ x, foldedSetIterable e env x = pure x := by
  intro x
  cases e <;> first | rfl | cases h
theorem swaps_plain {e : Expr} {t : Option Expr} {l : Nat} {env : PySem.Env} (h : isComp e = false) : swapsWith e t l env = pure false := by
  cases e <;> first | rfl | cases h
theorem swaps_attr {e o : Expr} {f : Str} {p : Pos} {l : Nat} {env : PySem.Env} : swapsWith e (some (.Attribute o f p)) l env = pure false := by
  cases e <;> rfl
theorem swaps_sub {e o i : Expr} {p : Pos} {l : Nat} {env : PySem.Env} : swapsWith e (some (.Subscript o i p)) l env = pure false := by
  cases e <;> rfl

/-! ### the text is this term -/
def vis (sc : Scope) (x : Str) : Bool := match sc.names.lookup x with
  | some .local => true
  | some .cell => true
  | some .free => true
  | _ => false
def gl (sc : Scope) (x : Str) : Bool := match sc.names.lookup x with
  | some .globalImplicit => x != ("__debug__" : Str) && x != ("__name__" : Str)
  | _ => false
def conOk : PV → Const → Bool
  | .non, .none => true
  | .bl b, .bool c => b == c
  | .int i, .int j => i == j
  | .str s, .str t => s == t
  | _, _ => false
def tyName : Ty → Option Str
  | .str => some "str"
  | .int => some "int"
  | .bool => some "bool"
  | .list => some "list"
  | .tuple => some "tuple"
  | .dict => some "dict"
  | .own _ => none
section
variable (T : Tab) (N : List Str) (sc : Scope)
def mTy (t : Ty) : Expr → Bool
  | .Name x _ => gl sc x && (match t with
    | .own c => (match T.cls[c]? with | some cl => !cl.exc && cl.name == x | none => false)
    | t => tyName t == some x && T.free.contains x)
  | _ => false
def mTys : List Ty → List Expr → Bool
  | [], [] => true
  | t :: ts, e :: es => mTy T sc t e && !isStar e && mTys ts es
  | _, _ => false
def mNm (i : Nat) : Expr → Bool
  | .Name x _ => N[i]? == some x && (match sc.names.lookup x with | some .local => true | some .cell => true | _ => false)
  | _ => false
def mNms : List Nat → List Expr → Bool
  | [], [] => true
  | i :: is, e :: es => mNm N sc i e && !isStar e && mNms is es
  | _, _ => false
def mTg (tg : Tg) (e : Expr) : Bool := match tg with
  | .nm i => mNm N sc i e
  | .tp is => match e with
    | .Tuple es _ _ => mNms N sc is es
    | _ => false
/-- a built-in function called by its name -/
def mGl (x : Str) (e : Expr) : Bool := match e with
  | .Name y _ => y == x && gl sc x && T.free.contains x
  | _ => false
end
/-- the built-in functions that are known -/
def bltOk (b : String) : Bool := b == "len" || b == "abs" || b == "int" || b == "list" || b == "tuple" || b == "all" || b == "any" || b == "sum" || b == "dict"
/-- pairs go to a tuple of names -/
def itOk (it : It) (tg : Tg) : Bool := match it, tg with
  | .enum _, .nm _ => false
  | .zip _ _, .nm _ => false
  | _, _ => true
mutual
def mE (T : Tab) (N : List Str) : Ex → Scope → Expr → Bool
  | .con p, _, e => match e with
    | .Constant c _ _ => conOk p c
    | _ => false
  | .var i, sc, e => match e with
    | .Name x _ => N[i]? == some x && vis sc x && x != ("__debug__" : Str) && x != ("__classdict__" : Str)
    | _ => false
  | .glo x p, sc, e => match e with
    | .Name y _ => y == x && gl sc x && (match p with
      | .str z => T.consts.any fun q => q.1 == x && (match q.2 with | .str z' => z == z' | _ => false)
      | .int z => T.consts.any fun q => q.1 == x && (match q.2 with | .int z' => z == z' | _ => false)
      | _ => false)
    | _ => false
  | .absent, _, _ => false
  | .nev, _, _ => true
  | .bin o a b, sc, e => match e with
    | .BinOp l o' r _ => o' == o && mE T N a sc l && mE T N b sc r
    | _ => false
  | .neg a, sc, e => match e with
    | .UnaryOp .USub x _ => mE T N a sc x
    | _ => false
  | .cmp o a b, sc, e => match e with
    | .Compare l [o'] [r] _ => o' == o && mE T N a sc l && mE T N b sc r && !isSet r
    | _ => false
  | .cmp2 o1 o2 a b c, sc, e => match e with
    | .Compare l [p1, p2] [r1, r2] _ => p1 == o1 && p2 == o2 && mE T N a sc l && mE T N b sc r1 && mE T N c sc r2 && !isSet r1 && !isSet r2
    | _ => false
  | .and2 a b, sc, e => match e with
    | .BoolOp .And (v :: w :: rest) pos => mE T N a sc v && mE T N b sc (if rest.isEmpty then w else .BoolOp .And (w :: rest) pos)
    | _ => false
  | .or2 a b, sc, e => match e with
    | .BoolOp .Or (v :: w :: rest) pos => mE T N a sc v && mE T N b sc (if rest.isEmpty then w else .BoolOp .Or (w :: rest) pos)
    | _ => false
  | .not a, sc, e => match e with
    | .UnaryOp .Not x _ => mE T N a sc x
    | _ => false
  | .ite t a b, sc, e => match e with
    | .IfExp c x y _ => mE T N t sc c && mE T N a sc x && mE T N b sc y
    | _ => false
  | .tup es, sc, e => match e with
    | .Tuple xs _ _ => mEs T N es sc xs
    | _ => false
  | .lst es, sc, e => match e with
    | .List xs _ => mEs T N es sc xs
    | _ => false
  | .dct0, _, e => match e with
    | .Dict [] [] _ => true
    | _ => false
  | .dsum a b, sc, e => match e with
    | .Call fx [.BinOp l .Add r _] [] _ => mGl T sc "dict" fx && mE T N a sc l && mE T N b sc r
    | _ => false
  | .idx a i, sc, e => match e with
    | .Subscript v s _ => mE T N a sc v && mE T N i sc s && !isSlice s
    | _ => false
  | .sl a lo hi, sc, e => match e with
    | .Subscript v (.Slice l u none _) _ => mE T N a sc v && (match l with | none => isAbs lo | some e => mE T N lo sc e) && (match u with | none => isAbs hi | some e => mE T N hi sc e)
    | _ => false
  | .call f es, sc, e => match e with
    | .Call (.Name x _) (y :: ys) [] _ => (match T.fns[f]? with | some fn => !fn.meth && fn.name == x | none => false) && arity T f (ys.length + 1) && gl sc x && mEs T N es sc (y :: ys)
    | _ => false
  | .new c es, sc, e => match e with
    | .Call (.Name x _) (y :: ys) [] _ => (match T.cls[c]? with | some cl => !cl.exc && cl.name == x && (match cl.init with | some f => arity T f (ys.length + 2) | none => false) | none => false) && gl sc x && mEs T N es sc (y :: ys)
    | _ => false
  | .omt m o es, sc, e => match e with
    | .Call (.Attribute v m' ap) ys [] pos => m' == m && noCall0 v && ap.endLine == pos.line && decide (ys.length < 29) && mE T N o sc v && mEs T N es sc ys
    | _ => false
  | .fld o f, sc, e => match e with
    | .Attribute v f' _ => f' == f && noCall0 v && mE T N o sc v
    | _ => false
  | .blt b es, sc, e => match e with
    | .Call fx (y :: ys) [] _ => bltOk b && mGl T sc (Str.ofString b) fx && mEs T N es sc (y :: ys)
    | _ => false
  | .bmt m o es, sc, e => match e with
    | .Call (.Attribute v m' ap) (y :: ys) [] pos => (m == "append" || m == "extend" || m == "pop") && m' == Str.ofString m && noCall0 v && ap.endLine == pos.line && decide ((y :: ys).length < 29) && mE T N o sc v && mEs T N es sc (y :: ys)
    | _ => false
  | .isi a ts, sc, e => match e with
    | .Call fx [y, c] [] _ => mGl T sc "isinstance" fx && mE T N a sc y && !isStar y && !isStar c && (match c with
      | .Tuple cs _ _ => mTys T sc ts cs && !ts.isEmpty && decide (ts.length ≤ sizeLine)
      | c => match ts with
        | [t] => mTy T sc t c
        | _ => false)
    | _ => false
  | .lc elt tg it cs own, sc, e => match e with
    | .ListComp el [⟨t, i, ifs, 0⟩] scope _ => blkC N sc scope (own.map fun j => ((N[j]?).getD "", j)) && mI T N it sc i && !isSet i && mTg N (relS scope sc) tg t && itOk it tg &&
        (match tg with | .nm j => own.contains j | .tp is => is.all own.contains) && mCs T N cs (relS scope sc) ifs && mE T N elt (relS scope sc) el &&
        (match tg, t with | .nm j, .Name x _ => (scope.names.lookup x == some .cell) || ((relS scope sc).names.lookup x == some .local) | .tp is, .Tuple ts _ _ => ts.all fun t => (match t with | .Name x _ => (scope.names.lookup x == some .cell) || ((relS scope sc).names.lookup x == some .local) | _ => false) | _, _ => false)
    | _ => false
def mEs (T : Tab) (N : List Str) : Exs → Scope → List Expr → Bool
  | .nil, _, es => es.isEmpty
  | .cons x xs, sc, es => match es with
    | e :: r => mE T N x sc e && !isStar e && mEs T N xs sc r
    | [] => false
/-- none or one test -/
def mCs (T : Tab) (N : List Str) : Exs → Scope → List Expr → Bool
  | .nil, _, es => es.isEmpty
  | .cons x xs, sc, es => match es with
    | [e] => mE T N x sc e && (match xs with | .nil => true | _ => false)
    | _ => false
def mI (T : Tab) (N : List Str) : It → Scope → Expr → Bool
  | .val x, sc, e => mE T N x sc e
  | .rng1 a, sc, e => match e with
    | .Call fx [y] [] _ => mGl T sc "range" fx && mE T N a sc y && !isStar y
    | _ => false
  | .rng2 a b, sc, e => match e with
    | .Call fx [y, z] [] _ => mGl T sc "range" fx && mE T N a sc y && mE T N b sc z && !isStar y && !isStar z
    | _ => false
  | .enum x, sc, e => match e with
    | .Call fx [y] [] _ => mGl T sc "enumerate" fx && mE T N x sc y && !isStar y
    | _ => false
  | .zip a b, sc, e => match e with
    | .Call fx [y, z] [] _ => mGl T sc "zip" fx && mE T N a sc y && mE T N b sc z && !isStar y && !isStar z
    | _ => false
end
example : True := by
  have := @mE.eq_1
  trivial
end Mini
end T_M5

section T_M6
set_option Elab.async false
set_option linter.all false
set_option autoImplicit false
/-! Mini: what is known of the program; soundness, one lemma a construct. -/
namespace Mini
open PySem PySem.Spec PyProof.Rows L2

section
variable (T : Tab) (FA CA : Nat → Addr)
/-- a def's promise at some fuel -/
def spF (K : PySem.W.Frag) (n f : Nat) : Sp := fun vs H Q E => ∃ ρ vh ps, RH K CA ρ vh H ∧ RPs K ρ H ps vs ∧ (∃ fn, T.fns[f]? = some fn ∧ ps.length = fn.ps.length) ∧
  Out K CA (fun c d _ H => E c d H) [] ρ H (callF T n f ps vh) Q
/-- a class of one's own, as isinstance sees it -/
structure OwnC (K : PySem.W.Frag) (C : Addr) : Prop where
  cl : Cls K C
  ha : PySem.W.findIn K (.ref C) "__class__" = some (some (.builtin "object.__class__"))
  hn : PySem.W.specialIn K (.builtin "object.__class__") "__get__" = some (some (.builtin "getset_descriptor.__get__"))
  ht : PySem.W.takesIn K (.builtin "object.__class__") = some true
  hm : PySem.W.mroIn K C (.type "object") = some true
def tyVals : List String := ["NoneType", "bool", "int", "str", "list", "tuple", "dict"]
/-- what the top has left -/
structure FS (K : PySem.W.Frag) (mg : Str → Option Value) : Prop where
  gfn : ∀ f fn, T.fns[f]? = some fn → fn.meth = false → mg fn.name = some (.ref (FA f))
  gcl : ∀ c cl, T.cls[c]? = some cl → mg cl.name = some (.ref (CA c))
  make : ∀ c cl f, T.cls[c]? = some cl → cl.exc = false → cl.init = some f → Mk K (CA c) (FA f)
  cls : ∀ c cl, T.cls[c]? = some cl → cl.exc = false → OwnC K (CA c)
  meth : ∀ c cl m f, T.cls[c]? = some cl → cl.exc = false → cl.meths.lookup m = some f → Meth K (CA c) m (FA f)
  noat : ∀ c cl f, T.cls[c]? = some cl → cl.exc = false → f ∈ cl.attrs → NoAttr K (CA c) f
  free : ∀ x, x ∈ T.free → mg x = none
  con : ∀ x p, (x, p) ∈ T.consts → (∃ z t, p = .str z ∧ mg x = some (.str z t)) ∨ (∃ z t, p = .int z ∧ mg x = some (.int z t)) ∨ (∀ z, p ≠ .str z ∧ ∀ z, p ≠ .int z)
  isi1 : ∀ c cl n, T.cls[c]? = some cl → cl.exc = false → n ∈ tyVals → PySem.W.kitOne K (.ref (CA c)) (.type n) = some false
  isi2 : ∀ c cl d dl, T.cls[c]? = some cl → cl.exc = false → T.cls[d]? = some dl → dl.exc = false → PySem.W.kitOne K (.ref (CA c)) (.ref (CA d)) = some (c == d)
  isi3 : ∀ c cl n, T.cls[c]? = some cl → cl.exc = false → n ∈ tyVals → PySem.W.kitOne K (.type n) (.ref (CA c)) = some false
/-- the defs keep their promises at fuel n -/
def FN (P : Program) (w : World) (K : PySem.W.Frag) (mg : Str → Option Value) (base : Heap) (n : Nat) : Prop :=
  ∀ f fn, T.fns[f]? = some fn → ∃ fd, FnOk P w K mg base (L2.CX P w) (2 * n) (FA f) fd fn.ps (spF T CA K n f) ∧ PySem.W.keepIn K (.ref (FA f)) = true ∧
    ∀ k, k ≤ fn.ps.length → fn.ps.length ≤ k + fn.dfl.length → ∃ ds dvs, Vals dvs ds ∧ Binds K fd fn.ps ds ∧ ∀ ρ H, RPs K ρ H (fn.dfl.drop (fn.dfl.length + k - fn.ps.length)) dvs
/-- a context in which the text is read -/
structure Good (X : Cx) (W : WX) (n : Nat) : Prop where
  tk : Takes X W
  own : PassesOwn (model X.prog X.w) X.A X.env X.xe
  calm : X.calm = true
  nd : X.N.Nodup
  room : Room (2 * n + 1) X.A
  fs : FS T FA CA X.K X.mg
  fn : FN T FA CA X.prog X.w X.K X.mg X.base n
theorem Good.hu {X : Cx} {W : WX} {n : Nat} (g : Good T FA CA X W n) : X.A.units + 200 < cLine := by have := g.room.un; omega
end

/-! ### readings -/
section
variable (T : Tab) (CA : Nat → Addr) (K : PySem.W.Frag) (W : WX) (n : Nat)
def tE (x : Ex) : TE := fun σ H Q => ∃ ρ vh env, RH K CA ρ vh H ∧ RE K ρ H env σ ∧ Out K CA W σ ρ H (evE T (callF T n) x env vh) Q
def tEs (x : Exs) : TA := fun σ H Q => ∃ ρ vh env, RH K CA ρ vh H ∧ RE K ρ H env σ ∧ OutA K CA W σ ρ H (evEs T (callF T n) x env vh) Q
def tT (x : Ex) : TT := fun σ H Q => ∃ ρ vh env, RH K CA ρ vh H ∧ RE K ρ H env σ ∧ OutU K CA W σ ρ H ((evE T (callF T n) x env vh).bind asB) (fun b _ _ H' => Q b H')
end

section
variable {T : Tab} {CA FA : Nat → Addr} {X : Cx} {W : WX} {n : Nat}
theorem conOk_str {s t : Str} (h : conOk (.str s) (.str t) = true) : s = t := by simpa [conOk] using h
theorem s_con {p : PV} {c : Const} {j : Nat} {pos : Pos} (h : conOk p c = true) : PE X (.Constant c j pos) (tE T CA X.K W n (.con p)) := by
  refine ⟨fun pins s σ H Q I ⟨ρ, vh, env, hH, hE, h1⟩ => ?_⟩
  have fin : ∀ {v : V}, RP X.K ρ H p v → Q v H := fun r => h1 ρ H _ (List.prefix_refl _) (Ext.refl _) hH r
  cases p with
  | non =>
    cases c with
    | none => exact pe_non.run pins s σ H Q I (fin .non)
    | _ => cases h
  | bl b =>
    cases c with
    | bool d =>
      have e : b = d := by simpa [conOk] using h
      subst e
      exact pe_bl.run pins s σ H Q I (fin (.bl b))
    | _ => cases h
  | int i =>
    cases c with
    | int d =>
      have e : i = d := by simpa [conOk] using h
      subst e
      exact pe_int.run pins s σ H Q I (fin (.int i))
    | _ => cases h
  | str z =>
    cases c with
    | str d =>
      have e := conOk_str h
      subst e
      exact pe_str.run pins s σ H Q I (fin (.str z))
    | _ => cases h
  | _ => cases c <;> cases h
theorem vis_of {sc : Scope} {x : Str} (h : vis sc x = true) : Vis sc x := by
  unfold vis at h
  split at h
  · exact .inl (by assumption)
  · exact .inr (.inl (by assumption))
  · exact .inr (.inr (by assumption))
  · cases h
theorem gl_of {x : Str} (h : gl X.env.scope x = true) : Gl X x ∧ (x == ("__debug__" : Str)) = false ∧ x ≠ ("__name__" : Str) := by
  unfold gl at h
  split at h
  · rename_i e
    rw [Bool.and_eq_true, bne_iff_ne, bne_iff_ne] at h
    exact ⟨e, by simpa using h.1, h.2⟩
  · cases h
theorem s_var {i : Nat} {x : Str} {pos : Pos} (hN : X.N[i]? = some x) (hv : vis X.env.scope x = true) (hd : (x != ("__debug__" : Str)) = true) (hc : (x != ("__classdict__" : Str)) = true) : PE X (.Name x pos) (tE T CA X.K W n (.var i)) := by
  refine ⟨fun pins s σ H Q I ⟨ρ, vh, env, hH, hE, h1⟩ => ?_⟩
  refine (pe_var hN (vis_of hv) (by simpa using hd) (by simpa using hc)).run pins s σ H Q I ?_
  unfold evE at h1
  split at h1
  · rename_i p e
    obtain ⟨v, ev, r⟩ := hE.get i p e
    exact ⟨v, ev, h1 ρ H _ (List.prefix_refl _) (Ext.refl _) hH r⟩
  · exact h1.elim
theorem s_bin {o : Operator} {a b : Ex} {l r : Expr} {pos : Pos} (ha : PE X l (tE T CA X.K W n a)) (hb : PE X r (tE T CA X.K W n b)) : PE X (.BinOp l o r pos) (tE T CA X.K W n (.bin o a b)) := by
  refine ⟨fun pins s σ H Q I ⟨ρ, vh, env, hH, hE, h⟩ => ?_⟩
  refine (pe_op (opr_bin (CA := CA) o) ha hb).run pins s σ H Q I ?_
  unfold evE at h
  refine ⟨ρ, vh, env, hH, hE, Out.step h fun p vh1 ρ1 H1 v e1 p1 x1 hH1 rp h1 => ?_⟩
  refine ⟨ρ1, vh1, env, hH1, hE.mono p1 x1, Out.step h1 fun q vh2 ρ2 H2 w e2 p2 x2 hH2 rq h2 => ?_⟩
  exact ⟨ρ2, vh2, p, q, hH2, rp.mono p2 x2, rq, h2.o⟩
theorem s_neg {a : Ex} {l : Expr} {pos : Pos} (ha : PE X l (tE T CA X.K W n a)) : PE X (.UnaryOp .USub l pos) (tE T CA X.K W n (.neg a)) := by
  refine ⟨fun pins s σ H Q I ⟨ρ, vh, env, hH, hE, h⟩ => ?_⟩
  refine (pe_un un_neg ha).run pins s σ H Q I ?_
  unfold evE at h
  refine ⟨ρ, vh, env, hH, hE, Out.step h fun p vh1 ρ1 H1 v e1 p1 x1 hH1 rp h1 => ?_⟩
  have h2 := h1.o
  cases rp with
  | int i => exact ⟨i, rfl, OutO.here h2 hH1 (.int _)⟩
  | _ => exact h2.elim
/-- a test's reading by the value's -/
theorem tT_of {x : Ex} {σ : L2.St} {H : Hp} {Q : Bool → Hp → Prop} (h : tT T CA X.K W n x σ H Q) : tE T CA X.K W n x σ H (fun v H' => ∃ k, v = .bl k ∧ Q k H') := by
  obtain ⟨ρ, vh, env, hH, hE, h⟩ := h
  refine ⟨ρ, vh, env, hH, hE, OutU.step h fun p vh1 ρ1 H1 v e1 p1 x1 hH1 rp h1 => ?_⟩
  cases rp with
  | bl b => exact ⟨b, rfl, h1 ρ1 H1 (List.prefix_refl _) (Ext.refl _) hH1⟩
  | _ => exact h1.elim
theorem r_cmp {o : CmpOp} {a b : Ex} {σ : L2.St} {H : Hp} {Q : VK} (h : tE T CA X.K W n (.cmp o a b) σ H Q) : tOp (rC X.K CA (cmpop o)) (tE T CA X.K W n a) (tE T CA X.K W n b) σ H Q := by
  obtain ⟨ρ, vh, env, hH, hE, h⟩ := h
  unfold evE at h
  refine ⟨ρ, vh, env, hH, hE, Out.step h fun p vh1 ρ1 H1 v e1 p1 x1 hH1 rp h1 => ?_⟩
  refine ⟨ρ1, vh1, env, hH1, hE.mono p1 x1, Out.step h1 fun q vh2 ρ2 H2 w e2 p2 x2 hH2 rq h2 => ?_⟩
  exact ⟨ρ2, vh2, p, q, hH2, rp.mono p2 x2, rq, Out.b hH2 h2⟩
theorem s_cmp (g : Good T FA CA X W n) {o : CmpOp} {a b : Ex} {l r : Expr} {pos : Pos} (ha : PE X l (tE T CA X.K W n a)) (hb : PE X r (tE T CA X.K W n b)) (hs : isSet r = false) : PE X (.Compare l [o] [r] pos) (tE T CA X.K W n (.cmp o a b)) :=
  ⟨fun pins s σ H Q I h => (pe_cmpR (opr_cmp (CA := CA) g.hu o) ha hb (set_plain hs)).run pins s σ H Q I (r_cmp h)⟩
theorem s_cmpT (g : Good T FA CA X W n) {o : CmpOp} {a b : Ex} {l r : Expr} {pos : Pos} (ha : PE X l (tE T CA X.K W n a)) (hb : PE X r (tE T CA X.K W n b)) (hs : isSet r = false) : PT X (.Compare l [o] [r] pos) (tT T CA X.K W n (.cmp o a b)) :=
  ⟨fun pins s σ H Q I h => (pt_cmpR (opr_cmp (CA := CA) g.hu o) ha hb (set_plain hs)).run pins s σ H Q I (r_cmp (tT_of h))⟩
theorem r_cmp2 {o1 o2 : CmpOp} {a b c : Ex} {σ : L2.St} {H : Hp} {Q : VK} (h : tE T CA X.K W n (.cmp2 o1 o2 a b c) σ H Q) : tChain (rC X.K CA (cmpop o1)) (rC X.K CA (cmpop o2)) (tE T CA X.K W n a) (tE T CA X.K W n b) (tE T CA X.K W n c) σ H Q := by
  obtain ⟨ρ, vh, env, hH, hE, h⟩ := h
  unfold evE at h
  refine ⟨ρ, vh, env, hH, hE, Out.step h fun p vh1 ρ1 H1 v e1 p1 x1 hH1 rp h1 => ?_⟩
  refine ⟨ρ1, vh1, env, hH1, hE.mono p1 x1, Out.step h1 fun q vh2 ρ2 H2 w e2 p2 x2 hH2 rq h2 => ?_⟩
  refine ⟨ρ2, vh2, p, q, hH2, rp.mono p2 x2, rq, ?_⟩
  cases e : cmpop o1 p q vh2 with
  | none => rw [e] at h2; exact h2
  | some k =>
    rw [e] at h2
    refine ⟨k, rfl, ?_⟩
    cases k with
    | false => exact h2 ρ2 H2 _ (List.prefix_refl _) (Ext.refl _) hH2 (.bl false)
    | true =>
      rw [if_pos rfl]
      refine ⟨ρ2, vh2, env, hH2, (hE.mono p1 x1).mono p2 x2, Out.step h2 fun r vh3 ρ3 H3 u e3 p3 x3 hH3 rr h3 => ?_⟩
      exact ⟨ρ3, vh3, q, r, hH3, rq.mono p3 x3, rr, Out.b hH3 h3⟩
theorem marks2 {o1 o2 : CmpOp} {b c : Expr} (h : isSet c = false) : lastMarks [o1, o2] [b, c] = false := set_plain h
theorem s_cmp2 (g : Good T FA CA X W n) {o1 o2 : CmpOp} {a b c : Ex} {l r t : Expr} {pos : Pos} (ha : PE X l (tE T CA X.K W n a)) (hb : PE X r (tE T CA X.K W n b)) (hc : PE X t (tE T CA X.K W n c)) (hs : isSet t = false) :
    PE X (.Compare l [o1, o2] [r, t] pos) (tE T CA X.K W n (.cmp2 o1 o2 a b c)) :=
  ⟨fun pins s σ H Q I h => (pe_chain (opr_cmp (CA := CA) g.hu o1) (opr_cmp (CA := CA) g.hu o2) ha hb hc (marks2 hs)).run pins s σ H Q I (r_cmp2 h)⟩
theorem s_cmp2T (g : Good T FA CA X W n) {o1 o2 : CmpOp} {a b c : Ex} {l r t : Expr} {pos : Pos} (ha : PE X l (tE T CA X.K W n a)) (hb : PE X r (tE T CA X.K W n b)) (hc : PE X t (tE T CA X.K W n c)) (hs : isSet t = false) :
    PT X (.Compare l [o1, o2] [r, t] pos) (tT T CA X.K W n (.cmp2 o1 o2 a b c)) :=
  ⟨fun pins s σ H Q I h => (pt_chain (opr_cmp (CA := CA) g.hu o1) (opr_cmp (CA := CA) g.hu o2) ha hb hc (marks2 hs)).run pins s σ H Q I (r_cmp2 (tT_of h))⟩
/-- a value that is a truth, as a test -/
theorem s_plainT {x : Ex} {e : Expr} (h : PE X e (tE T CA X.K W n x)) (hp : plainTest e = true) : PT X e (tT T CA X.K W n x) :=
  ⟨fun pins s σ H Q I q => (pt_val h (test_plain hp _)).run pins s σ H Q I (tT_of q)⟩
/-! and, or, not, if -/
theorem bind_assoc' {α β γ : Type} (r : Res α) (f : α → VH → Res β) (g : β → VH → Res γ) : (r.bind f).bind g = r.bind fun a vh => (f a vh).bind g := by cases r <;> rfl
theorem s_and {a b : Ex} {v w : Expr} {rest : List Expr} {pos : Pos} (ha : PE X v (tE T CA X.K W n a)) (hb : PE X (.BoolOp .And (w :: rest) pos) (tE T CA X.K W n b)) : PE X (.BoolOp .And (v :: w :: rest) pos) (tE T CA X.K W n (.and2 a b)) := by
  refine ⟨fun pins s σ H Q I ⟨ρ, vh, env, hH, hE, h⟩ => ?_⟩
  refine (pe_and ha hb).run pins s σ H Q I ?_
  unfold evE at h
  rw [bind_assoc'] at h
  refine ⟨ρ, vh, env, hH, hE, Out.step h fun p vh1 ρ1 H1 v e1 p1 x1 hH1 rp h1 => ?_⟩
  cases rp with
  | bl c =>
    refine ⟨c, rfl, ?_⟩
    cases c with
    | true => exact ⟨ρ1, vh1, env, hH1, hE.mono p1 x1, h1⟩
    | false => exact h1 ρ1 H1 _ (List.prefix_refl _) (Ext.refl _) hH1 (.bl false)
  | _ => exact h1.elim
theorem s_or {a b : Ex} {v w : Expr} {rest : List Expr} {pos : Pos} (ha : PE X v (tE T CA X.K W n a)) (hb : PE X (.BoolOp .Or (w :: rest) pos) (tE T CA X.K W n b)) : PE X (.BoolOp .Or (v :: w :: rest) pos) (tE T CA X.K W n (.or2 a b)) := by
  refine ⟨fun pins s σ H Q I ⟨ρ, vh, env, hH, hE, h⟩ => ?_⟩
  refine (pe_or ha hb).run pins s σ H Q I ?_
  unfold evE at h
  rw [bind_assoc'] at h
  refine ⟨ρ, vh, env, hH, hE, Out.step h fun p vh1 ρ1 H1 v e1 p1 x1 hH1 rp h1 => ?_⟩
  cases rp with
  | bl c =>
    refine ⟨c, rfl, ?_⟩
    cases c with
    | false => exact ⟨ρ1, vh1, env, hH1, hE.mono p1 x1, h1⟩
    | true => exact h1 ρ1 H1 _ (List.prefix_refl _) (Ext.refl _) hH1 (.bl true)
  | _ => exact h1.elim
theorem s_not {a : Ex} {v : Expr} {pos : Pos} (ha : PE X v (tE T CA X.K W n a)) : PE X (.UnaryOp .Not v pos) (tE T CA X.K W n (.not a)) := by
  refine ⟨fun pins s σ H Q I ⟨ρ, vh, env, hH, hE, h⟩ => ?_⟩
  refine (pe_not ha).run pins s σ H Q I ?_
  unfold evE at h
  rw [bind_assoc'] at h
  refine ⟨ρ, vh, env, hH, hE, Out.step h fun p vh1 ρ1 H1 v e1 p1 x1 hH1 rp h1 => ?_⟩
  cases rp with
  | bl c => exact ⟨c, rfl, h1 ρ1 H1 _ (List.prefix_refl _) (Ext.refl _) hH1 (.bl _)⟩
  | _ => exact h1.elim
theorem s_notT {a : Ex} {v : Expr} {pos : Pos} (ha : PT X v (tT T CA X.K W n a)) : PT X (.UnaryOp .Not v pos) (tT T CA X.K W n (.not a)) := by
  refine ⟨fun pins s σ H Q I ⟨ρ, vh, env, hH, hE, h⟩ => ?_⟩
  refine (pt_not ha).run pins s σ H Q I ?_
  unfold evE at h
  rw [bind_assoc'] at h
  exact ⟨ρ, vh, env, hH, hE, OutU.stepU h fun b vh1 ρ1 H1 e1 p1 x1 hH1 h1 => h1 ρ1 H1 (List.prefix_refl _) (Ext.refl _) hH1⟩
theorem s_andW {a b : Ex} {v w : Expr} {rest : List Expr} {pos : Pos} (ha : PT X v (tT T CA X.K W n a)) (hb : PW X (.BoolOp .And (w :: rest) pos) (tT T CA X.K W n b)) : PW X (.BoolOp .And (v :: w :: rest) pos) (tT T CA X.K W n (.and2 a b)) := by
  refine ⟨fun wh pins s σ H Q I ⟨ρ, vh, env, hH, hE, h⟩ => ?_⟩
  refine (pw_and ha hb).run wh pins s σ H Q I ?_
  unfold evE at h
  rw [bind_assoc'] at h
  refine ⟨ρ, vh, env, hH, hE, OutU.stepU h fun c vh1 ρ1 H1 e1 p1 x1 hH1 h1 => ?_⟩
  cases c with
  | true => exact ⟨ρ1, vh1, env, hH1, hE.mono p1 x1, h1⟩
  | false => exact h1 ρ1 H1 (List.prefix_refl _) (Ext.refl _) hH1
theorem s_orW {a b : Ex} {v w : Expr} {rest : List Expr} {pos : Pos} (ha : PT X v (tT T CA X.K W n a)) (hb : PW X (.BoolOp .Or (w :: rest) pos) (tT T CA X.K W n b)) : PW X (.BoolOp .Or (v :: w :: rest) pos) (tT T CA X.K W n (.or2 a b)) := by
  refine ⟨fun wh pins s σ H Q I ⟨ρ, vh, env, hH, hE, h⟩ => ?_⟩
  refine (pw_or ha hb).run wh pins s σ H Q I ?_
  unfold evE at h
  rw [bind_assoc'] at h
  refine ⟨ρ, vh, env, hH, hE, OutU.stepU h fun c vh1 ρ1 H1 e1 p1 x1 hH1 h1 => ?_⟩
  cases c with
  | false => exact ⟨ρ1, vh1, env, hH1, hE.mono p1 x1, h1⟩
  | true => exact h1 ρ1 H1 (List.prefix_refl _) (Ext.refl _) hH1
theorem r_ite {t a b : Ex} {σ : L2.St} {H : Hp} {Q : VK} (h : tE T CA X.K W n (.ite t a b) σ H Q) : tIf (tT T CA X.K W n t) (tE T CA X.K W n a) (tE T CA X.K W n b) σ H Q := by
  obtain ⟨ρ, vh, env, hH, hE, h⟩ := h
  unfold evE at h
  refine ⟨ρ, vh, env, hH, hE, Out.stepU h fun c vh1 ρ1 H1 e1 p1 x1 hH1 h1 => ?_⟩
  cases c with
  | true => exact ⟨ρ1, vh1, env, hH1, hE.mono p1 x1, h1⟩
  | false => exact ⟨ρ1, vh1, env, hH1, hE.mono p1 x1, h1⟩
theorem s_ite {t a b : Ex} {c v w : Expr} {pos : Pos} (ht : PT X c (tT T CA X.K W n t)) (ha : PE X v (tE T CA X.K W n a)) (hb : PE X w (tE T CA X.K W n b)) : PE X (.IfExp c v w pos) (tE T CA X.K W n (.ite t a b)) :=
  ⟨fun pins s σ H Q I h => (pe_ifExp ht ha hb).run pins s σ H Q I (r_ite h)⟩
/-! ### lists of expressions, displays -/
theorem s_nil : PA X [] (tEs T CA X.K W n .nil) := by
  refine ⟨fun pos pins s σ H Q I ⟨ρ, vh, env, hH, hE, h⟩ => ?_⟩
  exact pa_nil.run pos pins s σ H Q I (h ρ H [] (List.prefix_refl _) (Ext.refl _) hH .nil)
theorem s_cons {x : Ex} {xs : Exs} {e : Expr} {es : List Expr} (ha : PE X e (tE T CA X.K W n x)) (hr : PA X es (tEs T CA X.K W n xs)) (hs : isStar e = false) : PA X (e :: es) (tEs T CA X.K W n (.cons x xs)) := by
  refine ⟨fun pos pins s σ H Q I ⟨ρ, vh, env, hH, hE, h⟩ => ?_⟩
  refine (pa_cons ha hr (star_cons hs)).run pos pins s σ H Q I ?_
  unfold evEs at h
  refine ⟨ρ, vh, env, hH, hE, OutA.step h fun p vh1 ρ1 H1 v e1 p1 x1 hH1 rp h1 => ?_⟩
  refine ⟨ρ1, vh1, env, hH1, hE.mono p1 x1, OutA.stepA h1 fun ps vh2 ρ2 H2 vs e2 p2 x2 hH2 rps h2 => ?_⟩
  exact h2 ρ2 H2 _ (List.prefix_refl _) (Ext.refl _) hH2 (.cons (rp.mono p2 x2) rps)
theorem s_tup {xs : Exs} {es : List Expr} {k : Nat} {pos : Pos} (ha : PA X es (tEs T CA X.K W n xs)) : PE X (.Tuple es k pos) (tE T CA X.K W n (.tup xs)) := by
  refine ⟨fun pins s σ H Q I ⟨ρ, vh, env, hH, hE, h⟩ => ?_⟩
  refine (pe_tup ha).run pins s σ H Q I ?_
  unfold evE at h
  exact ⟨ρ, vh, env, hH, hE, Out.stepA h fun ps vh1 ρ1 H1 vs e1 p1 x1 hH1 rps h1 => OutO.newT h1.o hH1 rps⟩
theorem s_lst {xs : Exs} {es : List Expr} {pos : Pos} (ha : PA X es (tEs T CA X.K W n xs)) : PE X (.List es pos) (tE T CA X.K W n (.lst xs)) := by
  refine ⟨fun pins s σ H Q I ⟨ρ, vh, env, hH, hE, h⟩ => ?_⟩
  refine (pe_lst ha).run pins s σ H Q I ?_
  unfold evE at h
  exact ⟨ρ, vh, env, hH, hE, Out.stepA h fun ps vh1 ρ1 H1 vs e1 p1 x1 hH1 rps h1 => OutO.newL h1.o hH1 rps⟩
theorem s_dct0 {pos : Pos} : PE X (.Dict [] [] pos) (tE T CA X.K W n .dct0) := by
  refine ⟨fun pins s σ H Q I ⟨ρ, vh, env, hH, hE, h⟩ => ?_⟩
  refine pe_dnewK.run pins s σ H Q I ?_
  unfold evE at h
  exact OutO.dct h.o hH .nil
/-! ### subscripts -/
theorem s_idx (g : Good T FA CA X W n) {a i : Ex} {v j : Expr} {pos : Pos} (ha : PE X v (tE T CA X.K W n a)) (hi : PE X j (tE T CA X.K W n i)) (hs : isSlice j = false) : PE X (.Subscript v j pos) (tE T CA X.K W n (.idx a i)) := by
  refine ⟨fun pins s σ H Q I ⟨ρ, vh, env, hH, hE, h⟩ => ?_⟩
  unfold evE at h
  by_cases hd : ∃ k kvs vh1 q vh2, evE T (callF T n) a env vh = .ok (.ref k) vh1 ∧ evE T (callF T n) i env vh1 = .ok q vh2 ∧ vh2[k]? = some (.dct kvs)
  · obtain ⟨k, kvs, vh1, q, vh2, ea, ei, ed⟩ := hd
    refine (pe_dget (by have := g.hu; omega) ha hi (slice_plain hs)).run pins s σ H Q I ?_
    refine ⟨ρ, vh, env, hH, hE, Out.step h fun p vh1' ρ1 H1 x e1 p1 x1 hH1 rp h1 => ?_⟩
    rw [ea] at e1
    cases e1
    refine ⟨ρ1, vh1, env, hH1, hE.mono p1 x1, Out.step h1 fun q' vh2' ρ2 H2 y e2 p2 x2 hH2 rq h2 => ?_⟩
    rw [ei] at e2
    cases e2
    obtain ⟨b, ws, rfl, eb, hb, rw'⟩ := hH2.dct ed (rp.mono p2 x2)
    have h3 := h2.o
    unfold idxP at h3
    dsimp only at h3
    rw [ed] at h3
    dsimp only at h3
    cases ek : kOf q with
    | none => rw [ek] at h3; exact h3.elim
    | some kk =>
      rw [ek] at h3
      dsimp only at h3
      cases ev : valP kvs kk with
      | none => rw [ev] at h3; exact h3.elim
      | some y' =>
        rw [ev] at h3
        obtain ⟨z, ez, rz⟩ := (valP_rel (k := kk) rw').1 y' ev
        have hk := kOf_rel ek rq
        subst hk
        refine ⟨b, z, rfl, ?_, OutO.here h3 hH2 rz⟩
        rw [← ez]
        exact DGet.k hb
  · refine (pe_ix (ixr_seq (CA := CA)) ha hi (slice_plain hs)).run pins s σ H Q I ?_
    refine ⟨ρ, vh, env, hH, hE, Out.step h fun p vh1 ρ1 H1 x e1 p1 x1 hH1 rp h1 => ?_⟩
    refine ⟨ρ1, vh1, env, hH1, hE.mono p1 x1, Out.step h1 fun q vh2 ρ2 H2 y e2 p2 x2 hH2 rq h2 => ?_⟩
    refine ⟨ρ2, vh2, p, q, hH2, rp.mono p2 x2, rq, ?_⟩
    have h3 := h2.o
    cases p with
    | ref k =>
      dsimp only [seqOf]
      unfold idxP at h3
      dsimp only at h3
      cases eo : vh2[k]? with
      | none => rw [eo] at h3; exact h3
      | some o =>
        cases o with
        | lst xs => dsimp only [idxP]; rw [eo]; rw [eo] at h3; exact h3
        | dct kvs => exact absurd ⟨k, kvs, vh1, q, vh2, e1, e2, eo⟩ hd
        | ins c fs => rw [eo] at h3; exact h3
    | _ => exact h3
end
end Mini
end T_M6

section T_M7
set_option Elab.async false
set_option linter.all false
set_option autoImplicit false
/-! Mini: soundness of slices, calls, methods, fields, isinstance. -/
namespace Mini
open PySem PySem.Spec PyProof.Rows L2
section
variable {T : Tab} {CA FA : Nat → Addr} {X : Cx} {W : WX} {n : Nat}
/-! ### slices -/
def tO (T : Tab) (CA : Nat → Addr) (K : PySem.W.Frag) (W : WX) (n : Nat) (x : Ex) : TO := fun σ H Q => ∃ ρ vh env, RH K CA ρ vh H ∧ RE K ρ H env σ ∧
  OutU K CA W σ ρ H ((evE T (callF T n) x env vh).bind (partI (isAbs x))) (fun o _ _ H' => Q o H')
theorem s_oN {x : Ex} (hx : isAbs x = true) : PO X none (tO T CA X.K W n x) := by
  refine ⟨fun pins s σ H Q I ⟨ρ, vh, env, hH, hE, h⟩ => ?_⟩
  refine po_none.run pins s σ H Q I ?_
  cases x <;> first | cases hx | skip
  exact h ρ H (List.prefix_refl _) (Ext.refl _) hH
theorem s_oS {x : Ex} {e : Expr} (hx : isAbs x = false) (ha : PE X e (tE T CA X.K W n x)) : PO X (some e) (tO T CA X.K W n x) := by
  refine ⟨fun pins s σ H Q I ⟨ρ, vh, env, hH, hE, h⟩ => ?_⟩
  refine (po_some ha).run pins s σ H Q I ?_
  rw [hx] at h
  refine ⟨ρ, vh, env, hH, hE, OutU.step h fun p vh1 ρ1 H1 v e1 p1 x1 hH1 rp h1 => ?_⟩
  cases rp with
  | int i => exact ⟨i, rfl, h1 ρ1 H1 (List.prefix_refl _) (Ext.refl _) hH1⟩
  | _ => exact h1.elim
theorem s_sl {a lo hi : Ex} {v : Expr} {l u : Option Expr} {pos p2 : Pos} (ha : PE X v (tE T CA X.K W n a)) (hl : PO X l (tO T CA X.K W n lo)) (hh : PO X u (tO T CA X.K W n hi)) : PE X (.Subscript v (.Slice l u none p2) pos) (tE T CA X.K W n (.sl a lo hi)) := by
  refine ⟨fun pins s σ H Q I ⟨ρ, vh, env, hH, hE, h⟩ => ?_⟩
  refine (pe_slice (slr_seq (CA := CA)) ha hl hh).run pins s σ H Q I ?_
  unfold evE at h
  refine ⟨ρ, vh, env, hH, hE, Out.step h fun p vh1 ρ1 H1 v e1 p1 x1 hH1 rp h1 => ?_⟩
  refine ⟨ρ1, vh1, env, hH1, hE.mono p1 x1, Out.stepU h1 fun o vh2 ρ2 H2 e2 p2 x2 hH2 h2 => ?_⟩
  refine ⟨ρ2, vh2, env, hH2, (hE.mono p1 x1).mono p2 x2, Out.stepU h2 fun o' vh3 ρ3 H3 e3 p3 x3 hH3 h3 => ?_⟩
  exact ⟨ρ3, vh3, p, hH3, (rp.mono p2 x2).mono p3 x3, h3.o⟩
/-! ### built-in functions -/
theorem s_callB {f : List PV → VH → Option (PV × VH)} {id : String} {x : Str} {xs : Exs} {b : String} {y : Expr} {ys : List Expr} {p pos : Pos} (hc : CallR X (.builtin id) (rA X.K CA f)) (he : ∀ ps vh q, blt b ps vh = some q → f ps vh = some q)
    (hg : gl X.env.scope x = true) (hm : X.mg x = none) (hv : bootBuiltins x = some (.builtin id)) (ha : PA X (y :: ys) (tEs T CA X.K W n xs)) (hs : (y :: ys).all (fun e => !isStar e) = true) : PE X (.Call (.Name x p) (y :: ys) [] pos) (tE T CA X.K W n (.blt b xs)) := by
  obtain ⟨g1, g2, g3⟩ := gl_of hg
  rw [List.all_cons, Bool.and_eq_true] at hs
  refine ⟨fun pins s σ H Q I ⟨ρ, vh, env, hH, hE, h⟩ => ?_⟩
  refine (pe_callB hc g1 hm hv ha g3 g2 (star_cons (by simpa using hs.1)) (star_none hs.2)).run pins s σ H Q I ?_
  unfold evE at h
  refine ⟨ρ, vh, env, hH, hE, Out.stepA h fun ps vh1 ρ1 H1 vs e1 p1 x1 hH1 rps h1 => ⟨ρ1, vh1, ps, hH1, rps, ?_⟩⟩
  have h2 := h1.o
  cases e : blt b ps vh1 with
  | none => rw [e] at h2; exact h2.elim
  | some q => rw [he ps vh1 q e]; rw [e] at h2; exact h2
theorem s_callTy {f : List PV → VH → Option (PV × VH)} {ty : String} {x : Str} {xs : Exs} {b : String} {y : Expr} {ys : List Expr} {p pos : Pos} (hc : CallR X (.type ty) (rA X.K CA f)) (he : ∀ ps vh q, blt b ps vh = some q → f ps vh = some q)
    (hg : gl X.env.scope x = true) (hm : X.mg x = none) (hv : bootBuiltins x = some (.type ty)) (ha : PA X (y :: ys) (tEs T CA X.K W n xs)) (hs : (y :: ys).all (fun e => !isStar e) = true) : PE X (.Call (.Name x p) (y :: ys) [] pos) (tE T CA X.K W n (.blt b xs)) := by
  obtain ⟨g1, g2, g3⟩ := gl_of hg
  rw [List.all_cons, Bool.and_eq_true] at hs
  refine ⟨fun pins s σ H Q I ⟨ρ, vh, env, hH, hE, h⟩ => ?_⟩
  refine (pe_callTy hc g1 hm hv ha g3 g2 (star_cons (by simpa using hs.1)) (star_none hs.2)).run pins s σ H Q I ?_
  unfold evE at h
  refine ⟨ρ, vh, env, hH, hE, Out.stepA h fun ps vh1 ρ1 H1 vs e1 p1 x1 hH1 rps h1 => ⟨ρ1, vh1, ps, hH1, rps, ?_⟩⟩
  have h2 := h1.o
  cases e : blt b ps vh1 with
  | none => rw [e] at h2; exact h2.elim
  | some q => rw [he ps vh1 q e]; rw [e] at h2; exact h2
/-! ### methods: the text's form -/
theorem meth_form {o : Expr} {m : Str} {ap pos : Pos} {es : List Expr} {env : PySem.Env} (h0 : noCall0 o = true) (hl : (ap.endLine == pos.line) = true) (hn : es.length < 29) (hs : es.all (fun e => !isStar e) = true) :
    eval (.Call (.Attribute o m ap) es [] pos) env = (do
      let ov ← eval o env
      standAt ap.atName
      let (f, first) ← holding [ov] (getMethod ov m (do return (← importBound o env).getD true))
      callWith pos f first (backTo pos (starEach es env)) (backToKw pos (keywordEach [] env))) := by
  have hf : methodCallForm (es.length + 0) (backTo pos (starEach es env)) (backToKw pos (keywordEach [] env)) = true := by
    have hall : ∀ l : List Expr, l.all (fun e => !isStar e) = true → (backTo pos (starEach l env)).all (!·.1) = true := by
      intro l
      induction l with
      | nil => intro _; rfl
      | cons e l ih =>
        intro h
        rw [List.all_cons, Bool.and_eq_true] at h
        rw [star_cons (by simpa using h.1)]
        simpa [backTo] using ih h.2
    unfold methodCallForm
    rw [hall es hs]
    simp [keywordEach, backToKw]
    omega
  show (do
    let ov ← attributeBase o m env (eval o env)
    standAt ap.atName
    methodCall o m ap pos env ov (es.length + 0) (backTo pos (starEach es env)) (backToKw pos (keywordEach [] env))) = _
  rw [base_plain h0]
  unfold methodCall
  rw [hf]
  have hp : methodCallPos true o env ap pos = pure pos := by
    unfold methodCallPos
    rw [hl]
    rfl
  rw [hp]
  rfl
/-! ### defs called -/
theorem evEs_len : ∀ (xs : Exs) (env : Env) (vh vh' : VH) (ps : List PV), evEs T (callF T n) xs env vh = .ok ps vh' → ps.length = xs.len
  | .nil, _, _, _, _, e => by cases e; rfl
  | .cons x xs, env, vh, vh', ps, e => by
    unfold evEs at e
    cases e1 : evE T (callF T n) x env vh with
    | ok p vh1 =>
      rw [e1] at e
      dsimp only [Res.bind] at e
      cases e2 : evEs T (callF T n) xs env vh1 with
      | ok qs vh2 =>
        rw [e2] at e
        cases e
        exact congrArg Nat.succ (evEs_len xs env vh1 _ qs e2)
      | exc _ _ _ => rw [e2] at e; cases e
      | stuck => rw [e2] at e; cases e
    | exc _ _ _ => rw [e1] at e; cases e
    | stuck => rw [e1] at e; cases e
theorem mEs_len {N : List Str} {sc : Scope} : ∀ (xs : Exs) (es : List Expr), mEs T N xs sc es = true → es.length = xs.len ∧ es.all (fun e => !isStar e) = true
  | .nil, es, h => by
    unfold mEs at h
    cases es with
    | nil => exact ⟨rfl, rfl⟩
    | cons _ _ => cases h
  | .cons x xs, es, h => by
    unfold mEs at h
    cases es with
    | nil => cases h
    | cons e r =>
      dsimp only at h
      rw [Bool.and_eq_true, Bool.and_eq_true] at h
      obtain ⟨a, b⟩ := mEs_len xs r h.2
      exact ⟨congrArg Nat.succ a, by rw [List.all_cons, h.1.2, b]; rfl⟩
/-- the defaults fill up -/
theorem callF_fill {f k : Nat} {fn : Fn} {ps : List PV} {vh : VH} (hf : T.fns[f]? = some fn) (hk : ps.length = k) (h1 : k ≤ fn.ps.length) (h2 : fn.ps.length ≤ k + fn.dfl.length) :
    callF T n f (ps ++ fn.dfl.drop (fn.dfl.length + k - fn.ps.length)) vh = callF T n f ps vh ∧ (ps ++ fn.dfl.drop (fn.dfl.length + k - fn.ps.length)).length = fn.ps.length := by
  have hl : (ps ++ fn.dfl.drop (fn.dfl.length + k - fn.ps.length)).length = fn.ps.length := by
    rw [List.length_append, List.length_drop, hk]
    omega
  refine ⟨?_, hl⟩
  cases n with
  | zero => rfl
  | succ n =>
    unfold callF
    rw [hf]
    dsimp only
    unfold runFn
    dsimp only
    rw [hl, hk]
    have e : fn.dfl.drop (fn.dfl.length + fn.ps.length - fn.ps.length) = [] := by simp
    rw [e, List.append_nil]
theorem arity_of {f k : Nat} (h : arity T f k = true) : ∃ fn, T.fns[f]? = some fn ∧ k ≤ fn.ps.length ∧ fn.ps.length ≤ k + fn.dfl.length := by
  unfold arity at h
  split at h
  · rename_i fn e
    rw [Bool.and_eq_true, decide_eq_true_eq, decide_eq_true_eq] at h
    exact ⟨fn, e, h.1, h.2⟩
  · cases h
/-- a call by values: the caller's slots are in the wish -/
theorem run_call (g : Good T FA CA X W n) {f : Nat} {pins : List (Addr × Obj)} {σ : L2.St} {H : Hp} {s : Shared} {Q : VK} {us : List Value} {vs : List V} {ρ : List Addr} {vh : VH} {ps : List PV} (I : L2.Inv X pins σ H s) (rv : Vals vs us)
    (ha : arity T f ps.length = true) (hH : RH X.K CA ρ vh H) (rp : RPs X.K ρ H ps vs) (h : Out X.K CA W σ ρ H (callF T n f ps vh) Q) : wpAny (model X.prog X.w) X.A (call (.ref (FA f)) us) (EP X pins σ Q) X.xe s := by
  obtain ⟨fn, ef, h1, h2⟩ := arity_of ha
  obtain ⟨fd, F, kp, hb⟩ := g.fn f fn ef
  obtain ⟨ds, dvs, rd, bd, rr⟩ := hb ps.length h1 h2
  refine run_fnSD (E := WE W) (dvs := dvs) F (g.room.mono (by omega)) bd rd (passAt g.tk σ) I rv ?_
  obtain ⟨e1, e2⟩ := callF_fill (n := n) (vh := vh) ef (rfl : ps.length = ps.length) h1 h2
  refine ⟨ρ, vh, _, hH, rp.append (rr ρ H), ⟨fn, ef, e2⟩, ?_⟩
  rw [e1]
  revert h
  cases callF T n f ps vh with
  | ok p vh' => exact fun h => h
  | exc c fs vh' => exact fun h => h
  | stuck => exact fun h => h
theorem s_call (g : Good T FA CA X W n) {f : Nat} {fn : Fn} {x : Str} {xs : Exs} {y : Expr} {ys : List Expr} {p pos : Pos} (hf : T.fns[f]? = some fn) (hm : fn.meth = false) (hx : fn.name = x) (ha : arity T f xs.len = true) (hg : gl X.env.scope x = true)
    (hA : PA X (y :: ys) (tEs T CA X.K W n xs)) (hs : (y :: ys).all (fun e => !isStar e) = true) : PE X (.Call (.Name x p) (y :: ys) [] pos) (tE T CA X.K W n (.call f xs)) := by
  obtain ⟨g1, g2, g3⟩ := gl_of hg
  rw [List.all_cons, Bool.and_eq_true] at hs
  subst hx
  obtain ⟨fd, F, kp, _⟩ := g.fn f fn hf
  refine ⟨fun pins s σ H Q I ⟨ρ, vh, env, hH, hE, h⟩ => ?_⟩
  refine wpAny_Call_Name_kw (ld_glob I g1 (g.fs.gfn f fn hf hm) ?_ g2)
  unfold evE at h
  refine PySem.W.callWith_K (h₀ := X.base) I.ok.mod.kin kp ?_ (star_cons (by simpa using hs.1)) (star_none hs.2)
  have hr := hA.run pos pins s σ H (fun vs H1 => ∃ ρ1 vh1 ps, RH X.K CA ρ1 vh1 H1 ∧ RPs X.K ρ1 H1 ps vs ∧ ps.length = xs.len ∧ Out X.K CA W σ ρ1 H1 (callF T n f ps vh1) Q) I
    ⟨ρ, vh, env, hH, hE, Out.stepA h fun ps vh1 ρ1 H1 vs e1 p1 x1 hH1 rps h1 => ⟨ρ1, vh1, ps, hH1, rps, evEs_len xs env vh vh1 ps e1, h1⟩⟩
  refine thn hr fun us s1 ⟨vs, H1, I1, rv, ρ1, vh1, ps, hH1, rps, hl, h1⟩ => ⟨I1.kIn, ?_⟩
  exact run_call g I1 rv (by rw [hl]; exact ha) hH1 rps h1
/-! ### own methods -/
theorem resM_of {m : Str} {k : Nat} {p : PV} {vh : VH} {f : Nat} (h : resM T m k p vh = some f) : ∃ a c fs cl, p = .ref a ∧ vh[a]? = some (.ins c fs) ∧ fs.lookup m = none ∧ T.cls[c]? = some cl ∧ cl.exc = false ∧ cl.meths.lookup m = some f ∧ arity T f (k + 1) = true := by
  unfold resM at h
  split at h
  · rename_i a
    split at h
    · rename_i c fs e
      split at h
      · rename_i el
        split at h
        · rename_i cl ec
          split at h
          · cases h
          · rename_i hx
            split at h
            · rename_i f' em
              split at h
              · rename_i hA
                cases h
                exact ⟨a, c, fs, cl, rfl, e, el, ec, by simpa using hx, em, hA⟩
              · cases h
            · cases h
        · cases h
      · cases h
    · cases h
  · cases h
theorem RFs.look {K : PySem.W.Frag} {ρ : List Addr} {H : Hp} {f : Str} : ∀ {fs : List (Str × PV)} {gs : List (Str × V)}, RFs K ρ H fs gs → (fs.lookup f = none → gs.lookup f = none) ∧ ∀ p, fs.lookup f = some p → ∃ v, gs.lookup f = some v ∧ RP K ρ H p v
  | _, _, .nil => ⟨fun _ => rfl, fun p e => by cases e⟩
  | _, _, .cons (a := a) (b := b) (l₁ := l) (l₂ := m) h t => by
    obtain ⟨i1, i2⟩ := RFs.look (f := f) t
    obtain ⟨a1, a2⟩ := a
    obtain ⟨b1, b2⟩ := b
    have h1 : a1 = b1 := h.1
    subst h1
    rw [List.lookup_cons, List.lookup_cons]
    cases f == a1 with
    | true =>
      refine ⟨fun e => ?_, fun p e => ?_⟩
      · cases e
      · cases e
        exact ⟨_, rfl, h.2⟩
    | false => exact ⟨i1, i2⟩
theorem s_omt (g : Good T FA CA X W n) {m : Str} {o : Ex} {xs : Exs} {v : Expr} {ys : List Expr} {ap pos : Pos} (ho : PE X v (tE T CA X.K W n o)) (hA : PA X ys (tEs T CA X.K W n xs)) (h0 : noCall0 v = true) (hl : (ap.endLine == pos.line) = true) (hn : ys.length < 29)
    (hs : ys.all (fun e => !isStar e) = true) (hlen : ys.length = xs.len) : PE X (.Call (.Attribute v m ap) ys [] pos) (tE T CA X.K W n (.omt m o xs)) := by
  refine ⟨fun pins s σ H Q I ⟨ρ, vh, env, hH, hE, h⟩ => ?_⟩
  refine PySem.W.methodCall_KW (pl := (do return (← importBound v X.env).getD true)) ?_ (meth_form h0 hl hn hs)
  unfold evE at h
  refine thn (ho.run pins s σ H (fun w H1 => ∃ ρ1 vh1 p f, RH X.K CA ρ1 vh1 H1 ∧ RP X.K ρ1 H1 p w ∧ RE X.K ρ1 H1 env σ ∧ resM T m xs.len p vh1 = some f ∧ Out X.K CA W σ ρ1 H1 ((evEs T (callF T n) xs env vh1).bind fun ps vh2 => callF T n f (p :: ps) vh2) Q) I
    ⟨ρ, vh, env, hH, hE, Out.step h fun p vh1 ρ1 H1 w e1 p1 x1 hH1 rp h1 => ?_⟩) fun u s1 ⟨w, H1, I1, rw', ρ1, vh1, p, f, hH1, rp, hE1, er, h1⟩ => ?_
  · cases er : resM T m xs.len p vh1 with
    | none => rw [er] at h1; exact h1.elim
    | some f => rw [er] at h1; exact ⟨ρ1, vh1, p, f, hH1, rp, hE.mono p1 x1, er, h1⟩
  · obtain ⟨a, c, fs, cl, rfl, eo, el, ec, ex, em, har⟩ := resM_of er
    obtain ⟨b, dx, gs, rfl, eb, hb, rf⟩ := hH1.ins eo rp
    obtain rfl : u = Value.ref b := rw'
    have M := g.fs.meth c cl m f ec ex em
    refine getmeth_ok I1 hb (g.fs.cls c cl ec ex).cl M ((rf.look).1 el) ?_
    have fin : ∀ {us : List Value} {s2 : Shared}, AP X pins σ (fun vs H2 => ∃ ρ2 vh2 ps, RH X.K CA ρ2 vh2 H2 ∧ RPs X.K ρ2 H2 (.ref a :: ps) (.ref b :: vs) ∧ ps.length = xs.len ∧ Out X.K CA W σ ρ2 H2 (callF T n f (.ref a :: ps) vh2) Q) us s2 →
        X.K.In s2.heap ∧ wpAny (model X.prog X.w) X.A (call (.ref (FA f)) ([Value.ref b] ++ us)) (EP X pins σ Q) X.xe s2 := fun {us s2} ⟨vs, H2, I2, rv, ρ2, vh2, ps, hH2, rps, hlen, h2⟩ =>
      ⟨I2.kIn, run_call g I2 (vs := .ref b :: vs) (.cons (show L2.RelV (.ref b) (Value.ref b) from rfl) rv) (by rw [List.length_cons, hlen]; exact har) hH2 rps h2⟩
    have hread : tEs T CA X.K W n xs σ H1 (fun vs H2 => ∃ ρ2 vh2 ps, RH X.K CA ρ2 vh2 H2 ∧ RPs X.K ρ2 H2 (.ref a :: ps) (.ref b :: vs) ∧ ps.length = xs.len ∧ Out X.K CA W σ ρ2 H2 (callF T n f (.ref a :: ps) vh2) Q) :=
      ⟨ρ1, vh1, env, hH1, hE1, Out.stepA h1 fun ps vh2 ρ2 H2 vs e2 p2 x2 hH2 rps h2 => ⟨ρ2, vh2, ps, hH2, .cons (rp.mono p2 x2) rps, evEs_len xs env vh1 vh2 ps e2, h2⟩⟩
    cases ys with
    | nil =>
      cases xs with
      | cons _ _ => cases hlen
      | nil => exact PySem.W.callWith_K0 (first := [.ref b]) I1.kIn M.kp (fin (us := []) ⟨[], H1, I1, .nil, ρ1, vh1, [], hH1, .cons rp .nil, rfl, h1⟩).2
    | cons y ys =>
      rw [List.all_cons, Bool.and_eq_true] at hs
      exact PySem.W.callWith_K (first := [.ref b]) (h₀ := X.base) I.ok.mod.kin M.kp (thn (hA.run pos pins s1 σ H1 _ I1 hread) fun us s2 q => fin q) (star_cons (by simpa using hs.1)) (star_none hs.2)
/-! ### a new instance -/
theorem run_new (g : Good T FA CA X W n) {c f : Nat} {cl : Cl} {pins : List (Addr × Obj)} {σ : L2.St} {H : Hp} {s : Shared} {Q : VK} {us : List Value} {vs : List V} {ρ : List Addr} {vh : VH} {ps : List PV} (I : L2.Inv X pins σ H s) (rv : Vals vs us)
    (hc : T.cls[c]? = some cl) (hx : cl.exc = false) (hi : cl.init = some f) (ha : arity T f (ps.length + 1) = true) (hH : RH X.K CA ρ vh H) (rp : RPs X.K ρ H ps vs) (h : Out X.K CA W σ ρ H (newP T (callF T n) c ps vh) Q) :
    wpAny (model X.prog X.w) X.A (call (.ref (CA c)) us) (EP X pins σ Q) X.xe s := by
  have M := g.fs.make c cl f hc hx hi
  obtain ⟨fn, ef, h1, h2⟩ := arity_of ha
  obtain ⟨fd, F, kp, hb⟩ := g.fn f fn ef
  obtain ⟨ds, dvs, rd, bd, rr⟩ := hb (ps.length + 1) h1 h2
  have nD : H s.heap.objs.size = none := I.hok.fresh (Nat.le_refl _)
  have nX : H (s.heap.objs.size + 1) = none := I.hok.fresh (Nat.le_succ _)
  have ne : s.heap.objs.size + 1 ≠ s.heap.objs.size := Nat.ne_of_gt (Nat.lt_succ_self _)
  have I2 := L2.Inv.made (C := CA c) I
  generalize hH2 : upd (upd H s.heap.objs.size (.own (s.heap.objs.size + 1))) (s.heap.objs.size + 1) (.ins (CA c) s.heap.objs.size []) = H2 at I2
  have nX2 : upd H s.heap.objs.size (HO.own (s.heap.objs.size + 1)) (s.heap.objs.size + 1) = none := by rw [upd_ne ne]; exact nX
  have x1 : Ext H H2 := by
    rw [← hH2]
    exact (Ext.new nD).trans (Ext.new nX2)
  have hR2 : RH X.K CA (ρ ++ [s.heap.objs.size + 1]) (vh ++ [.ins c []]) H2 := by
    rw [← hH2]
    exact (hH.side nD).new nX2 ⟨s.heap.objs.size, [], upd_same, .nil⟩
  have p1 : ρ <+: ρ ++ [s.heap.objs.size + 1] := List.prefix_append _ _
  have rself : RP X.K (ρ ++ [s.heap.objs.size + 1]) H2 (.ref vh.length) (.ref (s.heap.objs.size + 1)) := .ref (by rw [← hH.len]; simp)
  obtain ⟨e1, e2⟩ := callF_fill (n := n) (vh := vh ++ [.ins c []]) ef (show (PV.ref vh.length :: ps).length = ps.length + 1 from rfl) h1 h2
  have hsp : spF T CA X.K n f (.ref (s.heap.objs.size + 1) :: (vs ++ dvs)) H2 (fun v H3 => v = .non ∧ Q (.ref (s.heap.objs.size + 1)) H3) (WE W σ) := by
    refine ⟨_, _, _, hR2, RPs.append (.cons rself (rp.mono p1 x1)) (rr _ _), ⟨fn, ef, e2⟩, ?_⟩
    rw [e1]
    unfold newP at h
    rw [hc] at h
    dsimp only at h
    rw [hi] at h
    dsimp only at h
    rw [if_neg (by rw [hx]; decide)] at h
    revert h
    cases callF T n f (.ref vh.length :: ps) (vh ++ [.ins c []]) with
    | ok p vh' =>
      intro h ρ' H' v a b hr rp'
      cases rp' with
      | non => exact ⟨rfl, h ρ' H' _ (p1.trans a) (x1.trans b) hr (rself.mono a b)⟩
      | _ => exact h.elim
    | exc c' fs vh' => exact fun h ρ' H' d gs a b => h ρ' H' d gs (p1.trans a) (x1.trans b)
    | stuck => exact fun h => h
  have r2 : Vals (V.ref (s.heap.objs.size + 1) :: (vs ++ dvs)) (Value.ref (s.heap.objs.size + 1) :: (us ++ ds)) := .cons rfl (rv.append rd)
  have hl : (Value.ref (s.heap.objs.size + 1) :: us ++ ds).length = fn.ps.length := by
    have e := r2.length
    rw [F.len _ _ _ _ hsp] at e
    exact e.symm
  refine wpAny_call (make_map (f := FA f) I.kIn M.makes M.init (beq_iff_eq.mp M.fn) ?_)
  have rm : Room (2 * n) (X.A.under (.builtin "type.__call__" ⟨.ref (CA c) :: us, []⟩)) := Room.make g.room (CA c) us []
  refine codeAny_mono (F.run _ X.stack _ _ ⟨Value.ref (s.heap.objs.size + 1) :: us, []⟩ _ _ _ _ rm (I2.env0.make (CA c) us []) (bd _ (Value.ref (s.heap.objs.size + 1) :: us) I2.kIn hl) r2 hsp) fun r s' hq => ?_
  cases r with
  | error e => exact passAt g.tk σ pins H2 _ e s' I2 hq
  | ok fl =>
    cases fl with
    | ret u =>
      obtain ⟨v, H', I3, rv3, ev, q3⟩ := I2.after hq
      subst ev
      exact ⟨rv3, ⟨V.ref (s.heap.objs.size + 1), H', I3, rfl, q3⟩⟩
    | next => exact False.elim hq
    | brk => exact False.elim hq
    | cont => exact False.elim hq
theorem s_new (g : Good T FA CA X W n) {c f : Nat} {cl : Cl} {x : Str} {xs : Exs} {y : Expr} {ys : List Expr} {p pos : Pos} (hc : T.cls[c]? = some cl) (hx : cl.exc = false) (hn : cl.name = x) (hi : cl.init = some f) (ha : arity T f (xs.len + 1) = true)
    (hg : gl X.env.scope x = true) (hA : PA X (y :: ys) (tEs T CA X.K W n xs)) (hs : (y :: ys).all (fun e => !isStar e) = true) : PE X (.Call (.Name x p) (y :: ys) [] pos) (tE T CA X.K W n (.new c xs)) := by
  obtain ⟨g1, g2, g3⟩ := gl_of hg
  rw [List.all_cons, Bool.and_eq_true] at hs
  subst hn
  have M := g.fs.make c cl f hc hx hi
  refine ⟨fun pins s σ H Q I ⟨ρ, vh, env, hH, hE, h⟩ => ?_⟩
  refine wpAny_Call_Name_kw (ld_glob I g1 (g.fs.gcl c cl hc) ?_ g2)
  unfold evE at h
  refine PySem.W.callWith_K (h₀ := X.base) I.ok.mod.kin M.kp ?_ (star_cons (by simpa using hs.1)) (star_none hs.2)
  have hr := hA.run pos pins s σ H (fun vs H1 => ∃ ρ1 vh1 ps, RH X.K CA ρ1 vh1 H1 ∧ RPs X.K ρ1 H1 ps vs ∧ ps.length = xs.len ∧ Out X.K CA W σ ρ1 H1 (newP T (callF T n) c ps vh1) Q) I
    ⟨ρ, vh, env, hH, hE, Out.stepA h fun ps vh1 ρ1 H1 vs e1 p1 x1 hH1 rps h1 => ⟨ρ1, vh1, ps, hH1, rps, evEs_len xs env vh vh1 ps e1, h1⟩⟩
  refine thn hr fun us s1 ⟨vs, H1, I1, rv, ρ1, vh1, ps, hH1, rps, hl, h1⟩ => ⟨I1.kIn, ?_⟩
  exact run_new g I1 rv hc hx hi (by rw [hl]; exact ha) hH1 rps h1
/-! ### attributes -/
theorem hasAttr_of {c : Nat} {f : Str} (h : hasAttr T c f = true) : ∃ cl, T.cls[c]? = some cl ∧ cl.exc = false ∧ f ∈ cl.attrs := by
  unfold hasAttr at h
  split at h
  · rename_i cl e
    rw [Bool.and_eq_true] at h
    exact ⟨cl, e, by simpa using h.1, by simpa using h.2⟩
  · cases h
theorem s_fld (g : Good T FA CA X W n) {o : Ex} {f : Str} {v : Expr} {pos : Pos} (ho : PE X v (tE T CA X.K W n o)) (h0 : noCall0 v = true) : PE X (.Attribute v f pos) (tE T CA X.K W n (.fld o f)) := by
  refine ⟨fun pins s σ H Q I ⟨ρ, vh, env, hH, hE, h⟩ => ?_⟩
  refine (pe_fld ho (base_plain h0)).run pins s σ H Q I ?_
  unfold evE at h
  refine ⟨ρ, vh, env, hH, hE, Out.step h fun p vh1 ρ1 H1 w e1 p1 x1 hH1 rp h1 => ?_⟩
  have h2 := h1.o
  unfold fldP at h2
  cases p with
  | ref a =>
    dsimp only at h2
    cases eo : vh1[a]? with
    | none => rw [eo] at h2; exact h2.elim
    | some ob =>
      rw [eo] at h2
      cases ob with
      | ins c fs =>
        dsimp only at h2
        split at h2
        · rename_i hh
          obtain ⟨cl, ec, ex, em⟩ := hasAttr_of hh
          obtain ⟨b, dx, gs, rfl, eb, hb, rf⟩ := hH1.ins eo rp
          cases el : fs.lookup f with
          | none => rw [el] at h2; exact h2.elim
          | some q =>
            rw [el] at h2
            obtain ⟨z, ez, rz⟩ := (rf.look).2 q el
            exact ⟨b, CA c, dx, gs, z, rfl, hb, (g.fs.cls c cl ec ex).cl, g.fs.noat c cl f ec ex em, ez, OutO.here h2 hH1 rz⟩
        · exact h2.elim
      | _ => exact h2.elim
  | _ => exact h2.elim
/-! ### methods of lists -/
theorem s_bmt {m : String} {o : Ex} {xs : Exs} {v y : Expr} {ys : List Expr} {ap pos : Pos} {id : String} (pa : PlainAttrs "list") (slot : Slot "list" (Str.ofString m) id) (hty : typeOf (.builtin id) = pure (.type "method_descriptor")) (hm : MtR X id (rM X.K CA (bmt m)))
    (ho : PE X v (tE T CA X.K W n o)) (hA : PA X (y :: ys) (tEs T CA X.K W n xs)) (h0 : noCall0 v = true) (hl : (ap.endLine == pos.line) = true) (hn : (y :: ys).length < 29) (hs : (y :: ys).all (fun e => !isStar e) = true) :
    PE X (.Call (.Attribute v (Str.ofString m) ap) (y :: ys) [] pos) (tE T CA X.K W n (.bmt m o xs)) := by
  have hs2 := hs
  rw [List.all_cons, Bool.and_eq_true] at hs2
  have hf : ((backTo pos (starEach (y :: ys) X.env)).all (fun x => !x.1) && (backToKw pos (keywordEach [] X.env)).all (fun x => x.1.isSome) && decide ((y :: ys).length + ([] : List Keyword).length + (if ([] : List Keyword).isEmpty then 0 else 1) < 30)) = true := by
    have hall : ∀ l : List Expr, l.all (fun e => !isStar e) = true → (backTo pos (starEach l X.env)).all (fun x => !x.1) = true := by
      intro l
      induction l with
      | nil => intro _; rfl
      | cons e l ih =>
        intro h
        rw [List.all_cons, Bool.and_eq_true] at h
        rw [star_cons (by simpa using h.1)]
        simpa [backTo] using ih h.2
    rw [hall _ hs]
    simp [keywordEach, backToKw] at hn ⊢
    omega
  refine ⟨fun pins s σ H Q I ⟨ρ, vh, env, hH, hE, h⟩ => ?_⟩
  refine (pe_bm pa slot hty hm ho hA (base_plain h0) hf hl (star_cons (by simpa using hs2.1)) (star_none hs2.2)).run pins s σ H Q I ?_
  unfold evE at h
  refine ⟨ρ, vh, env, hH, hE, Out.step h fun p vh1 ρ1 H1 w e1 p1 x1 hH1 rp h1 => ?_⟩
  split at h1
  · rename_i hL
    refine ⟨?_, ρ1, vh1, env, hH1, hE.mono p1 x1, Out.stepA h1 fun ps vh2 ρ2 H2 vs e2 p2 x2 hH2 rps h2 => ⟨ρ2, vh2, p, ps, hH2, rp.mono p2 x2, rps, h2.o⟩⟩
    unfold isLst at hL
    split at hL
    · split at hL
      · rename_i a _ zs eo
        obtain ⟨b, ws, rfl, eb, hb, rf⟩ := hH1.lst eo rp
        exact .inl ⟨rfl, ws, SqL.of hb⟩
      · cases hL
    · cases hL
  · exact h1.elim
/-! ### isinstance -/
def tyS : Ty → String
  | .str => "str"
  | .int => "int"
  | .bool => "bool"
  | .list => "list"
  | .tuple => "tuple"
  | .dict => "dict"
  | .own _ => ""
def tyU (CA : Nat → Addr) : Ty → Value
  | .own c => .ref (CA c)
  | t => .type (tyS t)
def tyV' (CA : Nat → Addr) : Ty → V
  | .own c => .ref (CA c)
  | t => .ty (tyS t)
theorem tyClsV (t : Ty) : ClsV (tyV' CA t) (tyU CA t) := by
  cases t <;> first | exact ClsV.ty _ | exact ClsV.own _
def okT (T : Tab) (t : Ty) : Prop := match t with
  | .own c => ∃ cl, T.cls[c]? = some cl ∧ cl.exc = false
  | _ => True
/-- the answers of a built-in type -/
theorem kit_base (fs : FS T FA CA X.K X.mg) {nm : String} (hn : nm ∈ tyVals) {ans : Ty → Bool} (ho : ∀ c, ans (.own c) = false) (hb : [Ty.str, .int, .bool, .list, .tuple, .dict].all (fun t => kitB nm (tyS t) == some (ans t)) = true) :
    ∀ t, okT T t → PySem.W.kitOne X.K (.type nm) (tyU CA t) = some (ans t) := by
  intro t ht
  simp only [List.all_cons, List.all_nil, Bool.and_true, Bool.and_eq_true, beq_iff_eq] at hb
  obtain ⟨h1, h2, h3, h4, h5, h6⟩ := hb
  cases t with
  | str => exact kit_ty h1
  | int => exact kit_ty h2
  | bool => exact kit_ty h3
  | list => exact kit_ty h4
  | tuple => exact kit_ty h5
  | dict => exact kit_ty h6
  | own c =>
    obtain ⟨cl, e, x⟩ := ht
    rw [ho]
    exact fs.isi3 c cl nm e x hn
theorem kit_typ (fs : FS T FA CA X.K X.mg) {ρ : List Addr} {vh : VH} {H : Hp} (hH : RH X.K CA ρ vh H) {p : PV} {v : V} (r : RP X.K ρ H p v) {t0 : Ty} {b0 : Bool} (h0 : typ T vh p t0 = some b0) :
    ∃ tv, TyX X.K H v tv ∧ ∀ t b, typ T vh p t = some b → okT T t → PySem.W.kitOne X.K tv (tyU CA t) = some b := by
  cases r with
  | non => exact ⟨_, .base .non, fun t b e ht => by cases e; exact kit_base fs (nm := "NoneType") (by decide) (ans := fun _ => false) (fun _ => rfl) (by decide +kernel) t ht⟩
  | bl c =>
    refine ⟨_, .base (.bl c), fun t b e ht => ?_⟩
    have := kit_base fs (nm := "bool") (by decide) (ans := fun t => match t with | .bool => true | .int => true | _ => false) (fun _ => rfl) (by decide +kernel) t ht
    rw [this, ← e]
    rfl
  | int i =>
    refine ⟨_, .base (.int i), fun t b e ht => ?_⟩
    have := kit_base fs (nm := "int") (by decide) (ans := fun t => match t with | .int => true | _ => false) (fun _ => rfl) (by decide +kernel) t ht
    rw [this, ← e]
    rfl
  | str z =>
    refine ⟨_, .base (.str z), fun t b e ht => ?_⟩
    have := kit_base fs (nm := "str") (by decide) (ans := fun t => match t with | .str => true | _ => false) (fun _ => rfl) (by decide +kernel) t ht
    rw [this, ← e]
    rfl
  | @tup xs a vs ha ra =>
    refine ⟨.type "tuple", ?_, fun t b e ht => ?_⟩
    · rcases ha with (ha | ⟨o, ha⟩) | ⟨o, its, m, hk, hcl, _⟩
      · exact .base (.tup ha)
      · exact .fTuple ha
      · exact .kTuple hk hcl
    · have := kit_base fs (nm := "tuple") (by decide) (ans := fun t => match t with | .tuple => true | _ => false) (fun _ => rfl) (by decide +kernel) t ht
      rw [this, ← e]
      rfl
  | @fl xs a vs ha ra => cases h0
  | @ref i a q =>
    obtain ⟨o, eo, ro⟩ := hH.obj q
    cases o with
    | lst xs =>
      obtain ⟨vs, ea, _⟩ := ro
      refine ⟨_, .base (.lst ea), fun t b e ht => ?_⟩
      have := kit_base fs (nm := "list") (by decide) (ans := fun t => match t with | .list => true | _ => false) (fun _ => rfl) (by decide +kernel) t ht
      unfold typ at e
      dsimp only at e
      rw [eo] at e
      dsimp only at e
      rw [this, ← e]
      all_goals (cases t <;> rfl)
    | dct kvs =>
      obtain ⟨vs, ea, _⟩ := ro
      refine ⟨_, .base (.dK ea), fun t b e ht => ?_⟩
      have := kit_base fs (nm := "dict") (by decide) (ans := fun t => match t with | .dict => true | _ => false) (fun _ => rfl) (by decide +kernel) t ht
      unfold typ at e
      dsimp only at e
      rw [eo] at e
      dsimp only at e
      rw [this, ← e]
      all_goals (cases t <;> rfl)
    | ins c gs =>
      obtain ⟨dx, vs, ea, _⟩ := ro
      unfold typ at h0
      dsimp only at h0
      rw [eo] at h0
      dsimp only at h0
      cases ec : T.cls[c]? with
      | none => rw [ec] at h0; cases h0
      | some cl =>
      rw [ec] at h0
      dsimp only at h0
      have ex : cl.exc = false := by
        cases q : cl.exc with
        | false => rfl
        | true => rw [q] at h0; cases h0
      have O := fs.cls c cl ec ex
      refine ⟨_, .base (.ins ea O.cl O.ha O.hn O.ht O.hm), fun t b e ht => ?_⟩
      unfold typ at e
      dsimp only at e
      rw [eo] at e
      dsimp only at e
      rw [ec] at e
      dsimp only at e
      rw [if_neg (by rw [ex]; decide)] at e
      cases t with
      | own d =>
        obtain ⟨dl, ed, exd⟩ := ht
        cases e
        exact fs.isi2 c cl d dl ec ex ed exd
      | _ =>
        cases e
        exact fs.isi1 c cl _ ec ex (by decide)
theorem kitAny_of {tv : Value} {vh : VH} {p : PV} (h : ∀ t b, typ T vh p t = some b → okT T t → PySem.W.kitOne X.K tv (tyU CA t) = some b) : ∀ (ts : List Ty) (b : Bool), isIn T vh p ts = some b → (∀ t ∈ ts, okT T t) → PySem.W.kitAny X.K tv (ts.map (tyU CA)) = some b
  | [], b, e, _ => by cases e; rfl
  | t :: ts, b, e, ht => by
    unfold isIn at e
    rw [List.map_cons]
    unfold PySem.W.kitAny
    cases e1 : typ T vh p t with
    | none => rw [e1] at e; cases e
    | some c =>
      rw [h t c e1 (ht t List.mem_cons_self)]
      rw [e1] at e
      cases c with
      | true => exact e
      | false => exact kitAny_of h ts b e fun t' m => ht t' (List.mem_cons_of_mem _ m)
/-- a class's name -/
theorem s_ty (g : Good T FA CA X W n) {t : Ty} {e : Expr} (h : mTy T X.env.scope t e = true) : PE X e (tC (tyV' CA t)) ∧ okT T t := by
  unfold mTy at h
  split at h
  · rename_i x pos
    rw [Bool.and_eq_true] at h
    obtain ⟨g1, g2, g3⟩ := gl_of h.1
    have bl : ∀ {nm : String}, tyName t = some (Str.ofString nm) → (tyName t == some x && T.free.contains x) = true → bootBuiltins (Str.ofString nm) = some (.type nm) → PE X (.Name x pos) (tC (.ty nm)) := fun {nm} e1 e2 e3 => by
      rw [Bool.and_eq_true, beq_iff_eq] at e2
      have ex : x = Str.ofString nm := Option.some.inj (e2.1.symm.trans e1)
      have hm := g.fs.free x (by simpa using e2.2)
      refine pe_bltn (u := .type nm) g1 hm ?_ rfl g3 g2
      rw [ex]
      exact e3
    cases t with
    | own c =>
      have h2 := h.2
      dsimp only at h2
      split at h2
      · rename_i cl ec
        rw [Bool.and_eq_true, beq_iff_eq] at h2
        have hm := g.fs.gcl c cl ec
        rw [h2.2] at hm
        exact ⟨pe_glob g1 hm rfl g2, cl, ec, by simpa using h2.1⟩
      · cases h2
    | str => exact ⟨bl (nm := "str") rfl h.2 (by decide +kernel), trivial⟩
    | int => exact ⟨bl (nm := "int") rfl h.2 (by decide +kernel), trivial⟩
    | bool => exact ⟨bl (nm := "bool") rfl h.2 (by decide +kernel), trivial⟩
    | list => exact ⟨bl (nm := "list") rfl h.2 (by decide +kernel), trivial⟩
    | tuple => exact ⟨bl (nm := "tuple") rfl h.2 (by decide +kernel), trivial⟩
    | dict => exact ⟨bl (nm := "dict") rfl h.2 (by decide +kernel), trivial⟩
  · cases h
theorem s_tys (g : Good T FA CA X W n) : ∀ {ts : List Ty} {es : List Expr}, mTys T X.env.scope ts es = true → PA X es (fun _ H Q => Q (ts.map (tyV' CA)) H) ∧ ∀ t ∈ ts, okT T t
  | [], [], _ => ⟨⟨fun pos pins s σ H Q I h => pa_nil.run pos pins s σ H Q I h⟩, fun _ m => by cases m⟩
  | [], _ :: _, h => by cases h
  | _ :: _, [], h => by cases h
  | t :: ts, e :: es, h => by
    unfold mTys at h
    rw [Bool.and_eq_true, Bool.and_eq_true] at h
    obtain ⟨h1, h2⟩ := s_ty g h.1.1
    obtain ⟨h3, h4⟩ := s_tys g h.2
    refine ⟨⟨fun pos pins s σ H Q I hq => (pa_cons h1 h3 (star_cons (by simpa using h.1.2))).run pos pins s σ H Q I hq⟩, fun t' m => ?_⟩
    rcases List.mem_cons.mp m with e | m
    · rw [e]; exact h2
    · exact h4 t' m
theorem isIn_typ {vh : VH} {p : PV} {t : Ty} {ts : List Ty} {b : Bool} (h : isIn T vh p (t :: ts) = some b) : ∃ c, typ T vh p t = some c := by
  unfold isIn at h
  cases e : typ T vh p t with
  | none => rw [e] at h; cases h
  | some c => exact ⟨c, rfl⟩
theorem s_isi1 (g : Good T FA CA X W n) {a : Ex} {t : Ty} {x : Str} {y c : Expr} {p pos : Pos} (hx : x = "isinstance") (hg : gl X.env.scope x = true) (hm : X.mg x = none) (ha : PE X y (tE T CA X.K W n a)) (hs : isStar y = false) (hs2 : isStar c = false) (hc : mTy T X.env.scope t c = true) :
    PE X (.Call (.Name x p) [y, c] [] pos) (tE T CA X.K W n (.isi a [t])) := by
  obtain ⟨g1, g2, g3⟩ := gl_of hg
  obtain ⟨h1, h2⟩ := s_ty g hc
  subst hx
  refine ⟨fun pins s σ H Q I ⟨ρ, vh, env, hH, hE, h⟩ => ?_⟩
  refine (pe_callB call_isi g1 hm (by decide +kernel) (pa_cons ha (pa_cons h1 pa_nil (star_cons hs2)) (star_cons hs)) g3 g2 (star_cons hs) (star_none (by simp [hs2]))).run pins s σ H Q I ?_
  unfold evE at h
  refine ⟨ρ, vh, env, hH, hE, Out.step h fun q vh1 ρ1 H1 v e1 p1 x1 hH1 rp h3 => ?_⟩
  have h4 := Out.b hH1 h3
  cases e : isIn T vh1 q [t] with
  | none => rw [e] at h4; exact h4.elim
  | some b =>
    rw [e] at h4
    obtain ⟨c0, ec⟩ := isIn_typ e
    obtain ⟨tv, k1, k2⟩ := kit_typ g.fs hH1 rp ec
    refine ⟨v, tyV' CA t, tv, tyU CA t, b, rfl, tyClsV t, k1, ?_, h4⟩
    have k3 := k2 t c0 ec h2
    unfold isIn at e
    rw [ec] at e
    cases c0 with
    | true => cases e; exact k3
    | false => cases e; exact k3
theorem s_isiT (g : Good T FA CA X W n) {a : Ex} {ts : List Ty} {x : Str} {y : Expr} {cs : List Expr} {k : Nat} {p p2 pos : Pos} (hx : x = "isinstance") (hg : gl X.env.scope x = true) (hm : X.mg x = none) (ha : PE X y (tE T CA X.K W n a)) (hs : isStar y = false) (hc : mTys T X.env.scope ts cs = true) (hn : ts ≠ []) (hl : ts.length ≤ sizeLine) :
    PE X (.Call (.Name x p) [y, .Tuple cs k p2] [] pos) (tE T CA X.K W n (.isi a ts)) := by
  obtain ⟨g1, g2, g3⟩ := gl_of hg
  obtain ⟨h1, h2⟩ := s_tys g hc
  subst hx
  refine ⟨fun pins s σ H Q I ⟨ρ, vh, env, hH, hE, h⟩ => ?_⟩
  refine (pe_callB call_isiT g1 hm (by decide +kernel) (pa_cons ha (pa_cons (pe_tup h1) pa_nil (star_cons rfl)) (star_cons hs)) g3 g2 (star_cons hs) (star_none rfl)).run pins s σ H Q I ?_
  unfold evE at h
  refine ⟨ρ, vh, env, hH, hE, Out.step h fun q vh1 ρ1 H1 v e1 p1 x1 hH1 rp h3 => ?_⟩
  refine ⟨by simpa using hl, fun tp hp => ?_⟩
  have x2 : Ext H1 (upd H1 tp (.tup (ts.map (tyV' CA)))) := Ext.new hp
  have hH2 := hH1.side (u := .tup (ts.map (tyV' CA))) hp
  have h4 : OutB ρ1 (upd H1 tp (.tup (ts.map (tyV' CA)))) vh1 (isIn T vh1 q ts) Q := Out.b hH2 (Out.mono (List.prefix_refl _) x2 h3)
  cases e : isIn T vh1 q ts with
  | none => rw [e] at h4; exact h4.elim
  | some b =>
    rw [e] at h4
    cases ts with
    | nil => exact absurd rfl hn
    | cons t ts =>
      obtain ⟨c0, ec⟩ := isIn_typ e
      obtain ⟨tv, k1, k2⟩ := kit_typ g.fs hH2 (rp.mono (List.prefix_refl _) x2) ec
      refine ⟨v, tp, (t :: ts).map (tyV' CA), tv, (t :: ts).map (tyU CA), b, rfl, upd_same, ?_, k1, kitAny_of k2 _ b e h2, h4⟩
      have all : ∀ l : List Ty, Paired ClsV (l.map (tyV' CA)) (l.map (tyU CA)) := by
        intro l
        induction l with
        | nil => exact .nil
        | cons t l ih => exact .cons (tyClsV t) ih
      exact all _
end
end Mini
end T_M7

section T_E1
set_option Elab.async false
set_option linter.all false
set_option autoImplicit false
set_option maxRecDepth 100000
/-! enumerate of a tuple. -/
namespace Mini
open PySem PySem.Spec PyProof.Rows L2
open AutoSeq1 (wpAny_loadPart')

/-- a tuple drawn item by item -/
theorem draws_tup {prog : Program} {w : World} {A : Around} (hh : A.handled = none) (it l : Addr) (hne : l ≠ it) (items : Array Value) :
    Draws prog w A it [it, l] items.size (fun i v => items[i]? = some v) (fun i h => h.IsTupleIter it l i ∧ h.IsTuple l items) where
  live := fun _ _ z => let ⟨o, ho, _⟩ := z.1; ⟨o, ho⟩
  frame := fun _ _ _ z hk => ⟨z.1.at fun o e => hk it (by simp) o e, z.2.at fun o e => hk l (by simp) o e⟩
  item := fun i s Q E hi z hQ => by
    refine RZ.nextOf_tuple_item z.1 z.2 (x := items[i]) (by simp [hi]) fun h' a b => ?_
    exact hQ _ h' s.toks (by simp [hi]) ⟨a, z.2.extBut b.extBut hne⟩ b
  done := fun s Q E z hE => RZ.nextOf_tuple_end hh z.1 z.2 (by simp) hE
abbrev titer (l : Addr) : Obj := { cls := .type "tuple_iterator", data := .fields #[.ref l, .int 0 0] }
abbrev enumO (i : Addr) : Obj := { cls := .type "enumerate", data := .fields #[.none, .bool false, .ref i, rawInt 0, .none, .none] }
theorem meets_enumT (l : Addr) (items : Array Value) : Meets (Builtin.«enumerate.__new__» ⟨[.type "enumerate", .ref l], []⟩) (fun _ R s => s.heap.IsTuple l items ∧ R (.ok (.ret (.ref (s.heap.push (titer l)).objs.size))) { s with heap := (s.heap.push (titer l)).push (enumO s.heap.objs.size) }) :=
  .of_wp fun prog w A R s h => by
    obtain ⟨hp, g, d, tk, os⟩ := s
    obtain ⟨hl, h⟩ := h
    have hsub := sub_enumerate
    obtain ⟨ob, hob, hcl, nn, hdt⟩ := id hl
    obtain ⟨c0, d0, dt0, sl0⟩ := ob
    have hcl : c0 = .type "tuple" := hcl
    have hdt : dt0 = .seq items nn := hdt
    subst hcl hdt
    wp_walk using wpAny_loadPart' hob
    refine wpAny_stack_any fun st => wpAny_pure ?_
    split
    · rename_i c _ _ _ _ _
      cases (c == Value.type "enumerate")
      all_goals
        wp_walk using wpAny_loadPart' hob, wpAny_pyIter_tuple hl
        exact ⟨_, rfl, h⟩
    · wp_walk using wpAny_loadPart' hob, wpAny_pyIter_tuple hl
      exact ⟨_, rfl, h⟩
section
variable {prog : Program} {w : World} {A : Around} {E : Value → Shared → Prop} {s : Shared}
theorem call_enumT {l : Addr} {items : Array Value} {Q : Value → Shared → Prop} (hL : s.heap.IsTuple l items)
    (h : ∀ h', IsEnum h' (s.heap.objs.size + 1) s.heap.objs.size 0 .none → h'.IsTupleIter s.heap.objs.size l 0 → (∀ b o, s.heap.get? b = some o → h'.get? b = some o) → Q (.ref (s.heap.objs.size + 1)) { s with heap := h' }) :
    wpAny (model prog w) A (call (.type "enumerate") [.ref l]) Q E s := by
  refine callType_new F.called_enumerate (by decide) (F.typeCall_enumerate_1 _) (F.newCall_enumerate_1 _) (fun obj => F.args_object_init_2 obj _) F.entry_enumerate_new (meets_enumT l items) ⟨hL, ?_⟩
  have hz : (s.heap.push (titer l)).objs.size = s.heap.objs.size + 1 := Heap.size_push ..
  show _ ∧ _
  rw [hz]
  have he : IsEnum ((s.heap.push (titer l)).push (enumO s.heap.objs.size)) (s.heap.objs.size + 1) s.heap.objs.size 0 .none := by
    have q := Heap.get?_push_size (s.heap.push (titer l)) (o := enumO s.heap.objs.size) rfl
    rw [hz] at q
    exact q
  exact ⟨⟨_, he, rfl⟩, h _ he ⟨_, Heap.get?_push_of_some _ (Heap.get?_push_size _ rfl), rfl, rfl⟩ fun b o z => Heap.get?_push_of_some _ (Heap.get?_push_of_some _ z)⟩
end
/-- the tuple at a, each item in a new pair -/
def IteT (K : PySem.W.Frag) (a : Addr) : L2.It :=
  ⟨fun i H => ∃ (xs : List V) (x : V), SqT K H a xs ∧ xs[i]? = some x, fun i H v H' => ∃ T x, v = .ref T ∧ H T = none ∧ H' = upd H T (.tup [.int (i : Nat), x]) ∧ ∀ xs, SqT K H a xs → xs[i]? = some x, fun i H => ∃ xs : List V, SqT K H a xs ∧ xs.length ≤ i⟩
theorem turn_enumT {P : Program} {w : World} {K : PySem.W.Frag} {elts : List Expr} {kk : Nat} {tpos : Pos} (a e it : Addr) :
    Turn P w K (.Tuple elts kk tpos) (IteT K a) [e, it] e (fun i h => (∃ old, IsEnum h e it ((i : Nat) : Int) old) ∧ h.IsTupleIter it a i ∧ e ≠ it ∧ a ≠ it ∧ a ≠ e) where
  mem := List.mem_cons_self
  obj := fun i h st b hb => by
    obtain ⟨⟨old, he⟩, ⟨o, ho, _, hd⟩, _⟩ := st
    rcases List.mem_cons.mp hb with rfl | hb
    · exact ⟨_, he, fun v q => nomatch q⟩
    · rw [List.mem_singleton.mp hb]
      exact ⟨o, ho, fun v q => by rw [hd] at q; cases q⟩
  keep := fun i h h' st k => by
    obtain ⟨⟨old, he⟩, hi, hne⟩ := st
    exact ⟨⟨old, k e List.mem_cons_self _ he⟩, hi.at fun o q => k it (by simp) o q, hne⟩
  item := by
    intro X hP hw hK hc i pins s σ H E I hf st hg
    subst hP hw hK
    obtain ⟨⟨old, he⟩, hit, hne, hai, hae⟩ := st
    obtain ⟨xs, x, hq, hx⟩ := hg
    obtain ⟨its, rv, p, hz⟩ := I.tuple hq
    have hel : e < s.heap.objs.size := Heap.lt_size he
    have hil : it < s.heap.objs.size := by obtain ⟨_, q, _⟩ := hit; exact Heap.lt_size q
    have hlen : i < its.toArray.size := by
      have := (List.getElem?_eq_some_iff.mp hx).1
      rw [rv.length] at this
      simpa using this
    have Dr := draws_tup (prog := X.prog) (w := X.w) (A := X.A.in1) (I.ok.hd hc) it a hai its.toArray
    refine wpAny_pyNext_enum_itemD Dr he ⟨hit, p⟩ hlen hne (by simp [hne, Ne.symm hae]) fun u h' tk hu ho hst hT hsz hk => ?_
    have ru : RelV x u := by
      obtain ⟨u', hu', ru'⟩ := rv.get hx
      have e2 : its[i]? = some u := by simpa using hu
      rw [hu'] at e2
      cases e2
      exact ru'
    refine ⟨_, rfl, wpAny_letOwnedTupleGo_enum (s := { s with heap := h', toks := tk + 1 }) ho fun h'' he' sb => ?_⟩
    have hT2 : h''.get? s.heap.objs.size = some { cls := .type "tuple", data := .seq #[.int i tk, u] } := (sb.2 _ (Nat.ne_of_gt hel)).trans hT
    have new : ObjOk X.prog X.w (upd H s.heap.objs.size (.tup [.int (i : Nat), x])) h'' s.heap.objs.size (.tup [.int (i : Nat), x]) :=
      ⟨by show 2 ≤ sizeLine; decide, [.int i tk, u], .cons ⟨_, rfl⟩ (.cons ru .nil), ⟨_, hT2, rfl, _, rfl⟩⟩
    have I1 : L2.Inv X pins σ (upd H s.heap.objs.size (.tup [.int (i : Nat), x])) { s with heap := h'', toks := tk + 1 } :=
      I.turnedNew (ch := [e, it]) (fun b ob hb q => (sb.2 b (fun z => hb (by simp [z]))).trans (hk b ob (fun z => hb (by simp [z])) (fun z => hb (by simp [z])) q)) hf (Nat.le_refl _) new
    refine ⟨.ref s.heap.objs.size, _, I1, rfl, ⟨_, x, rfl, I.hok.fresh (Nat.le_refl _), rfl, fun ys hy => by rw [I.tuple_inj hy hq]; exact hx⟩, ⟨⟨u, ?_⟩, hst.1.at fun o q => (sb.2 it (Ne.symm hne)).trans q, hne, hai, hae⟩, fun b hb => ?_⟩
    · have e1 : ((i + 1 : Nat) : Int) = (i : Int) + 1 := by omega
      rw [e1]
      exact he'
    · have hb' : b < s.heap.objs.size := by
        rcases List.mem_cons.mp hb with z | z
        · rw [z]; exact hel
        · rw [List.mem_singleton.mp z]; exact hil
      rw [upd_ne (Nat.ne_of_lt hb')]
      exact (hf b hb).1
  done := by
    intro X hP hw hK hc i pins s σ H E I hf st hg
    subst hP hw hK
    obtain ⟨⟨old, he⟩, hit, hne, hai, hae⟩ := st
    obtain ⟨xs, hq, hx⟩ := hg
    obtain ⟨its, rv, p, hz⟩ := I.tuple hq
    obtain ⟨f0, f1, f2, f3, f4, f5⟩ := hf it (by simp)
    have hl := rv.length
    have hT : s.TypeIs (.ref e) "enumerate" := ⟨_, he, rfl⟩
    unfold pyNext
    refine wpAny_bind (wpAny_attempt (wpAny_callSpecial?_slot (name := Str.ofString "__next__") hT F.slot_enumerate_next (wpAny_call_entry F.slot_enumerate_next hT F.entry_enumerate_next ?_ (F.args_enumerate_next_1 _))))
    show wpAny _ _ (field (.ref e) 2 >>= _) _ _ _
    refine wpAny_bind (wpAny_field he rfl (x := .ref it) rfl ?_)
    refine wpAny_bind (RZ.nextOf_tuple_end (I.ok.hd hc) hit p (by simp; omega) fun h' ex eb hx' => ?_)
    obtain ⟨o, ho, hcl⟩ := hx'
    refine wpAny_bind (wpAny_isInstance (T := "StopIteration") (b := true) ⟨o, ho, hcl⟩ isSubtype_stop ?_)
    exact wpAny_pure ⟨rfl, I.turned (t' := s.toks) (fun b o hb q => eb b o hb q) f0 f1 f3 f4 f5⟩
  self := fun A i s Q E st h => let ⟨⟨_, he⟩, _⟩ := st; wpAny_pyIter_enum he h
def iEnumT (K : PySem.W.Frag) (ta : TA) : TI := fun σ H R => ta σ H fun vs H1 => ∃ a xs, vs = [.ref a] ∧ SqT K H1 a xs ∧ R (IteT K a) H1
theorem pi_enumT {X : Cx} {e : Expr} {ta : TA} {p pos tpos : Pos} {elts : List Expr} {kk : Nat} (hg : Gl X "enumerate") (hm : X.mg "enumerate" = none) (ha : PA X [e] ta) (hs : starEach [e] X.env = [(false, eval e X.env)]) :
    PI X (.Tuple elts kk tpos) (.Call (.Name "enumerate" p) [e] [] pos) (iEnumT X.K ta) := by
  refine ⟨fun pins s σ H R I h => ?_⟩
  refine Call_ (ld_blt I hg hm boot_enumerate (PyProof.Rows.callWith_type1 (thn (ha.run pos pins s σ H _ I h) fun us s1 ⟨vs, H1, I1, r1, q1⟩ => ?_) hs rfl))
  obtain ⟨a, xs, ex, hq, q⟩ := q1
  subst ex
  obtain ⟨u, eu, ru⟩ := vals1 r1
  subst eu
  cases ru
  obtain ⟨its, rv, p', hz⟩ := I1.tuple hq
  have hal : a < s1.heap.objs.size := p'.lt
  refine call_enumT p' fun h' he hit hk => wpAny_pyIter_enum he ?_
  refine ⟨s1.heap.objs.size + 1, [s1.heap.objs.size + 1, s1.heap.objs.size], _, _, H1, rfl, I1.kept (t' := s1.toks) hk, turn_enumT a (s1.heap.objs.size + 1) s1.heap.objs.size, ⟨⟨.none, he⟩, hit, Nat.succ_ne_self _, Nat.ne_of_lt hal, Nat.ne_of_lt (Nat.lt_succ_of_lt hal)⟩, fun b hb => ?_, q⟩
  have hle : s1.heap.objs.size ≤ b := by
    rcases List.mem_cons.mp hb with z | z
    · rw [z]; exact Nat.le_add_right _ _
    · rw [List.mem_singleton.mp z]; exact Nat.le_refl _
  exact I1.fpOk hle (I1.hok.fresh hle)
end Mini
end T_E1

section T_M8
set_option Elab.async false
set_option linter.all false
set_option autoImplicit false
/-! Mini: what is walked; targets; comprehensions. -/
namespace Mini
open PySem PySem.Spec PyProof.Rows L2

/-- the hand layer's walk J gives the items of src, from the heap H0 on -/
structure Wk (K : PySem.W.Frag) (CA : Nat → Addr) (J : L2.It) (src : Src) (ρ0 : List Addr) (H0 : Hp) : Prop where
  item : ∀ k ρ vh H p, ρ0 <+: ρ → Ext H0 H → RH K CA ρ vh H → itemAt vh src k = some (some p) → J.go k H ∧ ∀ x H', J.yld k H x H' → Ext H H' ∧ RH K CA ρ vh H' ∧ RP K ρ H' p x
  stop : ∀ k ρ vh H, ρ0 <+: ρ → Ext H0 H → RH K CA ρ vh H → itemAt vh src k = some none → J.stop k H
section
variable {K : PySem.W.Frag} {CA : Nat → Addr} {ρ0 : List Addr} {H0 : Hp}
theorem itemAt_ls {vh : VH} {i k : Nat} {r : Option PV} (h : itemAt vh (.ls i) k = some r) : ∃ xs, vh[i]? = some (.lst xs) ∧ xs[k]? = r := by
  unfold itemAt at h
  cases e : vh[i]? with
  | none => rw [e] at h; cases h
  | some o =>
    rw [e] at h
    cases o with
    | lst xs => exact ⟨xs, rfl, Option.some.inj h⟩
    | _ => cases h
theorem wk_ls {i : Nat} {a : Addr} (ha : ρ0[i]? = some a) : Wk K CA (Itl K a) (.ls i) ρ0 H0 where
  item := fun k ρ vh H p hp hx hH e => by
    obtain ⟨xs, eo, ek⟩ := itemAt_ls e
    obtain ⟨vs, ea, ra⟩ := hH.get i _ a eo (pre_get hp ha)
    obtain ⟨v, ev, rv⟩ := ra.get ek
    refine ⟨⟨vs, v, SqL.of ea, ev⟩, fun x H' y => ?_⟩
    obtain ⟨rfl, y⟩ := y
    have := y vs (SqL.of ea)
    rw [ev] at this
    cases this
    exact ⟨Ext.refl _, hH, rv⟩
  stop := fun k ρ vh H hp hx hH e => by
    obtain ⟨xs, eo, ek⟩ := itemAt_ls e
    obtain ⟨vs, ea, ra⟩ := hH.get i _ a eo (pre_get hp ha)
    exact ⟨vs, SqL.of ea, List.getElem?_eq_none_iff.mp (ra.none_of ek)⟩
theorem wk_fl {xs : List PV} {vs : List V} {a : Addr} (ha : FzL K H0 a vs) (r : RPs K ρ0 H0 xs vs) : Wk K CA (Itl K a) (.vals xs) ρ0 H0 where
  item := fun k ρ vh H p hp hx hH e => by
    have ek : xs[k]? = some p := Option.some.inj e
    obtain ⟨v, ev, rv⟩ := (r.mono hp hx).get ek
    refine ⟨⟨vs, v, (hx.fzL ha).sq, ev⟩, fun x H' y => ?_⟩
    obtain ⟨rfl, y⟩ := y
    have := y vs (hx.fzL ha).sq
    rw [ev] at this
    cases this
    exact ⟨Ext.refl _, hH, rv⟩
  stop := fun k ρ vh H hp hx hH e => by
    have ek : xs[k]? = none := Option.some.inj e
    exact ⟨vs, (hx.fzL ha).sq, List.getElem?_eq_none_iff.mp (r.none_of ek)⟩
theorem wk_tup {xs : List PV} {vs : List V} {a : Addr} (ha : SqT K H0 a vs) (r : RPs K ρ0 H0 xs vs) : Wk K CA (Itt K a) (.vals xs) ρ0 H0 where
  item := fun k ρ vh H p hp hx hH e => by
    have ek : xs[k]? = some p := Option.some.inj e
    obtain ⟨v, ev, rv⟩ := (r.mono hp hx).get ek
    refine ⟨⟨vs, v, hx.sqT ha, ev⟩, fun x H' y => ?_⟩
    obtain ⟨rfl, y⟩ := y
    have := y vs (hx.sqT ha)
    rw [ev] at this
    cases this
    exact ⟨Ext.refl _, hH, rv⟩
  stop := fun k ρ vh H hp hx hH e => by
    have ek : xs[k]? = none := Option.some.inj e
    exact ⟨vs, hx.sqT ha, List.getElem?_eq_none_iff.mp (r.none_of ek)⟩
theorem wk_str {z : Str} : Wk K CA (Its z) (.vals (z.cps.toList.map fun c => .str ⟨#[c]⟩)) ρ0 H0 where
  item := fun k ρ vh H p hp hx hH e => by
    have ek : (z.cps.toList.map fun c => PV.str ⟨#[c]⟩)[k]? = some p := Option.some.inj e
    rw [List.getElem?_map] at ek
    cases ec : z.cps.toList[k]? with
    | none => rw [ec] at ek; cases ek
    | some c =>
      rw [ec] at ek
      cases ek
      have ec2 : z.cps[k]? = some c := by simpa using ec
      refine ⟨(Array.getElem?_eq_some_iff.mp ec2).1, fun x H' y => ?_⟩
      obtain ⟨rfl, c', e', rfl⟩ := y
      rw [ec2] at e'
      cases e'
      exact ⟨Ext.refl _, hH, .str _⟩
  stop := fun k ρ vh H hp hx hH e => by
    have ek : (z.cps.toList.map fun c => PV.str ⟨#[c]⟩)[k]? = none := Option.some.inj e
    have := List.getElem?_eq_none_iff.mp ek
    show z.cps.size ≤ k
    simpa using this
theorem wk_rng {lo : Int} {m : Nat} : Wk K CA (Itr lo m) (.vals ((List.range m).map fun (i : Nat) => .int (lo + i))) ρ0 H0 where
  item := fun k ρ vh H p hp hx hH e => by
    have ek : ((List.range m).map fun (i : Nat) => PV.int (lo + i))[k]? = some p := Option.some.inj e
    rw [List.getElem?_map] at ek
    cases ec : (List.range m)[k]? with
    | none => rw [ec] at ek; cases ek
    | some c =>
      rw [ec] at ek
      cases ek
      obtain ⟨hk, ev⟩ := List.getElem?_eq_some_iff.mp ec
      have hk' : k < m := by simpa using hk
      have : c = k := by simpa using ev.symm
      subst this
      refine ⟨hk', fun x H' y => ?_⟩
      obtain ⟨rfl, rfl⟩ := y
      exact ⟨Ext.refl _, hH, .int _⟩
  stop := fun k ρ vh H hp hx hH e => by
    have ek : ((List.range m).map fun (i : Nat) => PV.int (lo + i))[k]? = none := Option.some.inj e
    have := List.getElem?_eq_none_iff.mp ek
    show m ≤ k
    simpa using this
theorem wk_enumL {i : Nat} {a : Addr} (ha : ρ0[i]? = some a) : Wk K CA (Ite K a) (.enum (.ls i)) ρ0 H0 where
  item := fun k ρ vh H p hp hx hH e => by
    unfold itemAt at e
    split at e
    · rename_i q eq
      cases e
      obtain ⟨xs, eo, ek⟩ := itemAt_ls eq
      obtain ⟨vs, ea, ra⟩ := hH.get i _ a eo (pre_get hp ha)
      obtain ⟨v, ev, rv⟩ := ra.get ek
      refine ⟨⟨vs, v, SqL.of ea, ev⟩, fun x H' y => ?_⟩
      obtain ⟨tt, w, rfl, hn, rfl, y⟩ := y
      have := y vs (SqL.of ea)
      rw [ev] at this
      cases this
      exact ⟨Ext.new hn, hH.side hn, .tup (SqT.of upd_same) (.cons (.int _) (.cons (rv.mono (List.prefix_refl _) (Ext.new hn)) .nil))⟩
    · rename_i hne
      rw [e] at hne
      exact absurd rfl (hne p)
  stop := fun k ρ vh H hp hx hH e => by
    unfold itemAt at e
    split at e
    · cases e
    · obtain ⟨xs, eo, ek⟩ := itemAt_ls e
      obtain ⟨vs, ea, ra⟩ := hH.get i _ a eo (pre_get hp ha)
      exact ⟨vs, SqL.of ea, List.getElem?_eq_none_iff.mp (ra.none_of ek)⟩
theorem wk_enumT {xs : List PV} {vs : List V} {a : Addr} (ha : SqT K H0 a vs) (r : RPs K ρ0 H0 xs vs) : Wk K CA (IteT K a) (.enum (.vals xs)) ρ0 H0 where
  item := fun k ρ vh H p hp hx hH e => by
    unfold itemAt at e
    split at e
    · rename_i q eq
      cases e
      have ek : xs[k]? = some q := Option.some.inj eq
      obtain ⟨v, ev, rv⟩ := (r.mono hp hx).get ek
      refine ⟨⟨vs, v, hx.sqT ha, ev⟩, fun x H' y => ?_⟩
      obtain ⟨tt, w, rfl, hn, rfl, y⟩ := y
      have := y vs (hx.sqT ha)
      rw [ev] at this
      cases this
      exact ⟨Ext.new hn, hH.side hn, .tup (SqT.of upd_same) (.cons (.int _) (.cons (rv.mono (List.prefix_refl _) (Ext.new hn)) .nil))⟩
    · rename_i hne
      rw [e] at hne
      exact absurd rfl (hne p)
  stop := fun k ρ vh H hp hx hH e => by
    unfold itemAt at e
    split at e
    · cases e
    · have ek : xs[k]? = none := Option.some.inj e
      exact ⟨vs, hx.sqT ha, List.getElem?_eq_none_iff.mp (r.none_of ek)⟩
theorem itemAt_zip {vh : VH} {s t : Src} {k : Nat} {r : Option PV} (h : itemAt vh (.zip s t) k = some r) :
    (∃ p q, itemAt vh s k = some (some p) ∧ itemAt vh t k = some (some q) ∧ r = some (.tup [p, q])) ∨ (itemAt vh s k = some none ∧ itemAt vh t k = some none ∧ r = none) := by
  unfold itemAt at h
  split at h
  · rename_i p q e1 e2
    exact .inl ⟨p, q, e1, e2, (Option.some.inj h).symm⟩
  · rename_i e1 e2
    exact .inr ⟨e1, e2, (Option.some.inj h).symm⟩
  · cases h
theorem wk_zipL {i j : Nat} {a b : Addr} (ha : ρ0[i]? = some a) (hb : ρ0[j]? = some b) : Wk K CA (Itz K a b) (.zip (.ls i) (.ls j)) ρ0 H0 where
  item := fun k ρ vh H p hp hx hH e => by
    rcases itemAt_zip e with ⟨p1, p2, e1, e2, er⟩ | ⟨_, _, er⟩
    · cases er
      obtain ⟨xs, eo, ek⟩ := itemAt_ls e1
      obtain ⟨ys, eo2, ek2⟩ := itemAt_ls e2
      obtain ⟨vs, ea, ra⟩ := hH.get i _ a eo (pre_get hp ha)
      obtain ⟨ws, eb, rb⟩ := hH.get j _ b eo2 (pre_get hp hb)
      obtain ⟨v, ev, rv⟩ := ra.get ek
      obtain ⟨u, eu, ru⟩ := rb.get ek2
      refine ⟨⟨vs, ws, v, u, SqL.of ea, SqL.of eb, ev, eu⟩, fun x H' y => ?_⟩
      obtain ⟨tt, w, w2, rfl, hn, rfl, y1, y2⟩ := y
      have t1 := y1 vs (SqL.of ea)
      have t2 := y2 ws (SqL.of eb)
      rw [ev] at t1
      rw [eu] at t2
      cases t1
      cases t2
      exact ⟨Ext.new hn, hH.side hn, .tup (SqT.of upd_same) (.cons (rv.mono (List.prefix_refl _) (Ext.new hn)) (.cons (ru.mono (List.prefix_refl _) (Ext.new hn)) .nil))⟩
    · cases er
  stop := fun k ρ vh H hp hx hH e => by
    rcases itemAt_zip e with ⟨p1, p2, e1, e2, er⟩ | ⟨e1, e2, _⟩
    · cases er
    · obtain ⟨xs, eo, ek⟩ := itemAt_ls e1
      obtain ⟨ys, eo2, ek2⟩ := itemAt_ls e2
      obtain ⟨vs, ea, ra⟩ := hH.get i _ a eo (pre_get hp ha)
      obtain ⟨ws, eb, rb⟩ := hH.get j _ b eo2 (pre_get hp hb)
      exact ⟨vs, ws, SqL.of ea, SqL.of eb, .inl (List.getElem?_eq_none_iff.mp (ra.none_of ek))⟩
theorem wk_zipT {xs ys : List PV} {vs ws : List V} {a b : Addr} (ha : SqT K H0 a vs) (ra : RPs K ρ0 H0 xs vs) (hb : SqT K H0 b ws) (rb : RPs K ρ0 H0 ys ws) : Wk K CA (RZ.ItzT K a b) (.zip (.vals xs) (.vals ys)) ρ0 H0 where
  item := fun k ρ vh H p hp hx hH e => by
    rcases itemAt_zip e with ⟨p1, p2, e1, e2, er⟩ | ⟨_, _, er⟩
    · cases er
      have ek : xs[k]? = some p1 := Option.some.inj e1
      have ek2 : ys[k]? = some p2 := Option.some.inj e2
      obtain ⟨v, ev, rv⟩ := (ra.mono hp hx).get ek
      obtain ⟨u, eu, ru⟩ := (rb.mono hp hx).get ek2
      refine ⟨⟨vs, ws, v, u, hx.sqT ha, hx.sqT hb, ev, eu⟩, fun x H' y => ?_⟩
      obtain ⟨tt, w, w2, rfl, hn, rfl, y1, y2⟩ := y
      have t1 := y1 vs (hx.sqT ha)
      have t2 := y2 ws (hx.sqT hb)
      rw [ev] at t1
      rw [eu] at t2
      cases t1
      cases t2
      exact ⟨Ext.new hn, hH.side hn, .tup (SqT.of upd_same) (.cons (rv.mono (List.prefix_refl _) (Ext.new hn)) (.cons (ru.mono (List.prefix_refl _) (Ext.new hn)) .nil))⟩
    · cases er
  stop := fun k ρ vh H hp hx hH e => by
    rcases itemAt_zip e with ⟨p1, p2, e1, e2, er⟩ | ⟨e1, e2, _⟩
    · cases er
    · have ek : xs[k]? = none := Option.some.inj e1
      exact ⟨vs, ws, hx.sqT ha, hx.sqT hb, .inl (List.getElem?_eq_none_iff.mp (ra.none_of ek))⟩
end
end Mini
end T_M8

section T_M9
set_option Elab.async false
set_option linter.all false
set_option autoImplicit false
/-! Mini: soundness of what is walked, targets, comprehensions. -/
namespace Mini
open PySem PySem.Spec PyProof.Rows L2
section
variable {T : Tab} {CA FA : Nat → Addr} {X : Cx} {W : WX} {n : Nat}
def tI (T : Tab) (CA : Nat → Addr) (K : PySem.W.Frag) (W : WX) (n : Nat) (it : It) : TI := fun σ H R => ∃ ρ vh env, RH K CA ρ vh H ∧ RE K ρ H env σ ∧
  OutU K CA W σ ρ H (evI T (callF T n) it env vh) (fun src ρ1 _ H1 => ∀ J, Wk K CA J src ρ1 H1 → R J H1)
theorem s_Ival {x : Ex} {tg e : Expr} (he : PE X e (tE T CA X.K W n x)) : PI X tg e (tI T CA X.K W n (.val x)) := by
  refine ⟨fun pins s σ H R I ⟨ρ, vh, env, hH, hE, h⟩ => ?_⟩
  unfold evI at h
  by_cases ht : ∃ xs vh1, evE T (callF T n) x env vh = .ok (.tup xs) vh1
  · obtain ⟨xs, vh1, ex⟩ := ht
    refine (pi_tup he).run pins s σ H R I ⟨ρ, vh, env, hH, hE, OutU.step h fun p vh1 ρ1 H1 v e1 p1 x1 hH1 rp h1 => ?_⟩
    rw [ex] at e1
    cases e1
    cases rp with
    | @tup _ a vs ha ra => exact ⟨a, rfl, ⟨vs, ha⟩, h1 ρ1 H1 (List.prefix_refl _) (Ext.refl _) hH1 _ (wk_tup ha ra)⟩
  by_cases hs : ∃ z vh1, evE T (callF T n) x env vh = .ok (.str z) vh1
  · obtain ⟨z, vh1, ex⟩ := hs
    refine (pi_str he).run pins s σ H R I ⟨ρ, vh, env, hH, hE, OutU.step h fun p vh1 ρ1 H1 v e1 p1 x1 hH1 rp h1 => ?_⟩
    rw [ex] at e1
    cases e1
    cases rp
    exact ⟨z, rfl, h1 ρ1 H1 (List.prefix_refl _) (Ext.refl _) hH1 _ wk_str⟩
  refine (pi_list he).run pins s σ H R I ⟨ρ, vh, env, hH, hE, OutU.step h fun p vh1 ρ1 H1 v e1 p1 x1 hH1 rp h1 => ?_⟩
  cases p with
  | tup xs => exact absurd ⟨xs, vh1, e1⟩ ht
  | str z => exact absurd ⟨z, vh1, e1⟩ hs
  | fl xs =>
    cases rp with
    | @fl _ a vs ha ra => exact ⟨a, rfl, ⟨vs, ha.sq⟩, h1 ρ1 H1 (List.prefix_refl _) (Ext.refl _) hH1 _ (wk_fl ha ra)⟩
  | ref i =>
    dsimp only [srcOf] at h1
    cases eo : vh1[i]? with
    | none => rw [eo] at h1; exact h1.elim
    | some o =>
      cases o with
      | lst xs =>
        rw [eo] at h1
        obtain ⟨a, vs, rfl, ea, hb, ra⟩ := hH1.lst eo rp
        exact ⟨a, rfl, ⟨vs, SqL.of hb⟩, h1 ρ1 H1 (List.prefix_refl _) (Ext.refl _) hH1 _ (wk_ls ea)⟩
      | _ => rw [eo] at h1; exact h1.elim
  | _ => exact h1.elim
theorem rngS_of {lo hi : Int} {s : Src} (h : rngS lo hi = some s) : (-(2 ^ 62) ≤ lo ∧ lo < 2 ^ 62 ∧ -(2 ^ 62) ≤ hi ∧ hi < 2 ^ 62) ∧ s = .vals ((List.range (hi - lo).toNat).map fun (i : Nat) => .int (lo + i)) := by
  unfold rngS at h
  split at h
  · rename_i hc
    exact ⟨hc, (Option.some.inj h).symm⟩
  · cases h
theorem mGl_of {x : Str} {fx : Expr} (fs : FS T FA CA X.K X.mg) (h : mGl T X.env.scope x fx = true) : ∃ p, fx = .Name x p ∧ gl X.env.scope x = true ∧ X.mg x = none := by
  unfold mGl at h
  split at h
  · rename_i y p
    rw [Bool.and_eq_true, Bool.and_eq_true, beq_iff_eq] at h
    obtain ⟨⟨rfl, h1⟩, h2⟩ := h
    exact ⟨p, rfl, h1, fs.free _ (by simpa using h2)⟩
  · cases h
theorem s_Irng1 {a : Ex} {tg y : Expr} {p pos : Pos} (hg : gl X.env.scope "range" = true) (hm : X.mg "range" = none) (ha : PE X y (tE T CA X.K W n a)) (hs : isStar y = false) : PI X tg (.Call (.Name "range" p) [y] [] pos) (tI T CA X.K W n (.rng1 a)) := by
  refine ⟨fun pins s σ H R I ⟨ρ, vh, env, hH, hE, h⟩ => ?_⟩
  unfold evI at h
  refine (pi_range1 (gl_of hg).1 hm (pa_cons ha pa_nil (star_cons hs)) (star_cons hs)).run pins s σ H R I ⟨ρ, vh, env, hH, hE, OutU.step h fun p vh1 ρ1 H1 v e1 p1 x1 hH1 rp h1 => ?_⟩
  cases rp with
  | int j =>
    dsimp only at h1
    cases er : rngS 0 j with
    | none => rw [er] at h1; exact h1.elim
    | some src =>
      rw [er] at h1
      obtain ⟨hc, rfl⟩ := rngS_of er
      refine ⟨j, rfl, hc.2.2.1, hc.2.2.2, ?_⟩
      have := h1 ρ1 H1 (List.prefix_refl _) (Ext.refl _) hH1 _ wk_rng
      rw [Int.sub_zero] at this
      exact this
  | _ => exact h1.elim
theorem s_Irng2 {a b : Ex} {tg y z : Expr} {p pos : Pos} (hg : gl X.env.scope "range" = true) (hm : X.mg "range" = none) (ha : PE X y (tE T CA X.K W n a)) (hb : PE X z (tE T CA X.K W n b)) (hs : isStar y = false) (hs2 : isStar z = false) :
    PI X tg (.Call (.Name "range" p) [y, z] [] pos) (tI T CA X.K W n (.rng2 a b)) := by
  refine ⟨fun pins s σ H R I ⟨ρ, vh, env, hH, hE, h⟩ => ?_⟩
  unfold evI at h
  refine (pi_range2 (gl_of hg).1 hm (pa_cons ha (pa_cons hb pa_nil (star_cons hs2)) (star_cons hs)) (by rw [star_cons hs, star_cons hs2]; rfl) (star_cons hs2)).run pins s σ H R I ⟨ρ, vh, env, hH, hE, OutU.step h fun p vh1 ρ1 H1 v e1 p1 x1 hH1 rp h1 => ?_⟩
  refine ⟨ρ1, vh1, env, hH1, hE.mono p1 x1, OutU.step h1 fun q vh2 ρ2 H2 w e2 p2 x2 hH2 rq h2 => ?_⟩
  cases rp with
  | int i =>
    cases rq with
    | int j =>
      dsimp only at h2
      cases er : rngS i j with
      | none => rw [er] at h2; exact h2.elim
      | some src =>
        rw [er] at h2
        obtain ⟨hc, rfl⟩ := rngS_of er
        exact ⟨i, j, rfl, hc, h2 ρ2 H2 (List.prefix_refl _) (Ext.refl _) hH2 _ wk_rng⟩
    | _ => exact h2.elim
  | _ => exact h2.elim
theorem s_Ienum {x : Ex} {y : Expr} {es : List Expr} {k : Nat} {p pos tp : Pos} (hg : gl X.env.scope "enumerate" = true) (hm : X.mg "enumerate" = none) (ha : PE X y (tE T CA X.K W n x)) (hs : isStar y = false) :
    PI X (.Tuple es k tp) (.Call (.Name "enumerate" p) [y] [] pos) (tI T CA X.K W n (.enum x)) := by
  refine ⟨fun pins s σ H R I ⟨ρ, vh, env, hH, hE, h⟩ => ?_⟩
  unfold evI at h
  by_cases ht : ∃ xs vh1, evE T (callF T n) x env vh = .ok (.tup xs) vh1
  · obtain ⟨xs, vh1, ex⟩ := ht
    refine (pi_enumT (gl_of hg).1 hm (pa_cons ha pa_nil (star_cons hs)) (star_cons hs)).run pins s σ H R I ⟨ρ, vh, env, hH, hE, OutU.step h fun p vh1 ρ1 H1 v e1 p1 x1 hH1 rp h1 => ?_⟩
    rw [ex] at e1
    cases e1
    cases rp with
    | @tup _ a vs ha ra => exact ⟨a, vs, rfl, ha, h1 ρ1 H1 (List.prefix_refl _) (Ext.refl _) hH1 _ (wk_enumT ha ra)⟩
  · refine (pi_enum (gl_of hg).1 hm (pa_cons ha pa_nil (star_cons hs)) (star_cons hs)).run pins s σ H R I ⟨ρ, vh, env, hH, hE, OutU.step h fun p vh1 ρ1 H1 v e1 p1 x1 hH1 rp h1 => ?_⟩
    cases p with
    | tup xs => exact absurd ⟨xs, vh1, e1⟩ ht
    | ref i =>
      dsimp only at h1
      cases eo : vh1[i]? with
      | none => rw [eo] at h1; exact h1.elim
      | some o =>
        cases o with
        | lst xs =>
          rw [eo] at h1
          obtain ⟨a, vs, rfl, ea, hb, ra⟩ := hH1.lst eo rp
          exact ⟨a, vs, rfl, SqL.of hb, h1 ρ1 H1 (List.prefix_refl _) (Ext.refl _) hH1 _ (wk_enumL ea)⟩
        | _ => rw [eo] at h1; exact h1.elim
    | _ => exact h1.elim
theorem s_Izip {a b : Ex} {y z : Expr} {es : List Expr} {k : Nat} {p pos tp : Pos} (hg : gl X.env.scope "zip" = true) (hm : X.mg "zip" = none) (ha : PE X y (tE T CA X.K W n a)) (hb : PE X z (tE T CA X.K W n b)) (hs : isStar y = false) (hs2 : isStar z = false) :
    PI X (.Tuple es k tp) (.Call (.Name "zip" p) [y, z] [] pos) (tI T CA X.K W n (.zip a b)) := by
  refine ⟨fun pins s σ H R I ⟨ρ, vh, env, hH, hE, h⟩ => ?_⟩
  unfold evI at h
  refine (RZ.pi_zipA (gl_of hg).1 hm (pa_cons ha (pa_cons hb pa_nil (star_cons hs2)) (star_cons hs)) (star_cons hs) (star_none (by simp [hs2]))).run pins s σ H R I ⟨ρ, vh, env, hH, hE, OutU.step h fun p vh1 ρ1 H1 v e1 p1 x1 hH1 rp h1 => ?_⟩
  refine ⟨ρ1, vh1, env, hH1, hE.mono p1 x1, OutU.step h1 fun q vh2 ρ2 H2 w e2 p2 x2 hH2 rq h2 => ?_⟩
  have rp2 := rp.mono p2 x2
  cases p with
  | tup xs =>
    cases q with
    | tup ys =>
      cases rp2 with
      | @tup _ a vs ha ra =>
        cases rq with
        | @tup _ b ws hb rb => exact ⟨a, b, vs, ws, rfl, .inr ⟨ha, hb, h2 ρ2 H2 (List.prefix_refl _) (Ext.refl _) hH2 _ (wk_zipT ha ra hb rb)⟩⟩
    | _ => exact h2.elim
  | ref i =>
    cases q with
    | ref j =>
      dsimp only at h2
      split at h2
      · rename_i xs ys e1 e2
        obtain ⟨a, vs, rfl, ea, hb, ra⟩ := hH2.lst e1 rp2
        obtain ⟨b, ws, rfl, eb, hb2, rb⟩ := hH2.lst e2 rq
        exact ⟨a, b, vs, ws, rfl, .inl ⟨SqL.of hb, SqL.of hb2, h2 ρ2 H2 (List.prefix_refl _) (Ext.refl _) hH2 _ (wk_zipL ea eb)⟩⟩
      · exact h2.elim
    | _ => exact h2.elim
  | _ => exact h2.elim

/-! ### targets -/
def setV : List Nat → List V → L2.St → L2.St
  | i :: is, v :: vs, σ => setV is vs (σ.set i (some v))
  | _, _, σ => σ
def tgS : Tg → List Nat
  | .nm i => [i]
  | .tp is => is
def gT (CA : Nat → Addr) (K : PySem.W.Frag) (tg : Tg) : TG := fun v σ H Q => ∃ ρ vh env p, RH K CA ρ vh H ∧ RE K ρ H env σ ∧ RP K ρ H p v ∧ ∃ env1, setTg vh tg p env = some env1 ∧ ∀ σ', RE K ρ H env1 σ' → (∃ vs, σ' = setV (tgS tg) vs σ) → Q σ' H
def gAll (is : List Nat) : TGs := fun vs σ H Q => vs.length = is.length ∧ Q (setV is vs σ) H
/-- a name that may be stored here -/
def Sto (X : Cx) (x : Str) : Prop := X.fn x = true ∨ X.env.scope.names.lookup x = some .local
theorem mNm_of {N : List Str} {sc : Scope} {i : Nat} {e : Expr} (h : mNm N sc i e = true) : ∃ x p, e = .Name x p ∧ N[i]? = some x ∧ Loc sc x := by
  unfold mNm at h
  split at h
  · rename_i x p
    rw [Bool.and_eq_true, beq_iff_eq] at h
    refine ⟨x, p, rfl, h.1, ?_⟩
    have h2 := h.2
    split at h2
    · exact .inl (by assumption)
    · exact .inr (by assumption)
    · cases h2
  · cases h
theorem s_gNm (nd : X.N.Nodup) {i : Nat} {e : Expr} (h : mNm X.N X.env.scope i e = true) (hf : ∀ x p, e = .Name x p → Sto X x) : PG X e (gName i) := by
  obtain ⟨x, p, rfl, hN, hL⟩ := mNm_of h
  exact pg_name nd hN hL (hf x p rfl)
theorem each_cons {e : Expr} {es : List Expr} {env : PySem.Env} (h : isStar e = false) : assignEach (e :: es) env = (false, assign e env) :: assignEach es env := by
  cases e <;> first | rfl | cases h
theorem s_gNms (nd : X.N.Nodup) : ∀ {is : List Nat} {es : List Expr}, mNms X.N X.env.scope is es = true → (∀ e ∈ es, ∀ x p, e = .Name x p → Sto X x) → PGs X es (gAll is) ∧ (assignEach es X.env).length = is.length ∧ (assignEach es X.env).findIdx? (·.1) = none
  | [], [], _, _ => ⟨⟨fun pins s σ H vs us Q I r h => pgs_nil.run pins s σ H vs us Q I r ⟨by simpa using h.1, by
      have e : vs = [] := by simpa using h.1
      subst e
      exact h.2⟩⟩, rfl, rfl⟩
  | [], _ :: _, h, _ => by cases h
  | _ :: _, [], h, _ => by cases h
  | i :: is, e :: es, h, hf => by
    unfold mNms at h
    rw [Bool.and_eq_true, Bool.and_eq_true] at h
    have hs : isStar e = false := by simpa using h.1.2
    obtain ⟨a, b, c⟩ := s_gNms nd (is := is) (es := es) h.2 fun e' m => hf e' (List.mem_cons_of_mem _ m)
    have hg := s_gNm nd h.1.1 (hf e List.mem_cons_self)
    refine ⟨⟨fun pins s σ H vs us Q I r hq => ?_⟩, ?_, ?_⟩
    · refine (pgs_cons hg a (by rw [each_cons hs]; rfl)).run pins s σ H vs us Q I r ?_
      cases vs with
      | nil => cases hq.1
      | cons v vs => exact ⟨v, vs, rfl, by simpa using hq.1, hq.2⟩
    · rw [each_cons hs, List.length_cons, b]; rfl
    · rw [each_cons hs, List.findIdx?_cons, c]
      rfl
theorem setAll_rel {K : PySem.W.Frag} {ρ : List Addr} {H : Hp} : ∀ {is : List Nat} {ps : List PV} {vs : List V} {env env1 : Env} {σ : L2.St}, setAll is ps env = some env1 → RPs K ρ H ps vs → RE K ρ H env σ → vs.length = is.length ∧ RE K ρ H env1 (setV is vs σ)
  | [], _, _, _, _, _, e, .nil, hE => by cases e; exact ⟨rfl, hE⟩
  | [], _, _, _, _, _, e, .cons _ _, _ => by cases e
  | _ :: _, _, _, _, _, _, e, .nil, _ => by cases e
  | i :: is, _, _, env, env1, σ, e, .cons r t, hE => by
    obtain ⟨a, b⟩ := setAll_rel (is := is) e t (hE.set r)
    exact ⟨congrArg Nat.succ a, b⟩
theorem s_g (hc : X.calm = true) (nd : X.N.Nodup) {tg : Tg} {e : Expr} (h : mTg X.N X.env.scope tg e = true) (hf : ∀ x p, e = .Name x p → Sto X x) (hf2 : ∀ es k p, e = .Tuple es k p → ∀ e' ∈ es, ∀ x p, e' = .Name x p → Sto X x) : PG X e (gT CA X.K tg) := by
  refine ⟨fun pins s σ H v u Q I r ⟨ρ, vh, env, p, hH, hE, rp, env1, es1, hq⟩ => ?_⟩
  cases tg with
  | nm i =>
    cases es1
    exact (s_gNm nd h hf).run pins s σ H v u Q I r (hq _ (hE.set rp) ⟨[v], rfl⟩)
  | tp is =>
    unfold mTg at h
    dsimp only at h
    split at h
    · rename_i es k pos
      obtain ⟨a, b, c⟩ := s_gNms nd h (hf2 es k pos rfl)
      unfold setTg at es1
      dsimp only at es1
      cases p with
      | tup xs =>
        cases rp with
        | @tup _ ad vs ha ra =>
          obtain ⟨l, hE1⟩ := setAll_rel es1 ra hE
          exact (pg_tup hc a b c).run pins s σ H _ u Q I r ⟨ad, vs, rfl, ha, l, l, hq _ hE1 ⟨vs, rfl⟩⟩
      | ref j =>
        dsimp only at es1
        cases eo : vh[j]? with
        | none => rw [eo] at es1; cases es1
        | some o =>
          rw [eo] at es1
          cases o with
          | lst xs =>
            obtain ⟨ad, vs, rfl, ea, hb, ra⟩ := hH.lst eo rp
            obtain ⟨l, hE1⟩ := setAll_rel es1 ra hE
            exact (pg_lst hc a b c).run pins s σ H _ u Q I r ⟨ad, vs, rfl, SqL.of hb, l, l, hq _ hE1 ⟨vs, rfl⟩⟩
          | _ => cases es1
      | _ => cases es1
    · cases h
/-! ### comprehensions -/
theorem wipe_get (σ : L2.St) : ∀ (vs : List Nat) (i : Nat), (wipe σ vs)[i]? = if i ∈ vs then (if i < σ.length then some none else none) else σ[i]?
  | [], i => by simp [wipe]
  | v :: vs, i => by
    unfold wipe
    by_cases h : v = i
    · subst h
      by_cases hl : v < σ.length
      · rw [List.getElem?_set_self (by rw [wipe_length]; exact hl)]
        simp [hl]
      · rw [List.getElem?_eq_none (by simp [wipe_length]; omega)]
        simp [hl]
    · rw [List.getElem?_set_ne h, wipe_get σ vs i]
      have : i ≠ v := fun e => h e.symm
      simp [this]
theorem setV_length : ∀ (is : List Nat) (vs : List V) (σ : L2.St), (setV is vs σ).length = σ.length
  | [], _, _ => by unfold setV; rfl
  | _ :: _, [], _ => by unfold setV; rfl
  | i :: is, v :: vs, σ => by unfold setV; rw [setV_length is vs]; simp
theorem setV_get {own : List Nat} : ∀ (is : List Nat) (vs : List V) (σ : L2.St) (i : Nat), (∀ j ∈ is, j ∈ own) → i ∉ own → (setV is vs σ)[i]? = σ[i]?
  | [], _, _, _, _, _ => by unfold setV; rfl
  | _ :: _, [], _, _, _, _ => by unfold setV; rfl
  | j :: is, v :: vs, σ, i, h, hi => by
    unfold setV
    rw [setV_get is vs _ i (fun k m => h k (List.mem_cons_of_mem _ m)) hi]
    have : j ≠ i := fun e => hi (e ▸ h j List.mem_cons_self)
    rw [List.getElem?_set_ne this]
theorem wipe_setV {own is : List Nat} {vs : List V} {σ : L2.St} (h : ∀ j ∈ is, j ∈ own) : wipe (setV is vs (wipe σ own)) own = wipe σ own := by
  apply List.ext_getElem?
  intro i
  rw [wipe_get, wipe_get σ own i]
  by_cases hi : i ∈ own
  · simp [hi, setV_length, wipe_length]
  · rw [if_neg hi, if_neg hi, setV_get is vs _ i h hi, wipe_get, if_neg hi]
theorem OutU.stepN {α : Type} {K : PySem.W.Frag} {CA : Nat → Addr} {W W' : WX} {σ σ' : L2.St} {ρ : List Addr} {H : Hp} {r : Res PV} {f : PV → VH → Res α} {Q : α → List Addr → VH → Hp → Prop} {R : VK} (h : OutU K CA W σ ρ H (r.bindN f) Q)
    (k : ∀ p vh1 ρ1 H1 v, r = .ok p vh1 → ρ <+: ρ1 → Ext H H1 → RH K CA ρ1 vh1 H1 → RP K ρ1 H1 p v → OutU K CA W σ ρ1 H1 (f p vh1) Q → R v H1) : Out K CA W' σ' ρ H r R := by
  cases r with
  | ok p vh => exact fun ρ' H' v a b c d => k p vh ρ' H' v rfl a b c d (OutU.mono a b h)
  | exc c fs vh => exact h.elim
  | stuck => exact h.elim
def tCs (T : Tab) (CA : Nat → Addr) (K : PySem.W.Frag) (n : Nat) (cs : Exs) : TT := fun σ H Q => ∃ ρ vh env, RH K CA ρ vh H ∧ RE K ρ H env σ ∧ OutU K CA (fun _ _ _ _ => False) σ ρ H (evC T (callF T n) cs env vh) (fun b _ _ H' => Q b H')
abbrev WN : WX := fun _ _ _ _ => False
theorem s_cs0 : PTs X [] (tCs T CA X.K n .nil) :=
  ⟨fun pins s σ H Q I ⟨ρ, vh, env, hH, hE, h⟩ => pts_nil.run pins s σ H Q I (h ρ H (List.prefix_refl _) (Ext.refl _) hH)⟩
theorem s_cs1 {x : Ex} {e : Expr} (ht : PT X e (tT T CA X.K WN n x)) : PTs X [e] (tCs T CA X.K n (.cons x .nil)) := by
  refine ⟨fun pins s σ H Q I ⟨ρ, vh, env, hH, hE, h⟩ => (pts_one ht).run pins s σ H Q I ⟨ρ, vh, env, hH, hE, ?_⟩⟩
  unfold evC at h
  cases hr : evE T (callF T n) x env vh with
  | ok p vh1 => rw [hr] at h; exact h
  | exc c fs vh1 => rw [hr] at h; exact h.elim
  | stuck => rw [hr] at h; exact h.elim
theorem Good.blk (g : Good T FA CA X W n) (s : Shared) (H : Hp) (scope : Scope) (cenv : PySem.Env) (fp : List Addr) : Good T FA CA (X.blk s H scope cenv fp) WN n :=
  ⟨takes0, PassesOwn.never, g.calm, g.nd, g.room, g.fs, g.fn⟩
theorem r_lc {elt : Ex} {tg : Tg} {it : It} {cs : Exs} {own' : List (Str × Nat)} (hin : ∀ j ∈ tgS tg, j ∈ own'.map (·.2)) {σ : L2.St} {H : Hp} {Q : VK} (h : tE T CA X.K W n (.lc elt tg it cs (own'.map (·.2))) σ H Q) :
    tLc (tI T CA X.K W n it) (gT CA X.K tg) (tCs T CA X.K n cs) (tE T CA X.K WN n elt) (own'.map (·.2)) σ H Q := by
  obtain ⟨ρ, vh, env, hH, hE, h⟩ := h
  unfold evE at h
  refine ⟨ρ, vh, env, hH, hE, Out.stepU h fun src vh1 ρ1 H1 e1 p1 x1 hH1 h1 J wk D hD => ?_⟩
  -- the new list
  have hR0 : RH X.K CA (ρ1 ++ [D]) (vh1 ++ [.lst []]) (upd H1 D (.lst [])) := hH1.new hD ⟨[], upd_same, .nil⟩
  have xD : Ext H1 (upd H1 D (.lst [])) := Ext.new hD
  have pD : ρ1 <+: ρ1 ++ [D] := List.prefix_append _ _
  generalize hstep : (fun (p : PV) (vh2 : VH) => match setTg vh2 tg p (wipeE env (own'.map (·.2))) with
        | some env1 => (evC T (callF T n) cs env1 vh2).bindN fun b vh3 => match b with
          | true => (evE T (callF T n) elt env1 vh3).bindN fun y vh4 => Res.ok (some y) vh4
          | false => Res.ok none vh3
        | none => Res.stuck) = step at h1
  refine ⟨fun k m H2 => ∃ ρ2 vh2, (ρ1 ++ [D]) <+: ρ2 ∧ Ext (upd H1 D (.lst [])) H2 ∧ RH X.K CA ρ2 vh2 H2 ∧ Out X.K CA W σ ρ2 H2 (lcLoop src vh1.length step m k vh2) Q, ⟨src.len vh1, ρ1 ++ [D], _, List.prefix_refl _, Ext.refl _, hR0, Out.mono pD xD h1⟩, ?_⟩
  rintro k m H2 ⟨ρ2, vh2, p2, x2, hH2, h2⟩
  have hDix : ρ2[vh1.length]? = some D := pre_get p2 (by rw [← hH1.len]; simp)
  cases ei : itemAt vh2 src k with
  | none =>
    exfalso
    cases m with
    | zero => unfold lcLoop at h2; rw [ei] at h2; exact h2
    | succ m => unfold lcLoop at h2; rw [ei] at h2; exact h2
  | some r =>
    cases r with
    | none =>
      refine .inl ⟨wk.stop k ρ2 vh2 H2 (pD.trans p2) (xD.trans x2) hH2 ei, ?_⟩
      have fin : Out X.K CA W σ ρ2 H2 (.ok (.ref vh1.length) vh2) Q := by
        cases m with
        | zero => unfold lcLoop at h2; rw [ei] at h2; exact h2
        | succ m => unfold lcLoop at h2; rw [ei] at h2; exact h2
      exact fin ρ2 H2 _ (List.prefix_refl _) (Ext.refl _) hH2 (.ref hDix)
    | some p =>
      cases m with
      | zero => unfold lcLoop at h2; rw [ei] at h2; exact h2.elim
      | succ m =>
        unfold lcLoop at h2
        rw [ei] at h2
        dsimp only at h2
        obtain ⟨go, yl⟩ := wk.item k ρ2 vh2 H2 p (pD.trans p2) (xD.trans x2) hH2 ei
        refine .inr ⟨go, fun H' => ∃ ρ3 vh3, (ρ1 ++ [D]) <+: ρ3 ∧ Ext (upd H1 D (.lst [])) H' ∧ RH X.K CA ρ3 vh3 H' ∧ Out X.K CA W σ ρ3 H' (lcLoop src vh1.length step m (k + 1) vh3) Q, fun H' q => ⟨m, Nat.lt_succ_self _, q⟩, fun x H3 y => ?_⟩
        obtain ⟨x3, hH3, rp⟩ := yl x H3 y
        have hE3 : RE X.K ρ2 H3 (wipeE env (own'.map (·.2))) (wipe σ (own'.map (·.2))) := (hE.mono (p1.trans (pD.trans p2)) ((x1.trans (xD.trans x2)).trans x3)).wipe _
        have hs2 : step p vh2 = (match setTg vh2 tg p (wipeE env (own'.map (·.2))) with
          | some env1 => (evC T (callF T n) cs env1 vh2).bindN fun b vh3 => match b with
            | true => (evE T (callF T n) elt env1 vh3).bindN fun y vh4 => Res.ok (some y) vh4
            | false => Res.ok none vh3
          | none => Res.stuck) := by rw [← hstep]
        rw [hs2] at h2
        cases et : setTg vh2 tg p (wipeE env (own'.map (·.2))) with
        | none => rw [et] at h2; exact h2.elim
        | some env1 =>
          rw [et] at h2
          dsimp only at h2
          refine ⟨ρ2, vh2, wipeE env (own'.map (·.2)), p, hH3, hE3, rp, env1, et, fun σ2 hE2 ⟨vs, hv⟩ => ⟨by rw [hv]; exact wipe_setV hin, ?_⟩⟩
          have h3 : Out X.K CA W σ ρ2 H3 _ Q := Out.mono (List.prefix_refl _) x3 h2
          refine ⟨ρ2, vh2, env1, hH3, hE2, ?_⟩
          cases ec : evC T (callF T n) cs env1 vh2 with
          | exc c fs vh3 => rw [ec] at h3; exact h3.elim
          | stuck => rw [ec] at h3; exact h3.elim
          | ok b vh3 =>
            rw [ec] at h3
            dsimp only [Res.bindN] at h3
            intro ρ4 H4 a4 b4 hH4
            have h4 : Out X.K CA W σ ρ4 H4 _ Q := Out.mono a4 b4 h3
            have pp : (ρ1 ++ [D]) <+: ρ4 := p2.trans a4
            have xx : Ext (upd H1 D (.lst [])) H4 := (x2.trans x3).trans b4
            cases b with
            | false => exact ⟨ρ4, vh3, pp, xx, hH4, h4⟩
            | true =>
              refine (show tE T CA X.K WN n elt σ2 H4 _ from ⟨ρ4, vh3, env1, hH4, hE2.mono a4 b4, ?_⟩)
              cases ev : evE T (callF T n) elt env1 vh3 with
              | exc c fs vh4 => rw [ev] at h4; exact h4.elim
              | stuck => rw [ev] at h4; exact h4.elim
              | ok yv vh4 =>
                rw [ev] at h4
                dsimp only [Res.bindN] at h4
                intro ρ5 H5 w a5 b5 hH5 ry
                have h5 : Out X.K CA W σ ρ5 H5 _ Q := Out.mono a5 b5 h4
                cases eD : vh4[vh1.length]? with
                | none => rw [eD] at h5; exact h5.elim
                | some o =>
                  rw [eD] at h5
                  cases o with
                  | lst acc =>
                    dsimp only at h5
                    split at h5
                    · rename_i hacc
                      have hD5 : ρ5[vh1.length]? = some D := pre_get (a4.trans a5) hDix
                      obtain ⟨ws, ew, rw'⟩ := hH5.get _ _ D eD hD5
                      have x6 : Ext H5 (upd H5 D (.lst (ws ++ [w]))) := Ext.put ew trivial
                      refine ⟨ws, ew, by rw [← rw'.length]; exact hacc, ρ5, _, pp.trans a5, (xx.trans b5).trans x6, hH5.put (o := .lst (acc ++ [yv])) hD5 ⟨_, upd_same, (rw'.append (.cons ry .nil)).mono (List.prefix_refl _) x6⟩, Out.mono (List.prefix_refl _) x6 h5⟩
                    · exact h5.elim
                  | _ => exact h5.elim
theorem s_lc (g : Good T FA CA X W n) {elt : Ex} {tg : Tg} {it : It} {cs : Exs} {own : List Nat} {el t i : Expr} {ifs : List Expr} {scope : Scope} {own' : List (Str × Nat)} {pos : Pos} (ho : own'.map (·.2) = own) (hin : ∀ j ∈ tgS tg, j ∈ own)
    (hI : PI X t i (tI T CA X.K W n it)) (ok : BlkOk X.N X.env.scope scope own') (hg : ∀ (s : Shared) (H : Hp) (C : Addr) (cl : List (Str × Addr)) (fp : List Addr), PG (X.blk s H scope (PySem.compEnvC scope cl C X.env) fp) t (gT CA X.K tg))
    (ht : ∀ (s : Shared) (H : Hp) (C : Addr) (cl : List (Str × Addr)) (fp : List Addr), PTs (X.blk s H scope (PySem.compEnvC scope cl C X.env) fp) ifs (tCs T CA X.K n cs))
    (he : ∀ (s : Shared) (H : Hp) (C : Addr) (cl : List (Str × Addr)) (fp : List Addr), PE (X.blk s H scope (PySem.compEnvC scope cl C X.env) fp) el (tE T CA X.K WN n elt)) (hs : isSet i = false) :
    PE X (.ListComp el [⟨t, i, ifs, 0⟩] scope pos) (tE T CA X.K W n (.lc elt tg it cs own)) := by
  subst ho
  exact ⟨fun pins s σ H Q I h => (pe_lc g.calm g.nd hI ok hg ht he (folded_plain hs _)).run pins s σ H Q I (r_lc hin h)⟩
end
end Mini
end T_M9

section T_D1
set_option Elab.async false
set_option linter.all false
set_option autoImplicit false
/-! Mini: dict(pairs). -/
namespace Mini
open PySem PySem.Spec PyProof.Rows L2
theorem OutO.mono {K : PySem.W.Frag} {CA : Nat → Addr} {ρ ρ1 : List Addr} {H H1 : Hp} {r : Option (PV × VH)} {Q : VK} (hp : ρ <+: ρ1) (hx : Ext H H1) (h : OutO K CA ρ H r Q) : OutO K CA ρ1 H1 r Q := by
  cases r with
  | none => exact h
  | some q => exact fun ρ' H' v a b => h ρ' H' v (hp.trans a) (hx.trans b)
section
variable {X : Cx} {CA : Nat → Addr}
theorem cr_dict' (hc : X.calm = true) : CallR X (.type "dict") (rA X.K CA (on1 dictP)) := by
  intro pins s σ H xs us Q I r h0
  obtain ⟨ρ, vh, p, x, ex, hH, rp, h⟩ := on1_of h0
  clear h0
  subst ex
  cases rp with
  | @ref i a q =>
    unfold dictP at h
    dsimp only at h
    split at h
    · rename_i ps e
      obtain ⟨vs, ea, ra⟩ := hH.get i _ a e q
      split at h
      · rename_i kvs ek
        obtain ⟨ads, ws, ev, hp, hr⟩ := pairs_rel ek ra
        subst ev
        exact call_dictP hc pins s σ H _ us Q I r ⟨a, ads, ws, rfl, SqL.of ea, hp, OutO.dct h hH (merge_rel hr .nil)⟩
      · exact h.elim
    · exact h.elim
  | _ => exact h.elim
/-- a new tuple that is told whole -/
def tupObj (its : List Value) : Obj := { cls := .type "tuple", data := .seq its.toArray }
theorem or_addF : OpR X (binaryOp .Add) (fun x y H Q => ∃ (a b : Addr) (vs ws : List V), x = .ref a ∧ y = .ref b ∧ SqT X.K H a vs ∧ SqT X.K H b ws ∧ vs.length ≠ 0 ∧ ws.length ≠ 0 ∧ vs.length + ws.length ≤ sizeLine ∧
    ∀ (p : Addr) (its : List Value), H p = none → Vals (vs ++ ws) its → Q (.ref p) (upd H p (.frz (tupObj its) (.tup (vs ++ ws))))) := by
  intro pins s σ H x y v u Q I rx ry ⟨a, b, vs, ws, ex, ey, ha, hb, h1, h2, h3, q⟩
  subst ex ey
  cases rx
  cases ry
  obtain ⟨is, ri, hi, _⟩ := I.tuple ha
  obtain ⟨js, rj, hj, _⟩ := I.tuple hb
  have li := ri.length
  have lj := rj.length
  refine HT.cat_tup hi hj (fun e => h1 (by rw [li, e]; rfl)) (fun e => absurd (by rw [lj, e]; rfl) h2) (fun _ => ?_) (by rw [← li, ← lj]; exact h3)
  have hv : Vals (vs ++ ws) (is ++ js) := Vals.append ri rj
  have ho : (s.heap.push (tupObj (is ++ js))).get? s.heap.objs.size = some (tupObj (is ++ js)) := Heap.get?_push_size _ rfl
  exact ⟨.ref s.heap.objs.size, _, I.laid (t' := s.toks) (fun c o e => Heap.get?_push_of_some _ e) (Nat.le_refl _)
    (show ObjOk X.prog X.w _ _ _ (.frz (tupObj (is ++ js)) (.tup (vs ++ ws))) from ⟨ho, by rw [List.length_append]; exact h3, is ++ js, hv, tupObj (is ++ js), ho, rfl, 0, rfl⟩), rfl, q _ _ (I.hok.fresh (Nat.le_refl _)) hv⟩
theorem call_dictT (hcalm : X.calm = true) : CallR X (.type "dict") (fun xs H Q => ∃ (a : Addr) (ps : List Addr) (its : List Value) (kvs : List (Key × V)), xs = [.ref a] ∧ H a = some (.frz (tupObj its) (.tup (ps.map V.ref))) ∧ its = ps.map Value.ref ∧ Paired (fun p kv => SqT X.K H p [kV kv.1, kv.2]) ps kvs ∧
    ∀ p, H p = none → Q (.ref p) (upd H p (.dK (mergeK [] kvs)))) := by
  intro pins s σ H xs us Q I r q
  obtain ⟨a, ps, its, kvs, ex, hq, ei, hp, q⟩ := q
  subst ex
  obtain ⟨u, eu, rx⟩ := vals1 r
  subst eu
  cases rx
  obtain ⟨ho, hz, _⟩ := I.hok a _ hq
  rw [List.length_map] at hz
  obtain ⟨prs, rel, hl, hpr⟩ := pairs_of I hp
  subst ei
  let Ts : Nat → Addr := fun j => (ps[j]?).getD 0
  let pp : List (Value × Value) := (List.range prs.length).map fun j => match prs[j]? with
    | some q => (match (ps[j]?).bind (fun b => (s.heap.get? b)) with
      | some o => (match o.data with
        | .seq xs _ => ((xs[0]?).getD .none, q.2)
        | _ => (.none, q.2))
      | none => (.none, q.2))
    | none => (.none, .none)
  have hpp : ∀ (j : Nat) (q : Key × Value), prs[j]? = some q → ∃ (b : Addr) (u : Value), ps[j]? = some b ∧ IsTup s.heap b #[u, q.2] ∧ keyIs q.1 u = true ∧ pp[j]? = some (u, q.2) := fun j q' e => by
    obtain ⟨b, u, e1, e2, e3⟩ := hpr j q' e
    refine ⟨b, u, e1, e2, e3, ?_⟩
    obtain ⟨o, ob, oc, n, od⟩ := id e2
    have hj : j < prs.length := (List.getElem?_eq_some_iff.mp e).1
    show ((List.range prs.length).map _)[j]? = _
    rw [List.getElem?_map, List.getElem?_range hj]
    simp only [Option.map_some]
    rw [e, e1]
    simp only [Option.bind_some]
    rw [ob]
    simp only
    rw [od]
    rfl
  have lpp : pp.length = prs.length := by simp [pp]
  have hPI : PairItems s.heap (ps.map Value.ref).toArray Ts pp := by
    refine ⟨by rw [lpp, hl]; simp, fun j k v e => ?_⟩
    have hj : j < prs.length := by rw [← lpp]; exact (List.getElem?_eq_some_iff.mp e).1
    obtain ⟨b, u, e1, e2, e3, e4⟩ := hpp j _ (List.getElem?_eq_getElem hj)
    rw [e] at e4
    cases e4
    refine ⟨by simp [Ts, e1], .inl ?_⟩
    have : Ts j = b := by simp [Ts, e1]
    rw [this]
    exact e2
  refine PySem.call_dict_pairs (knd := mixKind X.prog X.w) (kvs := prs) (PairArg.tuple a (ps.map Value.ref).toArray Ts pp) (I.ok.hd hcalm) ⟨⟨_, 0, ho, rfl, rfl, rfl⟩, hPI⟩ ⟨lpp.symm, fun j k v e => ?_⟩ (by rw [lpp, hl]; exact hz) fun h' tk hd' k => ?_
  · have hj : j < prs.length := by rw [← lpp]; exact (List.getElem?_eq_some_iff.mp e).1
    obtain ⟨b, u, e1, e2, e3, e4⟩ := hpp j _ (List.getElem?_eq_getElem hj)
    have e' : pp[j]? = some (k, v) := e
    rw [e'] at e4
    cases e4
    exact ⟨(prs[j]).1, List.getElem?_eq_getElem hj, e3⟩
  · have hm : (s.heap.objs.size == sysModules) = false := beq_eq_false_iff_ne.mpr (Nat.ne_of_gt I.big)
    have hlen : (mergeK [] kvs).length ≤ sizeLine := by
      refine Nat.le_trans (length_mergeK kvs []) ?_
      rw [List.length_nil, Nat.zero_add, rel.length, hl]
      exact hz
    exact ⟨.ref s.heap.objs.size, upd H s.heap.objs.size (.dK (mergeK [] kvs)), I.laid (t' := tk) (fun b o e => k b o (by simp) e) (Nat.le_refl _) (show ObjOk X.prog X.w _ _ _ (.dK (mergeK [] kvs)) from ⟨hlen, hm, merged [] prs, KV.merge rel .nil, hd'⟩), rfl, q _ (I.hok.fresh (Nat.le_refl _))⟩
end
section
variable {T : Tab} {CA FA : Nat → Addr} {X : Cx} {W : WX} {n : Nat}
theorem s_dsum (g : Good T FA CA X W n) {a b : Ex} {l r : Expr} {p p2 pos : Pos} (hg : gl X.env.scope "dict" = true) (hm : X.mg "dict" = none) (ha : PE X l (tE T CA X.K W n a)) (hb : PE X r (tE T CA X.K W n b)) :
    PE X (.Call (.Name "dict" p) [.BinOp l .Add r p2] [] pos) (tE T CA X.K W n (.dsum a b)) := by
  obtain ⟨g1, g2, g3⟩ := gl_of hg
  refine ⟨fun pins s σ H Q I ⟨ρ, vh, env, hH, hE, h⟩ => ?_⟩
  refine (pe_callTy (call_dictT g.calm) g1 hm (by decide +kernel) (pa_cons (pe_op or_addF ha hb) pa_nil (star_cons rfl)) g3 g2 (star_cons rfl) rfl).run pins s σ H Q I ?_
  unfold evE at h
  refine ⟨ρ, vh, env, hH, hE, Out.step h fun x vh1 ρ1 H1 v e1 p1 x1 hH1 rp h1 => ?_⟩
  refine ⟨ρ1, vh1, env, hH1, hE.mono p1 x1, Out.step h1 fun y vh2 ρ2 H2 w e2 p2 x2 hH2 rq h2 => ?_⟩
  have h3 := h2.o
  have rp2 := rp.mono p2 x2
  unfold dsumP at h3
  split at h3
  · rename_i xs ys
    split at h3
    · rename_i hc
      split at h3
      · rename_i kvs ek
        cases rp2 with
        | @tup _ ad vs ha ra =>
          cases rq with
          | @tup _ bd ws hb rb =>
            refine ⟨ad, bd, vs, ws, rfl, rfl, ha, hb, by rw [← ra.length]; exact hc.1, by rw [← rb.length]; exact hc.2.1, by rw [← ra.length, ← rb.length]; exact hc.2.2, fun q its hn hv => ?_⟩
            have xx := Ext.new (o := .frz (tupObj its) (.tup (vs ++ ws))) hn
            have hH3 := hH2.side (u := .frz (tupObj its) (.tup (vs ++ ws))) hn
            have rr : RPs X.K ρ2 (upd H2 q (.frz (tupObj its) (.tup (vs ++ ws)))) (xs ++ ys) (vs ++ ws) := (ra.append rb).mono (List.prefix_refl _) xx
            obtain ⟨ads, us, ev, hp, hr⟩ := pairs_rel ek rr
            rw [ev] at hv hp hr ⊢
            rw [ev] at hH3 xx
            have ei := refs_at hv
            refine ⟨q, ads, its, us, rfl, upd_same, ei, hp, OutO.dct (OutO.mono (List.prefix_refl _) xx h3) hH3 (merge_rel hr .nil)⟩
      · exact h3.elim
    · exact h3.elim
  · exact h3.elim
end
end Mini
end T_D1

section T_M10
set_option Elab.async false
set_option linter.all false
set_option autoImplicit false
/-! Mini: soundness of all expressions. -/
namespace Mini
open PySem PySem.Spec PyProof.Rows L2
section
variable {T : Tab} {CA FA : Nat → Addr} {X : Cx} {W : WX} {n : Nat}
theorem s_nev {e : Expr} : PE X e (tE T CA X.K W n .nev) := ⟨fun _ _ _ _ _ _ ⟨_, _, _, _, _, h⟩ => h.elim⟩
theorem s_nevT {e : Expr} : PT X e (tT T CA X.K W n .nev) := ⟨fun _ _ _ _ _ _ ⟨_, _, _, _, _, h⟩ => h.elim⟩
theorem s_nevW {e : Expr} : PW X e (tT T CA X.K W n .nev) := ⟨fun _ _ _ _ _ _ _ ⟨_, _, _, _, _, h⟩ => h.elim⟩
theorem s_glo (g : Good T FA CA X W n) {x : Str} {p : PV} {pos : Pos} (hg : gl X.env.scope x = true)
    (hp : (match p with
      | .str z => T.consts.any fun q => q.1 == x && (match q.2 with | .str z' => z == z' | _ => false)
      | .int z => T.consts.any fun q => q.1 == x && (match q.2 with | .int z' => z == z' | _ => false)
      | _ => false) = true) : PE X (.Name x pos) (tE T CA X.K W n (.glo x p)) := by
  obtain ⟨g1, g2, g3⟩ := gl_of hg
  refine ⟨fun pins s σ H Q I ⟨ρ, vh, env, hH, hE, h⟩ => ?_⟩
  unfold evE at h
  cases p with
  | str z =>
    dsimp only at hp
    rw [List.any_eq_true] at hp
    obtain ⟨⟨y, p⟩, hm, hq⟩ := hp
    rw [Bool.and_eq_true, beq_iff_eq] at hq
    obtain ⟨rfl, hq⟩ := hq
    dsimp only at hq
    split at hq
    · rename_i z' _
      have : z = z' := by simpa using hq
      subst this
      rcases g.fs.con y _ hm with ⟨z1, t, e, hv⟩ | ⟨z1, t, e, hv⟩ | hv
      · cases e
        exact (pe_glob (v := .str z) g1 hv ⟨t, rfl⟩ g2).run pins s σ H Q I (h ρ H _ (List.prefix_refl _) (Ext.refl _) hH (.str _))
      · cases e
      · exact absurd rfl (hv z).1
    · cases hq
  | int z =>
    dsimp only at hp
    rw [List.any_eq_true] at hp
    obtain ⟨⟨y, p⟩, hm, hq⟩ := hp
    rw [Bool.and_eq_true, beq_iff_eq] at hq
    obtain ⟨rfl, hq⟩ := hq
    dsimp only at hq
    split at hq
    · rename_i z' _
      have : z = z' := by simpa using hq
      subst this
      rcases g.fs.con y _ hm with ⟨z1, t, e, hv⟩ | ⟨z1, t, e, hv⟩ | hv
      · cases e
      · cases e
        exact (pe_glob (v := .int z) g1 hv ⟨t, rfl⟩ g2).run pins s σ H Q I (h ρ H _ (List.prefix_refl _) (Ext.refl _) hH (.int _))
      · exact absurd rfl ((hv default).2 z)
    · cases hq
  | _ => cases hp
theorem s_iteT {t a b : Ex} {c v w : Expr} {pos : Pos} (ht : PT X c (tT T CA X.K W n t)) (ha : PT X v (tT T CA X.K W n a)) (hb : PT X w (tT T CA X.K W n b)) : PT X (.IfExp c v w pos) (tT T CA X.K W n (.ite t a b)) := by
  refine ⟨fun pins s σ H Q I ⟨ρ, vh, env, hH, hE, h⟩ => ?_⟩
  show wpAny _ _ (isTrue c X.env (eval c X.env) >>= fun d => if d = true then isTrue v X.env (eval v X.env) else isTrue w X.env (eval w X.env)) _ _ _
  unfold evE at h
  rw [bind_assoc'] at h
  refine wpAny_bind (thn (ht.run pins s σ H (fun d H1 => if d = true then tT T CA X.K W n a σ H1 Q else tT T CA X.K W n b σ H1 Q) I ⟨ρ, vh, env, hH, hE, OutU.stepU h fun d vh1 ρ1 H1 e1 p1 x1 hH1 h1 => ?_⟩) fun d s1 ⟨H1, I1, q1⟩ => ?_)
  · cases d with
    | true => exact ⟨ρ1, vh1, env, hH1, hE.mono p1 x1, h1⟩
    | false => exact ⟨ρ1, vh1, env, hH1, hE.mono p1 x1, h1⟩
  · cases d with
    | true => exact ha.run pins s1 σ H1 Q I1 q1
    | false => exact hb.run pins s1 σ H1 Q I1 q1
/-! ### built-in functions, by name -/
theorem s_blt (g : Good T FA CA X W n) {b : String} {xs : Exs} {y : Expr} {ys : List Expr} {p pos : Pos} (hb : bltOk b = true) (hg : gl X.env.scope (Str.ofString b) = true) (hm : X.mg (Str.ofString b) = none) (ha : PA X (y :: ys) (tEs T CA X.K W n xs)) (hs : (y :: ys).all (fun e => !isStar e) = true) :
    PE X (.Call (.Name (Str.ofString b) p) (y :: ys) [] pos) (tE T CA X.K W n (.blt b xs)) := by
  unfold bltOk at hb
  simp only [Bool.or_eq_true, beq_iff_eq] at hb
  rcases hb with (((((((rfl | rfl) | rfl) | rfl) | rfl) | rfl) | rfl) | rfl) | rfl
  · exact s_callB (cr_len' (CA := CA)) (fun ps vh q e => by unfold blt at e; unfold on1; split at e <;> first | exact e | cases e) hg hm (by decide +kernel) ha hs
  · exact s_callB (cr_abs' (CA := CA)) (fun ps vh q e => by unfold blt at e; unfold on1; split at e <;> first | exact e | cases e) hg hm (by decide +kernel) ha hs
  · exact s_callTy (cr_int' (CA := CA)) (fun ps vh q e => by unfold blt at e; unfold on1; split at e <;> first | exact e | cases e) hg hm (by decide +kernel) ha hs
  · exact s_callTy (cr_list' (CA := CA)) (fun ps vh q e => by unfold blt at e; unfold on1; split at e <;> first | exact e | cases e) hg hm (by decide +kernel) ha hs
  · exact s_callTy (cr_tuple' (CA := CA)) (fun ps vh q e => by unfold blt at e; unfold on1; split at e <;> first | exact e | cases e) hg hm (by decide +kernel) ha hs
  · exact s_callB (cr_all' (CA := CA) g.calm) (fun ps vh q e => by unfold blt at e; unfold on1; split at e <;> first | exact e | cases e) hg hm (by decide +kernel) ha hs
  · exact s_callB (cr_any' (CA := CA) g.calm) (fun ps vh q e => by unfold blt at e; unfold on1; split at e <;> first | exact e | cases e) hg hm (by decide +kernel) ha hs
  · exact s_callB (cr_sum' (CA := CA) g.calm) (fun ps vh q e => by unfold blt at e; unfold on1; split at e <;> first | exact e | cases e) hg hm (by decide +kernel) ha hs
  · exact s_callTy (cr_dict' (CA := CA) g.calm) (fun ps vh q e => by unfold blt at e; unfold on1; split at e <;> first | exact e | cases e) hg hm (by decide +kernel) ha hs
def isBool : Expr → Bool
  | .BoolOp _ _ _ => true
  | _ => false
/-- a test, and if it is and/or, whatever the whole is -/
structure PTW (X : Cx) (e : Expr) (t : TT) : Prop where
  pt : PT X e t
  pw : isBool e = true → PW X e t
theorem ptw {x : Ex} {e : Expr} (h : PE X e (tE T CA X.K W n x)) (hp : plainTest e = true) : PTW X e (tT T CA X.K W n x) :=
  ⟨s_plainT h hp, fun b => by cases e <;> first | (cases hp; done) | cases b⟩
theorem stars_of {X : Cx} {es : List Expr} (h : es.all (fun e => !isStar e) = true) : True := trivial
end
section
variable {T : Tab} {CA FA : Nat → Addr} {n : Nat}
theorem map_own (N : List Str) : ∀ own : List Nat, (own.map fun j => ((N[j]?).getD ("" : Str), j)).map (·.2) = own
  | [] => rfl
  | j :: own => by
    show j :: (own.map fun j => ((N[j]?).getD ("" : Str), j)).map (·.2) = _
    rw [map_own N own]
set_option maxHeartbeats 4000000 in
mutual
theorem sE : ∀ (x : Ex) {X : Cx} {W : WX} {e : Expr}, Good T FA CA X W n → mE T X.N x X.env.scope e = true → PE X e (tE T CA X.K W n x)
  | .con p, X, W, e, g, h => by
    unfold mE at h
    split at h
    · exact s_con h
    · cases h
  | .var i, X, W, e, g, h => by
    unfold mE at h
    split at h
    · rw [Bool.and_eq_true, Bool.and_eq_true, Bool.and_eq_true, beq_iff_eq] at h
      exact s_var h.1.1.1 h.1.1.2 h.1.2 h.2
    · cases h
  | .glo x p, X, W, e, g, h => by
    unfold mE at h
    split at h
    · rw [Bool.and_eq_true, Bool.and_eq_true, beq_iff_eq] at h
      obtain ⟨⟨rfl, h1⟩, h2⟩ := h
      exact s_glo g h1 h2
    · cases h
  | .absent, X, W, e, g, h => by unfold mE at h; cases h
  | .nev, X, W, e, g, h => s_nev
  | .bin o a b, X, W, e, g, h => by
    unfold mE at h
    split at h
    · rw [Bool.and_eq_true, Bool.and_eq_true, beq_iff_eq] at h
      obtain ⟨⟨rfl, h1⟩, h2⟩ := h
      exact s_bin (sE a g h1) (sE b g h2)
    · cases h
  | .neg a, X, W, e, g, h => by
    unfold mE at h
    split at h
    · exact s_neg (sE a g h)
    · cases h
  | .cmp o a b, X, W, e, g, h => by
    unfold mE at h
    split at h
    · rw [Bool.and_eq_true, Bool.and_eq_true, Bool.and_eq_true, beq_iff_eq] at h
      obtain ⟨⟨⟨rfl, h1⟩, h2⟩, h3⟩ := h
      exact s_cmp g (sE a g h1) (sE b g h2) (by simpa using h3)
    · cases h
  | .cmp2 o1 o2 a b c, X, W, e, g, h => by
    unfold mE at h
    split at h
    · simp only [Bool.and_eq_true, beq_iff_eq] at h
      obtain ⟨⟨⟨⟨⟨⟨rfl, rfl⟩, h1⟩, h2⟩, h3⟩, h4⟩, h5⟩ := h
      exact s_cmp2 g (sE a g h1) (sE b g h2) (sE c g h3) (by simpa using h5)
    · cases h
  | .and2 a b, X, W, e, g, h => by
    unfold mE at h
    split at h
    · rename_i v w rest pos
      rw [Bool.and_eq_true] at h
      refine s_and (sE a g h.1) ?_
      have h2 := h.2
      cases rest with
      | nil => exact pe_one (sE b g h2)
      | cons r rs => exact sE b g h2
    · cases h
  | .or2 a b, X, W, e, g, h => by
    unfold mE at h
    split at h
    · rename_i v w rest pos
      rw [Bool.and_eq_true] at h
      refine s_or (sE a g h.1) ?_
      have h2 := h.2
      cases rest with
      | nil => exact pe_one (sE b g h2)
      | cons r rs => exact sE b g h2
    · cases h
  | .not a, X, W, e, g, h => by
    unfold mE at h
    split at h
    · exact s_not (sE a g h)
    · cases h
  | .ite t a b, X, W, e, g, h => by
    unfold mE at h
    split at h
    · rw [Bool.and_eq_true, Bool.and_eq_true] at h
      exact s_ite (sT t g h.1.1).pt (sE a g h.1.2) (sE b g h.2)
    · cases h
  | .tup es, X, W, e, g, h => by
    unfold mE at h
    split at h
    · exact s_tup (sEs es g h)
    · cases h
  | .lst es, X, W, e, g, h => by
    unfold mE at h
    split at h
    · exact s_lst (sEs es g h)
    · cases h
  | .dct0, X, W, e, g, h => by
    unfold mE at h
    split at h
    · exact s_dct0
    · cases h
  | .dsum a b, X, W, e, g, h => by
    unfold mE at h
    split at h
    · rw [Bool.and_eq_true, Bool.and_eq_true] at h
      obtain ⟨p, rfl, h1, h2⟩ := mGl_of g.fs h.1.1
      exact s_dsum g h1 h2 (sE a g h.1.2) (sE b g h.2)
    · cases h
  | .idx a i, X, W, e, g, h => by
    unfold mE at h
    split at h
    · rw [Bool.and_eq_true, Bool.and_eq_true] at h
      exact s_idx g (sE a g h.1.1) (sE i g h.1.2) (by simpa using h.2)
    · cases h
  | .sl a lo hi, X, W, e, g, h => by
    unfold mE at h
    split at h
    · rename_i v l u _ _
      rw [Bool.and_eq_true, Bool.and_eq_true] at h
      refine s_sl (sE a g h.1.1) ?_ ?_
      · have h2 := h.1.2
        cases l with
        | none => exact s_oN h2
        | some e =>
          refine s_oS ?_ (sE lo g h2)
          cases lo <;> first | rfl | (unfold mE at h2; cases h2)
      · have h2 := h.2
        cases u with
        | none => exact s_oN h2
        | some e =>
          refine s_oS ?_ (sE hi g h2)
          cases hi <;> first | rfl | (unfold mE at h2; cases h2)
    · cases h
  | .call f es, X, W, e, g, h => by
    unfold mE at h
    split at h
    · rename_i x _ y ys _
      rw [Bool.and_eq_true, Bool.and_eq_true, Bool.and_eq_true] at h
      obtain ⟨⟨⟨h1, h2⟩, h3⟩, h4⟩ := h
      split at h1
      · rename_i fn ef
        rw [Bool.and_eq_true, beq_iff_eq] at h1
        obtain ⟨l1, l2⟩ := mEs_len es _ h4
        exact s_call g ef (by simpa using h1.1) h1.2 (by rw [← l1]; exact h2) h3 (sEs es g h4) l2
      · cases h1
    · cases h
  | .new c es, X, W, e, g, h => by
    unfold mE at h
    split at h
    · rename_i x _ y ys _
      rw [Bool.and_eq_true, Bool.and_eq_true] at h
      obtain ⟨⟨h1, h3⟩, h4⟩ := h
      split at h1
      · rename_i cl ec
        rw [Bool.and_eq_true, Bool.and_eq_true, beq_iff_eq] at h1
        obtain ⟨⟨h5, h6⟩, h7⟩ := h1
        split at h7
        · rename_i f ef
          obtain ⟨l1, l2⟩ := mEs_len es _ h4
          exact s_new g ec (by simpa using h5) h6 ef (by rw [← l1]; exact h7) h3 (sEs es g h4) l2
        · cases h7
      · cases h1
    · cases h
  | .omt m o es, X, W, e, g, h => by
    unfold mE at h
    split at h
    · simp only [Bool.and_eq_true, beq_iff_eq, decide_eq_true_eq] at h
      obtain ⟨⟨⟨⟨⟨rfl, h1⟩, h2⟩, h3⟩, h4⟩, h5⟩ := h
      obtain ⟨l1, l2⟩ := mEs_len es _ h5
      exact s_omt g (sE o g h4) (sEs es g h5) h1 (by simpa using h2) h3 l2 l1
    · cases h
  | .fld o f, X, W, e, g, h => by
    unfold mE at h
    split at h
    · rw [Bool.and_eq_true, Bool.and_eq_true, beq_iff_eq] at h
      obtain ⟨⟨rfl, h1⟩, h2⟩ := h
      exact s_fld g (sE o g h2) h1
    · cases h
  | .blt b es, X, W, e, g, h => by
    unfold mE at h
    split at h
    · rw [Bool.and_eq_true, Bool.and_eq_true] at h
      obtain ⟨⟨h1, h2⟩, h3⟩ := h
      obtain ⟨p, rfl, h4, h5⟩ := mGl_of g.fs h2
      exact s_blt g h1 h4 h5 (sEs es g h3) (mEs_len es _ h3).2
    · cases h
  | .bmt m o es, X, W, e, g, h => by
    unfold mE at h
    split at h
    · simp only [Bool.and_eq_true, beq_iff_eq, decide_eq_true_eq] at h
      obtain ⟨⟨⟨⟨⟨⟨h0, rfl⟩, h1⟩, h2⟩, h3⟩, h4⟩, h5⟩ := h
      have l2 := (mEs_len es _ h5).2
      have ho := sE o g h4
      have ha := sEs es g h5
      simp only [Bool.or_eq_true, beq_iff_eq] at h0
      rcases h0 with (rfl | rfl) | rfl
      · exact s_bmt PySem.F.plainAttrs_list PySem.F.slot_list_append type_list_append mr_append ho ha h1 (by simpa using h2) h3 l2
      · exact s_bmt PySem.F.plainAttrs_list PySem.F.slot_list_extend PySem.F.type_list_extend mr_extend ho ha h1 (by simpa using h2) h3 l2
      · exact s_bmt PySem.F.plainAttrs_list PySem.F.slot_list_pop PySem.F.type_list_pop mr_pop ho ha h1 (by simpa using h2) h3 l2
    · cases h
  | .isi a ts, X, W, e, g, h => by
    unfold mE at h
    split at h
    · rename_i fx y c _
      simp only [Bool.and_eq_true] at h
      obtain ⟨⟨⟨⟨h1, h2⟩, h3⟩, h4⟩, h5⟩ := h
      obtain ⟨p, rfl, h6, h7⟩ := mGl_of g.fs h1
      split at h5
      · rename_i cs k p2
        rw [Bool.and_eq_true, Bool.and_eq_true] at h5
        exact s_isiT g rfl h6 h7 (sE a g h2) (by simpa using h3) h5.1.1 (by intro e; subst e; simp at h5) (by simpa using h5.2)
      · split at h5
        · exact s_isi1 g rfl h6 h7 (sE a g h2) (by simpa using h3) (by simpa using h4) h5
        · cases h5
    · cases h
  | .lc elt tg it cs own, X, W, e, g, h => by
    unfold mE at h
    split at h
    · rename_i el t i ifs scope pos
      simp only [Bool.and_eq_true] at h
      obtain ⟨⟨⟨⟨⟨⟨⟨⟨h1, h2⟩, h3⟩, h4⟩, h5⟩, h6⟩, h7⟩, h8⟩, h9⟩ := h
      have hI : PI X t i (tI T CA X.K W n it) := sI it (X := X) (W := W) (tg := tg) (sc := relS scope X.env.scope) (t := t) (e := i) g h2 h5 h4
      have hin : ∀ j ∈ tgS tg, j ∈ own := fun j hj => by
        cases tg with
        | nm k =>
          have : j = k := by simpa [tgS] using hj
          subst this
          simpa using h6
        | tp is =>
          simp only [List.all_eq_true] at h6
          simpa using h6 j hj
      refine s_lc g (map_own X.N own) hin hI (blkOk_by h1) (fun s H C cl fp => ?_) (fun s H C cl fp => ?_) (fun s H C cl fp => ?_) (by simpa using h3)
      · refine s_g (X := X.blk s H scope (PySem.compEnvC scope cl C X.env) fp) g.calm g.nd h4 (fun x p e => ?_) (fun es k p e e' hm x p' ee => ?_)
        · subst e
          cases tg with
          | nm k =>
            dsimp only at h9
            rw [Bool.or_eq_true] at h9
            rcases h9 with h9 | h9
            · exact .inl h9
            · exact .inr (show List.lookup x (relS scope X.env.scope).names = some NameKind.local from by simpa using h9)
          | tp is => cases h4
        · subst e
          cases tg with
          | nm k => cases h4
          | tp is =>
            dsimp only at h9
            rw [List.all_eq_true] at h9
            have q := h9 e' hm
            subst ee
            dsimp only at q
            rw [Bool.or_eq_true] at q
            rcases q with q | q
            · exact .inl q
            · exact .inr (show List.lookup x (relS scope X.env.scope).names = some NameKind.local from by simpa using q)
      · exact sCs cs (g.blk s H scope (PySem.compEnvC scope cl C X.env) fp) h7
      · exact sE elt (g.blk s H scope (PySem.compEnvC scope cl C X.env) fp) h8
    · cases h
theorem sT : ∀ (x : Ex) {X : Cx} {W : WX} {e : Expr}, Good T FA CA X W n → mE T X.N x X.env.scope e = true → PTW X e (tT T CA X.K W n x)
  | .nev, X, W, e, g, h => ⟨s_nevT, fun _ => s_nevW⟩
  | .cmp o a b, X, W, e, g, h => by
    unfold mE at h
    split at h
    · rw [Bool.and_eq_true, Bool.and_eq_true, Bool.and_eq_true, beq_iff_eq] at h
      obtain ⟨⟨⟨rfl, h1⟩, h2⟩, h3⟩ := h
      exact ⟨s_cmpT g (sE a g h1) (sE b g h2) (by simpa using h3), fun z => by cases z⟩
    · cases h
  | .cmp2 o1 o2 a b c, X, W, e, g, h => by
    unfold mE at h
    split at h
    · simp only [Bool.and_eq_true, beq_iff_eq] at h
      obtain ⟨⟨⟨⟨⟨⟨rfl, rfl⟩, h1⟩, h2⟩, h3⟩, h4⟩, h5⟩ := h
      exact ⟨s_cmp2T g (sE a g h1) (sE b g h2) (sE c g h3) (by simpa using h5), fun z => by cases z⟩
    · cases h
  | .and2 a b, X, W, e, g, h => by
    unfold mE at h
    split at h
    · rename_i v w rest pos
      rw [Bool.and_eq_true] at h
      have key : PW X (.BoolOp .And (v :: w :: rest) pos) (tT T CA X.K W n (.and2 a b)) := by
        refine s_andW (sT a g h.1).pt ?_
        have h2 := h.2
        cases rest with
        | nil => exact pw_and1 (sT b g h2).pt
        | cons r rs => exact (sT b g h2).pw rfl
      exact ⟨key.pt, fun _ => key⟩
    · cases h
  | .or2 a b, X, W, e, g, h => by
    unfold mE at h
    split at h
    · rename_i v w rest pos
      rw [Bool.and_eq_true] at h
      have key : PW X (.BoolOp .Or (v :: w :: rest) pos) (tT T CA X.K W n (.or2 a b)) := by
        refine s_orW (sT a g h.1).pt ?_
        have h2 := h.2
        cases rest with
        | nil => exact pw_or1 (sT b g h2).pt
        | cons r rs => exact (sT b g h2).pw rfl
      exact ⟨key.pt, fun _ => key⟩
    · cases h
  | .not a, X, W, e, g, h => by
    unfold mE at h
    split at h
    · exact ⟨s_notT (sT a g h).pt, fun z => by cases z⟩
    · cases h
  | .ite t a b, X, W, e, g, h => by
    unfold mE at h
    split at h
    · rw [Bool.and_eq_true, Bool.and_eq_true] at h
      exact ⟨s_iteT (sT t g h.1.1).pt (sT a g h.1.2).pt (sT b g h.2).pt, fun z => by cases z⟩
    · cases h
  | .con p, X, W, e, g, h => ptw (sE (.con p) g h) (by unfold mE at h; split at h <;> first | rfl | cases h)
  | .var i, X, W, e, g, h => ptw (sE (.var i) g h) (by unfold mE at h; split at h <;> first | rfl | cases h)
  | .glo x p, X, W, e, g, h => ptw (sE (.glo x p) g h) (by unfold mE at h; split at h <;> first | rfl | cases h)
  | .absent, X, W, e, g, h => by unfold mE at h; cases h
  | .bin o a b, X, W, e, g, h => ptw (sE (.bin o a b) g h) (by unfold mE at h; split at h <;> first | rfl | cases h)
  | .neg a, X, W, e, g, h => ptw (sE (.neg a) g h) (by unfold mE at h; split at h <;> first | rfl | cases h)
  | .tup es, X, W, e, g, h => ptw (sE (.tup es) g h) (by unfold mE at h; split at h <;> first | rfl | cases h)
  | .lst es, X, W, e, g, h => ptw (sE (.lst es) g h) (by unfold mE at h; split at h <;> first | rfl | cases h)
  | .dct0, X, W, e, g, h => ptw (sE .dct0 g h) (by unfold mE at h; split at h <;> first | rfl | cases h)
  | .dsum a b, X, W, e, g, h => ptw (sE (.dsum a b) g h) (by unfold mE at h; split at h <;> first | rfl | cases h)
  | .idx a i, X, W, e, g, h => ptw (sE (.idx a i) g h) (by unfold mE at h; split at h <;> first | rfl | cases h)
  | .sl a lo hi, X, W, e, g, h => ptw (sE (.sl a lo hi) g h) (by unfold mE at h; split at h <;> first | rfl | cases h)
  | .call f es, X, W, e, g, h => ptw (sE (.call f es) g h) (by unfold mE at h; split at h <;> first | rfl | cases h)
  | .new c es, X, W, e, g, h => ptw (sE (.new c es) g h) (by unfold mE at h; split at h <;> first | rfl | cases h)
  | .omt m o es, X, W, e, g, h => ptw (sE (.omt m o es) g h) (by unfold mE at h; split at h <;> first | rfl | cases h)
  | .fld o f, X, W, e, g, h => ptw (sE (.fld o f) g h) (by unfold mE at h; split at h <;> first | rfl | cases h)
  | .blt b es, X, W, e, g, h => ptw (sE (.blt b es) g h) (by unfold mE at h; split at h <;> first | rfl | cases h)
  | .bmt m o es, X, W, e, g, h => ptw (sE (.bmt m o es) g h) (by unfold mE at h; split at h <;> first | rfl | cases h)
  | .isi a ts, X, W, e, g, h => ptw (sE (.isi a ts) g h) (by unfold mE at h; split at h <;> first | rfl | cases h)
  | .lc elt tg it cs own, X, W, e, g, h => ptw (sE (.lc elt tg it cs own) g h) (by unfold mE at h; split at h <;> first | rfl | cases h)
theorem sEs : ∀ (xs : Exs) {X : Cx} {W : WX} {es : List Expr}, Good T FA CA X W n → mEs T X.N xs X.env.scope es = true → PA X es (tEs T CA X.K W n xs)
  | .nil, X, W, es, g, h => by
    unfold mEs at h
    cases es with
    | nil => exact s_nil
    | cons _ _ => cases h
  | .cons x xs, X, W, es, g, h => by
    unfold mEs at h
    cases es with
    | nil => cases h
    | cons e r =>
      dsimp only at h
      rw [Bool.and_eq_true, Bool.and_eq_true] at h
      exact s_cons (sE x g h.1.1) (sEs xs g h.2) (by simpa using h.1.2)
theorem sCs : ∀ (xs : Exs) {X : Cx} {es : List Expr}, Good T FA CA X WN n → mCs T X.N xs X.env.scope es = true → PTs X es (tCs T CA X.K n xs)
  | .nil, X, es, g, h => by
    unfold mCs at h
    cases es with
    | nil => exact s_cs0
    | cons _ _ => cases h
  | .cons x xs, X, es, g, h => by
    unfold mCs at h
    split at h
    · rw [Bool.and_eq_true] at h
      cases xs with
      | nil => exact s_cs1 (sT x g h.1).pt
      | cons _ _ => cases h.2
    · cases h
theorem sI : ∀ (it : It) {X : Cx} {W : WX} {tg : Tg} {sc : Scope} {t e : Expr}, Good T FA CA X W n → mI T X.N it X.env.scope e = true → itOk it tg = true → mTg X.N sc tg t = true → PI X t e (tI T CA X.K W n it)
  | .val x, X, W, tg, sc, t, e, g, h, _, _ => by
    unfold mI at h
    exact s_Ival (sE x g h)
  | .rng1 a, X, W, tg, sc, t, e, g, h, _, _ => by
    unfold mI at h
    split at h
    · rw [Bool.and_eq_true, Bool.and_eq_true] at h
      obtain ⟨p, rfl, h1, h2⟩ := mGl_of g.fs h.1.1
      exact s_Irng1 h1 h2 (sE a g h.1.2) (by simpa using h.2)
    · cases h
  | .rng2 a b, X, W, tg, sc, t, e, g, h, _, _ => by
    unfold mI at h
    split at h
    · simp only [Bool.and_eq_true] at h
      obtain ⟨⟨⟨⟨h1, h2⟩, h3⟩, h4⟩, h5⟩ := h
      obtain ⟨p, rfl, h6, h7⟩ := mGl_of g.fs h1
      exact s_Irng2 h6 h7 (sE a g h2) (sE b g h3) (by simpa using h4) (by simpa using h5)
    · cases h
  | .enum x, X, W, tg, sc, t, e, g, h, ho, ht => by
    unfold mI at h
    split at h
    · rw [Bool.and_eq_true, Bool.and_eq_true] at h
      obtain ⟨p, rfl, h1, h2⟩ := mGl_of g.fs h.1.1
      cases tg with
      | nm k => cases ho
      | tp is =>
        unfold mTg at ht
        dsimp only at ht
        split at ht
        · exact s_Ienum h1 h2 (sE x g h.1.2) (by simpa using h.2)
        · cases ht
    · cases h
  | .zip a b, X, W, tg, sc, t, e, g, h, ho, ht => by
    unfold mI at h
    split at h
    · simp only [Bool.and_eq_true] at h
      obtain ⟨⟨⟨⟨h1, h2⟩, h3⟩, h4⟩, h5⟩ := h
      obtain ⟨p, rfl, h6, h7⟩ := mGl_of g.fs h1
      cases tg with
      | nm k => cases ho
      | tp is =>
        unfold mTg at ht
        dsimp only at ht
        split at ht
        · exact s_Izip h6 h7 (sE a g h2) (sE b g h3) (by simpa using h4) (by simpa using h5)
        · cases ht
    · cases h
end
end
end Mini
end T_M10

section T_M11
set_option Elab.async false
set_option linter.all false
set_option autoImplicit false
/-! Mini: soundness of statements. -/
namespace Mini
open PySem PySem.Spec PyProof.Rows L2

/-! ### the text is this statement -/
def purely {α : Type} (t : Sem α) : Option α := match t with
  | .pure a => some a
  | _ => none
theorem purely_eq {α : Type} {t : Sem α} {a : α} (h : purely t = some a) : t = pure a := by
  cases t <;> first | (cases h; rfl) | cases h
def env0 (sc : Scope) : PySem.Env := { scope := sc, locals := 0, globals := 0, cells := [] }
theorem swaps_sc (v : Expr) (t : Option Expr) (l : Nat) (env : PySem.Env) : swapsWith v t l env = swapsWith v t l (env0 env.scope) := rfl
theorem sole_sc (ts : List Expr) (v : Expr) (l : Nat) (env : PySem.Env) : swapsWithSole ts v l env = swapsWithSole ts v l (env0 env.scope) := by
  cases ts with
  | nil => rfl
  | cons t r => cases r <;> rfl
theorem stores_sc (ts : List Expr) (v : Expr) (env : PySem.Env) : swappedStores ts v env = swappedStores ts v (env0 env.scope) := rfl
def isLc : Ex → Bool
  | .lc _ _ _ _ _ => true
  | _ => false
mutual
def mS (T : Tab) (N : List Str) : Sm → Scope → Stmt → Bool
  | .asg tg e, sc, st => match st with
    | .Assign [t] v pos => mTg N sc tg t && mE T N e sc v && purely (swappedStores [t] v (env0 sc)) == some none && (match purely (swapsWithSole [t] v pos.line (env0 sc)) with
      | some false => true
      | some true => isLc e && (match tg, t with
        | .nm _, .Name y _ => sc.names.lookup y == some .local
        | _, _ => false)
      | none => false)
    | _ => false
  | .par i j a b, sc, st => match st with
    | .Assign [.Tuple [.Name x px, .Name y py] k p] (.Tuple [v, w] k2 p2) pos => N[i]? == some x && N[j]? == some y && i != j && sc.names.lookup x == some .local && sc.names.lookup y == some .local && mEs T N (.cons a (.cons b .nil)) sc [v, w] &&
        purely (swappedStores [.Tuple [.Name x px, .Name y py] k p] (.Tuple [v, w] k2 p2) (env0 sc)) == some (some [x, y])
    | _ => false
  | .setf o f e, sc, st => match st with
    | .Assign [.Attribute ov f' _] v _ => f' == f && mE T N o sc ov && mE T N e sc v
    | _ => false
  | .seti o i e, sc, st => match st with
    | .Assign [.Subscript ov iv _] v _ => mE T N o sc ov && mE T N i sc iv && mE T N e sc v && !isSlice iv
    | _ => false
  | .aug i o e, sc, st => match st with
    | .AugAssign (.Name x _) o' v _ => (o == .Add || o == .Sub) && o' == o && mNm N sc i (.Name x default) && mE T N e sc v
    | _ => false
  | .exp e, sc, st => match st with
    | .Expr v _ => mE T N e sc v && !isComp v
    | _ => false
  | .ret e, sc, st => match st with
    | .Return (some v) _ => mE T N e sc v
    | _ => false
  | .retn, _, st => match st with
    | .Return none _ => true
    | _ => false
  | .ite t a b, sc, st => match st with
    | .If c x y _ => mE T N t sc c && mSs T N a sc x && mSs T N b sc y
    | _ => false
  | .whl t b, sc, st => match st with
    | .While c x [] _ => mE T N t sc c && mSs T N b sc x
    | _ => false
  | .for tg it b, sc, st => match st with
    | .For t i x [] _ => mTg N sc tg t && mI T N it sc i && itOk it tg && !isSet i && mSs T N b sc x
    | _ => false
  | .rai _ _, _, _ => true
  | .pass, _, st => match st with
    | .Pass _ => true
    | _ => false
  | .cont, _, st => match st with
    | .Continue _ => true
    | _ => false
  | .brk, _, st => match st with
    | .Break _ => true
    | _ => false
  | .never, _, _ => true
def mSs (T : Tab) (N : List Str) : Sms → Scope → List Stmt → Bool
  | .nil, _, ss => ss.isEmpty
  | .cons s r, sc, ss => match ss with
    | st :: rest => mS T N s sc st && mSs T N r sc rest
    | [] => false
end

/-! ### outcomes of statements -/
section
variable (K : PySem.W.Frag) (CA : Nat → Addr)
def OutF (W : WX) (D : Ends) (ρ : List Addr) (H : Hp) (r : Res Fl) : Prop := match r with
  | .ok (.nx e) vh => ∀ ρ' H' σ', ρ <+: ρ' → Ext H H' → RH K CA ρ' vh H' → RE K ρ' H' e σ' → D.nx σ' H'
  | .ok (.bk e) vh => ∀ ρ' H' σ', ρ <+: ρ' → Ext H H' → RH K CA ρ' vh H' → RE K ρ' H' e σ' → D.bk σ' H'
  | .ok (.ct e) vh => ∀ ρ' H' σ', ρ <+: ρ' → Ext H H' → RH K CA ρ' vh H' → RE K ρ' H' e σ' → D.ct σ' H'
  | .ok (.rt p) vh => ∀ ρ' H' v, ρ <+: ρ' → Ext H H' → RH K CA ρ' vh H' → RP K ρ' H' p v → D.rt v H'
  | .ok (.ex c fs e) vh => ∀ ρ' H' d gs σ', ρ <+: ρ' → Ext H H' → RH K CA ρ' vh H' → H' d = some (.xd gs) → RFs K ρ' H' fs gs → RE K ρ' H' e σ' → W (.ref (CA c)) (some d) σ' H'
  | .exc _ _ _ => False
  | .stuck => False
end
section
variable {K : PySem.W.Frag} {CA : Nat → Addr} {W : WX} {D : Ends} {σ : L2.St} {ρ ρ1 : List Addr} {H H1 : Hp}
theorem OutF.mono {r : Res Fl} (hp : ρ <+: ρ1) (hx : Ext H H1) (h : OutF K CA W D ρ H r) : OutF K CA W D ρ1 H1 r := by
  cases r with
  | ok f vh =>
    cases f with
    | nx e => exact fun ρ' H' σ' a b => h ρ' H' σ' (hp.trans a) (hx.trans b)
    | bk e => exact fun ρ' H' σ' a b => h ρ' H' σ' (hp.trans a) (hx.trans b)
    | ct e => exact fun ρ' H' σ' a b => h ρ' H' σ' (hp.trans a) (hx.trans b)
    | rt p => exact fun ρ' H' σ' a b => h ρ' H' σ' (hp.trans a) (hx.trans b)
    | ex c fs e => exact fun ρ' H' d gs σ' a b => h ρ' H' d gs σ' (hp.trans a) (hx.trans b)
  | exc c fs vh => exact h
  | stuck => exact h
theorem OutF.step {r : Res PV} {env : Env} {f : PV → VH → Res Fl} {R : VK} (hE : RE K ρ H env σ) (h : OutF K CA W D ρ H (r.bindS env f))
    (k : ∀ p vh1 ρ1 H1 v, r = .ok p vh1 → ρ <+: ρ1 → Ext H H1 → RH K CA ρ1 vh1 H1 → RP K ρ1 H1 p v → OutF K CA W D ρ1 H1 (f p vh1) → R v H1) : Out K CA W σ ρ H r R := by
  cases r with
  | ok p vh => exact fun ρ' H' v a b c d => k p vh ρ' H' v rfl a b c d (OutF.mono a b h)
  | exc c fs vh => exact fun ρ' H' d gs a b q e1 e2 => h ρ' H' d gs σ a b q e1 e2 (hE.mono a b)
  | stuck => exact h
theorem OutF.stepA {r : Res (List PV)} {env : Env} {f : List PV → VH → Res Fl} {R : List V → Hp → Prop} (hE : RE K ρ H env σ) (h : OutF K CA W D ρ H (r.bindS env f))
    (k : ∀ p vh1 ρ1 H1 v, r = .ok p vh1 → ρ <+: ρ1 → Ext H H1 → RH K CA ρ1 vh1 H1 → RPs K ρ1 H1 p v → OutF K CA W D ρ1 H1 (f p vh1) → R v H1) : OutA K CA W σ ρ H r R := by
  cases r with
  | ok p vh => exact fun ρ' H' v a b c d => k p vh ρ' H' v rfl a b c d (OutF.mono a b h)
  | exc c fs vh => exact fun ρ' H' d gs a b q e1 e2 => h ρ' H' d gs σ a b q e1 e2 (hE.mono a b)
  | stuck => exact h
theorem OutF.stepU {α : Type} {r : Res α} {env : Env} {f : α → VH → Res Fl} {R : α → List Addr → VH → Hp → Prop} (hE : RE K ρ H env σ) (h : OutF K CA W D ρ H (r.bindS env f))
    (k : ∀ p vh1 ρ1 H1, r = .ok p vh1 → ρ <+: ρ1 → Ext H H1 → RH K CA ρ1 vh1 H1 → OutF K CA W D ρ1 H1 (f p vh1) → R p ρ1 vh1 H1) : OutU K CA W σ ρ H r R := by
  cases r with
  | ok p vh => exact fun ρ' H' a b c => k p vh ρ' H' rfl a b c (OutF.mono a b h)
  | exc c fs vh => exact fun ρ' H' d gs a b q e1 e2 => h ρ' H' d gs σ a b q e1 e2 (hE.mono a b)
  | stuck => exact h
/-- behind a statement: what follows is known of each end -/
theorem OutF.after {r : Res Fl} {f : Fl → VH → Res Fl} {D' : Ends} (h : OutF K CA W D ρ H (r.bind f)) (k : ∀ fl vh1 ρ1 H1, ρ <+: ρ1 → Ext H H1 → OutF K CA W D ρ1 H1 (f fl vh1) → OutF K CA W D' ρ1 H1 (.ok fl vh1)) : OutF K CA W D' ρ H r := by
  cases r with
  | ok fl vh => exact k fl vh ρ H (List.prefix_refl _) (Ext.refl _) h
  | exc c fs vh => exact h
  | stuck => exact h
end
section
variable (T : Tab) (CA : Nat → Addr) (K : PySem.W.Frag) (W : WX) (n : Nat)
def tS (x : Sm) : TS := fun D σ H => ∃ ρ vh env, RH K CA ρ vh H ∧ RE K ρ H env σ ∧ OutF K CA W D ρ H (evS T (callF T n) x env vh)
def tSs (x : Sms) : TS := fun D σ H => ∃ ρ vh env, RH K CA ρ vh H ∧ RE K ρ H env σ ∧ OutF K CA W D ρ H (evSs T (callF T n) x env vh)
/-- a def's body: its own cells may be stored -/
structure GoodS (FA : Nat → Addr) (X : Cx) : Prop extends Good T FA CA X W n where
  cells : ∀ x, X.env.scope.names.lookup x = some .cell → X.fn x = true
end
section
variable {T : Tab} {CA FA : Nat → Addr} {X : Cx} {W : WX} {n : Nat}
theorem OutF.here {e : Env} {vh : VH} {K : PySem.W.Frag} {D : Ends} {σ : L2.St} {ρ : List Addr} {H : Hp} (h : OutF K CA W D ρ H (.ok (.nx e) vh)) (hH : RH K CA ρ vh H) (hE : RE K ρ H e σ) : D.nx σ H := h ρ H σ (List.prefix_refl _) (Ext.refl _) hH hE
theorem GoodS.sto (g : GoodS T CA W n FA X) {x : Str} (h : Loc X.env.scope x) : Sto X x := by
  rcases h with h | h
  · exact .inr h
  · exact .inl (g.cells x h)
theorem mNms_loc {N : List Str} {sc : Scope} : ∀ {is : List Nat} {es : List Expr}, mNms N sc is es = true → ∀ e ∈ es, ∀ x p, e = .Name x p → Loc sc x
  | [], [], _, _, m, _, _, _ => by cases m
  | [], _ :: _, h, _, _, _, _, _ => by cases h
  | _ :: _, [], h, _, _, _, _, _ => by cases h
  | i :: is, e :: es, h, e', m, x, p, ee => by
    unfold mNms at h
    rw [Bool.and_eq_true, Bool.and_eq_true] at h
    rcases List.mem_cons.mp m with rfl | m
    · obtain ⟨y, q, e2, _, hL⟩ := mNm_of h.1.1
      rw [ee] at e2
      cases e2
      exact hL
    · exact mNms_loc h.2 e' m x p ee
theorem s_gS (g : GoodS T CA W n FA X) {tg : Tg} {e : Expr} (h : mTg X.N X.env.scope tg e = true) : PG X e (gT CA X.K tg) := by
  refine s_g g.calm g.nd h (fun x p ee => ?_) (fun es k p ee e' m x p' e2 => ?_)
  · subst ee
    cases tg with
    | nm i =>
      obtain ⟨y, q, e2, _, hL⟩ := mNm_of (show mNm X.N X.env.scope i (.Name x p) = true from h)
      cases e2
      exact g.sto hL
    | tp is => cases h
  · subst ee
    cases tg with
    | nm i => cases h
    | tp is => exact g.sto (mNms_loc h e' m x p' e2)
theorem one_each {t : Expr} {env : PySem.Env} (h : isStar t = false) : (assignEach [t] env).map (·.2) = [assign t env] := by rw [each_cons h]; rfl
theorem mTg_star {N : List Str} {sc : Scope} {tg : Tg} {t : Expr} (h : mTg N sc tg t = true) : isStar t = false := by
  cases t <;> first | rfl | (cases tg <;> cases h)
theorem s_asg (g : GoodS T CA W n FA X) {tg : Tg} {e : Ex} {t v : Expr} {pos : Pos} (ht : mTg X.N X.env.scope tg t = true) (he : PE X v (tE T CA X.K W n e)) (h1 : swappedStores [t] v X.env = pure none) (h2 : swapsWithSole [t] v pos.line X.env = pure false) :
    PS X (.Assign [t] v pos) (tS T CA X.K W n (.asg tg e)) := by
  refine ⟨fun pins s σ H D I ⟨ρ, vh, env, hH, hE, h⟩ => ?_⟩
  refine (ps_asg he (s_gS g ht) h2 h1 (one_each (mTg_star ht))).run pins s σ H D I ?_
  unfold evS at h
  refine ⟨ρ, vh, env, hH, hE, OutF.step hE h fun p vh1 ρ1 H1 x e1 p1 x1 hH1 rp h1 => ?_⟩
  cases es : setTg vh1 tg p env with
  | none => rw [es] at h1; exact h1.elim
  | some env1 =>
    rw [es] at h1
    exact ⟨ρ1, vh1, env, p, hH1, hE.mono p1 x1, rp, env1, es, fun σ' hE' _ => h1.here hH1 hE'⟩
theorem s_par (g : GoodS T CA W n FA X) {i j : Nat} {a b : Ex} {x y : Str} {px py p p2 pos : Pos} {k k2 : Nat} {v w : Expr} (hi : X.N[i]? = some x) (hj : X.N[j]? = some y) (hij : i ≠ j) (hx : X.env.scope.names.lookup x = some .local) (hy : X.env.scope.names.lookup y = some .local)
    (ha : PA X [v, w] (tEs T CA X.K W n (.cons a (.cons b .nil)))) (h1 : swappedStores [.Tuple [.Name x px, .Name y py] k p] (.Tuple [v, w] k2 p2) X.env = pure (some [x, y])) :
    PS X (.Assign [.Tuple [.Name x px, .Name y py] k p] (.Tuple [v, w] k2 p2) pos) (tS T CA X.K W n (.par i j a b)) := by
  refine ⟨fun pins s σ H D I ⟨ρ, vh, env, hH, hE, h⟩ => ?_⟩
  refine (ps_par g.calm g.nd hi hj hij hx hy ha h1).run pins s σ H D I ?_
  unfold evS at h
  refine ⟨ρ, vh, env, hH, hE, OutF.stepA hE h fun ps vh1 ρ1 H1 vs e1 p1 x1 hH1 rps h1 => ?_⟩
  split at h1
  · cases rps with
    | cons r1 rps =>
      cases rps with
      | cons r2 rps =>
        cases rps
        exact ⟨_, _, rfl, h1.here hH1 (((hE.mono p1 x1).set r1).set r2)⟩
  · exact h1.elim
theorem putFP_rel {K : PySem.W.Frag} {ρ : List Addr} {H : Hp} {f : Str} {p : PV} {v : V} (r : RP K ρ H p v) : ∀ {fs : List (Str × PV)} {gs : List (Str × V)}, RFs K ρ H fs gs → RFs K ρ H (putFP f p fs) (putF f v gs)
  | _, _, .nil => .cons ⟨rfl, r⟩ .nil
  | _, _, .cons (a := a) (b := b) h t => by
    obtain ⟨a1, a2⟩ := a
    obtain ⟨b1, b2⟩ := b
    have h1 : a1 = b1 := h.1
    subst h1
    unfold putFP putF
    by_cases e : a1 = f
    · rw [if_pos e, if_pos e]
      exact .cons ⟨rfl, r⟩ t
    · rw [if_neg e, if_neg e]
      exact .cons ⟨rfl, h.2⟩ (putFP_rel r t)
theorem s_setf (g : GoodS T CA W n FA X) {o e : Ex} {f : Str} {ov v : Expr} {p pos : Pos} (ho : PE X ov (tE T CA X.K W n o)) (he : PE X v (tE T CA X.K W n e)) : PS X (.Assign [.Attribute ov f p] v pos) (tS T CA X.K W n (.setf o f e)) := by
  refine ⟨fun pins s σ H D I ⟨ρ, vh, env, hH, hE, h⟩ => ?_⟩
  refine (ps_fld ho he swaps_attr).run pins s σ H D I ?_
  unfold evS at h
  refine ⟨ρ, vh, env, hH, hE, OutF.step hE h fun q vh1 ρ1 H1 x e1 p1 x1 hH1 rq h1 => ?_⟩
  refine ⟨ρ1, vh1, env, hH1, hE.mono p1 x1, OutF.step (hE.mono p1 x1) h1 fun w vh2 ρ2 H2 y e2 p2 x2 hH2 rw' h2 => ?_⟩
  have hE2 := (hE.mono p1 x1).mono p2 x2
  have rq2 := rq.mono p2 x2
  unfold setfP at h2
  cases w with
  | ref a =>
    dsimp only at h2
    cases eo : vh2[a]? with
    | none => rw [eo] at h2; exact h2.elim
    | some ob =>
      rw [eo] at h2
      cases ob with
      | ins c fs =>
        dsimp only at h2
        by_cases hc : hasAttr T c f = true ∧ fs.length < 1000
        · rw [if_pos hc] at h2
          obtain ⟨cl, ec, ex, em⟩ := hasAttr_of hc.1
          obtain ⟨b, dx, gs, rfl, eb, hb, rf⟩ := hH2.ins eo rw'
          have hx : Ext H2 (upd H2 b (.ins (CA c) dx (putF f x gs))) := Ext.put hb trivial
          refine ⟨b, CA c, dx, gs, rfl, hb, (g.fs.cls c cl ec ex).cl, g.fs.noat c cl f ec ex em, by rw [← Paired.length rf]; exact hc.2, ?_⟩
          have rf2 : RFs X.K ρ2 (upd H2 b (.ins (CA c) dx (putF f x gs))) (putFP f q fs) (putF f x gs) := putFP_rel (rq2.mono (List.prefix_refl _) hx) (rf.mono (List.prefix_refl _) hx)
          exact h2 ρ2 _ σ (List.prefix_refl _) hx (hH2.put (o := .ins c (putFP f q fs)) eb ⟨dx, _, upd_same, rf2⟩) (hE2.mono (List.prefix_refl _) hx)
        · rw [if_neg hc] at h2; exact h2.elim
      | _ => exact h2.elim
  | _ => exact h2.elim
theorem assign_sub {o i : Expr} {pos : Pos} {env : PySem.Env} (h : isSlice i = false) : ∀ v, assign (.Subscript o i pos) env v = (do
      let ov ← holding [v] (eval o env)
      let iv ← holding [v, ov] (eval i env)
      standAt pos
      holding [v, ov, iv] (setItem ov iv v)
      release [v, ov, iv] []) := by
  intro v
  cases i <;> first | rfl | cases h
theorem s_seti (g : GoodS T CA W n FA X) {o i e : Ex} {ov iv v : Expr} {p pos : Pos} (ho : PE X ov (tE T CA X.K W n o)) (hi : PE X iv (tE T CA X.K W n i)) (he : PE X v (tE T CA X.K W n e)) (hs : isSlice iv = false) : PS X (.Assign [.Subscript ov iv p] v pos) (tS T CA X.K W n (.seti o i e)) := by
  refine ⟨fun pins s σ H D I ⟨ρ, vh, env, hH, hE, h⟩ => ?_⟩
  unfold evS at h
  by_cases hd : ∃ q vh1 k vh2 r vh3 kvs, evE T (callF T n) e env vh = .ok q vh1 ∧ evE T (callF T n) o env vh1 = .ok (.ref k) vh2 ∧ evE T (callF T n) i env vh2 = .ok r vh3 ∧ vh3[k]? = some (.dct kvs)
  · obtain ⟨q, vh1, k, vh2, r, vh3, kvs, ee, eo, ei, ed⟩ := hd
    refine (ps_dput (by have := g.toGood.hu; omega) ho hi he swaps_sub).run pins s σ H D I ?_
    refine ⟨ρ, vh, env, hH, hE, OutF.step hE h fun q' vh1' ρ1 H1 x e1 p1 x1 hH1 rq h1 => ?_⟩
    rw [ee] at e1
    cases e1
    have hE1 := hE.mono p1 x1
    refine ⟨ρ1, vh1, env, hH1, hE1, OutF.step hE1 h1 fun w vh2' ρ2 H2 y e2 p2 x2 hH2 rw' h2 => ?_⟩
    rw [eo] at e2
    cases e2
    have hE2 := hE1.mono p2 x2
    refine ⟨ρ2, vh2, env, hH2, hE2, OutF.step hE2 h2 fun r' vh3' ρ3 H3 z e3 p3 x3 hH3 rr h3 => ?_⟩
    rw [ei] at e3
    cases e3
    obtain ⟨b, ws, rfl, eb, hb, rkv⟩ := hH3.dct ed (rw'.mono p3 x3)
    unfold setP at h3
    dsimp only at h3
    rw [ed] at h3
    dsimp only at h3
    cases ek : kOf r with
    | none => rw [ek] at h3; exact h3.elim
    | some kk =>
      rw [ek] at h3
      dsimp only at h3
      by_cases hl : kvs.length < sizeLine
      · rw [if_pos hl] at h3
        have hk := kOf_rel ek rr
        subst hk
        have hx : Ext H3 (upd H3 b (.dK (putK ws kk x))) := Ext.put hb trivial
        refine ⟨b, _, rfl, DPut.k hb (by rw [← Paired.length rkv]; exact hl), ?_⟩
        have rq3 := ((rq.mono p2 x2).mono p3 x3).mono (List.prefix_refl _) hx
        exact h3 ρ3 _ σ (List.prefix_refl _) hx (hH3.put (o := .dct (putP kvs kk q)) eb ⟨_, upd_same, putP_rel (rkv.mono (List.prefix_refl _) hx) rq3⟩) ((hE2.mono p3 x3).mono (List.prefix_refl _) hx)
      · rw [if_neg hl] at h3; exact h3.elim
  · refine (ps_asg he (pg_sub ho hi (set_list' (CA := CA)) (assign_sub hs)) (show swapsWith v (some (.Subscript ov iv p)) pos.line X.env = pure false from swaps_sub) rfl rfl).run pins s σ H D I ?_
    refine ⟨ρ, vh, env, hH, hE, OutF.step hE h fun q vh1 ρ1 H1 x e1 p1 x1 hH1 rq h1 => ?_⟩
    have hE1 := hE.mono p1 x1
    refine ⟨ρ1, vh1, env, hH1, hE1, OutF.step hE1 h1 fun w vh2 ρ2 H2 y e2 p2 x2 hH2 rw' h2 => ?_⟩
    have hE2 := hE1.mono p2 x2
    refine ⟨ρ2, vh2, env, hH2, hE2, OutF.step hE2 h2 fun r vh3 ρ3 H3 z e3 p3 x3 hH3 rr h3 => ?_⟩
    refine ⟨ρ3, vh3, w, r, q, hH3, rw'.mono p3 x3, rr, (rq.mono p2 x2).mono p3 x3, ?_, ?_⟩
    · unfold setP at h3
      cases w with
      | ref k =>
        dsimp only at h3
        cases eo : vh3[k]? with
        | none => rw [eo] at h3; exact h3.elim
        | some ob =>
          cases ob with
          | lst xs => exact ⟨xs, by unfold seqOf; dsimp only; rw [eo]⟩
          | dct kvs => exact absurd ⟨q, vh1, k, vh2, r, vh3, kvs, e1, e2, e3, eo⟩ hd
          | ins c fs => rw [eo] at h3; exact h3.elim
      | _ => exact h3.elim
    · cases es : setP w r q vh3 with
      | none => rw [es] at h3; exact h3.elim
      | some vh4 =>
        rw [es] at h3
        exact ⟨vh4, rfl, fun ρ' H' a b c => h3 ρ' H' σ a b c ((hE2.mono p3 x3).mono a b)⟩
theorem s_aug (g : GoodS T CA W n FA X) {i : Nat} {op : Operator} {e : Ex} {x : Str} {v : Expr} {p pos : Pos} (ho : op = .Add ∨ op = .Sub) (hi : X.N[i]? = some x) (hL : Loc X.env.scope x) (he : PE X v (tE T CA X.K W n e)) : PS X (.AugAssign (.Name x p) op v pos) (tS T CA X.K W n (.aug i op e)) := by
  have key : ∀ f : Int → Int → Int, (∀ p q vh, augop op p q vh = intP (fun _ _ => true) f p q vh) → PIp X op (ipI f) → PS X (.AugAssign (.Name x p) op v pos) (tS T CA X.K W n (.aug i op e)) := fun f hf hp => by
    refine ⟨fun pins s σ H D I ⟨ρ, vh, env, hH, hE, h⟩ => ?_⟩
    refine (ps_aug g.nd hi hL he hp (g.sto hL)).run pins s σ H D I ?_
    unfold evS at h
    split at h
    · rename_i w ew
      obtain ⟨u, eu, ru⟩ := hE.get i w ew
      refine ⟨u, eu, ρ, vh, env, hH, hE, OutF.step hE h fun q vh1 ρ1 H1 y e1 p1 x1 hH1 rq h1 => ?_⟩
      rw [hf] at h1
      unfold intP at h1
      have hE1 := hE.mono p1 x1
      cases ru with
      | int a =>
        cases rq with
        | int b => exact ⟨a, b, rfl, rfl, OutF.here (σ := σ.set i (some (.int (f a b)))) h1 hH1 (hE1.set (.int _))⟩
        | _ => exact h1.elim
      | _ => exact h1.elim
    · exact h.elim
  rcases ho with rfl | rfl
  · exact key _ (fun _ _ _ => rfl) ip_add
  · exact key _ (fun _ _ _ => rfl) ip_sub
theorem s_exp {e : Ex} {v : Expr} {pos : Pos} (he : PE X v (tE T CA X.K W n e)) (hs : isComp v = false) : PS X (.Expr v pos) (tS T CA X.K W n (.exp e)) := by
  refine ⟨fun pins s σ H D I ⟨ρ, vh, env, hH, hE, h⟩ => ?_⟩
  refine (ps_expr he (swaps_plain hs)).run pins s σ H D I ?_
  unfold evS at h
  exact ⟨ρ, vh, env, hH, hE, OutF.step hE h fun p vh1 ρ1 H1 x e1 p1 x1 hH1 rp h1 => h1.here hH1 (hE.mono p1 x1)⟩
theorem s_ret {e : Ex} {v : Expr} {pos : Pos} (he : PE X v (tE T CA X.K W n e)) : PS X (.Return (some v) pos) (tS T CA X.K W n (.ret e)) := by
  refine ⟨fun pins s σ H D I ⟨ρ, vh, env, hH, hE, h⟩ => ?_⟩
  refine (ps_ret he).run pins s σ H D I ?_
  unfold evS at h
  exact ⟨ρ, vh, env, hH, hE, OutF.step hE h fun p vh1 ρ1 H1 x e1 p1 x1 hH1 rp h1 => h1 ρ1 H1 x (List.prefix_refl _) (Ext.refl _) hH1 rp⟩
theorem s_ifS {t : Ex} {a b : Sms} {c : Expr} {x y : List Stmt} {pos : Pos} (ht : PT X c (tT T CA X.K W n t)) (ha : PSs X x (tSs T CA X.K W n a)) (hb : PSs X y (tSs T CA X.K W n b)) : PS X (.If c x y pos) (tS T CA X.K W n (.ite t a b)) := by
  refine ⟨fun pins s σ H D I ⟨ρ, vh, env, hH, hE, h⟩ => ?_⟩
  refine (ps_if ht ha hb).run pins s σ H D I ?_
  unfold evS at h
  refine ⟨ρ, vh, env, hH, hE, OutF.stepU hE h fun d vh1 ρ1 H1 e1 p1 x1 hH1 h1 => ?_⟩
  cases d with
  | true => exact ⟨ρ1, vh1, env, hH1, hE.mono p1 x1, h1⟩
  | false => exact ⟨ρ1, vh1, env, hH1, hE.mono p1 x1, h1⟩
theorem s_seq {s : Sm} {r : Sms} {st : Stmt} {rest : List Stmt} (h1 : PS X st (tS T CA X.K W n s)) (h2 : PSs X rest (tSs T CA X.K W n r)) : PSs X (st :: rest) (tSs T CA X.K W n (.cons s r)) := by
  refine ⟨fun pins s' σ H D I ⟨ρ, vh, env, hH, hE, h⟩ => ?_⟩
  refine (pss_cons h1 h2).run pins s' σ H D I ⟨ρ, vh, env, hH, hE, ?_⟩
  unfold evSs at h
  refine OutF.after h fun fl vh1 ρ1 H1 p1 x1 h1 => ?_
  cases fl with
  | nx e => exact fun ρ' H' σ' a b c d => ⟨ρ', vh1, e, c, d, OutF.mono a b h1⟩
  | bk e => exact h1
  | ct e => exact h1
  | rt p => exact h1
  | ex c fs e => exact h1
theorem s_while (g : GoodS T CA W n FA X) {t : Ex} {b : Sms} {c : Expr} {x : List Stmt} {pos : Pos} (ht : PT X c (tT T CA X.K W n t)) (hb : PSs X x (tSs T CA X.K W n b)) : PS X (.While c x [] pos) (tS T CA X.K W n (.whl t b)) := by
  refine ⟨fun pins s σ H D I ⟨ρ, vh, env, hH, hE, h⟩ => ?_⟩
  refine (ps_while g.own ht hb).run pins s σ H D I ?_
  unfold evS at h
  refine ⟨fun m σ H => ∃ ρ vh env, RH X.K CA ρ vh H ∧ RE X.K ρ H env σ ∧ OutF X.K CA W D ρ H (whileLoop (evE T (callF T n) t) (evSs T (callF T n) b) m env vh), ⟨wfuel, ρ, vh, env, hH, hE, h⟩, ?_⟩
  rintro m σ H ⟨ρ, vh, env, hH, hE, h⟩
  cases m with
  | zero => exact h.elim
  | succ m =>
    unfold whileLoop at h
    refine ⟨ρ, vh, env, hH, hE, OutF.stepU hE h fun d vh1 ρ1 H1 e1 p1 x1 hH1 h1 => ?_⟩
    cases d with
    | false => exact h1.here hH1 (hE.mono p1 x1)
    | true =>
      rw [if_pos rfl]
      refine ⟨fun σ' H' => ∃ ρ' vh' env', RH X.K CA ρ' vh' H' ∧ RE X.K ρ' H' env' σ' ∧ OutF X.K CA W D ρ' H' (whileLoop (evE T (callF T n) t) (evSs T (callF T n) b) m env' vh'), fun σ' H' q => ⟨m, Nat.lt_succ_self _, q⟩, ρ1, vh1, env, hH1, hE.mono p1 x1, ?_⟩
      refine OutF.after h1 fun fl vh2 ρ2 H2 p2 x2 h2 => ?_
      cases fl with
      | nx e => exact fun ρ' H' σ' a b c d => ⟨ρ', vh2, e, c, d, OutF.mono a b h2⟩
      | ct e => exact fun ρ' H' σ' a b c d => ⟨ρ', vh2, e, c, d, OutF.mono a b h2⟩
      | bk e => exact h2
      | rt p => exact h2
      | ex c fs e => exact h2
theorem s_for (g : GoodS T CA W n FA X) {tg : Tg} {it : It} {b : Sms} {t i : Expr} {x : List Stmt} {pos : Pos} (ht : mTg X.N X.env.scope tg t = true) (hI : PI X t i (tI T CA X.K W n it)) (hs : isSet i = false) (hb : PSs X x (tSs T CA X.K W n b)) : PS X (.For t i x [] pos) (tS T CA X.K W n (.for tg it b)) := by
  refine ⟨fun pins s σ H D I ⟨ρ, vh, env, hH, hE, h⟩ => ?_⟩
  refine (ps_for g.own g.calm hI (s_gS g ht) hb (folded_plain hs _)).run pins s σ H D I ?_
  unfold evS at h
  refine ⟨ρ, vh, env, hH, hE, OutF.stepU hE h fun src vh1 ρ1 H1 e1 p1 x1 hH1 h1 J wk => ?_⟩
  refine ⟨fun k m σ2 H2 => ∃ ρ2 vh2 env2, ρ1 <+: ρ2 ∧ Ext H1 H2 ∧ RH X.K CA ρ2 vh2 H2 ∧ RE X.K ρ2 H2 env2 σ2 ∧ OutF X.K CA W D ρ2 H2 (forLoop src (fun p env vh => setTg vh tg p env) (evSs T (callF T n) b) m k env2 vh2),
    ⟨src.len vh1, ρ1, vh1, env, List.prefix_refl _, Ext.refl _, hH1, hE.mono p1 x1, h1⟩, ?_⟩
  rintro k m σ2 H2 ⟨ρ2, vh2, env2, p2, x2, hH2, hE2, h2⟩
  cases ei : itemAt vh2 src k with
  | none =>
    exfalso
    cases m with
    | zero => unfold forLoop at h2; rw [ei] at h2; exact h2
    | succ m => unfold forLoop at h2; rw [ei] at h2; exact h2
  | some r =>
    cases r with
    | none =>
      refine .inl ⟨wk.stop k ρ2 vh2 H2 p2 x2 hH2 ei, ?_⟩
      cases m with
      | zero => unfold forLoop at h2; rw [ei] at h2; exact h2.here hH2 hE2
      | succ m => unfold forLoop at h2; rw [ei] at h2; exact h2.here hH2 hE2
    | some p =>
      cases m with
      | zero => unfold forLoop at h2; rw [ei] at h2; exact h2.elim
      | succ m =>
        unfold forLoop at h2
        rw [ei] at h2
        dsimp only at h2
        obtain ⟨go, yl⟩ := wk.item k ρ2 vh2 H2 p p2 x2 hH2 ei
        refine .inr ⟨go, fun σ' H' => ∃ ρ' vh' env', ρ1 <+: ρ' ∧ Ext H1 H' ∧ RH X.K CA ρ' vh' H' ∧ RE X.K ρ' H' env' σ' ∧ OutF X.K CA W D ρ' H' (forLoop src (fun p env vh => setTg vh tg p env) (evSs T (callF T n) b) m (k + 1) env' vh'), fun σ' H' q => ⟨m, Nat.lt_succ_self _, q⟩, fun y H3 yy => ?_⟩
        obtain ⟨x3, hH3, rp⟩ := yl y H3 yy
        have hE3 := hE2.mono (List.prefix_refl _) x3
        cases et : setTg vh2 tg p env2 with
        | none => rw [et] at h2; exact h2.elim
        | some env3 =>
          rw [et] at h2
          dsimp only at h2
          refine ⟨ρ2, vh2, env2, p, hH3, hE3, rp, env3, et, fun σ' hE' _ => ⟨ρ2, vh2, env3, hH3, hE', ?_⟩⟩
          refine OutF.after (OutF.mono (List.prefix_refl _) x3 h2) fun fl vh4 ρ4 H4 p4 x4 h4 => ?_
          cases fl with
          | nx e => exact fun ρ' H' σ' a b c d => ⟨ρ', vh4, e, (p2.trans p4).trans a, (((x2.trans x3).trans x4).trans b), c, d, OutF.mono a b h4⟩
          | ct e => exact fun ρ' H' σ' a b c d => ⟨ρ', vh4, e, (p2.trans p4).trans a, (((x2.trans x3).trans x4).trans b), c, d, OutF.mono a b h4⟩
          | bk e => exact h4
          | rt p => exact h4
          | ex c fs e => exact h4
/-- name = [..] on its own line -/
theorem s_setLc (g : GoodS T CA W n FA X) {i : Nat} {e : Ex} {y : Str} {py pos : Pos} {v : Expr} (he : isLc e = true) (h : mE T X.N e X.env.scope v = true) (hi : X.N[i]? = some y) (hy : X.env.scope.names.lookup y = some .local) (hsw : swapsWithSole [.Name y py] v pos.line X.env = pure true) :
    PS X (.Assign [.Name y py] v pos) (tS T CA X.K W n (.asg (.nm i) e)) := by
  cases e with
  | lc elt tg it cs own =>
    unfold mE at h
    split at h
    · rename_i el t ii ifs scope p2
      simp only [Bool.and_eq_true] at h
      obtain ⟨⟨⟨⟨⟨⟨⟨⟨h1, h2⟩, h3⟩, h4⟩, h5⟩, h6⟩, h7⟩, h8⟩, h9⟩ := h
      have hI : PI X t ii (tI T CA X.K W n it) := sI it g.toGood h2 h5 h4
      have hin : ∀ j ∈ tgS tg, j ∈ (own.map fun j => ((X.N[j]?).getD ("" : Str), j)).map (·.2) := fun j hj => by
        rw [map_own]
        cases tg with
        | nm k =>
          have : j = k := by simpa [tgS] using hj
          subst this
          simpa using h6
        | tp is =>
          simp only [List.all_eq_true] at h6
          simpa using h6 j hj
      refine ⟨fun pins s σ H D I ⟨ρ, vh, env, hH, hE, h⟩ => ?_⟩
      refine (ps_setLc (te := tE T CA X.K WN n elt) (tt := tCs T CA X.K n cs) (g := gT CA X.K tg) g.calm g.nd hi hy hsw hI (blkOk_by h1) (fun s H C cl fp => ?_) (fun s H C cl fp => ?_) (fun s H C cl fp => ?_) (folded_plain (by simpa using h3) _)).run pins s σ H D I ?_
      · refine s_g (X := X.blk s H scope (PySem.compEnvC scope cl C X.env) fp) g.calm g.nd h4 (fun x p e => ?_) (fun es k p e e' hm x p' ee => ?_)
        · subst e
          cases tg with
          | nm k =>
            dsimp only at h9
            rw [Bool.or_eq_true] at h9
            rcases h9 with h9 | h9
            · exact .inl h9
            · exact .inr (show List.lookup x (relS scope X.env.scope).names = some NameKind.local from by simpa using h9)
          | tp is => cases h4
        · subst e
          cases tg with
          | nm k => cases h4
          | tp is =>
            dsimp only at h9
            rw [List.all_eq_true] at h9
            have q := h9 e' hm
            subst ee
            dsimp only at q
            rw [Bool.or_eq_true] at q
            rcases q with q | q
            · exact .inl q
            · exact .inr (show List.lookup x (relS scope X.env.scope).names = some NameKind.local from by simpa using q)
      · exact sCs cs (g.toGood.blk s H scope (PySem.compEnvC scope cl C X.env) fp) h7
      · exact sE elt (g.toGood.blk s H scope (PySem.compEnvC scope cl C X.env) fp) h8
      · refine r_lc hin ?_
        rw [map_own]
        unfold evS at h
        refine ⟨ρ, vh, env, hH, hE, OutF.step hE h fun p vh1 ρ1 H1 x e1 p1 x1 hH1 rp h1 => ?_⟩
        exact h1.here hH1 ((hE.mono p1 x1).set rp)
    · cases h
  | _ => cases he
end
section
variable {T : Tab} {CA FA : Nat → Addr} {X : Cx} {W : WX} {n : Nat}
set_option maxHeartbeats 4000000 in
mutual
theorem sS (g : GoodS T CA W n FA X) : ∀ (x : Sm) {st : Stmt}, mS T X.N x X.env.scope st = true → PS X st (tS T CA X.K W n x)
  | .asg tg e, st, h => by
    unfold mS at h
    split at h
    · rename_i t v pos
      simp only [Bool.and_eq_true, beq_iff_eq] at h
      obtain ⟨⟨⟨h1, h2⟩, h3⟩, h4⟩ := h
      have h5 := purely_eq h3
      rw [← stores_sc] at h5
      split at h4
      · rename_i h6
        have h7 := purely_eq h6
        rw [← sole_sc] at h7
        exact s_asg g h1 (sE e g.toGood h2) h5 h7
      · rename_i h6
        have h7 := purely_eq h6
        rw [← sole_sc] at h7
        rw [Bool.and_eq_true] at h4
        obtain ⟨h8, h9⟩ := h4
        split at h9
        · rename_i i y py
          obtain ⟨x', p', e2, hN, _⟩ := mNm_of (show mNm X.N X.env.scope i (.Name y py) = true from h1)
          cases e2
          exact s_setLc g h8 h2 hN (by simpa using h9) h7
        · cases h9
      · cases h4
    · cases h
  | .par i j a b, st, h => by
    unfold mS at h
    split at h
    · simp only [Bool.and_eq_true, beq_iff_eq, bne_iff_ne] at h
      obtain ⟨⟨⟨⟨⟨⟨h1, h2⟩, h3⟩, h4⟩, h5⟩, h6⟩, h7⟩ := h
      have h8 := purely_eq h7
      rw [← stores_sc] at h8
      exact s_par g h1 h2 h3 h4 h5 (sEs _ g.toGood h6) h8
    · cases h
  | .setf o f e, st, h => by
    unfold mS at h
    split at h
    · rw [Bool.and_eq_true, Bool.and_eq_true, beq_iff_eq] at h
      obtain ⟨⟨rfl, h1⟩, h2⟩ := h
      exact s_setf g (sE o g.toGood h1) (sE e g.toGood h2)
    · cases h
  | .seti o i e, st, h => by
    unfold mS at h
    split at h
    · rw [Bool.and_eq_true, Bool.and_eq_true, Bool.and_eq_true] at h
      exact s_seti g (sE o g.toGood h.1.1.1) (sE i g.toGood h.1.1.2) (sE e g.toGood h.1.2) (by simpa using h.2)
    · cases h
  | .aug i o e, st, h => by
    unfold mS at h
    split at h
    · simp only [Bool.and_eq_true, Bool.or_eq_true, beq_iff_eq] at h
      obtain ⟨⟨⟨h1, rfl⟩, h2⟩, h3⟩ := h
      obtain ⟨x', p', e2, hN, hL⟩ := mNm_of h2
      cases e2
      exact s_aug g h1 hN hL (sE e g.toGood h3)
    · cases h
  | .exp e, st, h => by
    unfold mS at h
    split at h
    · rw [Bool.and_eq_true] at h
      exact s_exp (sE e g.toGood h.1) (by simpa using h.2)
    · cases h
  | .ret e, st, h => by
    unfold mS at h
    split at h
    · exact s_ret (sE e g.toGood h)
    · cases h
  | .retn, st, h => by
    unfold mS at h
    split at h
    · exact ⟨fun pins s σ H D I ⟨ρ, vh, env, hH, hE, h⟩ => ps_retN.run pins s σ H D I (h ρ H .non (List.prefix_refl _) (Ext.refl _) hH .non)⟩
    · cases h
  | .ite t a b, st, h => by
    unfold mS at h
    split at h
    · rw [Bool.and_eq_true, Bool.and_eq_true] at h
      exact s_ifS (sT t g.toGood h.1.1).pt (sSs g a h.1.2) (sSs g b h.2)
    · cases h
  | .whl t b, st, h => by
    unfold mS at h
    split at h
    · rw [Bool.and_eq_true] at h
      exact s_while g (sT t g.toGood h.1).pt (sSs g b h.2)
    · cases h
  | .for tg it b, st, h => by
    unfold mS at h
    split at h
    · simp only [Bool.and_eq_true] at h
      obtain ⟨⟨⟨⟨h1, h2⟩, h3⟩, h4⟩, h5⟩ := h
      exact s_for g h1 (sI it g.toGood h2 h3 h1) (by simpa using h4) (sSs g b h5)
    · cases h
  | .rai c es, st, h => ⟨fun _ _ _ _ _ _ ⟨_, _, _, _, _, h⟩ => h.elim⟩
  | .pass, st, h => by
    unfold mS at h
    split at h
    · exact ⟨fun pins s σ H D I ⟨ρ, vh, env, hH, hE, h⟩ => ps_pass.run pins s σ H D I (h.here hH hE)⟩
    · cases h
  | .cont, st, h => by
    unfold mS at h
    split at h
    · exact ⟨fun pins s σ H D I ⟨ρ, vh, env, hH, hE, h⟩ => ps_continue.run pins s σ H D I (h ρ H σ (List.prefix_refl _) (Ext.refl _) hH hE)⟩
    · cases h
  | .brk, st, h => by
    unfold mS at h
    split at h
    · exact ⟨fun pins s σ H D I ⟨ρ, vh, env, hH, hE, h⟩ => ps_break.run pins s σ H D I (h ρ H σ (List.prefix_refl _) (Ext.refl _) hH hE)⟩
    · cases h
  | .never, st, h => ⟨fun _ _ _ _ _ _ ⟨_, _, _, _, _, h⟩ => h.elim⟩
theorem sSs (g : GoodS T CA W n FA X) : ∀ (x : Sms) {ss : List Stmt}, mSs T X.N x X.env.scope ss = true → PSs X ss (tSs T CA X.K W n x)
  | .nil, ss, h => by
    unfold mSs at h
    cases ss with
    | nil => exact ⟨fun pins s σ H D I ⟨ρ, vh, env, hH, hE, h⟩ => pss_nil.run pins s σ H D I (h.here hH hE)⟩
    | cons _ _ => cases h
  | .cons s r, ss, h => by
    unfold mSs at h
    cases ss with
    | nil => cases h
    | cons st rest =>
      dsimp only at h
      rw [Bool.and_eq_true] at h
      exact s_seq (sS g s h.1) (sSs g r h.2)
end
end
end Mini
end T_M11

section T_B1
set_option Elab.async false
set_option linter.all false
set_option autoImplicit false
/-! Mini: how arguments are bound. -/
namespace Mini
open PySem PySem.Spec PyProof.Rows L2
/-- parameters by position, no stars -/
def plainP (p : Arguments) : Bool := p.posonlyargs.isEmpty && p.vararg.isNone && p.kwonlyargs.isEmpty && p.kwarg.isNone
theorem fm_congr {α β : Type} {f g : α → Option β} : ∀ {l : List α}, (∀ x ∈ l, f x = g x) → l.filterMap f = l.filterMap g
  | [], _ => rfl
  | x :: l, h => by
    rw [List.filterMap_cons, List.filterMap_cons, h x List.mem_cons_self, fm_congr fun y hy => h y (List.mem_cons_of_mem _ hy)]
theorem look_zip : ∀ {ps : List Str} {us : List Value}, ps.Nodup → us.length = ps.length → (ps.filter fun n => ((ps.zip us).lookup n).isNone) = [] ∧ (ps.filterMap fun n => ((ps.zip us).lookup n).map fun v => (n, v)) = ps.zip us := by
  have look : ∀ {ps : List Str} {us : List Value} {n : Str}, n ∈ ps → us.length = ps.length → ((ps.zip us).lookup n).isNone = false := by
    intro ps
    induction ps with
    | nil => intro us n h; cases h
    | cons p ps ih =>
      intro us n h hl
      cases us with
      | nil => cases hl
      | cons u us =>
        rw [List.zip_cons_cons, List.lookup_cons]
        cases e : n == p with
        | true => rfl
        | false =>
          rcases List.mem_cons.mp h with rfl | h
          · simp at e
          · exact ih h (by simpa using hl)
  have fm : ∀ {ps : List Str} {us : List Value}, ps.Nodup → us.length = ps.length → (ps.filterMap fun n => ((ps.zip us).lookup n).map fun v => (n, v)) = ps.zip us := by
    intro ps
    induction ps with
    | nil => intro us _ _; rfl
    | cons p ps ih =>
      intro us nd hl
      cases us with
      | nil => cases hl
      | cons u us =>
        rw [List.nodup_cons] at nd
        rw [List.filterMap_cons, List.zip_cons_cons]
        have e1 : (((p, u) :: ps.zip us).lookup p).map (fun v => (p, v)) = some (p, u) := by rw [List.lookup_cons]; simp
        rw [e1]
        have e2 : (ps.filterMap fun n => (((p, u) :: ps.zip us).lookup n).map fun v => (n, v)) = ps.filterMap fun n => ((ps.zip us).lookup n).map fun v => (n, v) := by
          refine fm_congr fun n hn => ?_
          have : (n == p) = false := by
            cases e : n == p with
            | false => rfl
            | true =>
              have : n = p := by simpa using e
              exact absurd (this ▸ hn) nd.1
          rw [List.lookup_cons, this]
        rw [e2, ih nd.2 (by simpa using hl)]
  intro ps us nd hl
  refine ⟨?_, fm nd hl⟩
  rw [List.filter_eq_nil_iff]
  intro n hn
  rw [look hn hl]
  decide
theorem bind_plain {fd : FuncData} {ps : List Str} {us : List Value} (h : plainP fd.params = true) (hp : fd.params.args.map (·.arg) = ps) (nd : ps.Nodup) (hd : fd.defaults = .none) (hl : us.length = ps.length) : bindArgs fd ⟨us, []⟩ = pure (ps.zip us) := by
  unfold plainP at h
  simp only [Bool.and_eq_true, List.isEmpty_iff, Option.isNone_iff_eq_none] at h
  obtain ⟨⟨⟨h1, h2⟩, h3⟩, h4⟩ := h
  obtain ⟨l1, l2⟩ := look_zip nd hl
  have hs : seqItems? Value.none = pure none := rfl
  have hgt : ¬ us.length > ps.length := by omega
  unfold bindArgs
  simp only [h1, h2, h3, h4, hp, hd, List.map_nil, List.nil_append, List.append_nil, List.forIn_nil, pure_bind, hs, hgt, decide_false, Bool.false_and, Option.getD_none, List.drop_nil, List.length_nil, Nat.sub_zero, List.take_length, l1, List.isEmpty_nil, Bool.not_true, if_false, List.drop_length, List.zip_nil_right, List.zip_nil_left, Bool.false_eq_true, List.take_length]
  rw [l2]
end Mini
end T_B1

section T_M12
set_option Elab.async false
set_option linter.all false
set_option autoImplicit false
/-! Mini: the defs keep their promises, by fuel. -/
namespace Mini
open PySem PySem.Spec PyProof.Rows L2
section
variable {T : Tab} {FA CA : Nat → Addr} {K : PySem.W.Frag} {mg : Str → Option Value} {P : Program} {w : World} {base : Heap}
/-- what the top has left of one def -/
structure DefOk (T : Tab) (K : PySem.W.Frag) (f : Addr) (fn : Fn) : Prop where
  ex : ∃ (x qual : Str) (params : Arguments) (body : List Stmt) (scope : Scope) (fd : FuncData), FunD K x qual params body scope [] [] f fd ∧ FnScope fn.N fn.ps scope ∧ plainP params = true ∧ params.args.map (·.arg) = fn.ps ∧ mSs T fn.N fn.body scope body = true
  dfl : fn.dfl = []
theorem DefOk.nd {f : Addr} {fn : Fn} (d : DefOk T K f fn) : fn.ps.Nodup := by
  obtain ⟨x, qual, params, body, scope, fd, F, S, _⟩ := d.ex
  have := S.nd
  rw [← S.pre]
  exact List.Nodup.sublist (List.take_sublist _ _) this
theorem DefOk.binds {f : Addr} {fn : Fn} {x qual : Str} {params : Arguments} {body : List Stmt} {scope : Scope} {fd : FuncData} (nd : fn.ps.Nodup) (F : FunD K x qual params body scope [] [] f fd) (hp : plainP params = true) (ha : params.args.map (·.arg) = fn.ps) : Binds K fd fn.ps [] :=
  F.bindsN fun kV doc pm an cdv ct us hl => bind_plain (fd := PySem.W.fnOf x qual params body scope .none kV doc pm an cdv ct) hp ha nd rfl hl
theorem start_rel {ρ : List Addr} {H : Hp} {N : List Str} {ps : List PV} {vs : List V} (r : RPs K ρ H ps vs) : RE K ρ H (ps.map some ++ List.replicate (N.length - ps.length) none) (L2.start N vs) := by
  unfold L2.start
  refine ⟨by simp [r.length], fun i p e => ?_⟩
  by_cases hi : i < ps.length
  · rw [List.getElem?_append_left (by simpa using hi), List.getElem?_map] at e
    cases ep : ps[i]? with
    | none => rw [ep] at e; cases e
    | some q =>
      rw [ep] at e
      cases e
      obtain ⟨v, ev, rv⟩ := r.get ep
      refine ⟨v, ?_, rv⟩
      rw [List.getElem?_append_left (by rw [List.length_map, ← r.length]; exact hi), List.getElem?_map, ev]
      rfl
  · rw [List.getElem?_append_right (by simpa using hi)] at e
    rw [List.getElem?_replicate] at e
    split at e <;> cases e
theorem fn_zero (h : ∀ f fn, T.fns[f]? = some fn → DefOk T K (FA f) fn) : FN T FA CA P w K mg base 0 := fun f fn ef => by
  have d := h f fn ef
  have nd := d.nd
  obtain ⟨x, qual, params, body, scope, fd, F, S, hp, ha, hb⟩ := d.ex
  refine ⟨fd, ⟨fun vs H Q E ⟨_, _, ps, _, r, ⟨fn', e', l⟩, _⟩ => ?_, fun A outer s H args us vs Q E _ _ _ _ ⟨_, _, _, _, _, _, hx⟩ => hx.elim⟩, F.kp, fun k h1 h2 => ⟨[], [], .nil, DefOk.binds nd F hp ha, fun ρ H => by rw [d.dfl]; simpa using RPs.nil⟩⟩
  rw [ef] at e'
  cases e'
  rw [← r.length, l]
theorem fn_one (fs : FS T FA CA K mg) {n : Nat} (ih : FN T FA CA P w K mg base n) {f : Nat} {fn : Fn} (ef : T.fns[f]? = some fn) (hdfl : fn.dfl = []) {x qual : Str} {params : Arguments} {body : List Stmt} {scope : Scope} {fd : FuncData} (F : FunD K x qual params body scope [] [] (FA f) fd) (S : FnScope fn.N fn.ps scope)
    (hb : mSs T fn.N fn.body scope body = true) : FnOk P w K mg base (L2.CX P w) (2 * n + 1 + 1) (FA f) fd fn.ps (spF T CA K (n + 1) f) := by
  refine F.ok S (fun vs H Q E ⟨_, _, ps, _, r, ⟨fn', e', l⟩, _⟩ => ?_) fun cdv A outer s H vs Q E hr hsp => ?_
  · rw [ef] at e'
    cases e'
    rw [← r.length, l]
  · let X := cxOf (L2.CX P w) P w K mg base fn.N qual scope (FA f) cdv A outer s H E
    have g : GoodS T CA (fun cls d _ H => E cls d H) n FA X :=
      ⟨⟨takes_of (X := X) rfl rfl rfl rfl, passes_of (X := X) rfl, rfl, S.nd, hr, fs, ih⟩, fun _ _ => rfl⟩
    refine ⟨_, sSs g fn.body hb, ?_⟩
    obtain ⟨ρ, vh, ps, hH, r, ⟨fn', e', l⟩, ho⟩ := hsp
    rw [ef] at e'
    cases e'
    refine ⟨ρ, vh, ps.map some ++ List.replicate (fn.N.length - ps.length) none, hH, start_rel r, ?_⟩
    unfold callF at ho
    rw [ef] at ho
    dsimp only at ho
    unfold runFn at ho
    dsimp only at ho
    have e0 : fn.dfl.drop (fn.dfl.length + ps.length - fn.ps.length) = [] := by rw [hdfl]; exact List.drop_nil
    rw [e0, List.append_nil, if_pos l] at ho
    show OutF K CA (fun cls d _ H => E cls d H) { nx := fun _ H' => Q .non H', rt := Q } ρ H (evSs T (callF T n) fn.body (ps.map some ++ List.replicate (fn.N.length - ps.length) none) vh)
    revert ho
    cases evSs T (callF T n) fn.body (ps.map some ++ List.replicate (fn.N.length - ps.length) none) vh with
    | stuck => exact fun ho => ho
    | exc c fs vh1 => exact fun ho => ho
    | ok fl vh1 =>
      intro ho
      cases fl with
      | nx e => exact fun ρ' H' σ' a b c _ => ho ρ' H' .non a b c .non
      | rt p => exact fun ρ' H' v a b c q => ho ρ' H' v a b c q
      | bk e => exact ho.elim
      | ct e => exact ho.elim
      | ex c fs e => exact fun ρ' H' d gs σ' a b c q1 q2 _ => ho ρ' H' d gs a b c q1 q2
theorem fn_succ (fs : FS T FA CA K mg) (h : ∀ f fn, T.fns[f]? = some fn → DefOk T K (FA f) fn) {n : Nat} (ih : FN T FA CA P w K mg base n) : FN T FA CA P w K mg base (n + 1) := fun f fn ef => by
  have d := h f fn ef
  have nd := d.nd
  obtain ⟨x, qual, params, body, scope, fd, F, S, hp, ha, hb⟩ := d.ex
  exact ⟨fd, fn_one fs ih ef d.dfl F S hb, F.kp, fun k h1 h2 => ⟨[], [], .nil, DefOk.binds nd F hp ha, fun ρ H => by rw [d.dfl]; simpa using RPs.nil⟩⟩
theorem fn_all (fs : FS T FA CA K mg) (h : ∀ f fn, T.fns[f]? = some fn → DefOk T K (FA f) fn) : ∀ n, FN T FA CA P w K mg base n
  | 0 => fn_zero h
  | n + 1 => fn_succ fs h (fn_all fs h n)
end
end Mini
end T_M12

section T_M13
set_option Elab.async false
set_option linter.all false
set_option autoImplicit false
/-! Mini: the head. What the top leaves is looked at by one check. -/
namespace Mini
open PySem PySem.Spec PyProof.Rows L2
/-- where a def stands: its name (a class and a method), its qualified name, its row (in a class: its place there) -/
structure Ds where
  loc : Str × Option Str
  qual : Str
  k : Nat
  j : Option Nat
def stmAt (P : Program) (k : Nat) (j : Option Nat) : Stmt := match j with
  | none => P.main.body.getD k (.Pass ⟨0, 0, 0, 0⟩)
  | some j => match P.main.body.getD k (.Pass ⟨0, 0, 0, 0⟩) with
    | .ClassDef _ _ _ b _ _ _ _ _ _ _ => b.getD j (.Pass ⟨0, 0, 0, 0⟩)
    | _ => .Pass ⟨0, 0, 0, 0⟩
def defD (P : Program) (fn : Fn) (l : Ds) : He.DefD := ⟨l.loc, fn.name, l.qual, defArgs (stmAt P l.k l.j), defBody (stmAt P l.k l.j), defScope (stmAt P l.k l.j), [], []⟩
def scB (N ps : List Str) (sc : Scope) : Bool :=
  (match sc.kind with | .function => true | _ => false) && !sc.isCoroutine && !sc.isGenerator && decide N.Nodup && decide (N.take ps.length = ps) && (ps.all fun x => match sc.names.lookup x with | some .local => true | some .cell => true | _ => false) &&
    (sc.names.all fun y => match y.2 with | .free => false | _ => true)
theorem scB_ok {N ps : List Str} {sc : Scope} (h : scB N ps sc = true) : FnScope N ps sc := by
  unfold scB at h
  simp only [Bool.and_eq_true, decide_eq_true_eq, List.all_eq_true] at h
  obtain ⟨⟨⟨⟨⟨⟨h1, h2⟩, h3⟩, h4⟩, h5⟩, h6⟩, h7⟩ := h
  refine ⟨?_, by simpa using h2, by simpa using h3, h4, h5, fun x hx => ?_, fun y hy e => ?_⟩
  · split at h1
    · assumption
    · cases h1
  · have := h6 x hx
    split at this
    · exact .inl (by assumption)
    · exact .inr (by assumption)
    · cases this
  · have := h7 y hy
    rw [e] at this
    cases this
/-- the text of the def is its term -/
def defB (T : Tab) (P : Program) (fn : Fn) (l : Ds) : Bool :=
  scB fn.N fn.ps (defScope (stmAt P l.k l.j)) && plainP (defArgs (stmAt P l.k l.j)) && decide ((defArgs (stmAt P l.k l.j)).args.map (·.arg) = fn.ps) && mSs T fn.N fn.body (defScope (stmAt P l.k l.j)) (defBody (stmAt P l.k l.j)) && fn.dfl.isEmpty
def defsB (T : Tab) (P : Program) (ls : List Ds) : Bool := decide (T.fns.length = ls.length) && (T.fns.zip ls).all fun q => defB T P q.1 q.2
/-! ### what the top leaves -/
def FAof (ls : List Ds) (K : PySem.W.Frag) (f : Nat) : Addr := match ls[f]? with
  | some l => He.fAd K l.loc
  | none => 0
def CAof (T : Tab) (K : PySem.W.Frag) (c : Nat) : Addr := match T.cls[c]? with
  | some cl => He.ga K cl.name
  | none => 0
def isAt (ls : List Ds) (f : Nat) (x : Str) (m : Option Str) : Bool := match ls[f]? with
  | some l => decide (l.loc = (x, m))
  | none => false
def ownB (K : PySem.W.Frag) (C : Addr) : Bool :=
  He.eqO (PySem.W.findIn K (.ref C) "__class__") (some (some (.builtin "object.__class__"))) && He.eqO (PySem.W.specialIn K (.builtin "object.__class__") "__get__") (some (some (.builtin "getset_descriptor.__get__"))) &&
    decide (PySem.W.takesIn K (.builtin "object.__class__") = some true) && decide (PySem.W.mroIn K C (.type "object") = some true)
def clsB (T : Tab) (ls : List Ds) (K : PySem.W.Frag) (c : Nat) (cl : Cl) : Bool :=
  (He.Fa.glo cl.name).ok K && (cl.exc || ((He.Fa.cls cl.name).ok K && ownB K (He.ga K cl.name) && (cl.attrs.all fun f => (He.Fa.noat cl.name f).ok K) && (cl.meths.all fun q => isAt ls q.2 cl.name (some q.1) && (He.Fa.meth cl.name q.1).ok K) &&
    (match cl.init with | some f => isAt ls f cl.name (some "__init__") && (He.Fa.mkr cl.name).ok K | none => true) &&
    (tyVals.all fun n => decide (PySem.W.kitOne K (.ref (He.ga K cl.name)) (.type n) = some false) && decide (PySem.W.kitOne K (.type n) (.ref (He.ga K cl.name)) = some false)) &&
    ((List.range T.cls.length).all fun d => match T.cls[d]? with | some dl => dl.exc || decide (PySem.W.kitOne K (.ref (He.ga K cl.name)) (.ref (He.ga K dl.name)) = some (c == d)) | none => true)))
def fsB (T : Tab) (ls : List Ds) (K : PySem.W.Frag) : Bool :=
  ((List.range T.fns.length).all fun f => match T.fns[f]? with | some fn => fn.meth || (isAt ls f fn.name none && (He.Fa.glo fn.name).ok K) | none => true) &&
    ((List.range T.cls.length).all fun c => match T.cls[c]? with | some cl => clsB T ls K c cl | none => true) &&
    (T.free.all fun x => (He.Fa.free x).ok K) &&
    (T.consts.all fun q => match q.2 with | .str z => (He.Fa.str q.1 z).ok K | .int z => (He.Fa.int q.1 z).ok K | _ => true)
theorem isAt_of {ls : List Ds} {f : Nat} {x : Str} {m : Option Str} {K : PySem.W.Frag} (h : isAt ls f x m = true) : FAof ls K f = He.fAd K (x, m) := by
  unfold isAt at h
  unfold FAof
  split at h
  · rename_i l e
    have := of_decide_eq_true h
    rw [this]
  · cases h
theorem lt_of {α : Type} {l : List α} {i : Nat} {a : α} (h : l[i]? = some a) : i ∈ List.range l.length := List.mem_range.mpr (List.getElem?_eq_some_iff.mp h).1
theorem look_mem {α β : Type} [BEq α] [LawfulBEq α] {m : α} {f : β} : ∀ {l : List (α × β)}, l.lookup m = some f → (m, f) ∈ l
  | [], h => by cases h
  | (q1, q2) :: l, h => by
    rw [List.lookup_cons] at h
    cases hq : m == q1 with
    | true =>
      rw [hq] at h
      cases h
      have : m = q1 := by simpa using hq
      rw [this]
      exact List.mem_cons_self
    | false =>
      rw [hq] at h
      exact List.mem_cons_of_mem _ (look_mem h)
theorem fs_of {T : Tab} {ls : List Ds} {K : PySem.W.Frag} {h : Heap} {mg : Str → Option Value} (X : K.In h) (G : h.Ns mainGlobals mg) (c : fsB T ls K = true) : FS T (FAof ls K) (CAof T K) K mg := by
  unfold fsB at c
  simp only [Bool.and_eq_true, List.all_eq_true] at c
  obtain ⟨⟨⟨c1, c2⟩, c3⟩, c4⟩ := c
  have ca : ∀ {i cl}, T.cls[i]? = some cl → CAof T K i = He.ga K cl.name := fun e => by unfold CAof; rw [e]
  have cl_ : ∀ i cl, T.cls[i]? = some cl → clsB T ls K i cl = true := fun i cl e => by
    have := c2 i (lt_of e)
    rw [e] at this
    exact this
  have full : ∀ (i : Nat) (cl : Cl), T.cls[i]? = some cl → cl.exc = false → (He.Fa.cls cl.name).ok K = true ∧ ownB K (He.ga K cl.name) = true ∧ (∀ f ∈ cl.attrs, (He.Fa.noat cl.name f).ok K = true) ∧ (∀ q ∈ cl.meths, isAt ls q.2 cl.name (some q.1) = true ∧ (He.Fa.meth cl.name q.1).ok K = true) ∧
      (∀ f, cl.init = some f → isAt ls f cl.name (some "__init__") = true ∧ (He.Fa.mkr cl.name).ok K = true) ∧
      (∀ n ∈ tyVals, PySem.W.kitOne K (.ref (He.ga K cl.name)) (.type n) = some false ∧ PySem.W.kitOne K (.type n) (.ref (He.ga K cl.name)) = some false) ∧
      (∀ (d : Nat) (dl : Cl), T.cls[d]? = some dl → dl.exc = false → PySem.W.kitOne K (.ref (He.ga K cl.name)) (.ref (He.ga K dl.name)) = some (i == d)) := fun i cl e x => by
    have := cl_ i cl e
    unfold clsB at this
    rw [x] at this
    simp only [Bool.and_eq_true, Bool.false_or, List.all_eq_true, decide_eq_true_eq] at this
    obtain ⟨_, ⟨⟨⟨⟨⟨a1, a2⟩, a3⟩, a4⟩, a5⟩, a6⟩, a7⟩ := this
    refine ⟨a1, a2, a3, fun q hq => a4 q hq, fun f ef => ?_, fun n hn => a6 n hn, fun d dl ed xd => ?_⟩
    · rw [ef] at a5
      simpa using a5
    · have := a7 d (lt_of ed)
      rw [ed] at this
      dsimp only at this
      rw [xd] at this
      simpa using this
  refine ⟨fun f fn e m => ?_, fun i cl e => ?_, fun i cl f e x ef => ?_, fun i cl e x => ?_, fun i cl m f e x em => ?_, fun i cl f e x hf => ?_, fun x hx => ?_, fun x p hp => ?_, fun i cl n e x hn => ?_, fun i cl d dl e x ed xd => ?_, fun i cl n e x hn => ?_⟩
  · have := c1 f (lt_of e)
    rw [e] at this
    dsimp only at this
    rw [m] at this
    simp only [Bool.false_or, Bool.and_eq_true] at this
    rw [isAt_of this.1]
    exact He.glo_ok X G this.2
  · have := cl_ i cl e
    unfold clsB at this
    rw [Bool.and_eq_true] at this
    rw [ca e]
    exact He.glo_ok X G this.1
  · obtain ⟨_, _, _, _, a5, _⟩ := full i cl e x
    rw [ca e, isAt_of (a5 f ef).1]
    exact He.mkr_ok (a5 f ef).2
  · obtain ⟨a1, a2, _⟩ := full i cl e x
    rw [ca e]
    unfold ownB at a2
    simp only [Bool.and_eq_true, decide_eq_true_eq] at a2
    exact ⟨He.cls_ok a1, He.eqO_ok a2.1.1.1, He.eqO_ok a2.1.1.2, a2.1.2, a2.2⟩
  · obtain ⟨_, _, _, a4, _⟩ := full i cl e x
    have hm : (m, f) ∈ cl.meths := look_mem em
    have := a4 _ hm
    rw [ca e, isAt_of this.1]
    exact He.meth_ok this.2
  · obtain ⟨_, _, a3, _⟩ := full i cl e x
    rw [ca e]
    exact He.noat_ok (a3 f hf)
  · exact He.free_ok X G (c3 x hx)
  · have := c4 _ hp
    dsimp only at this
    cases p with
    | str z =>
      obtain ⟨t, q⟩ := He.str_ok X G this
      exact .inl ⟨z, t, rfl, q⟩
    | int z =>
      obtain ⟨t, q⟩ := He.int_ok X G this
      exact .inr (.inl ⟨z, t, rfl, q⟩)
    | _ => exact .inr (.inr fun z => ⟨(fun q => by cases q), fun z q => by cases q⟩)
  · obtain ⟨_, _, _, _, _, a6, _⟩ := full i cl e x
    rw [ca e]
    exact (a6 n hn).1
  · obtain ⟨_, _, _, _, _, _, a7⟩ := full i cl e x
    rw [ca e, ca ed]
    exact a7 d dl ed xd
  · obtain ⟨_, _, _, _, _, a6, _⟩ := full i cl e x
    rw [ca e]
    exact (a6 n hn).2
/-! ### the Hook -/
def dfs (T : Tab) (P : Program) (ls : List Ds) : List He.DefD := (T.fns.zip ls).map fun q => defD P q.1 q.2
def obsM (T : Tab) (ls : List Ds) (fn : List He.DefD) (K : PySem.W.Frag) : He.AlD := (fsB T ls K && fn.all fun d => d.ok K, fn.map fun d => He.fnW K d.at_)
def SaysM (T : Tab) (ls : List Ds) (fn : List He.DefD) (K : PySem.W.Frag) : Prop := obsM T ls fn K = He.valD fn
def obsMG (n : Nat) (T : Tab) (ls : List Ds) (fn : List He.DefD) (g : Addr → Option Obj) : He.AlD := obsM T ls fn (He.frG g (He.asD g n))
def hookM (n : Nat) (T : Tab) (ls : List Ds) (fn : List He.DefD) : PySem.W.Hook where
  α := He.AlD
  obs := fun s => obsMG n T ls fn s.heap.get?
  val := fun _ => He.valD fn
  says := fun _ h => ∃ K : PySem.W.Frag, K.In h ∧ SaysM T ls fn K
  of := fun _ _ e => ⟨_, He.frG_in, e⟩
  keeps := fun _ _ _ ⟨K, hK, c⟩ k => ⟨K, PySem.W.Frag.In.keeps hK k, c⟩
theorem obsMG_eq {n : Nat} {T : Tab} {ls : List Ds} {fn : List He.DefD} {g : Addr → Option Obj} {s : Shared} (h : ∀ a, g a = s.heap.get? a) : obsMG n T ls fn g = (hookM n T ls fn).obs s := by
  have e : g = s.heap.get? := funext h
  rw [e]
  rfl
theorem says_fs {T : Tab} {ls : List Ds} {fn : List He.DefD} {K : PySem.W.Frag} (c : SaysM T ls fn K) : fsB T ls K = true :=
  (He.ba (show (fsB T ls K && fn.all fun d => d.ok K) = true from congrArg (fun z : He.AlD => z.1) c)).1
theorem says_def {T : Tab} {ls : List Ds} {fn : List He.DefD} {K : PySem.W.Frag} (c : SaysM T ls fn K) (i : Nat) {d : He.DefD} (h : fn[i]? = some d) : ∃ fd, FunD K d.name d.qual d.params d.body d.scope (d.dvs K) (d.kws K) (He.fAd K d.at_) fd := by
  have c2 := (He.ba (show (fsB T ls K && fn.all fun d => d.ok K) = true from congrArg (fun z : He.AlD => z.1) c)).2
  have e : fn.map (fun d => He.fnW K d.at_) = fn.map He.DefD.val := congrArg (fun z : He.AlD => z.2) c
  have e2 : (fn.map fun d => He.fnW K d.at_)[i]? = (fn.map He.DefD.val)[i]? := by rw [e]
  rw [List.getElem?_map, List.getElem?_map, h] at e2
  exact He.DefD.funD (Option.some.inj e2) (List.all_eq_true.mp c2 d (List.mem_of_getElem? h))
theorem defs_ok {T : Tab} {P : Program} {ls : List Ds} {K : PySem.W.Frag} (c : SaysM T ls (dfs T P ls) K) (hd : defsB T P ls = true) : ∀ f fn, T.fns[f]? = some fn → DefOk T K (FAof ls K f) fn := fun f fn ef => by
  unfold defsB at hd
  rw [Bool.and_eq_true, decide_eq_true_eq, List.all_eq_true] at hd
  obtain ⟨hl, hd⟩ := hd
  have hf : f < ls.length := by rw [← hl]; exact (List.getElem?_eq_some_iff.mp ef).1
  have el : ls[f]? = some ls[f] := List.getElem?_eq_getElem hf
  have ez : (T.fns.zip ls)[f]? = some (fn, ls[f]) := by
    rw [List.getElem?_zip_eq_some]
    exact ⟨ef, el⟩
  have hb := hd _ (List.mem_of_getElem? ez)
  have ed : (dfs T P ls)[f]? = some (defD P fn ls[f]) := by
    unfold dfs
    rw [List.getElem?_map, ez]
    rfl
  obtain ⟨fd, F⟩ := says_def c f ed
  unfold defB at hb
  simp only [Bool.and_eq_true, decide_eq_true_eq] at hb
  obtain ⟨⟨⟨⟨b1, b2⟩, b3⟩, b4⟩, b5⟩ := hb
  have ea : FAof ls K f = He.fAd K (ls[f]).loc := by unfold FAof; rw [el]
  rw [ea]
  exact ⟨⟨fn.name, (ls[f]).qual, _, _, _, fd, F, scB_ok b1, b2, b3, b4⟩, by simpa using b5⟩
/-- THE LAW: the interpreter says true at every script -/
theorem law_of {T : Tab} {P : Program} {ls : List Ds} {n m fl : Nat} {x : Str} {fn : Fn} (hd : defsB T P ls = true) (hf : T.fns[fl]? = some fn) (hx : fn.ps = [x])
    (law : ∀ ns : List Int, ns.length ≤ m → ∃ vh, callF T (n + 1) fl [.fl (ns.map PV.int)] [] = .ok (.bl true) vh) (w : World) (mg : Str → Option Value) (h : Heap) (Y : ∃ K : PySem.W.Frag, K.In h ∧ SaysM T ls (dfs T P ls) K) (G : h.Ns mainGlobals mg) (hm : fn.meth = false) :
    ∃ (fa : Addr) (K : PySem.W.Frag) (fd : FuncData) (sp : Sp), mg fn.name = some (.ref fa) ∧ K.In h ∧ (∀ (s : Shared) (u : Value), BindsTo s fd ⟨[u], []⟩ [(x, u)]) ∧
        (∀ (H : Hp) (a : Addr) (ns : List Int), ns.length ≤ m → Only H → SqL K H a (ns.map V.int) → sp [.ref a] H (fun v _ => v = .bl true) fun _ _ _ => False) ∧
        ∀ base : Heap, K.In base → base.Ns mainGlobals mg → FnOk P w K mg base (L2.CX P w) (2 * n + 1 + 1) fa fd [x] sp := by
  obtain ⟨K, KX, c⟩ := Y
  have fs := fs_of KX G (says_fs c)
  have hD := defs_ok c hd
  have d := hD fl fn hf
  have nd := d.nd
  obtain ⟨y, qual, params, body, scope, fd0, F0, S, hp, ha, hb⟩ := d.ex
  refine ⟨FAof ls K fl, K, fd0, spF T (CAof T K) K (n + 1) fl, fs.gfn fl fn hf hm, KX, fun s u => ?_, fun H a ns hl hO hS => ?_, fun base _ _ => ?_⟩
  · have b := FunD.bindsA (ps := fn.ps) F0 fun kV doc pm an cdv ct us hl => bind_plain (fd := PySem.W.fnOf y qual params body scope .none kV doc pm an cdv ct) hp ha nd rfl hl
    have := b s [u] (by rw [hx]; rfl)
    rw [hx] at this
    exact this
  · obtain ⟨vh, e⟩ := law ns hl
    have hz : FzL K H a (ns.map V.int) := by
      rcases hS with (q | q) | q
      · rcases hO a with e | ⟨o, xs, e⟩
        · rw [e] at q; cases q
        · rw [e] at q; cases q
      · exact .inl q
      · exact .inr q
    have rr : ∀ l : List Int, RPs K [] H (l.map PV.int) (l.map V.int) := by
      intro l
      induction l with
      | nil => exact .nil
      | cons i l ih => exact .cons (.int i) ih
    refine ⟨[], [], [.fl (ns.map PV.int)], ⟨rfl, List.nodup_nil, fun i o a e _ => by cases e⟩, .cons (.fl hz (rr ns)) .nil, ⟨fn, hf, by rw [hx]; rfl⟩, ?_⟩
    rw [e]
    intro ρ' H' v _ _ _ r
    cases r
    rfl
  · have := fn_one fs (fn_all (P := P) (w := w) (base := base) fs hD n) hf d.dfl F0 S hb
    rw [hx] at this
    exact this
/-- the walk that the head wants -/
theorem walk_mini {l : PySem.W.OpenLaw} {q : Program} {loose : List Str} {XP : (Str → Option Value) → Heap → Prop} {d : DefRec} {T : Tab} {ls : List Ds} {nn n m fl : Nat} {x : Str} {fn : Fn} (hn : l.most = some m) (hs : m ≤ sizeLine) (hdf : d.params.defaults = []) (hr : Room (2 * n + 1 + 1) callerA)
    (hd : defsB T l.prog ls = true) (hf : T.fns[fl]? = some fn) (hx : fn.ps = [x]) (hm : fn.meth = false) (he : d.name = fn.name) (law : ∀ ns : List Int, ns.length ≤ m → ∃ vh, callF T (n + 1) fl [.fl (ns.map PV.int)] [] = .ok (.bl true) vh) :
    PySem.W.WalkO q loose XP (hookM nn T ls (dfs T l.prog ls)).says l.row.toRowW d [] (fun f vs => PySem.call f vs) := by
  refine Att.attach_call hn hdf fun w st0 st1 mg mb f1 ob pm cd doc a vs ns Gd says _ _ _ hmg hobj hi hlen hgens => ?_
  obtain ⟨f2, K, fd, sp, e2, hK, hb, hsp, hok⟩ := law_of hd hf hx law w mg _ says Gd.T.g hm
  have e : f2 = f1 := by
    rw [he, e2] at hmg
    cases hmg
    rfl
  subst e
  exact law_call hK Gd.T.g Gd.T.b Gd.T.builtins Gd.T.nolimit hgens hobj hi (Nat.le_trans hlen hs) hr hok hb (fun H only sq => hsp H a ns hlen only sq) fun H e s' ⟨_, _, _, _, _, _, _, _, _, _, _, _, no⟩ => no
end Mini
end T_M13

section T_L1
set_option Elab.async false
set_option linter.all false
set_option autoImplicit false
/-! Mini: reasoning about the interpreter. -/
namespace Mini
open PySem
/-- it ends well, as Q says, or raises as E says -/
def Wp {α : Type} (r : Res α) (Q : α → VH → Prop) (E : Nat → List (Str × PV) → VH → Prop) : Prop := match r with
  | .ok a vh => Q a vh
  | .exc c fs vh => E c fs vh
  | .stuck => False
abbrev XQ := Nat → List (Str × PV) → VH → Prop
abbrev X0 : XQ := fun _ _ _ => False
section
variable {α β : Type} {Q : α → VH → Prop} {E : XQ}
@[simp] theorem wp_ok (a : α) (vh : VH) : Wp (.ok a vh) Q E = Q a vh := rfl
@[simp] theorem wp_exc (c : Nat) (fs : List (Str × PV)) (vh : VH) : Wp (.exc c fs vh : Res α) Q E = E c fs vh := rfl
@[simp] theorem wp_stuck : Wp (.stuck : Res α) Q E = False := rfl
theorem Wp.mono {r : Res α} {Q' : α → VH → Prop} {E' : XQ} (h : Wp r Q E) (hq : ∀ a vh, Q a vh → Q' a vh) (he : ∀ c fs vh, E c fs vh → E' c fs vh) : Wp r Q' E' := by
  cases r with
  | ok a vh => exact hq _ _ h
  | exc c fs vh => exact he _ _ _ h
  | stuck => exact h
theorem Wp.thn {r : Res α} {Q' : α → VH → Prop} (h : Wp r Q E) (hq : ∀ a vh, Q a vh → Q' a vh) : Wp r Q' E := h.mono hq fun _ _ _ x => x
@[simp] theorem wp_bind (r : Res β) (f : β → VH → Res α) : Wp (r.bind f) Q E = Wp r (fun b vh => Wp (f b vh) Q E) E := by cases r <;> rfl
@[simp] theorem wp_bindN (r : Res β) (f : β → VH → Res α) : Wp (r.bindN f) Q E = Wp r (fun b vh => Wp (f b vh) Q E) X0 := by cases r <;> rfl
theorem Wp.ex {r : Res α} (h : Wp r Q X0) : ∃ a vh, r = .ok a vh ∧ Q a vh := by
  cases r with
  | ok a vh => exact ⟨a, vh, rfl, h⟩
  | exc c fs vh => exact h.elim
  | stuck => exact h.elim
end
section
variable {α : Type} {Q : Fl → VH → Prop} {E : XQ}
@[simp] theorem wp_bindS (r : Res α) (env : Env) (f : α → VH → Res Fl) : Wp (r.bindS env f) Q E = Wp r (fun b vh => Wp (f b vh) Q E) (fun c fs vh => Q (.ex c fs env) vh) := by cases r <;> rfl
end
@[simp] theorem wp_o {α : Type} {Q : α → VH → Prop} {E : XQ} (p : α) (vh : VH) : Wp (Res.o (some (p, vh))) Q E = Q p vh := rfl
@[simp] theorem wp_ofB {Q : PV → VH → Prop} {E : XQ} (b : Bool) (vh : VH) : Wp (Res.ofB (some b) vh) Q E = Q (.bl b) vh := rfl
@[simp] theorem wp_asB {Q : Bool → VH → Prop} {E : XQ} (b : Bool) (vh : VH) : Wp (asB (.bl b) vh) Q E = Q b vh := rfl
@[simp] theorem bindS_ok {α : Type} (a : α) (vh : VH) (env : Env) (f : α → VH → Res Fl) : (Res.ok a vh).bindS env f = f a vh := rfl
@[simp] theorem res_o {α : Type} (p : α) (vh : VH) : Res.o (some (p, vh)) = .ok p vh := rfl
@[simp] theorem res_ofB (b : Bool) (vh : VH) : Res.ofB (some b) vh = .ok (.bl b) vh := rfl
@[simp] theorem asB_bl (b : Bool) (vh : VH) : asB (.bl b) vh = .ok b vh := rfl
/-! ### heaps -/
structure Kp (S : List Nat) (vh vh' : VH) : Prop where
  len : vh.length ≤ vh'.length
  at_ : ∀ i, i < vh.length → i ∉ S → vh'[i]? = vh[i]?
theorem Kp.refl (S : List Nat) (vh : VH) : Kp S vh vh := ⟨Nat.le_refl _, fun _ _ _ => rfl⟩
theorem lt_at {vh : VH} {i : Nat} {o : VO} (h : vh[i]? = some o) : i < vh.length := (List.getElem?_eq_some_iff.mp h).1
theorem Kp.get {S : List Nat} {vh vh' : VH} (k : Kp S vh vh') {i : Nat} {o : VO} (h : vh[i]? = some o) (hn : i ∉ S) : vh'[i]? = some o := by rw [k.at_ i (lt_at h) hn]; exact h
theorem Kp.trans {S : List Nat} {v1 v2 v3 : VH} (a : Kp S v1 v2) (b : Kp S v2 v3) : Kp S v1 v3 :=
  ⟨Nat.le_trans a.len b.len, fun i hi hn => (b.at_ i (Nat.lt_of_lt_of_le hi a.len) hn).trans (a.at_ i hi hn)⟩
theorem Kp.mono {S S' : List Nat} {v1 v2 : VH} (a : Kp S v1 v2) (h : ∀ i, i < v1.length → i ∈ S → i ∈ S') : Kp S' v1 v2 := ⟨a.len, fun i hi hn => a.at_ i hi fun m => hn (h i hi m)⟩
theorem Kp.app {S : List Nat} {vh : VH} (o : VO) : Kp S vh (vh ++ [o]) := ⟨by simp, fun i hi _ => by rw [List.getElem?_append_left hi]⟩
theorem Kp.set {S : List Nat} {vh : VH} {a : Nat} {o : VO} (h : a ∈ S) : Kp S vh (vh.set a o) := ⟨by simp, fun i hi hn => by rw [List.getElem?_set_ne (fun (e : a = i) => hn (e ▸ h))]⟩
/-- what is younger may change -/
theorem Kp.set_new {S : List Nat} {v0 vh : VH} {a : Nat} {o : VO} (k : Kp S v0 vh) (h : v0.length ≤ a) : Kp S v0 (vh.set a o) := ⟨by simp [k.len], fun i hi hn => by rw [List.getElem?_set_ne (by omega)]; exact k.at_ i hi hn⟩
theorem at_app {vh : VH} {i : Nat} {o u : VO} (h : vh[i]? = some o) : (vh ++ [u])[i]? = some o := by rw [List.getElem?_append_left (lt_at h)]; exact h
theorem at_new (vh : VH) (o : VO) : (vh ++ [o])[vh.length]? = some o := by simp
theorem at_set {vh : VH} {i : Nat} {o u : VO} (h : vh[i]? = some o) : (vh.set i u)[i]? = some u := List.getElem?_set_self (lt_at h)
theorem at_ne {vh : VH} {i j : Nat} {u : VO} (h : i ≠ j) : (vh.set i u)[j]? = vh[j]? := List.getElem?_set_ne h
/-! ### loops -/
theorem wp_while {test : Env → VH → Res PV} {body : Env → VH → Res Fl} {Q : Fl → VH → Prop} {E : XQ} (I : Nat → Env → VH → Prop)
    (turn : ∀ m env vh, I m env vh → Wp (test env vh) (fun p vh1 => ∃ b, p = .bl b ∧ if b = true then Wp (body env vh1) (fun f vh2 => match f with
      | .nx e => ∃ m', m' < m ∧ I m' e vh2
      | .ct e => ∃ m', m' < m ∧ I m' e vh2
      | .bk e => Q (.nx e) vh2
      | f => Q f vh2) E else Q (.nx env) vh1) (fun c fs vh1 => Q (.ex c fs env) vh1)) :
    ∀ (n m : Nat) (env : Env) (vh : VH), m < n → I m env vh → Wp (whileLoop test body n env vh) Q E
  | 0, m, _, _, h, _ => absurd h (Nat.not_lt_zero _)
  | n + 1, m, env, vh, h, i => by
    unfold whileLoop
    rw [wp_bindS, wp_bind]
    refine (turn m env vh i).thn fun p vh1 ⟨b, e, q⟩ => ?_
    subst e
    rw [wp_asB]
    cases b with
    | false => exact q
    | true =>
      rw [if_pos rfl] at q
      dsimp only
      rw [wp_bind]
      refine q.thn fun f vh2 q2 => ?_
      cases f with
      | nx e => obtain ⟨m', hm, i'⟩ := q2; exact wp_while I turn n m' e vh2 (by omega) i'
      | ct e => obtain ⟨m', hm, i'⟩ := q2; exact wp_while I turn n m' e vh2 (by omega) i'
      | bk e => exact q2
      | rt p => exact q2
      | ex c fs e => exact q2
theorem wp_for {src : Src} {bind : PV → Env → VH → Option Env} {body : Env → VH → Res Fl} {Q : Fl → VH → Prop} {E : XQ} {xs : List PV} (I : Nat → Env → VH → Prop) (items : ∀ k env vh, I k env vh → itemAt vh src k = some xs[k]?)
    (turn : ∀ k env vh p, I k env vh → xs[k]? = some p → ∃ env1, bind p env vh = some env1 ∧ Wp (body env1 vh) (fun f vh2 => match f with
      | .nx e => I (k + 1) e vh2
      | .ct e => I (k + 1) e vh2
      | .bk e => Q (.nx e) vh2
      | f => Q f vh2) E) (stop : ∀ env vh, I xs.length env vh → Q (.nx env) vh) :
    ∀ (n k : Nat) (env : Env) (vh : VH), k + n = xs.length → I k env vh → Wp (forLoop src bind body n k env vh) Q E
  | 0, k, env, vh, h, i => by
    unfold forLoop
    rw [items k env vh i, List.getElem?_eq_none (by omega)]
    have : k = xs.length := by omega
    subst this
    exact stop env vh i
  | n + 1, k, env, vh, h, i => by
    have hk : k < xs.length := by omega
    unfold forLoop
    rw [items k env vh i, List.getElem?_eq_getElem hk]
    dsimp only
    obtain ⟨env1, e1, q⟩ := turn k env vh xs[k] i (List.getElem?_eq_getElem hk)
    rw [e1]
    dsimp only
    rw [wp_bind]
    refine q.thn fun f vh2 q2 => ?_
    cases f with
    | nx e => exact wp_for I items turn stop n (k + 1) e vh2 (by omega) q2
    | ct e => exact wp_for I items turn stop n (k + 1) e vh2 (by omega) q2
    | bk e => exact q2
    | rt p => exact q2
    | ex c fs e => exact q2
theorem wp_lc {src : Src} {D : Nat} {step : PV → VH → Res (Option PV)} {Q : PV → VH → Prop} {E : XQ} {xs : List PV} (I : Nat → List PV → VH → Prop) (items : ∀ k acc vh, I k acc vh → vh[D]? = some (.lst acc) → itemAt vh src k = some xs[k]?)
    (turn : ∀ k acc vh p, I k acc vh → vh[D]? = some (.lst acc) → xs[k]? = some p → Wp (step p vh) (fun r vh1 => vh1[D]? = some (.lst acc) ∧ match r with
      | none => I (k + 1) acc vh1
      | some y => acc.length < sizeLine ∧ I (k + 1) (acc ++ [y]) (vh1.set D (.lst (acc ++ [y])))) X0) (stop : ∀ acc vh, I xs.length acc vh → vh[D]? = some (.lst acc) → Q (.ref D) vh) :
    ∀ (n k : Nat) (acc : List PV) (vh : VH), k + n = xs.length → I k acc vh → vh[D]? = some (.lst acc) → Wp (lcLoop src D step n k vh) Q E
  | 0, k, acc, vh, h, i, hD => by
    unfold lcLoop
    rw [items k acc vh i hD, List.getElem?_eq_none (by omega)]
    have : k = xs.length := by omega
    subst this
    exact stop acc vh i hD
  | n + 1, k, acc, vh, h, i, hD => by
    have hk : k < xs.length := by omega
    unfold lcLoop
    rw [items k acc vh i hD, List.getElem?_eq_getElem hk]
    dsimp only
    rw [wp_bindN]
    refine (turn k acc vh xs[k] i hD (List.getElem?_eq_getElem hk)).mono (fun r vh1 ⟨q1, q2⟩ => ?_) fun _ _ _ x => x
    cases r with
    | none => exact wp_lc I items turn stop n (k + 1) acc vh1 (by omega) q2 q1
    | some y =>
      dsimp only at q2 ⊢
      rw [q1]
      dsimp only
      rw [if_pos q2.1]
      exact wp_lc I items turn stop n (k + 1) (acc ++ [y]) _ (by omega) q2.2 (at_set q1)
/-! ### calls -/
theorem wp_call {T : Tab} {n f : Nat} {fn : Fn} {ps : List PV} {vh : VH} {Q : PV → VH → Prop} {E : XQ} (hf : T.fns[f]? = some fn) (hl : ps.length = fn.ps.length)
    (h : Wp (evSs T (callF T n) fn.body (ps.map some ++ List.replicate (fn.N.length - ps.length) none) vh) (fun f vh1 => match f with
      | .nx _ => Q .non vh1
      | .rt p => Q p vh1
      | .ex c fs _ => E c fs vh1
      | _ => False) X0) : Wp (callF T (n + 1) f ps vh) Q E := by
  unfold callF
  rw [hf]
  dsimp only
  unfold runFn
  dsimp only
  have e : fn.dfl.drop (fn.dfl.length + ps.length - fn.ps.length) = [] := by rw [hl]; simp
  rw [e, List.append_nil, if_pos hl, wp_bindN]
  refine h.mono (fun fl vh1 q => ?_) fun _ _ _ x => x
  cases fl <;> first | exact q | exact q.elim
/-! ### values -/
@[simp] theorem eq_int (vh : VH) (i j : Int) : eqP vh (.int i) (.int j) = some (decide (i = j)) := by
  show some (i == j) = _
  rw [show (i == j) = decide (i = j) from rfl]
@[simp] theorem len_lst {vh : VH} {a : Nat} {xs : List PV} (h : vh[a]? = some (.lst xs)) : lenP (.ref a) vh = some (.int xs.length, vh) := by
  unfold lenP
  dsimp only
  rw [h]
@[simp] theorem at_nat {α : Type} (xs : List α) (k : Nat) : L2.atI xs (k : Int) = xs[k]? := by
  unfold L2.atI L2.ixN
  rw [if_pos (by omega)]
  by_cases h : k < xs.length
  · rw [if_pos (by omega)]
    simp
  · rw [if_neg (by omega), List.getElem?_eq_none (by omega)]
    rfl
@[simp] theorem at_zero {α : Type} (xs : List α) : L2.atI xs 0 = xs[0]? := at_nat xs 0
@[simp] theorem at_one {α : Type} (xs : List α) : L2.atI xs 1 = xs[1]? := at_nat xs 1
theorem idx_lst {vh : VH} {a : Nat} {xs : List PV} {k : Nat} {y : PV} (h : vh[a]? = some (.lst xs)) (hy : xs[k]? = some y) : idxP (.ref a) (.int k) vh = some (y, vh) := by
  unfold idxP
  dsimp only
  rw [h]
  dsimp only
  show (match L2.atI xs (k : Int) with | some y => some (y, vh) | none => none) = _
  rw [at_nat, hy]
theorem pop_lst {vh : VH} {l j : Nat} {xs : List PV} (h : vh[l]? = some (.lst xs)) (hj : j < xs.length) (h63 : (j : Int) < 2 ^ 63) : bmt "pop" (.ref l) [.int j] vh = some (xs[j], vh.set l (.lst (xs.eraseIdx j))) := by
  unfold bmt
  dsimp only
  rw [h]
  dsimp only
  rw [if_neg (by decide), if_neg (by decide), if_pos rfl, if_pos ⟨by omega, h63⟩]
  simp [hj]
theorem append_lst {vh : VH} {l : Nat} {xs : List PV} {p : PV} (h : vh[l]? = some (.lst xs)) (hl : xs.length < sizeLine) : bmt "append" (.ref l) [p] vh = some (.non, vh.set l (.lst (xs ++ [p]))) := by
  unfold bmt
  dsimp only
  rw [h]
  dsimp only
  rw [if_pos rfl, if_pos hl]
theorem extend_lst {vh : VH} {l m : Nat} {xs ys : List PV} (h : vh[l]? = some (.lst xs)) (h2 : vh[m]? = some (.lst ys)) (hne : l ≠ m) (hl : xs.length + ys.length ≤ sizeLine) : bmt "extend" (.ref l) [.ref m] vh = some (.non, vh.set l (.lst (xs ++ ys))) := by
  unfold bmt
  dsimp only
  rw [h]
  dsimp only
  rw [if_neg (by decide), if_pos rfl]
  show (match vh[m]? with | some (.lst ys) => if l ≠ m ∧ xs.length + ys.length ≤ sizeLine then some (PV.non, vh.set l (.lst (xs ++ ys))) else none | _ => none) = _
  rw [h2]
  dsimp only
  rw [if_pos ⟨hne, hl⟩]
theorem isLst_of {vh : VH} {l : Nat} {xs : List PV} (h : vh[l]? = some (.lst xs)) : isLst vh (.ref l) = true := by
  unfold isLst
  dsimp only
  rw [h]
theorem size_1000 : 1000 ≤ sizeLine := by decide
/-! ### slices -/
theorem cut_drop (xs : List PV) (k : Nat) : cutP xs (some (k : Int)) none = xs.drop k := by
  unfold cutP
  rw [HT.sIx_nat, HT.sIx_none]
  by_cases h : k ≤ xs.length
  · rw [Nat.min_eq_left h, List.take_of_length_le (by simp)]
  · rw [Nat.min_eq_right (by omega), List.drop_of_length_le (Nat.le_refl _), List.drop_of_length_le (by omega)]
    simp
theorem cut_tail (xs : List PV) : cutP xs (some 1) none = xs.tail := by
  have := cut_drop xs 1
  rw [List.drop_one] at this
  exact this
theorem cut_take (xs : List PV) (k : Nat) : cutP xs none (some (k : Int)) = xs.take k := by
  unfold cutP
  rw [HT.sIx_nat, HT.sIx_none]
  simp only [List.drop_zero, Nat.sub_zero]
  by_cases h : k ≤ xs.length
  · rw [Nat.min_eq_left h]
  · rw [Nat.min_eq_right (by omega), List.take_of_length_le (Nat.le_refl _), List.take_of_length_le (by omega)]
theorem sl_lst {vh : VH} {l : Nat} {xs : List PV} {lo hi : Option Int} (h : vh[l]? = some (.lst xs)) (hz : (cutP xs lo hi).length ≤ sizeLine) : slP (.ref l) lo hi vh = some (.ref vh.length, vh ++ [.lst (cutP xs lo hi)]) := by
  unfold slP
  dsimp only
  rw [h]
  dsimp only
  unfold newL
  rw [if_pos hz]
  rfl
theorem src_lst {vh : VH} {l : Nat} {xs : List PV} (h : vh[l]? = some (.lst xs)) : srcOf vh (.ref l) = some (.ls l) := by
  unfold srcOf
  dsimp only
  rw [h]
theorem len_ls {vh : VH} {l : Nat} {xs : List PV} (h : vh[l]? = some (.lst xs)) : (Src.ls l).len vh = xs.length := by
  unfold Src.len
  rw [h]
theorem item_ls {vh : VH} {l k : Nat} {xs : List PV} (h : vh[l]? = some (.lst xs)) : itemAt vh (.ls l) k = some xs[k]? := by
  unfold itemAt
  rw [h]
theorem perm_map {α β : Type} {f : α → β} {g : β → α} (h : ∀ x, g (f x) = x) {ys : List β} {l : List α} (p : ys.Perm (l.map f)) : ∃ ws : List α, ys = ws.map f ∧ ws.Perm l := by
  refine ⟨ys.map g, ?_, ?_⟩
  · rw [List.map_map]
    have : ∀ y ∈ ys, (f ∘ g) y = y := fun y hy => by
      obtain ⟨x, _, rfl⟩ := List.mem_map.mp (p.subset hy)
      simp [h]
    rw [List.map_congr_left this, List.map_id']
  · have q := p.map g
    rw [List.map_map] at q
    have e : l.map (g ∘ f) = l := by
      have : ∀ x ∈ l, (g ∘ f) x = id x := fun x _ => h x
      rw [List.map_congr_left this, List.map_id]
    rw [e] at q
    exact q
def strOf : PV → Str
  | .str s => s
  | _ => Str.empty
/-- a comprehension whose parts change nothing -/
theorem lc_pure {src : Src} {xs : List PV} {v0 : VH} {step : PV → VH → Res (Option PV)} (f : PV → Option PV) (items : ∀ v, Kp [] v0 v → ∀ k, itemAt v src k = some xs[k]?) (hstep : ∀ p ∈ xs, ∀ v, Kp [] v0 v → Wp (step p v) (fun r v1 => r = f p ∧ Kp [] v v1) X0) (hz : xs.length ≤ sizeLine) :
    Wp (lcLoop src v0.length step xs.length 0 (v0 ++ [.lst []])) (fun p v => p = .ref v0.length ∧ v[v0.length]? = some (.lst (xs.filterMap f)) ∧ Kp [] v0 v) X0 := by
  refine wp_lc (xs := xs) (fun k acc v => k ≤ xs.length ∧ acc = (xs.take k).filterMap f ∧ Kp [] v0 v) (fun k acc v ⟨_, _, h⟩ _ => items v h k) (fun k acc v p ⟨h0, ha, h⟩ hD hp => ?_) (fun acc v ⟨_, ha, h⟩ hD => ?_) _ 0 [] _ (by simp) ⟨Nat.zero_le _, by simp, Kp.app _⟩ (at_new _ _)
  · obtain ⟨hk, e⟩ := List.getElem?_eq_some_iff.mp hp
    refine (hstep p (List.mem_of_getElem? hp) v h).thn fun r v1 ⟨hr, h1⟩ => ?_
    subst hr
    have hD1 := h1.get hD (by simp)
    refine ⟨hD1, ?_⟩
    have ht : xs.take (k + 1) = xs.take k ++ [p] := by rw [← e]; exact (List.take_append_getElem hk).symm
    cases ef : f p with
    | none => exact ⟨hk, by rw [ht, List.filterMap_append, ← ha]; simp [ef], h.trans h1⟩
    | some y =>
      refine ⟨?_, hk, by rw [ht, List.filterMap_append, ← ha]; simp [ef], (h.trans h1).set_new (Nat.le_refl _)⟩
      rw [ha]
      have := List.length_filterMap_le f (xs.take k)
      rw [List.length_take] at this
      omega
  · rw [List.take_length] at ha
    exact ⟨rfl, by rw [← ha]; exact hD, h⟩
end Mini
end T_L1

section T_IR
set_option maxRecDepth 100000
set_option autoImplicit false
set_option linter.all false
namespace Mini
open PySem
abbrev f_is_word : Nat := 0
abbrev f_is_list : Nat := 1
abbrev f_is_number : Nat := 2
abbrev f_frozen_rows : Nat := 3
abbrev f_is_row : Nat := 4
abbrev f_row_read : Nat := 5
abbrev f_Language___init__ : Nat := 6
abbrev f_Language_children : Nat := 7
abbrev f_Language_is_tree : Nat := 8
abbrev f_Language___len__ : Nat := 9
abbrev f_Language___eq__ : Nat := 10
abbrev f_Language_text : Nat := 11
abbrev f__law_fresh : Nat := 12
abbrev f__law_take : Nat := 13
abbrev f__law_one : Nat := 14
abbrev f__law_mix : Nat := 15
abbrev f__law_same : Nat := 16
abbrev f__law_words : Nat := 17
abbrev f__law_rows : Nat := 18
abbrev f__law_many : Nat := 19
abbrev f__law_labels : Nat := 20
abbrev f__law_tree : Nat := 21
abbrev f__law_places : Nat := 22
abbrev f__law_at : Nat := 23
abbrev f__law_put : Nat := 24
abbrev f__law_loose : Nat := 25
abbrev f__law_is_tree : Nat := 26
abbrev f__law_spoilt : Nat := 27
abbrev f_law : Nat := 28
def s_is_word_1 : Sm := .ret (.con (.bl false))
def b_is_word_1 : Sms := .cons s_is_word_1 .nil
def s_is_word_0 : Sm := .ite (.or2 (.not (.isi (.var 0) [.str])) (.or2 (.cmp .Lt (.blt "len" (.cons (.var 0) .nil)) (.con (.int 1))) (.cmp .Gt (.blt "len" (.cons (.var 0) .nil)) (.con (.int 8))))) b_is_word_1 .nil
def x_is_word_0 : Ex := (.cmp .In (.var 1) (.glo "LETTERS" (.str "abcdefghijklmnopqrstuvwxyz")))
def c_is_word_0 : Ex := .lc x_is_word_0 (.nm 1) (.val (.var 0)) .nil [1]
def s_is_word_2 : Sm := .ret (.blt "all" (.cons c_is_word_0 .nil))
def b_is_word_2 : Sms := .cons s_is_word_2 .nil
def b_is_word_0 : Sms := .cons s_is_word_0 b_is_word_2
def df_is_word : Fn := ⟨"is_word", false, ["thing"], ["thing", "sign"], [], b_is_word_0⟩
def s_is_list_0 : Sm := .ret (.isi (.var 0) [.list, .tuple])
def b_is_list_0 : Sms := .cons s_is_list_0 .nil
def df_is_list : Fn := ⟨"is_list", false, ["thing"], ["thing"], [], b_is_list_0⟩
def s_is_number_0 : Sm := .ret (.and2 (.isi (.var 0) [.int]) (.not (.isi (.var 0) [.bool])))
def b_is_number_0 : Sms := .cons s_is_number_0 .nil
def df_is_number : Fn := ⟨"is_number", false, ["thing"], ["thing"], [], b_is_number_0⟩
def s_frozen_rows_1 : Sm := .rai 1 (.cons (.con (.int 0)) .nil)
def b_frozen_rows_1 : Sms := .cons s_frozen_rows_1 .nil
def s_frozen_rows_0 : Sm := .ite (.not (.call f_is_list (.cons (.var 0) .nil))) b_frozen_rows_1 .nil
def s_frozen_rows_2 : Sm := .asg (.nm 1) (.lst .nil)
def x_frozen_rows_0 : Ex := (.var 4)
def c_frozen_rows_0 : Ex := .lc x_frozen_rows_0 (.tp [4, 5]) (.val (.var 1)) .nil [4, 5]
def s_frozen_rows_5 : Sm := .rai 1 (.cons (.var 2) .nil)
def b_frozen_rows_5 : Sms := .cons s_frozen_rows_5 .nil
def s_frozen_rows_4 : Sm := .ite (.or2 (.not (.call f_is_row (.cons (.var 3) .nil))) (.cmp .In (.idx (.var 3) (.con (.int 0))) c_frozen_rows_0)) b_frozen_rows_5 .nil
def s_frozen_rows_6 : Sm := .exp (.bmt "append" (.var 1) (.cons (.tup (.cons (.idx (.var 3) (.con (.int 0))) (.cons (.idx (.var 3) (.con (.int 1))) .nil))) .nil))
def b_frozen_rows_6 : Sms := .cons s_frozen_rows_6 .nil
def b_frozen_rows_4 : Sms := .cons s_frozen_rows_4 b_frozen_rows_6
def s_frozen_rows_3 : Sm := .for (.tp [2, 3]) (.enum (.var 0)) b_frozen_rows_4
def x_frozen_rows_1 : Ex := (.cmp .Eq (.var 5) (.con (.int 0)))
def c_frozen_rows_1 : Ex := .lc x_frozen_rows_1 (.tp [4, 5]) (.val (.var 1)) .nil [4, 5]
def s_frozen_rows_8 : Sm := .rai 1 (.cons (.blt "len" (.cons (.var 1) .nil)) .nil)
def b_frozen_rows_8 : Sms := .cons s_frozen_rows_8 .nil
def s_frozen_rows_7 : Sm := .ite (.not (.blt "any" (.cons c_frozen_rows_1 .nil))) b_frozen_rows_8 .nil
def s_frozen_rows_9 : Sm := .ret (.blt "tuple" (.cons (.var 1) .nil))
def b_frozen_rows_9 : Sms := .cons s_frozen_rows_9 .nil
def b_frozen_rows_7 : Sms := .cons s_frozen_rows_7 b_frozen_rows_9
def b_frozen_rows_3 : Sms := .cons s_frozen_rows_3 b_frozen_rows_7
def b_frozen_rows_2 : Sms := .cons s_frozen_rows_2 b_frozen_rows_3
def b_frozen_rows_0 : Sms := .cons s_frozen_rows_0 b_frozen_rows_2
def df_frozen_rows : Fn := ⟨"frozen_rows", false, ["rows"], ["rows", "found", "index", "row", "label", "many"], [], b_frozen_rows_0⟩
def s_is_row_1 : Sm := .ret (.con (.bl false))
def b_is_row_1 : Sms := .cons s_is_row_1 .nil
def s_is_row_0 : Sm := .ite (.or2 (.not (.call f_is_list (.cons (.var 0) .nil))) (.or2 (.cmp .NotEq (.blt "len" (.cons (.var 0) .nil)) (.con (.int 2))) (.or2 (.not (.call f_is_word (.cons (.idx (.var 0) (.con (.int 0))) .nil))) (.cmp .Eq (.idx (.var 0) (.con (.int 0))) (.glo "KEEP" (.str "keep")))))) b_is_row_1 .nil
def s_is_row_2 : Sm := .ret (.and2 (.call f_is_number (.cons (.idx (.var 0) (.con (.int 1))) .nil)) (.cmp2 .LtE .LtE (.con (.int 0)) (.idx (.var 0) (.con (.int 1))) (.con (.int 2))))
def b_is_row_2 : Sms := .cons s_is_row_2 .nil
def b_is_row_0 : Sms := .cons s_is_row_0 b_is_row_2
def df_is_row : Fn := ⟨"is_row", false, ["thing"], ["thing"], [], b_is_row_0⟩
def s_row_read_0 : Sm := .asg (.nm 1) .nev
def s_row_read_2 : Sm := .ret (.con (.non))
def b_row_read_2 : Sms := .cons s_row_read_2 .nil
def s_row_read_1 : Sm := .ite (.or2 (.cmp .NotEq (.blt "len" (.cons (.var 1) .nil)) (.con (.int 2))) (.or2 (.not (.call f_is_word (.cons (.idx (.var 1) (.con (.int 0))) .nil))) (.cmp .NotIn (.idx (.var 1) (.con (.int 1))) (.tup (.cons (.con (.str "0")) (.cons (.con (.str "1")) (.cons (.con (.str "2")) .nil))))))) b_row_read_2 .nil
def s_row_read_3 : Sm := .ret (.tup (.cons (.idx (.var 1) (.con (.int 0))) (.cons (.blt "int" (.cons (.idx (.var 1) (.con (.int 1))) .nil)) .nil)))
def b_row_read_3 : Sms := .cons s_row_read_3 .nil
def b_row_read_1 : Sms := .cons s_row_read_1 b_row_read_3
def b_row_read_0 : Sms := .cons s_row_read_0 b_row_read_1
def df_row_read : Fn := ⟨"row_read", false, ["line"], ["line", "words"], [], b_row_read_0⟩
def s_Language___init___0 : Sm := .setf (.var 0) "rows" (.call f_frozen_rows (.cons (.var 1) .nil))
def x_Language___init___0 : Ex := (.var 2)
def c_Language___init___0 : Ex := .lc x_Language___init___0 (.tp [2, 3]) (.val (.fld (.var 0) "rows")) .nil [2, 3]
def s_Language___init___1 : Sm := .setf (.var 0) "labels" (.bin .Add (.blt "tuple" (.cons c_Language___init___0 .nil)) (.tup (.cons (.glo "KEEP" (.str "keep")) .nil)))
def s_Language___init___2 : Sm := .setf (.var 0) "many" (.dsum (.fld (.var 0) "rows") (.tup (.cons (.tup (.cons (.glo "KEEP" (.str "keep")) (.cons (.con (.int 1)) .nil))) .nil)))
def b_Language___init___2 : Sms := .cons s_Language___init___2 .nil
def b_Language___init___1 : Sms := .cons s_Language___init___1 b_Language___init___2
def b_Language___init___0 : Sms := .cons s_Language___init___0 b_Language___init___1
def df_Language___init__ : Fn := ⟨"__init__", true, ["self", "rows"], ["self", "rows", "label", "many"], [], b_Language___init___0⟩
def s_Language_children_1 : Sm := .rai 2 (.cons (.var 1) .nil)
def b_Language_children_1 : Sms := .cons s_Language_children_1 .nil
def s_Language_children_0 : Sm := .ite (.or2 (.not (.isi (.var 1) [.str])) (.cmp .NotIn (.var 1) (.fld (.var 0) "many"))) b_Language_children_1 .nil
def s_Language_children_2 : Sm := .ret (.idx (.fld (.var 0) "many") (.var 1))
def b_Language_children_2 : Sms := .cons s_Language_children_2 .nil
def b_Language_children_0 : Sms := .cons s_Language_children_0 b_Language_children_2
def df_Language_children : Fn := ⟨"children", true, ["self", "label"], ["self", "label"], [], b_Language_children_0⟩
def s_Language_is_tree_1 : Sm := .ret (.con (.bl false))
def b_Language_is_tree_1 : Sms := .cons s_Language_is_tree_1 .nil
def s_Language_is_tree_0 : Sm := .ite (.or2 (.not (.call f_is_list (.cons (.var 1) .nil))) (.or2 (.cmp .Eq (.blt "len" (.cons (.var 1) .nil)) (.con (.int 0))) (.or2 (.not (.isi (.idx (.var 1) (.con (.int 0))) [.str])) (.cmp .NotIn (.idx (.var 1) (.con (.int 0))) (.fld (.var 0) "many"))))) b_Language_is_tree_1 .nil
def s_Language_is_tree_3 : Sm := .ret (.con (.bl false))
def b_Language_is_tree_3 : Sms := .cons s_Language_is_tree_3 .nil
def s_Language_is_tree_2 : Sm := .ite (.cmp .NotEq (.blt "len" (.cons (.var 1) .nil)) (.bin .Add (.idx (.fld (.var 0) "many") (.idx (.var 1) (.con (.int 0)))) (.con (.int 1)))) b_Language_is_tree_3 .nil
def x_Language_is_tree_0 : Ex := (.omt "is_tree" (.var 0) (.cons (.var 2) .nil))
def c_Language_is_tree_0 : Ex := .lc x_Language_is_tree_0 (.nm 2) (.val (.sl (.var 1) (.con (.int 1)) .absent)) .nil [2]
def s_Language_is_tree_4 : Sm := .ret (.blt "all" (.cons c_Language_is_tree_0 .nil))
def b_Language_is_tree_4 : Sms := .cons s_Language_is_tree_4 .nil
def b_Language_is_tree_2 : Sms := .cons s_Language_is_tree_2 b_Language_is_tree_4
def b_Language_is_tree_0 : Sms := .cons s_Language_is_tree_0 b_Language_is_tree_2
def df_Language_is_tree : Fn := ⟨"is_tree", true, ["self", "thing"], ["self", "thing", "child"], [], b_Language_is_tree_0⟩
def s_Language___len___0 : Sm := .ret (.blt "len" (.cons (.fld (.var 0) "rows") .nil))
def b_Language___len___0 : Sms := .cons s_Language___len___0 .nil
def df_Language___len__ : Fn := ⟨"__len__", true, ["self"], ["self"], [], b_Language___len___0⟩
def s_Language___eq___0 : Sm := .ret (.and2 (.isi (.var 1) [.own 4]) (.cmp .Eq (.fld (.var 0) "rows") (.fld (.var 1) "rows")))
def b_Language___eq___0 : Sms := .cons s_Language___eq___0 .nil
def df_Language___eq__ : Fn := ⟨"__eq__", true, ["self", "other"], ["self", "other"], [], b_Language___eq___0⟩
def s_Language_text_0 : Sm := .ret .nev
def b_Language_text_0 : Sms := .cons s_Language_text_0 .nil
def df_Language_text : Fn := ⟨"text", true, ["self"], ["self", "label", "many"], [], b_Language_text_0⟩
def s__law_fresh_0 : Sm := .ret (.lst (.cons (.blt "list" (.cons (.sl (.var 0) .absent (.con (.int 40))) .nil)) (.cons (.con (.int 0)) (.cons (.con (.int 0)) (.cons (.con (.int 0)) (.cons (.con (.int 0)) .nil))))))
def b__law_fresh_0 : Sms := .cons s__law_fresh_0 .nil
def df__law_fresh : Fn := ⟨"_law_fresh", false, ["_law_script"], ["_law_script"], [], b__law_fresh_0⟩
def s__law_take_0 : Sm := .seti (.var 0) (.con (.int 4)) (.bin .Add (.idx (.var 0) (.con (.int 4))) (.con (.int 1)))
def t__law_take_2 : Ex := (.and2 (.cmp .Eq (.idx (.var 0) (.con (.int 2))) (.con (.int 0))) (.cmp .Lt (.idx (.var 0) (.con (.int 1))) (.blt "len" (.cons (.idx (.var 0) (.con (.int 0))) .nil))))
def s__law_take_2 : Sm := .asg (.nm 2) (.blt "abs" (.cons (.idx (.idx (.var 0) (.con (.int 0))) (.idx (.var 0) (.con (.int 1)))) .nil))
def s__law_take_3 : Sm := .seti (.var 0) (.con (.int 1)) (.bin .Add (.idx (.var 0) (.con (.int 1))) (.con (.int 1)))
def s__law_take_5 : Sm := .seti (.var 0) (.con (.int 2)) (.var 2)
def b__law_take_5 : Sms := .cons s__law_take_5 .nil
def s__law_take_6 : Sm := .seti (.var 0) (.con (.int 3)) (.bin .Mod (.blt "int" (.cons (.bin .Add (.bin .Add (.bin .Mult (.idx (.var 0) (.con (.int 3))) (.con (.int 131))) (.var 2)) (.con (.int 1))) .nil)) (.con (.int 2147483647)))
def b__law_take_6 : Sms := .cons s__law_take_6 .nil
def s__law_take_4 : Sm := .ite (.cmp .GtE (.var 2) (.bin .Pow (.con (.int 10)) (.con (.int 18)))) b__law_take_5 b__law_take_6
def b__law_take_4 : Sms := .cons s__law_take_4 .nil
def b__law_take_3 : Sms := .cons s__law_take_3 b__law_take_4
def b__law_take_2 : Sms := .cons s__law_take_2 b__law_take_3
def s__law_take_1 : Sm := .whl t__law_take_2 b__law_take_2
def s__law_take_8 : Sm := .asg (.nm 3) (.bin .Mod (.blt "int" (.cons (.idx (.var 0) (.con (.int 2))) .nil)) (.var 1))
def s__law_take_9 : Sm := .seti (.var 0) (.con (.int 2)) (.bin .FloorDiv (.idx (.var 0) (.con (.int 2))) (.var 1))
def s__law_take_10 : Sm := .ret (.var 3)
def b__law_take_10 : Sms := .cons s__law_take_10 .nil
def b__law_take_9 : Sms := .cons s__law_take_9 b__law_take_10
def b__law_take_8 : Sms := .cons s__law_take_8 b__law_take_9
def s__law_take_7 : Sm := .ite (.cmp .Gt (.idx (.var 0) (.con (.int 2))) (.con (.int 0))) b__law_take_8 .nil
def s__law_take_11 : Sm := .asg (.nm 4) (.bin .Mod (.blt "int" (.cons (.bin .Pow (.bin .Add (.bin .Add (.idx (.var 0) (.con (.int 3))) (.bin .Mult (.con (.int 7919)) (.idx (.var 0) (.con (.int 4))))) (.con (.int 5))) (.con (.int 3))) .nil)) (.con (.int 1000000007)))
def s__law_take_12 : Sm := .asg (.nm 5) (.bin .Mod (.blt "int" (.cons (.bin .Pow (.bin .Add (.var 4) (.bin .Mult (.con (.int 31)) (.idx (.var 0) (.con (.int 4))))) (.con (.int 3))) .nil)) (.con (.int 998244353)))
def s__law_take_13 : Sm := .ret (.bin .Mod (.blt "int" (.cons (.bin .FloorDiv (.var 5) (.con (.int 3))) .nil)) (.var 1))
def b__law_take_13 : Sms := .cons s__law_take_13 .nil
def b__law_take_12 : Sms := .cons s__law_take_12 b__law_take_13
def b__law_take_11 : Sms := .cons s__law_take_11 b__law_take_12
def b__law_take_7 : Sms := .cons s__law_take_7 b__law_take_11
def b__law_take_1 : Sms := .cons s__law_take_1 b__law_take_7
def b__law_take_0 : Sms := .cons s__law_take_0 b__law_take_1
def df__law_take : Fn := ⟨"_law_take", false, ["_law_state", "_law_many_here"], ["_law_state", "_law_many_here", "_law_cell", "_law_digit", "_law_one_here", "_law_two"], [], b__law_take_0⟩
def s__law_one_0 : Sm := .ret (.idx (.var 1) (.call f__law_take (.cons (.var 0) (.cons (.blt "len" (.cons (.var 1) .nil)) .nil))))
def b__law_one_0 : Sms := .cons s__law_one_0 .nil
def df__law_one : Fn := ⟨"_law_one", false, ["_law_state", "_law_things"], ["_law_state", "_law_things"], [], b__law_one_0⟩
def s__law_mix_0 : Sm := .par 2 3 (.blt "list" (.cons (.var 1) .nil)) (.lst .nil)
def t__law_mix_2 : Ex := (.cmp .NotEq (.var 2) (.lst .nil))
def s__law_mix_2 : Sm := .exp (.bmt "append" (.var 3) (.cons (.bmt "pop" (.var 2) (.cons (.call f__law_take (.cons (.var 0) (.cons (.blt "len" (.cons (.var 2) .nil)) .nil))) .nil)) .nil))
def b__law_mix_2 : Sms := .cons s__law_mix_2 .nil
def s__law_mix_1 : Sm := .whl t__law_mix_2 b__law_mix_2
def s__law_mix_3 : Sm := .ret (.var 3)
def b__law_mix_3 : Sms := .cons s__law_mix_3 .nil
def b__law_mix_1 : Sms := .cons s__law_mix_1 b__law_mix_3
def b__law_mix_0 : Sms := .cons s__law_mix_0 b__law_mix_1
def df__law_mix : Fn := ⟨"_law_mix", false, ["_law_state", "_law_things"], ["_law_state", "_law_things", "_law_left", "_law_found"], [], b__law_mix_0⟩
def s__law_same_2 : Sm := .ret (.con (.bl false))
def b__law_same_2 : Sms := .cons s__law_same_2 .nil
def s__law_same_1 : Sm := .ite (.or2 (.cmp .NotEq (.isi (.var 0) [.list]) (.isi (.var 1) [.list])) (.cmp .NotEq (.isi (.var 0) [.tuple]) (.isi (.var 1) [.tuple]))) b__law_same_2 .nil
def x__law_same_0 : Ex := (.call f__law_same (.cons (.var 2) (.cons (.var 3) .nil)))
def c__law_same_0 : Ex := .lc x__law_same_0 (.tp [2, 3]) (.zip (.var 0) (.var 1)) .nil [2, 3]
def s__law_same_3 : Sm := .ret (.and2 (.cmp .Eq (.blt "len" (.cons (.var 0) .nil)) (.blt "len" (.cons (.var 1) .nil))) (.blt "all" (.cons c__law_same_0 .nil)))
def b__law_same_3 : Sms := .cons s__law_same_3 .nil
def b__law_same_1 : Sms := .cons s__law_same_1 b__law_same_3
def s__law_same_0 : Sm := .ite (.isi (.var 1) [.list, .tuple]) b__law_same_1 .nil
def s__law_same_5 : Sm := .ret (.and2 (.isi (.var 0) [.int]) (.and2 (.cmp .Eq (.isi (.var 0) [.bool]) (.isi (.var 1) [.bool])) (.cmp .Eq (.var 0) (.var 1))))
def b__law_same_5 : Sms := .cons s__law_same_5 .nil
def s__law_same_4 : Sm := .ite (.isi (.var 1) [.int]) b__law_same_5 .nil
def s__law_same_6 : Sm := .ret (.and2 (.cmp .Is (.isi (.var 0) [.int, .list, .tuple]) (.con (.bl false))) (.cmp .Eq (.var 0) (.var 1)))
def b__law_same_6 : Sms := .cons s__law_same_6 .nil
def b__law_same_4 : Sms := .cons s__law_same_4 b__law_same_6
def b__law_same_0 : Sms := .cons s__law_same_0 b__law_same_4
def df__law_same : Fn := ⟨"_law_same", false, ["_law_found", "_law_due"], ["_law_found", "_law_due", "_law_x", "_law_y"], [], b__law_same_0⟩
def s__law_words_0 : Sm := .asg (.nm 2) (.lst (.cons (.con (.str "a")) (.cons (.con (.str "b")) (.cons (.con (.str "f")) (.cons (.con (.str "g")) (.cons (.con (.str "one")) (.cons (.con (.str "neg")) (.cons (.con (.str "add")) (.cons (.con (.str "x")) (.cons (.con (.str "y")) (.cons (.con (.str "zz")) (.cons (.con (.str "abcdefgh")) (.cons (.con (.str "above")) (.cons (.con (.str "bar")) (.cons (.con (.str "kind")) .nil)))))))))))))))
def s__law_words_1 : Sm := .ret (.sl (.call f__law_mix (.cons (.var 0) (.cons (.var 2) .nil))) .absent (.var 1))
def b__law_words_1 : Sms := .cons s__law_words_1 .nil
def b__law_words_0 : Sms := .cons s__law_words_0 b__law_words_1
def df__law_words : Fn := ⟨"_law_words", false, ["_law_state", "_law_many_here"], ["_law_state", "_law_many_here", "_law_some"], [], b__law_words_0⟩
def s__law_rows_0 : Sm := .asg (.nm 2) (.call f__law_words (.cons (.var 0) (.cons (.bin .Add (.con (.int 1)) (.call f__law_take (.cons (.var 0) (.cons (.var 1) .nil)))) .nil)))
def s__law_rows_1 : Sm := .asg (.nm 3) (.lst (.cons (.tup (.cons (.idx (.var 2) (.con (.int 0))) (.cons (.con (.int 0)) .nil))) .nil))
def x__law_rows_0 : Ex := (.call f__law_take (.cons (.var 0) (.cons (.con (.int 3)) .nil)))
def c__law_rows_0 : Ex := .lc x__law_rows_0 (.nm 5) (.val (.sl (.var 2) (.con (.int 1)) .absent)) .nil [5]
def s__law_rows_2 : Sm := .asg (.nm 4) c__law_rows_0
def i__law_rows_0 : Ex := .ite (.or2 (.cmp .Lt (.idx (.var 4) (.var 5)) (.con (.int 2))) (.cmp .NotIn (.con (.int 2)) (.sl (.var 4) .absent (.var 5)))) (.idx (.var 4) (.var 5)) (.con (.int 1))
def s__law_rows_4 : Sm := .exp (.bmt "append" (.var 3) (.cons (.tup (.cons (.var 6) (.cons i__law_rows_0 .nil))) .nil))
def b__law_rows_4 : Sms := .cons s__law_rows_4 .nil
def s__law_rows_3 : Sm := .for (.tp [5, 6]) (.enum (.sl (.var 2) (.con (.int 1)) .absent)) b__law_rows_4
def s__law_rows_5 : Sm := .ret (.call f__law_mix (.cons (.var 0) (.cons (.var 3) .nil)))
def b__law_rows_5 : Sms := .cons s__law_rows_5 .nil
def b__law_rows_3 : Sms := .cons s__law_rows_3 b__law_rows_5
def b__law_rows_2 : Sms := .cons s__law_rows_2 b__law_rows_3
def b__law_rows_1 : Sms := .cons s__law_rows_1 b__law_rows_2
def b__law_rows_0 : Sms := .cons s__law_rows_0 b__law_rows_1
def df__law_rows : Fn := ⟨"_law_rows", false, ["_law_state", "_law_most"], ["_law_state", "_law_most", "_law_words_here", "_law_found", "_law_many_here", "_law_k", "_law_word"], [], b__law_rows_0⟩
def s__law_many_0 : Sm := .ret (.idx (.blt "dict" (.cons (.bin .Add (.blt "list" (.cons (.var 0) .nil)) (.lst (.cons (.tup (.cons (.con (.str "keep")) (.cons (.con (.int 1)) .nil))) .nil))) .nil)) (.var 1))
def b__law_many_0 : Sms := .cons s__law_many_0 .nil
def df__law_many : Fn := ⟨"_law_many", false, ["_law_rows_here", "_law_label"], ["_law_rows_here", "_law_label"], [], b__law_many_0⟩
def x__law_labels_0 : Ex := (.var 1)
def c__law_labels_0 : Ex := .lc x__law_labels_0 (.tp [1, 2]) (.val (.var 0)) .nil [1, 2]
def s__law_labels_0 : Sm := .ret (.bin .Add c__law_labels_0 (.lst (.cons (.con (.str "keep")) .nil)))
def b__law_labels_0 : Sms := .cons s__law_labels_0 .nil
def df__law_labels : Fn := ⟨"_law_labels", false, ["_law_rows_here"], ["_law_rows_here", "_law_label", "_law_many_here"], [], b__law_labels_0⟩
def x__law_tree_0 : Ex := (.var 5)
def c__law_tree_0 : Ex := .lc x__law_tree_0 (.nm 5) (.val (.call f__law_labels (.cons (.var 1) .nil))) (.cons (.cmp .Lt (.call f__law_many (.cons (.var 1) (.cons (.var 5) .nil))) (.var 2)) .nil) [5]
def s__law_tree_0 : Sm := .asg (.nm 3) c__law_tree_0
def x__law_tree_1 : Ex := (.var 5)
def c__law_tree_1 : Ex := .lc x__law_tree_1 (.nm 5) (.val (.var 3)) (.cons (.and2 (.cmp .Gt (.call f__law_many (.cons (.var 1) (.cons (.var 5) .nil))) (.con (.int 0))) (.cmp .NotEq (.var 5) (.con (.str "keep")))) .nil) [5]
def s__law_tree_1 : Sm := .asg (.nm 4) c__law_tree_1
def s__law_tree_3 : Sm := .asg (.nm 3) (.var 4)
def b__law_tree_3 : Sms := .cons s__law_tree_3 .nil
def s__law_tree_2 : Sm := .ite (.and2 (.cmp .NotEq (.var 4) (.lst .nil)) (.cmp .Gt (.call f__law_take (.cons (.var 0) (.cons (.con (.int 8)) .nil))) (.con (.int 0)))) b__law_tree_3 .nil
def s__law_tree_4 : Sm := .asg (.nm 5) (.call f__law_one (.cons (.var 0) (.cons (.var 3) .nil)))
def s__law_tree_5 : Sm := .asg (.nm 6) (.call f__law_many (.cons (.var 1) (.cons (.var 5) .nil)))
def s__law_tree_7 : Sm := .asg (.nm 7) (.bin .Add (.con (.int 1)) (.call f__law_take (.cons (.var 0) (.cons (.bin .Sub (.var 2) (.con (.int 2))) .nil))))
def s__law_tree_8 : Sm := .asg (.nm 8) (.call f__law_tree (.cons (.var 0) (.cons (.var 1) (.cons (.var 7) .nil))))
def s__law_tree_9 : Sm := .ret (.tup (.cons (.var 5) (.cons (.var 8) (.cons (.call f__law_tree (.cons (.var 0) (.cons (.var 1) (.cons (.bin .Sub (.bin .Sub (.var 2) (.con (.int 1))) (.var 7)) .nil)))) .nil))))
def b__law_tree_9 : Sms := .cons s__law_tree_9 .nil
def b__law_tree_8 : Sms := .cons s__law_tree_8 b__law_tree_9
def b__law_tree_7 : Sms := .cons s__law_tree_7 b__law_tree_8
def s__law_tree_6 : Sm := .ite (.cmp .Eq (.var 6) (.con (.int 2))) b__law_tree_7 .nil
def i__law_tree_0 : Ex := .ite (.cmp .Eq (.var 6) (.con (.int 0))) (.tup (.cons (.var 5) .nil)) (.tup (.cons (.var 5) (.cons (.call f__law_tree (.cons (.var 0) (.cons (.var 1) (.cons (.bin .Sub (.var 2) (.con (.int 1))) .nil)))) .nil)))
def s__law_tree_10 : Sm := .ret i__law_tree_0
def b__law_tree_10 : Sms := .cons s__law_tree_10 .nil
def b__law_tree_6 : Sms := .cons s__law_tree_6 b__law_tree_10
def b__law_tree_5 : Sms := .cons s__law_tree_5 b__law_tree_6
def b__law_tree_4 : Sms := .cons s__law_tree_4 b__law_tree_5
def b__law_tree_2 : Sms := .cons s__law_tree_2 b__law_tree_4
def b__law_tree_1 : Sms := .cons s__law_tree_1 b__law_tree_2
def b__law_tree_0 : Sms := .cons s__law_tree_0 b__law_tree_1
def df__law_tree : Fn := ⟨"_law_tree", false, ["_law_state", "_law_rows_here", "_law_nodes"], ["_law_state", "_law_rows_here", "_law_nodes", "_law_fits", "_law_more", "_law_label", "_law_many_here", "_law_some", "_law_first"], [], b__law_tree_0⟩
def s__law_places_0 : Sm := .asg (.nm 1) (.lst (.cons (.tup .nil) .nil))
def x__law_places_0 : Ex := (.bin .Add (.tup (.cons (.var 2) .nil)) (.var 4))
def c__law_places_0 : Ex := .lc x__law_places_0 (.nm 4) (.val (.call f__law_places (.cons (.var 3) .nil))) .nil [4]
def s__law_places_2 : Sm := .exp (.bmt "extend" (.var 1) (.cons c__law_places_0 .nil))
def b__law_places_2 : Sms := .cons s__law_places_2 .nil
def s__law_places_1 : Sm := .for (.tp [2, 3]) (.enum (.sl (.var 0) (.con (.int 1)) .absent)) b__law_places_2
def s__law_places_3 : Sm := .ret (.var 1)
def b__law_places_3 : Sms := .cons s__law_places_3 .nil
def b__law_places_1 : Sms := .cons s__law_places_1 b__law_places_3
def b__law_places_0 : Sms := .cons s__law_places_0 b__law_places_1
def df__law_places : Fn := ⟨"_law_places", false, ["_law_tree_here"], ["_law_tree_here", "_law_found", "_law_k", "_law_child", "_law_place"], [], b__law_places_0⟩
def i__law_at_0 : Ex := .ite (.cmp .Eq (.var 1) (.tup .nil)) (.var 0) (.call f__law_at (.cons (.idx (.var 0) (.bin .Add (.idx (.var 1) (.con (.int 0))) (.con (.int 1)))) (.cons (.sl (.var 1) (.con (.int 1)) .absent) .nil)))
def s__law_at_0 : Sm := .ret i__law_at_0
def b__law_at_0 : Sms := .cons s__law_at_0 .nil
def df__law_at : Fn := ⟨"_law_at", false, ["_law_tree_here", "_law_place"], ["_law_tree_here", "_law_place"], [], b__law_at_0⟩
def s__law_put_1 : Sm := .ret (.var 2)
def b__law_put_1 : Sms := .cons s__law_put_1 .nil
def s__law_put_0 : Sm := .ite (.cmp .Eq (.var 1) (.tup .nil)) b__law_put_1 .nil
def s__law_put_2 : Sm := .asg (.nm 3) (.bin .Add (.idx (.var 1) (.con (.int 0))) (.con (.int 1)))
def s__law_put_3 : Sm := .ret (.bin .Add (.bin .Add (.sl (.var 0) .absent (.var 3)) (.tup (.cons (.call f__law_put (.cons (.idx (.var 0) (.var 3)) (.cons (.sl (.var 1) (.con (.int 1)) .absent) (.cons (.var 2) .nil)))) .nil))) (.sl (.var 0) (.bin .Add (.var 3) (.con (.int 1))) .absent))
def b__law_put_3 : Sms := .cons s__law_put_3 .nil
def b__law_put_2 : Sms := .cons s__law_put_2 b__law_put_3
def b__law_put_0 : Sms := .cons s__law_put_0 b__law_put_2
def df__law_put : Fn := ⟨"_law_put", false, ["_law_tree_here", "_law_place", "_law_other"], ["_law_tree_here", "_law_place", "_law_other", "_law_k"], [], b__law_put_0⟩
def x__law_loose_0 : Ex := (.call f__law_loose (.cons (.var 0) (.cons (.var 3) .nil)))
def c__law_loose_0 : Ex := .lc x__law_loose_0 (.nm 3) (.val (.var 1)) .nil [3]
def s__law_loose_1 : Sm := .asg (.nm 2) c__law_loose_0
def i__law_loose_0 : Ex := .ite (.cmp .Eq (.call f__law_take (.cons (.var 0) (.cons (.con (.int 2)) .nil))) (.con (.int 0))) (.var 2) (.blt "tuple" (.cons (.var 2) .nil))
def s__law_loose_2 : Sm := .ret i__law_loose_0
def b__law_loose_2 : Sms := .cons s__law_loose_2 .nil
def b__law_loose_1 : Sms := .cons s__law_loose_1 b__law_loose_2
def s__law_loose_0 : Sm := .ite (.isi (.var 1) [.list, .tuple]) b__law_loose_1 .nil
def s__law_loose_3 : Sm := .ret (.var 1)
def b__law_loose_3 : Sms := .cons s__law_loose_3 .nil
def b__law_loose_0 : Sms := .cons s__law_loose_0 b__law_loose_3
def df__law_loose : Fn := ⟨"_law_loose", false, ["_law_state", "_law_thing"], ["_law_state", "_law_thing", "_law_found", "_law_x"], [], b__law_loose_0⟩
def s__law_is_tree_1 : Sm := .ret (.con (.bl false))
def b__law_is_tree_1 : Sms := .cons s__law_is_tree_1 .nil
def s__law_is_tree_0 : Sm := .ite (.or2 (.not (.isi (.var 1) [.list, .tuple])) (.or2 (.cmp .Eq (.blt "len" (.cons (.var 1) .nil)) (.con (.int 0))) (.or2 (.not (.isi (.idx (.var 1) (.con (.int 0))) [.str])) (.cmp .NotIn (.idx (.var 1) (.con (.int 0))) (.call f__law_labels (.cons (.var 0) .nil)))))) b__law_is_tree_1 .nil
def x__law_is_tree_0 : Ex := (.call f__law_is_tree (.cons (.var 0) (.cons (.var 2) .nil)))
def c__law_is_tree_0 : Ex := .lc x__law_is_tree_0 (.nm 2) (.val (.sl (.var 1) (.con (.int 1)) .absent)) .nil [2]
def s__law_is_tree_2 : Sm := .ret (.and2 (.cmp .Eq (.blt "len" (.cons (.var 1) .nil)) (.bin .Add (.call f__law_many (.cons (.var 0) (.cons (.idx (.var 1) (.con (.int 0))) .nil))) (.con (.int 1)))) (.blt "all" (.cons c__law_is_tree_0 .nil)))
def b__law_is_tree_2 : Sms := .cons s__law_is_tree_2 .nil
def b__law_is_tree_0 : Sms := .cons s__law_is_tree_0 b__law_is_tree_2
def df__law_is_tree : Fn := ⟨"_law_is_tree", false, ["_law_rows_here", "_law_x"], ["_law_rows_here", "_law_x", "_law_child"], [], b__law_is_tree_0⟩
def s__law_spoilt_0 : Sm := .asg (.nm 3) (.call f__law_take (.cons (.var 0) (.cons (.con (.int 6)) .nil)))
def s__law_spoilt_2 : Sm := .ret (.bin .Add (.var 2) (.tup (.cons (.tup (.cons (.idx (.var 2) (.con (.int 0))) .nil)) .nil)))
def b__law_spoilt_2 : Sms := .cons s__law_spoilt_2 .nil
def s__law_spoilt_1 : Sm := .ite (.cmp .Eq (.var 3) (.con (.int 0))) b__law_spoilt_2 .nil
def s__law_spoilt_4 : Sm := .ret (.sl (.var 2) .absent (.neg (.con (.int 1))))
def b__law_spoilt_4 : Sms := .cons s__law_spoilt_4 .nil
def s__law_spoilt_3 : Sm := .ite (.cmp .Eq (.var 3) (.con (.int 1))) b__law_spoilt_4 .nil
def s__law_spoilt_6 : Sm := .ret (.bin .Add (.tup (.cons (.call f__law_one (.cons (.var 0) (.cons (.bin .Add (.lst (.cons (.con (.str "qq")) (.cons (.con (.str "")) (.cons (.con (.non)) (.cons (.con (.int 5)) (.cons (.tup (.cons (.con (.str "a")) .nil)) (.cons (.con (.bl true)) .nil))))))) (.call f__law_labels (.cons (.var 1) .nil))) .nil))) .nil)) (.sl (.var 2) (.con (.int 1)) .absent))
def b__law_spoilt_6 : Sms := .cons s__law_spoilt_6 .nil
def s__law_spoilt_5 : Sm := .ite (.cmp .Eq (.var 3) (.con (.int 2))) b__law_spoilt_6 .nil
def s__law_spoilt_8 : Sm := .ret (.call f__law_one (.cons (.var 0) (.cons (.lst (.cons (.con (.non)) (.cons (.con (.int 5)) (.cons (.con (.str "a")) (.cons (.idx (.var 2) (.con (.int 0))) (.cons (.dct0) (.cons (.con (.bl true)) (.cons (.lst .nil) (.cons (.lst (.cons (.lst .nil) .nil)) .nil))))))))) .nil)))
def b__law_spoilt_8 : Sms := .cons s__law_spoilt_8 .nil
def s__law_spoilt_7 : Sm := .ite (.cmp .Eq (.var 3) (.con (.int 3))) b__law_spoilt_8 .nil
def s__law_spoilt_9 : Sm := .ret (.call f__law_tree (.cons (.var 0) (.cons (.var 1) (.cons (.con (.int 3)) .nil))))
def b__law_spoilt_9 : Sms := .cons s__law_spoilt_9 .nil
def b__law_spoilt_7 : Sms := .cons s__law_spoilt_7 b__law_spoilt_9
def b__law_spoilt_5 : Sms := .cons s__law_spoilt_5 b__law_spoilt_7
def b__law_spoilt_3 : Sms := .cons s__law_spoilt_3 b__law_spoilt_5
def b__law_spoilt_1 : Sms := .cons s__law_spoilt_1 b__law_spoilt_3
def b__law_spoilt_0 : Sms := .cons s__law_spoilt_0 b__law_spoilt_1
def df__law_spoilt : Fn := ⟨"_law_spoilt", false, ["_law_state", "_law_rows_here", "_law_part"], ["_law_state", "_law_rows_here", "_law_part", "_law_way"], [], b__law_spoilt_0⟩
def s_law_0 : Sm := .asg (.nm 1) (.call f__law_fresh (.cons (.var 0) .nil))
def s_law_2 : Sm := .asg (.nm 3) (.call f__law_rows (.cons (.var 1) (.cons (.con (.int 4)) .nil)))
def s_law_3 : Sm := .par 4 5 (.new 4 (.cons (.var 3) .nil)) (.call f__law_tree (.cons (.var 1) (.cons (.var 3) (.cons (.bin .Add (.con (.int 1)) (.call f__law_take (.cons (.var 1) (.cons (.con (.int 12)) .nil)))) .nil))))
def s_law_5 : Sm := .ret (.con (.bl false))
def b_law_5 : Sms := .cons s_law_5 .nil
def s_law_4 : Sm := .ite (.or2 (.cmp .IsNot (.omt "is_tree" (.var 4) (.cons (.call f__law_loose (.cons (.var 1) (.cons (.var 5) .nil))) .nil)) (.con (.bl true))) (.cmp .IsNot (.omt "is_tree" (.var 4) (.cons (.var 5) .nil)) (.con (.bl true)))) b_law_5 .nil
def s_law_7 : Sm := .asg (.nm 7) (.call f__law_one (.cons (.var 1) (.cons (.call f__law_places (.cons (.var 5) .nil)) .nil)))
def s_law_8 : Sm := .asg (.nm 8) (.call f__law_put (.cons (.var 5) (.cons (.var 7) (.cons (.call f__law_spoilt (.cons (.var 1) (.cons (.var 3) (.cons (.call f__law_at (.cons (.var 5) (.cons (.var 7) .nil))) .nil)))) .nil))))
def s_law_10 : Sm := .ret (.con (.bl false))
def b_law_10 : Sms := .cons s_law_10 .nil
def s_law_9 : Sm := .ite (.not (.call f__law_same (.cons (.omt "is_tree" (.var 4) (.cons (.call f__law_loose (.cons (.var 1) (.cons (.var 8) .nil))) .nil)) (.cons (.call f__law_is_tree (.cons (.var 3) (.cons (.var 8) .nil))) .nil)))) b_law_10 .nil
def b_law_9 : Sms := .cons s_law_9 .nil
def b_law_8 : Sms := .cons s_law_8 b_law_9
def b_law_7 : Sms := .cons s_law_7 b_law_8
def s_law_6 : Sm := .for (.nm 6) (.rng1 (.con (.int 3))) b_law_7
def s_law_13 : Sm := .ret (.con (.bl false))
def b_law_13 : Sms := .cons s_law_13 .nil
def s_law_12 : Sm := .ite (.not (.call f__law_same (.cons (.omt "is_tree" (.var 4) (.cons (.var 9) .nil)) (.cons (.call f__law_is_tree (.cons (.var 3) (.cons (.var 9) .nil))) .nil)))) b_law_13 .nil
def b_law_12 : Sms := .cons s_law_12 .nil
def s_law_11 : Sm := .for (.nm 9) (.val (.lst (.cons (.con (.non)) (.cons (.con (.int 5)) (.cons (.con (.str "one")) (.cons (.idx (.var 5) (.con (.int 0))) (.cons (.tup .nil) (.cons (.dct0) (.cons (.tup (.cons (.var 5) .nil)) (.cons (.con (.bl true)) .nil)))))))))) b_law_12
def b_law_11 : Sms := .cons s_law_11 .nil
def b_law_6 : Sms := .cons s_law_6 b_law_11
def b_law_4 : Sms := .cons s_law_4 b_law_6
def b_law_3 : Sms := .cons s_law_3 b_law_4
def b_law_2 : Sms := .cons s_law_2 b_law_3
def s_law_1 : Sm := .for (.nm 2) (.rng1 (.con (.int 8))) b_law_2
def s_law_14 : Sm := .ret (.con (.bl true))
def b_law_14 : Sms := .cons s_law_14 .nil
def b_law_1 : Sms := .cons s_law_1 b_law_14
def b_law_0 : Sms := .cons s_law_0 b_law_1
def df_law : Fn := ⟨"law", false, ["_law_script"], ["_law_script", "_law_state", "_law_turn", "_law_rows_here", "_law_language", "_law_tree_here", "_law_again", "_law_place", "_law_thing", "_law_odd"], [], b_law_0⟩
def T : Tab := ⟨[df_is_word, df_is_list, df_is_number, df_frozen_rows, df_is_row, df_row_read, df_Language___init__, df_Language_children, df_Language_is_tree, df_Language___len__, df_Language___eq__, df_Language_text, df__law_fresh, df__law_take, df__law_one, df__law_mix, df__law_same, df__law_words, df__law_rows, df__law_many, df__law_labels, df__law_tree, df__law_places, df__law_at, df__law_put, df__law_loose, df__law_is_tree, df__law_spoilt, df_law], [⟨"RunError", true, none, [], []⟩, ⟨"BadLanguage", true, none, [], ["index"]⟩, ⟨"UnknownLabel", true, none, [], ["label"]⟩, ⟨"BadLine", true, none, [], ["line"]⟩, ⟨"Language", false, some f_Language___init__, [("children", f_Language_children), ("is_tree", f_Language_is_tree), ("__len__", f_Language___len__), ("__eq__", f_Language___eq__), ("text", f_Language_text)], ["rows", "labels", "many"]⟩], [("LETTERS", .str "abcdefghijklmnopqrstuvwxyz"), ("KEEP", .str "keep")], ["abs", "all", "any", "bool", "dict", "enumerate", "int", "isinstance", "len", "list", "range", "str", "tuple", "zip"]⟩
def ls : List Ds := [⟨("is_word", none), "is_word", 4, none⟩, ⟨("is_list", none), "is_list", 5, none⟩, ⟨("is_number", none), "is_number", 6, none⟩, ⟨("frozen_rows", none), "frozen_rows", 13, none⟩, ⟨("is_row", none), "is_row", 14, none⟩, ⟨("row_read", none), "row_read", 15, none⟩, ⟨("Language", some "__init__"), "Language.__init__", 16, some 0⟩, ⟨("Language", some "children"), "Language.children", 16, some 1⟩, ⟨("Language", some "is_tree"), "Language.is_tree", 16, some 2⟩, ⟨("Language", some "__len__"), "Language.__len__", 16, some 6⟩, ⟨("Language", some "__eq__"), "Language.__eq__", 16, some 7⟩, ⟨("Language", some "text"), "Language.text", 16, some 8⟩, ⟨("_law_fresh", none), "_law_fresh", 18, none⟩, ⟨("_law_take", none), "_law_take", 19, none⟩, ⟨("_law_one", none), "_law_one", 20, none⟩, ⟨("_law_mix", none), "_law_mix", 21, none⟩, ⟨("_law_same", none), "_law_same", 22, none⟩, ⟨("_law_words", none), "_law_words", 23, none⟩, ⟨("_law_rows", none), "_law_rows", 24, none⟩, ⟨("_law_many", none), "_law_many", 25, none⟩, ⟨("_law_labels", none), "_law_labels", 26, none⟩, ⟨("_law_tree", none), "_law_tree", 27, none⟩, ⟨("_law_places", none), "_law_places", 28, none⟩, ⟨("_law_at", none), "_law_at", 29, none⟩, ⟨("_law_put", none), "_law_put", 30, none⟩, ⟨("_law_loose", none), "_law_loose", 31, none⟩, ⟨("_law_is_tree", none), "_law_is_tree", 32, none⟩, ⟨("_law_spoilt", none), "_law_spoilt", 33, none⟩, ⟨("law", none), "law", 34, none⟩]

end Mini
end T_IR

section T_S1
set_option Elab.async false
set_option linter.all false
set_option autoImplicit false
/-! specs: the law's own draws -/
namespace Mini
open PySem
theorem Wp.eq {α : Type} {r : Res α} {a : α} {vh : VH} {Q : α → VH → Prop} {E : XQ} (e : r = .ok a vh) (h : Q a vh) : Wp r Q E := by rw [e]; exact h
/-- the draws' state at a: its cells at b, at most k draws so far -/
structure St (a b : Nat) (k : Nat) (vh : VH) : Prop where
  ex : ∃ (cells : List Int) (i : Nat) (c acc cnt : Int), vh[a]? = some (.lst [.ref b, .int i, .int c, .int acc, .int cnt]) ∧ vh[b]? = some (.lst (cells.map PV.int)) ∧ a ≠ b ∧ cells.length ≤ 63 ∧ 0 ≤ c ∧ 0 ≤ acc ∧ acc < 2147483647 ∧ 0 ≤ cnt ∧ cnt ≤ k
section
variable {a b k : Nat} {vh vh' : VH}
theorem St.lt (h : St a b k vh) : a < vh.length ∧ b < vh.length ∧ a ≠ b := by
  obtain ⟨cells, i, c, acc, cnt, ha, hb, hab, _⟩ := h.ex
  exact ⟨lt_at ha, lt_at hb, hab⟩
theorem St.kp {S : List Nat} (h : St a b k vh) (q : Kp S vh vh') (h1 : a ∉ S) (h2 : b ∉ S) : St a b k vh' := by
  obtain ⟨cells, i, c, acc, cnt, ha, hb, r⟩ := h.ex
  exact ⟨cells, i, c, acc, cnt, q.get ha h1, q.get hb h2, r⟩
theorem St.app (h : St a b k vh) (o : VO) : St a b k (vh ++ [o]) := h.kp (S := []) (Kp.app o) (by simp) (by simp)
theorem St.set (h : St a b k vh) {j : Nat} (h1 : a ≠ j) (h2 : b ≠ j) (o : VO) : St a b k (vh.set j o) := h.kp (S := [j]) (Kp.set (by simp)) (by simp [h1]) (by simp [h2])
theorem St.mono {k' : Nat} (h : St a b k vh) (hk : k ≤ k') : St a b k' vh := by
  obtain ⟨cells, i, c, acc, cnt, ha, hb, r1, r2, r3, r4, r5, r6, r7⟩ := h.ex
  exact ⟨cells, i, c, acc, cnt, ha, hb, r1, r2, r3, r4, r5, r6, by omega⟩
end
theorem take_spec {n : Nat} {a b k : Nat} {vh : VH} {many : Int} (hm : 0 < many) (hm2 : many < 1073741824) (hs : St a b k vh) (hk : k < 2 ^ 40) :
    Wp (callF T (n + 1) f__law_take [.ref a, .int many] vh) (fun p vh' => (∃ d, p = .int d ∧ 0 ≤ d ∧ d < many) ∧ St a b (k + 1) vh' ∧ Kp [a] vh vh') X0 := by
  obtain ⟨cells, i, c, acc, cnt, ha, hb, hab, hl, hc, h1, h2, h3, h4⟩ := hs.ex
  have hk2 : (k : Int) < 1099511627776 := by omega
  refine wp_call (fn := df__law_take) rfl rfl ?_
  simp only [df__law_take, List.map_cons, List.map_nil, List.length_cons, List.length_nil, List.replicate, List.nil_append, List.cons_append]
  simp [b__law_take_0, s__law_take_0, evSs, evS, evE, evEs, ha, idxP, L2.atI, L2.ixN, binop, addP, setP]
  simp [b__law_take_1, s__law_take_1, evSs, evS]
  refine wp_while (fun m env vh1 => ∃ (i : Nat) (c acc : Int) (x2 : Option PV), env = [some (.ref a), some (.int many), x2, none, none, none] ∧ vh1[a]? = some (.lst [.ref b, .int i, .int c, .int acc, .int (cnt + 1)]) ∧ vh1[b]? = some (.lst (cells.map PV.int)) ∧ Kp [a] vh vh1 ∧ 0 ≤ c ∧ 0 ≤ acc ∧ acc < 2147483647 ∧ m = cells.length - i) ?_ wfuel (cells.length - i) _ _ (by unfold wfuel; omega)
    ⟨i, c, acc, none, rfl, at_set ha, by rw [at_ne hab]; exact hb, Kp.set (by simp), hc, h1, h2, rfl⟩
  rintro m env v1 ⟨i, c, acc, x2, rfl, ha, hb, hK, hc, h1, h2, rfl⟩
  have et : evE T (callF T n) t__law_take_2 [some (.ref a), some (.int many), x2, none, none, none] v1 = .ok (.bl (decide (c = 0) && decide (i < cells.length))) v1 := by
    by_cases hc0 : c = 0 <;> simp [t__law_take_2, evE, evEs, ha, hb, idxP, L2.atI, L2.ixN, cmpop, blt, lenP, ordP, hc0]
  refine Wp.eq et ⟨_, rfl, ?_⟩
  split
  · rename_i hh
    simp only [Bool.and_eq_true, decide_eq_true_eq] at hh
    obtain ⟨rfl, hi⟩ := hh
    have hci : (cells.map PV.int)[i]? = some (.int cells[i]) := by simp [hi]
    let ab : Int := if cells[i] < 0 then -cells[i] else cells[i]
    have hab0 : 0 ≤ ab := by
      show 0 ≤ (if cells[i] < 0 then -cells[i] else cells[i])
      split <;> omega
    have e1 : evSs T (callF T n) b__law_take_2 [some (.ref a), some (.int many), x2, none, none, none] v1 = evSs T (callF T n) b__law_take_4 [some (.ref a), some (.int many), some (.int ab), none, none, none] (v1.set a (.lst [.ref b, .int ((i + 1 : Nat) : Int), .int 0, .int acc, .int (cnt + 1)])) := by
      simp [b__law_take_2, s__law_take_2, b__law_take_3, s__law_take_3, evSs, evS, evE, evEs, ha, hb, idxP, L2.atI, L2.ixN, blt, hi, setTg, setEnv, binop, addP, setP, ab]
    rw [e1]
    by_cases hbig : 1000000000000000000 ≤ ab
    · have e2 : evSs T (callF T n) b__law_take_4 [some (.ref a), some (.int many), some (.int ab), none, none, none] (v1.set a (.lst [.ref b, .int ((i + 1 : Nat) : Int), .int 0, .int acc, .int (cnt + 1)])) =
          .ok (.nx [some (.ref a), some (.int many), some (.int ab), none, none, none]) (v1.set a (.lst [.ref b, .int ((i + 1 : Nat) : Int), .int ab, .int acc, .int (cnt + 1)])) := by
        simp [b__law_take_4, s__law_take_4, b__law_take_5, s__law_take_5, evSs, evS, evE, evEs, at_set ha, idxP, L2.atI, L2.ixN, binop, intP, setP, cmpop, ordP, hbig]
      refine Wp.eq e2 ⟨cells.length - (i + 1), by omega, i + 1, ab, acc, _, rfl, at_set ha, by rw [at_ne hab]; exact hb, hK.trans (Kp.set (by simp)), hab0, h1, h2, rfl⟩
    · have e2 : evSs T (callF T n) b__law_take_4 [some (.ref a), some (.int many), some (.int ab), none, none, none] (v1.set a (.lst [.ref b, .int ((i + 1 : Nat) : Int), .int 0, .int acc, .int (cnt + 1)])) =
          .ok (.nx [some (.ref a), some (.int many), some (.int ab), none, none, none]) (v1.set a (.lst [.ref b, .int ((i + 1 : Nat) : Int), .int 0, .int ((acc * 131 + ab + 1) % 2147483647), .int (cnt + 1)])) := by
        simp [b__law_take_4, s__law_take_4, b__law_take_6, s__law_take_6, evSs, evS, evE, evEs, at_set ha, idxP, L2.atI, L2.ixN, binop, intP, addP, mulP, small64, blt, setP, cmpop, ordP, hbig]
      refine Wp.eq e2 ⟨cells.length - (i + 1), by omega, i + 1, 0, _, _, rfl, at_set ha, by rw [at_ne hab]; exact hb, hK.trans (Kp.set (by simp)), by omega, by omega, by omega, rfl⟩
  · simp only [b__law_take_7, evSs]
    by_cases hc0 : 0 < c
    · have e2 : evSs T (callF T n) b__law_take_8 [some (.ref a), some (.int many), x2, none, none, none] v1 = .ok (.rt (.int (c % many))) (v1.set a (.lst [.ref b, .int i, .int (c / many), .int acc, .int (cnt + 1)])) := by
        simp [b__law_take_8, s__law_take_8, b__law_take_9, s__law_take_9, b__law_take_10, s__law_take_10, evSs, evS, evE, evEs, ha, idxP, L2.atI, L2.ixN, binop, intP, blt, setP, setTg, setEnv, hm, hm2]
      have e3 : evS T (callF T n) s__law_take_7 [some (.ref a), some (.int many), x2, none, none, none] v1 = .ok (.rt (.int (c % many))) (v1.set a (.lst [.ref b, .int i, .int (c / many), .int acc, .int (cnt + 1)])) := by
        simp [s__law_take_7, evS, evE, ha, idxP, L2.atI, L2.ixN, cmpop, ordP, hc0, e2]
      rw [e3]
      refine ⟨⟨_, rfl, Int.emod_nonneg _ (by omega), Int.emod_lt_of_pos _ hm⟩, ⟨cells, i, c / many, acc, cnt + 1, at_set ha, by rw [at_ne hab]; exact hb, hab, hl, Int.ediv_nonneg hc (by omega), h1, h2, by omega, by omega⟩, hK.trans (Kp.set (by simp))⟩
    · have e3 : evS T (callF T n) s__law_take_7 [some (.ref a), some (.int many), x2, none, none, none] v1 = .ok (.nx [some (.ref a), some (.int many), x2, none, none, none]) v1 := by
        simp [s__law_take_7, evS, evSs, evE, ha, idxP, L2.atI, L2.ixN, cmpop, ordP, hc0]
      have one : ∃ o : Int, o = (acc + 7919 * (cnt + 1) + 5) ^ 3 % 1000000007 := ⟨_, rfl⟩
      obtain ⟨o, ho⟩ := one
      have ho1 : 0 ≤ o ∧ o < 1000000007 := by rw [ho]; exact ⟨Int.emod_nonneg _ (by omega), Int.emod_lt_of_pos _ (by omega)⟩
      have hn1 : (acc + 7919 * (cnt + 1) + 5).natAbs < 18446744073709551616 := by omega
      have hn2 : (o + 31 * (cnt + 1)).natAbs < 18446744073709551616 := by omega
      have e4 : evSs T (callF T n) b__law_take_11 [some (.ref a), some (.int many), x2, none, none, none] v1 = .ok (.rt (.int ((o + 31 * (cnt + 1)) ^ 3 % 998244353 / 3 % many))) v1 := by
        simp [b__law_take_11, s__law_take_11, evSs, evS, evE, evEs, ha, idxP, L2.atI, L2.ixN, binop, intP, addP, mulP, small64, blt, setTg, setEnv, hn1, ← ho]
        simp [b__law_take_12, s__law_take_12, b__law_take_13, s__law_take_13, evSs, evS, evE, evEs, ha, idxP, L2.atI, L2.ixN, binop, intP, addP, mulP, small64, blt, setTg, setEnv, hn2, hm]
      rw [e3]
      simp only [Res.bind_ok]
      refine Wp.eq e4 ⟨⟨_, rfl, Int.emod_nonneg _ (by omega), Int.emod_lt_of_pos _ hm⟩, ⟨cells, i, c, acc, cnt + 1, ha, hb, hab, hl, hc, h1, h2, by omega, by omega⟩, hK⟩
end Mini
end T_S1

section T_S2
set_option Elab.async false
set_option linter.all false
set_option autoImplicit false
/-! specs: one, mix, words -/
namespace Mini
open PySem
theorem one_spec {n a b k t : Nat} {vh : VH} {xs : List PV} (ht : vh[t]? = some (.lst xs)) (hne : xs ≠ []) (hl : xs.length < 1073741824) (hta : t ≠ a) (hs : St a b k vh) (hk : k < 2 ^ 40) :
    Wp (callF T (n + 2) f__law_one [.ref a, .ref t] vh) (fun p vh' => p ∈ xs ∧ St a b (k + 1) vh' ∧ Kp [a] vh vh') X0 := by
  have hpos : 0 < xs.length := List.length_pos_iff.mpr hne
  refine wp_call (fn := df__law_one) rfl rfl ?_
  obtain ⟨p, v1, e1, ⟨d, rfl, hd0, hd1⟩, hs1, hK⟩ := (take_spec (n := n) (many := (xs.length : Int)) (by omega) (by omega) hs hk).ex
  have ht1 := hK.get ht (by simpa using hta)
  obtain ⟨j, rfl⟩ : ∃ j : Nat, d = j := ⟨d.toNat, by omega⟩
  have hj : j < xs.length := by omega
  have e2 : evSs T (callF T (n + 1)) b__law_one_0 [some (.ref a), some (.ref t)] vh = .ok (.rt xs[j]) v1 := by
    simp [b__law_one_0, s__law_one_0, evSs, evS, evE, evEs, blt, len_lst ht, e1, idx_lst ht1 (List.getElem?_eq_getElem hj)]
  refine Wp.eq e2 ⟨List.getElem_mem _, hs1, hK⟩
/-- all are data: no two-way tie to the heap -/
def DatL (vh : VH) (xs : List PV) : Prop := ∀ x ∈ xs, ∃ d, toD vh 189 x = some d
theorem mapO_some {α β : Type} {f : α → Option β} : ∀ {xs : List α}, (∀ x ∈ xs, ∃ d, f x = some d) → ∃ ds, mapO f xs = some ds ∧ ds.length = xs.length
  | [], _ => ⟨[], rfl, rfl⟩
  | x :: xs, h => by
    obtain ⟨d, hd⟩ := h x List.mem_cons_self
    obtain ⟨ds, hds, hl⟩ := mapO_some (f := f) (xs := xs) fun y hy => h y (List.mem_cons_of_mem _ hy)
    exact ⟨d :: ds, by unfold mapO; rw [hd, hds], by simp [hl]⟩
theorem ne_nil {vh : VH} {l e : Nat} {xs : List PV} (hl : vh[l]? = some (.lst xs)) (he : vh[e]? = some (.lst [])) (hd : DatL vh xs) : cmpop .NotEq (.ref l) (.ref e) vh = some (!xs.isEmpty) := by
  obtain ⟨ds, hds, hlen⟩ := mapO_some hd
  have h1 : toD vh 190 (.ref l) = some (.list ds) := by
    show (match vh[l]? with | some (.lst xs) => (mapO (toD vh 189) xs).map PyData.list | _ => none) = _
    rw [hl]
    show (mapO (toD vh 189) xs).map PyData.list = _
    rw [hds]
    rfl
  have h2 : toD vh 190 (.ref e) = some (.list []) := by
    show (match vh[e]? with | some (.lst xs) => (mapO (toD vh 189) xs).map PyData.list | _ => none) = _
    rw [he]
    rfl
  show (eqP vh (.ref l) (.ref e)).map (!·) = _
  unfold eqP
  rw [h1, h2]
  show some (!PyData.eqvAll ds []) = _
  cases ds with
  | nil =>
    have : xs = [] := List.eq_nil_of_length_eq_zero (by simpa using hlen.symm)
    subst this
    rfl
  | cons d ds =>
    cases xs with
    | nil => cases hlen
    | cons x xs => rfl
/-- plain data without objects -/
def Pl (x : PV) : Prop := ∀ vh, ∃ d, toD vh 189 x = some d
theorem perm_erase {α : Type} : ∀ {l : List α} {j : Nat} (h : j < l.length), (l[j] :: l.eraseIdx j).Perm l
  | [], _, h => absurd h (Nat.not_lt_zero _)
  | x :: l, 0, _ => List.Perm.refl _
  | x :: l, j + 1, h => by
    have ih := perm_erase (l := l) (j := j) (by simpa using h)
    rw [List.getElem_cons_succ, List.eraseIdx_cons_succ]
    exact (List.Perm.swap x _ _).trans (ih.cons x)
theorem mix_spec {n a b k : Nat} {vh : VH} {things : PV} {xs : List PV} (ht : listP things vh = newL xs vh) (hp : ∀ x ∈ xs, Pl x) (hl : xs.length ≤ 1000) (hs : St a b k vh) (hk : k + xs.length < 2 ^ 40) :
    Wp (callF T (n + 2) f__law_mix [.ref a, things] vh) (fun p vh' => ∃ r ys, p = .ref r ∧ vh.length ≤ r ∧ vh'[r]? = some (.lst ys) ∧ ys.Perm xs ∧ St a b (k + xs.length) vh' ∧ Kp [a] vh vh') X0 := by
  refine wp_call (fn := df__law_mix) rfl rfl ?_
  have hsl : sizeLine = 1000000 ∨ 1000 ≤ sizeLine := .inr (by decide)
  have hz : xs.length ≤ sizeLine := by have : 1000 ≤ sizeLine := by decide
                                       omega
  have e0 : evSs T (callF T (n + 1)) b__law_mix_0 [some (.ref a), some things, none, none] vh = evSs T (callF T (n + 1)) b__law_mix_1 [some (.ref a), some things, some (.ref vh.length), some (.ref (vh.length + 1))] (vh ++ [.lst xs] ++ [.lst []]) := by
    simp [b__law_mix_0, s__law_mix_0, evSs, evS, evE, evEs, blt, ht, newL, alloc, hz, setEnv]
  show Wp (evSs T (callF T (n + 1)) b__law_mix_0 [some (.ref a), some things, none, none] vh) _ _
  rw [e0]
  simp only [b__law_mix_1, evSs, s__law_mix_1, evS, wp_bind]
  obtain ⟨la, lb, lab⟩ := hs.lt
  refine wp_while (fun m env v => ∃ left found : List PV, env = [some (.ref a), some things, some (.ref vh.length), some (.ref (vh.length + 1))] ∧ v[vh.length]? = some (.lst left) ∧ v[vh.length + 1]? = some (.lst found) ∧ (found ++ left).Perm xs ∧ St a b (k + found.length) v ∧ Kp [a] vh v ∧ m = left.length) ?_ wfuel xs.length _ _ (by unfold wfuel; omega)
    ⟨xs, [], rfl, by simp, by simp, by simp, (hs.app _).app _, (Kp.app _).trans (Kp.app _), rfl⟩
  rintro m env v ⟨left, found, rfl, hL, hF, hP, hS, hK, rfl⟩
  have hlen : found.length + left.length = xs.length := by have := hP.length_eq; simpa using this
  have hDat : ∀ v', DatL v' left := fun v' x hx => hp x (hP.subset (List.mem_append_right _ hx)) v'
  have et : evE T (callF T (n + 1)) t__law_mix_2 [some (.ref a), some things, some (.ref vh.length), some (.ref (vh.length + 1))] v = .ok (.bl (!left.isEmpty)) (v ++ [.lst []]) := by
    simp [t__law_mix_2, evE, evEs, newL, alloc, ne_nil (at_app hL) (at_new v _) (hDat _)]
  refine Wp.eq et ⟨_, rfl, ?_⟩
  have hL1 := at_app (u := .lst []) hL
  have hF1 := at_app (u := .lst []) hF
  have hS1 := hS.app (.lst [])
  have hK1 : Kp [a] vh (v ++ [.lst []]) := hK.trans (Kp.app _)
  by_cases hne : left = []
  · subst hne
    simp only [List.isEmpty_nil, Bool.not_true, Bool.false_eq_true, if_false]
    have e3 : evSs T (callF T (n + 1)) b__law_mix_3 [some (.ref a), some things, some (.ref vh.length), some (.ref (vh.length + 1))] (v ++ [.lst []]) = .ok (.rt (.ref (vh.length + 1))) (v ++ [.lst []]) := by
      simp [b__law_mix_3, s__law_mix_3, evSs, evS, evE]
    refine Wp.eq e3 ⟨vh.length + 1, found, rfl, by omega, hF1, by simpa using hP, ?_, hK1⟩
    have : found.length = xs.length := by simpa using hlen
    rw [← this]
    exact hS1
  · have hpos : 0 < left.length := List.length_pos_iff.mpr hne
    have hemp : left.isEmpty = false := by simpa using hne
    simp only [hemp, Bool.not_false, if_true]
    obtain ⟨p, v1, e1, ⟨d, rfl, hd0, hd1⟩, hs1, hK2⟩ := (take_spec (n := n) (many := (left.length : Int)) (by omega) (by omega) hS1 (by omega)).ex
    obtain ⟨j, rfl⟩ : ∃ j : Nat, d = j := ⟨d.toNat, by omega⟩
    have hj : j < left.length := by omega
    have hL2 := hK2.get hL1 (by simp; omega)
    have hF2 := hK2.get hF1 (by simp; omega)
    have hF3 : (v1.set vh.length (.lst (left.eraseIdx j)))[vh.length + 1]? = some (.lst found) := by rw [at_ne (by omega)]; exact hF2
    have hfl : found.length < sizeLine := by have := size_1000; omega
    have e4 : evSs T (callF T (n + 1)) b__law_mix_2 [some (.ref a), some things, some (.ref vh.length), some (.ref (vh.length + 1))] (v ++ [.lst []]) =
        .ok (.nx [some (.ref a), some things, some (.ref vh.length), some (.ref (vh.length + 1))]) ((v1.set vh.length (.lst (left.eraseIdx j))).set (vh.length + 1) (.lst (found ++ [left[j]]))) := by
      simp [b__law_mix_2, s__law_mix_2, evSs, evS, evE, evEs, isLst_of hL1, isLst_of hF1, blt, len_lst hL1, e1, pop_lst hL2 hj (by omega), append_lst hF3 hfl]
    refine Wp.eq e4 ⟨left.length - 1, by omega, left.eraseIdx j, found ++ [left[j]], rfl, ?_, at_set hF3, ?_, ?_, ?_, ?_⟩
    · rw [at_ne (by omega)]
      exact at_set hL2
    · refine List.Perm.trans ?_ hP
      rw [List.append_assoc]
      refine List.Perm.append_left _ ?_
      exact perm_erase hj
    · rw [List.length_append, List.length_singleton, ← Nat.add_assoc]
      exact (hs1.set (by omega) (by omega) _).set (by omega) (by omega) _
    · exact (((hK1.trans hK2).set_new (Nat.le_refl _)).set_new (Nat.le_succ _))
    · rw [List.length_eraseIdx, if_pos hj]
end Mini
end T_S2

section T_S3
set_option Elab.async false
set_option linter.all false
set_option autoImplicit false
/-! specs: words, rows -/
namespace Mini
open PySem
def W14 : List Str := ["a", "b", "f", "g", "one", "neg", "add", "x", "y", "zz", "abcdefgh", "above", "bar", "kind"]
theorem w14_nodup : W14.Nodup := by decide +kernel
theorem pl_str {s : Str} (h : PyData.strOk s = true) : Pl (.str s) := fun vh => ⟨.str s, by
  show (if PyData.strOk s = true then some (PyData.str s) else none) = _
  rw [if_pos h]⟩
theorem w14_ok : ∀ s ∈ W14, PyData.strOk s = true := by decide +kernel
theorem words_spec {n a b k m : Nat} {vh : VH} (hm : m ≤ 14) (hs : St a b k vh) (hk : k + 14 < 2 ^ 40) :
    Wp (callF T (n + 3) f__law_words [.ref a, .int m] vh) (fun p vh' => ∃ (r : Nat) (ws : List Str), p = .ref r ∧ vh.length ≤ r ∧ vh'[r]? = some (.lst (ws.map PV.str)) ∧ ws.Nodup ∧ (∀ s ∈ ws, s ∈ W14) ∧ ws.length = m ∧ St a b (k + 14) vh' ∧ Kp [a] vh vh') X0 := by
  refine wp_call (fn := df__law_words) rfl rfl ?_
  have hsz := size_1000
  have e0 : evSs T (callF T (n + 2)) b__law_words_0 [some (.ref a), some (.int m), none] vh = evSs T (callF T (n + 2)) b__law_words_1 [some (.ref a), some (.int m), some (.ref vh.length)] (vh ++ [.lst (W14.map PV.str)]) := by
    simp [b__law_words_0, s__law_words_0, evSs, evS, evE, evEs, newL, alloc, setTg, setEnv, W14, show 14 ≤ sizeLine by omega]
  show Wp (evSs T (callF T (n + 2)) b__law_words_0 [some (.ref a), some (.int m), none] vh) _ _
  rw [e0]
  have hl : listP (.ref vh.length) (vh ++ [.lst (W14.map PV.str)]) = newL (W14.map PV.str) (vh ++ [.lst (W14.map PV.str)]) := by
    unfold listP
    dsimp only
    rw [at_new]
  obtain ⟨p, v1, e1, r, ys, rfl, hr, hr1, hp, hs1, hK⟩ := (mix_spec (n := n) (k := k) (a := a) (b := b) hl (fun x hx => by
    obtain ⟨s, hs, rfl⟩ := List.mem_map.mp hx
    exact pl_str (w14_ok s hs)) (by decide) (hs.app _) (by rw [List.length_map]; exact hk)).ex
  obtain ⟨ws, rfl, hw⟩ := perm_map (g := strOf) (fun x => rfl) hp
  have hlen : ws.length = 14 := hw.length_eq
  have hz : (cutP (ws.map PV.str) none (some (m : Int))).length ≤ sizeLine := by
    rw [cut_take, List.length_take, List.length_map, hlen]
    omega
  have e2 : evSs T (callF T (n + 2)) b__law_words_1 [some (.ref a), some (.int m), some (.ref vh.length)] (vh ++ [.lst (W14.map PV.str)]) = .ok (.rt (.ref v1.length)) (v1 ++ [.lst ((ws.take m).map PV.str)]) := by
    simp [b__law_words_1, s__law_words_1, evSs, evS, evE, evEs, isAbs, partI, e1, sl_lst hr1 hz, cut_take]
  refine Wp.eq e2 ⟨v1.length, ws.take m, rfl, ?_, at_new _ _, ?_, ?_, ?_, hs1.app _, ?_⟩
  · have := hK.len
    simp at this
    omega
  · exact (hw.nodup_iff.mpr w14_nodup).sublist (List.take_sublist _ _)
  · intro s h
    exact hw.subset (List.mem_of_mem_take h)
  · simp [hlen, hm]
  · exact ((Kp.app _).trans hK).trans (Kp.app _)
end Mini
end T_S3

section T_S4
set_option Elab.async false
set_option linter.all false
set_option autoImplicit false
/-! specs: rows -/
namespace Mini
open PySem
def rowV (q : Str × Int) : PV := .tup [.str q.1, .int q.2]
structure GoodR (R : List (Str × Int)) : Prop where
  nd : (R.map (·.1)).Nodup
  w : ∀ q ∈ R, q.1 ∈ W14
  m : ∀ q ∈ R, 0 ≤ q.2 ∧ q.2 ≤ 2
  z : ∃ q ∈ R, q.2 = 0
  len : R.length ≤ 14
theorem pl_int (i : Int) : Pl (.int i) := fun vh => ⟨.int i, rfl⟩
theorem pl_row {q : Str × Int} (h : PyData.strOk q.1 = true) : Pl (rowV q) := fun vh => ⟨.tuple [.str q.1, .int q.2], by
  show (mapO (toD vh 188) [.str q.1, .int q.2]).map PyData.tuple = _
  have e : toD vh 188 (.str q.1) = some (.str q.1) := by
    show (if PyData.strOk q.1 = true then some (PyData.str q.1) else none) = _
    rw [if_pos h]
  unfold mapO mapO mapO
  rw [e]
  rfl⟩
theorem toD_ints (vh : VH) : ∀ ms : List Int, mapO (toD vh 190) (ms.map PV.int) = some (ms.map PyData.int)
  | [] => rfl
  | m :: ms => by
    rw [List.map_cons]
    unfold mapO
    rw [show toD vh 190 (.int m) = some (.int m) from rfl, toD_ints vh ms]
    rfl
theorem in_ints {vh : VH} {l : Nat} {ms : List Int} (i : Int) (h : vh[l]? = some (.lst (ms.map PV.int))) : ∃ c, inP (.int i) (.ref l) vh = some c := by
  unfold inP
  dsimp only
  rw [h]
  dsimp only
  unfold inSeq
  rw [toD_ints]
  exact ⟨_, rfl⟩
/-- [take(state, 3) for k in words[1:]] -/
theorem takes_spec {n a b k w : Nat} {vh : VH} {ws : List PV} {x1 x3 x4 x5 x6 : Option PV} (hw : vh[w]? = some (.lst ws)) (hwa : w ≠ a) (hl : ws.length ≤ 100) (hs : St a b k vh) (hk : k + 100 < 2 ^ 40) :
    Wp (evE T (callF T (n + 1)) c__law_rows_0 [some (.ref a), x1, some (.ref w), x3, x4, x5, x6] vh) (fun p v => ∃ (D : Nat) (ms : List Int), p = .ref D ∧ vh.length ≤ D ∧ v[D]? = some (.lst (ms.map PV.int)) ∧ ms.length = ws.length - 1 ∧ (∀ m ∈ ms, 0 ≤ m ∧ m < 3) ∧ St a b (k + ws.length) v ∧ Kp [a] vh v) X0 := by
  have hsz := size_1000
  obtain ⟨la, lb, lab⟩ := hs.lt
  have hz : (cutP ws (some 1) none).length ≤ sizeLine := by rw [cut_tail, List.length_tail]; omega
  have e0 : evI T (callF T (n + 1)) (.val (.sl (.var 2) (.con (.int 1)) .absent)) [some (.ref a), x1, some (.ref w), x3, x4, x5, x6] vh = .ok (.ls vh.length) (vh ++ [.lst ws.tail]) := by
    simp [evI, evE, isAbs, partI, sl_lst hw hz, cut_tail, src_lst (at_new vh (.lst ws.tail))]
  unfold c__law_rows_0 evE
  rw [e0]
  simp only [Res.bind_ok, len_ls (at_new vh (.lst ws.tail)), List.length_append, List.length_singleton]
  have hlt : ws.tail.length = ws.length - 1 := List.length_tail
  refine wp_lc (xs := ws.tail) (fun kk acc v => ∃ ms : List Int, acc = ms.map PV.int ∧ ms.length = kk ∧ (∀ m ∈ ms, 0 ≤ m ∧ m < 3) ∧ v[vh.length]? = some (.lst ws.tail) ∧ St a b (k + kk) v ∧ Kp [a] vh v) (fun kk acc v ⟨_, _, _, _, h, _⟩ _ => item_ls h) (fun kk acc v p ⟨ms, ea, hml, hm, hv, hS, hK⟩ hD hp => ?_) (fun acc v ⟨ms, ea, hml, hm, hv, hS, hK⟩ hD => ?_) _ 0 [] _ (by simp)
    ⟨[], rfl, rfl, by simp, at_app (at_new _ _), (hs.app _).app _, (Kp.app _).trans (Kp.app _)⟩ (by have := at_new (vh ++ [.lst ws.tail]) (.lst []); simpa using this)
  · have hkk : kk < ws.tail.length := (List.getElem?_eq_some_iff.mp hp).1
    obtain ⟨q, v1, e1, ⟨d, rfl, hd0, hd1⟩, hs1, hK1⟩ := (take_spec (n := n) (many := 3) (by omega) (by omega) hS (by omega)).ex
    have e2 : evE T (callF T (n + 1)) x__law_rows_0 [some (.ref a), x1, some (.ref w), x3, x4, some p, x6] v = .ok (.int d) v1 := by
      simp [x__law_rows_0, evE, evEs, e1]
    have hD1 := hK1.get hD (by simp; omega)
    simp only [setTg, setEnv, wipeE, List.set_cons_succ, List.set_cons_zero, evC, e2, Res.bindN_ok, wp_ok]
    refine ⟨hD1, ?_, ms ++ [d], by rw [ea]; simp, by simp [hml], ?_, ?_, ?_, ?_⟩
    · rw [ea, List.length_map]; omega
    · intro m hm'
      rcases List.mem_append.mp hm' with h | h
      · exact hm m h
      · have : m = d := by simpa using h
        subst this
        exact ⟨hd0, hd1⟩
    · rw [at_ne (by omega)]
      exact hK1.get hv (by simp; omega)
    · exact (hs1.set (by omega) (by omega) _)
    · exact (hK.trans hK1).set_new (by omega)
  · exact ⟨vh.length + 1, ms, rfl, by omega, by rw [← ea]; exact hD, by omega, hm, hS.mono (by omega), hK⟩
end Mini
end T_S4

section T_S5
set_option Elab.async false
set_option linter.all false
set_option autoImplicit false
set_option maxRecDepth 10000
/-! specs: rows -/
namespace Mini
open PySem
theorem item_enum {vh : VH} {l k : Nat} {xs : List PV} (h : vh[l]? = some (.lst xs)) : itemAt vh (.enum (.ls l)) k = some ((List.range xs.length).zip xs |>.map fun q => PV.tup [.int (q.1 : Nat), q.2])[k]? := by
  unfold itemAt
  rw [item_ls h]
  by_cases hk : k < xs.length
  · rw [List.getElem?_eq_getElem hk]
    simp [hk]
  · rw [List.getElem?_eq_none (by omega), List.getElem?_eq_none (by simp; omega)]
theorem rows_spec {n a b k most : Nat} {vh : VH} (hm1 : 1 ≤ most) (hm2 : most ≤ 13) (hs : St a b k vh) (hk : k + 200 < 2 ^ 40) :
    Wp (callF T (n + 4) f__law_rows [.ref a, .int most] vh) (fun p vh' => ∃ (r : Nat) (R : List (Str × Int)), p = .ref r ∧ vh.length ≤ r ∧ vh'[r]? = some (.lst (R.map rowV)) ∧ GoodR R ∧ R.length ≤ most ∧ St a b (k + 60) vh' ∧ Kp [a] vh vh') X0 := by
  have hsz := size_1000
  obtain ⟨la, lb, lab⟩ := hs.lt
  refine wp_call (fn := df__law_rows) rfl rfl ?_
  show Wp (evSs T (callF T (n + 3)) b__law_rows_0 [some (.ref a), some (.int most), none, none, none, none, none] vh) _ _
  -- the words
  obtain ⟨p1, v1, e1, ⟨d, rfl, hd0, hd1⟩, hs1, hK1⟩ := (take_spec (n := n + 2) (many := (most : Int)) (by omega) (by omega) hs (by omega)).ex
  obtain ⟨j, rfl⟩ : ∃ j : Nat, d = j := ⟨d.toNat, by omega⟩
  obtain ⟨p2, v2, e2, w, ws, rfl, hw1, hw2, hnd, hW, hwl, hs2, hK2⟩ := (words_spec (n := n) (m := 1 + j) (by omega) hs1 (by omega)).ex
  have e2' : callF T (n + 3) f__law_words [.ref a, .int (1 + (j : Int))] v1 = .ok (.ref w) v2 := by
    rw [← e2]
    congr
  have hK12 := hK1.trans hK2
  obtain ⟨w0, wt, rfl⟩ : ∃ w0 wt, ws = w0 :: wt := by
    cases ws with
    | nil => simp at hwl; omega
    | cons w0 wt => exact ⟨w0, wt, rfl⟩
  have hwt : wt.length = j := by simp at hwl; omega
  have hvl : vh.length ≤ v2.length := hK12.len
  have s0 : evSs T (callF T (n + 3)) b__law_rows_0 [some (.ref a), some (.int most), none, none, none, none, none] vh = evSs T (callF T (n + 3)) b__law_rows_2 [some (.ref a), some (.int most), some (.ref w), some (.ref v2.length), none, none, none] (v2 ++ [.lst [rowV (w0, 0)]]) := by
    simp [b__law_rows_0, s__law_rows_0, b__law_rows_1, s__law_rows_1, evSs, evS, evE, evEs, binop, addP, e1, e2', setTg, setEnv, idxP, hw2, newT, newL, alloc, rowV, show 1 ≤ sizeLine by omega, show 2 ≤ sizeLine by omega]
  rw [s0]
  -- the numbers
  have hw3 := at_app (u := .lst [rowV (w0, 0)]) hw2
  have hwa : w ≠ a := by have := hK1.len; omega
  have hwlen : w < v2.length := lt_at hw2
  obtain ⟨p3, v3, e3, D, ms, rfl, hD1, hD2, hml, hm, hs3, hK3⟩ := (takes_spec (n := n + 2) (k := k + 1 + 14) (x1 := some (.int most)) (x3 := some (.ref v2.length)) (x4 := none) (x5 := none) (x6 := none) hw3 hwa (by simp; omega) (hs2.app _) (by omega)).ex
  simp only [List.map_cons, List.length_cons, List.length_map, Nat.add_sub_cancel] at hml hs3
  have hF3 := hK3.get (at_new v2 (.lst [rowV (w0, 0)])) (by simp; omega)
  have hw4 := hK3.get hw3 (by simpa using hwa)
  have hlen3 : v2.length + 1 ≤ v3.length := by have := hK3.len; simpa using this
  have hDl : D < v3.length := lt_at hD2
  simp at hD1
  have hz : (cutP ((w0 :: wt).map PV.str) (some 1) none).length ≤ sizeLine := by rw [cut_tail]; simp; omega
  have e4 : evI T (callF T (n + 3)) (.enum (.sl (.var 2) (.con (.int 1)) .absent)) [some (.ref a), some (.int most), some (.ref w), some (.ref v2.length), some (.ref D), none, none] v3 = .ok (.enum (.ls v3.length)) (v3 ++ [.lst (wt.map PV.str)]) := by
    simp [evI, evE, isAbs, partI, sl_lst hw4 hz, cut_tail]
  simp only [b__law_rows_2, s__law_rows_2, b__law_rows_3, s__law_rows_3, evSs, evS, e3, e4, bindS_ok, Res.bind_ok, setTg, setEnv, List.set_cons_succ, List.set_cons_zero, Src.len, at_new]
  rw [wp_bind]
  refine wp_for (xs := ((List.range (wt.map PV.str).length).zip (wt.map PV.str)).map fun q => PV.tup [.int (q.1 : Nat), q.2]) (fun kk env v => ∃ (x5 x6 : Option PV) (R : List (Str × Int)), env = [some (.ref a), some (.int most), some (.ref w), some (.ref v2.length), some (.ref D), x5, x6] ∧ v[v2.length]? = some (.lst (((w0, 0) :: R).map rowV)) ∧
      R.map (·.1) = wt.take kk ∧ (∀ q ∈ R, 0 ≤ q.2 ∧ q.2 ≤ 2) ∧ v[D]? = some (.lst (ms.map PV.int)) ∧ v[v3.length]? = some (.lst (wt.map PV.str)) ∧ St a b (k + 1 + 14 + (wt.length + 1)) v ∧ Kp [a] vh v) (fun kk env v ⟨_, _, _, _, _, _, _, _, h, _⟩ => item_enum h) (fun kk env v p ⟨x5, x6, R, ee, hF, hR, hR2, hD, hL, hS, hK⟩ hp => ?_) (fun env v ⟨x5, x6, R, ee, hF, hR, hR2, hD, hL, hS, hK⟩ => ?_) _ 0 _ _ (by simp)
    ⟨none, none, [], rfl, at_app hF3, by simp, by simp, at_app hD2, at_new _ _, hs3.app _, ((hK12.trans ((Kp.app _).trans hK3)).trans (Kp.app _))⟩
  · subst ee
    have hkk : kk < wt.length := by
      have := (List.getElem?_eq_some_iff.mp hp).1
      simpa using this
    have hpe : p = .tup [.int kk, .str wt[kk]] := by
      simp [hkk] at hp
      exact hp.symm
    subst hpe
    have hmk : kk < ms.length := by omega
    have hRl : R.length = kk := by
      have := congrArg List.length hR
      simp at this
      omega
    obtain ⟨hmk0, hmk3⟩ := hm ms[kk] (List.getElem_mem _)
    have hidx : ∀ v' : VH, v'[D]? = some (.lst (ms.map PV.int)) → idxP (.ref D) (.int kk) v' = some (.int ms[kk], v') := fun v' h => idx_lst h (by simp [hmk])
    -- the number that is written
    have num : ∃ (m' : Int) (v' : VH), 0 ≤ m' ∧ m' ≤ 2 ∧ Kp [] v v' ∧ evE T (callF T (n + 3)) i__law_rows_0 [some (.ref a), some (.int most), some (.ref w), some (.ref v2.length), some (.ref D), some (.int kk), some (.str wt[kk])] v = .ok (.int m') v' := by
      by_cases hlt : ms[kk] < 2
      · refine ⟨ms[kk], v, hmk0, by omega, Kp.refl _ _, ?_⟩
        simp [i__law_rows_0, evE, hidx v hD, cmpop, ordP, hlt]
      · have hz2 : (cutP (ms.map PV.int) none (some (kk : Int))).length ≤ sizeLine := by rw [cut_take]; simp; omega
        have hv' := at_new v (.lst (cutP (ms.map PV.int) none (some (kk : Int))))
        rw [cut_take, ← List.map_take] at hv'
        obtain ⟨c, hc⟩ := in_ints (2 : Int) hv'
        refine ⟨if c = true then 1 else ms[kk], v ++ [.lst ((ms.take kk).map PV.int)], by split <;> omega, by split <;> omega, Kp.app _, ?_⟩
        have hD' := at_app (u := .lst ((ms.take kk).map PV.int)) hD
        cases c <;> simp [i__law_rows_0, evE, hidx v hD, hidx _ hD', cmpop, ordP, hlt, isAbs, partI, sl_lst hD hz2, cut_take, hc, ← List.map_take]
    obtain ⟨m', v', hm0, hm1', hKn, en⟩ := num
    have hF' := hKn.get hF (by simp)
    have hfl : (((w0, (0 : Int)) :: R).map rowV).length < sizeLine := by simp; omega
    refine ⟨_, rfl, ?_⟩
    have eb : evSs T (callF T (n + 3)) b__law_rows_4 [some (.ref a), some (.int most), some (.ref w), some (.ref v2.length), some (.ref D), some (.int kk), some (.str wt[kk])] v =
        .ok (.nx [some (.ref a), some (.int most), some (.ref w), some (.ref v2.length), some (.ref D), some (.int kk), some (.str wt[kk])]) (v'.set v2.length (.lst (((w0, 0) :: R).map rowV ++ [rowV (wt[kk], m')]))) := by
      have ap := append_lst (p := rowV (wt[kk], m')) hF' hfl
      generalize hrows : ((w0, (0 : Int)) :: R).map rowV = fd at ap ⊢
      rw [hrows] at hF
      have il := isLst_of hF
      unfold rowV at ap ⊢
      simp only [b__law_rows_4, s__law_rows_4, evSs, evS, evE, evEs, List.getElem?_cons_zero, List.getElem?_cons_succ, Res.bind_ok, il, if_true, en, newT, List.length_cons, List.length_nil, show 0 + 1 + 1 ≤ sizeLine by omega, res_o, ap, bindS_ok]
    have hva : v2.length ≠ a := by omega
    have hvb : v2.length ≠ b := by omega
    refine Wp.eq eb ⟨_, _, R ++ [(wt[kk], m')], rfl, ?_, ?_, ?_, ?_, ?_, ?_, ?_⟩
    · rw [at_set hF']
      simp
    · rw [List.map_append, hR]
      exact List.take_append_getElem hkk
    · intro q hq
      rcases List.mem_append.mp hq with h | h
      · exact hR2 q h
      · have : q = (wt[kk], m') := by simpa using h
        subst this
        exact ⟨hm0, hm1'⟩
    · rw [at_ne (by omega)]
      exact hKn.get hD (by simp)
    · rw [at_ne (by omega)]
      exact hKn.get hL (by simp)
    · exact (hS.kp hKn (by simp) (by simp)).set (Ne.symm hva) (Ne.symm hvb) _
    · exact ((hK.trans (hKn.mono (by simp))).set_new hvl)
  · subst ee
    have hRw : R.map (·.1) = wt := by
      rw [hR]
      simp
    have hgood : GoodR ((w0, 0) :: R) := by
      refine ⟨by simpa [hRw] using hnd, fun q hq => ?_, fun q hq => ?_, ⟨(w0, 0), List.mem_cons_self, rfl⟩, ?_⟩
      · refine hW q.1 ?_
        have : q.1 ∈ ((w0, (0 : Int)) :: R).map (·.1) := List.mem_map.mpr ⟨q, hq, rfl⟩
        simpa [hRw] using this
      · rcases List.mem_cons.mp hq with rfl | h
        · exact ⟨by omega, by omega⟩
        · exact hR2 q h
      · have := congrArg List.length hRw
        simp at this ⊢
        omega
    have hRl : R.length = j := by
      have := congrArg List.length hRw
      simpa [hwt] using this
    have hlp : listP (.ref v2.length) v = newL (((w0, 0) :: R).map rowV) v := by
      unfold listP
      dsimp only
      rw [hF]
    obtain ⟨p5, v5, e5, r, ys, rfl, hr, hr1, hp, hs5, hK5⟩ := (mix_spec (n := n + 1) (a := a) (b := b) hlp (fun x hx => by
      obtain ⟨q, hq, rfl⟩ := List.mem_map.mp hx
      exact pl_row (w14_ok _ (hgood.w q hq))) (by simp; omega) hS (by simp; omega)).ex
    obtain ⟨R', rfl, hperm⟩ := perm_map (f := rowV) (g := fun p => match p with | .tup [.str s, .int i] => (s, i) | _ => (Str.empty, 0)) (fun x => rfl) hp
    have eb : evSs T (callF T (n + 3)) b__law_rows_5 [some (.ref a), some (.int most), some (.ref w), some (.ref v2.length), some (.ref D), x5, x6] v = .ok (.rt (.ref r)) v5 := by
      simp [b__law_rows_5, s__law_rows_5, evSs, evS, evE, evEs, e5]
    refine Wp.eq eb ⟨r, R', rfl, ?_, hr1, ?_, ?_, ?_, ?_⟩
    · have := hK.len
      omega
    · refine ⟨?_, fun q hq => hgood.w q (hperm.subset hq), fun q hq => hgood.m q (hperm.subset hq), ?_, ?_⟩
      · exact ((hperm.map (·.1)).nodup_iff).mpr hgood.nd
      · obtain ⟨q, hq, e⟩ := hgood.z
        exact ⟨q, hperm.symm.subset hq, e⟩
      · rw [hperm.length_eq]; exact hgood.len
    · rw [hperm.length_eq]
      simp
      omega
    · refine hs5.mono ?_
      simp
      omega
    · exact hK.trans hK5
end Mini
end T_S5

section T_S6
set_option Elab.async false
set_option linter.all false
set_option autoImplicit false
set_option maxRecDepth 10000
/-! specs: many, labels -/
namespace Mini
open PySem
theorem add_lst {vh : VH} {a b : Nat} {xs ys : List PV} (ha : vh[a]? = some (.lst xs)) (hb : vh[b]? = some (.lst ys)) (hz : xs.length + ys.length ≤ sizeLine) : addP (.ref a) (.ref b) vh = some (.ref vh.length, vh ++ [.lst (xs ++ ys)]) := by
  unfold addP
  dsimp only
  rw [ha, hb]
  dsimp only
  unfold newL
  rw [if_pos (by rw [List.length_append]; exact hz)]
  rfl
theorem list_lst {vh : VH} {a : Nat} {xs : List PV} (ha : vh[a]? = some (.lst xs)) (hz : xs.length ≤ sizeLine) : listP (.ref a) vh = some (.ref vh.length, vh ++ [.lst xs]) := by
  unfold listP
  dsimp only
  rw [ha]
  dsimp only
  unfold newL
  rw [if_pos hz]
  rfl
def AllR (R : List (Str × Int)) : List (Str × Int) := R ++ [(("keep" : Str), 1)]
theorem keep_w14 : ("keep" : Str) ∉ W14 := by decide +kernel
theorem GoodR.all {R : List (Str × Int)} (g : GoodR R) : ((AllR R).map (·.1)).Nodup := by
  unfold AllR
  rw [List.map_append, List.nodup_append]
  refine ⟨g.nd, by simp, fun x hx y hy => ?_⟩
  have : y = "keep" := by simpa using hy
  subst this
  obtain ⟨q, hq, rfl⟩ := List.mem_map.mp hx
  exact fun e => keep_w14 (e ▸ g.w q hq)
def keyV (q : Str × Int) : L2.Key × PV := (.inr q.1, .int q.2)
theorem pairs_rows : ∀ R : List (Str × Int), mapO pairP (R.map rowV) = some (R.map keyV)
  | [] => rfl
  | q :: R => by
    rw [List.map_cons]
    unfold mapO
    rw [show pairP (rowV q) = some (keyV q) from rfl, pairs_rows R]
    rfl
theorem put_new {kvs : List (L2.Key × PV)} {k : L2.Key} {v : PV} (h : k ∉ kvs.map (·.1)) : putP kvs k v = kvs ++ [(k, v)] := by
  unfold putP
  rw [if_neg]
  simp only [Bool.not_eq_true, List.any_eq_false, decide_eq_true_eq]
  intro x hx e
  exact h (List.mem_map.mpr ⟨x, hx, e⟩)
theorem merge_nodup : ∀ (more acc : List (L2.Key × PV)), ((acc ++ more).map (·.1)).Nodup → mergeP acc more = acc ++ more
  | [], acc, _ => by simp [mergeP]
  | q :: more, acc, h => by
    show mergeP (putP acc q.1 q.2) more = _
    have hq : q.1 ∉ acc.map (·.1) := by
      rw [List.map_append, List.map_cons, List.nodup_append] at h
      exact fun m => h.2.2 _ m _ List.mem_cons_self rfl
    rw [put_new hq, merge_nodup more (acc ++ [(q.1, q.2)]) (by simpa using h)]
    simp
theorem keys_nodup {R : List (Str × Int)} (g : GoodR R) : (((AllR R).map keyV).map (·.1)).Nodup := by
  rw [List.map_map]
  have e : (AllR R).map ((fun q : L2.Key × PV => q.1) ∘ keyV) = ((AllR R).map (·.1)).map (Sum.inr : Str → L2.Key) := by
    rw [List.map_map]
    rfl
  rw [e]
  exact List.Pairwise.map _ (fun a b h e => h (Sum.inr.inj e)) g.all
theorem val_row : ∀ {L : List (Str × Int)} {l : Str} {m : Int}, (L.map (·.1)).Nodup → (l, m) ∈ L → valP (L.map keyV) (.inr l) = some (.int m)
  | [], _, _, _, h => by cases h
  | q :: L, l, m, nd, h => by
    rw [List.map_cons, List.nodup_cons] at nd
    unfold valP
    rw [List.map_cons, List.find?_cons]
    by_cases e : q.1 = l
    · rcases List.mem_cons.mp h with rfl | h
      · simp [keyV]
      · exact absurd (List.mem_map.mpr ⟨(l, m), h, rfl⟩) (e ▸ nd.1)
    · have e2 : (decide ((keyV q).1 = (.inr l : L2.Key))) = false := by
        exact decide_eq_false fun z => e (Sum.inr.inj z)
      rw [e2]
      rcases List.mem_cons.mp h with rfl | h
      · exact absurd rfl e
      · exact val_row nd.2 h
theorem val_none : ∀ {L : List (Str × Int)} {l : Str}, l ∉ L.map (·.1) → valP (L.map keyV) (.inr l) = none
  | [], _, _ => rfl
  | q :: L, l, h => by
    unfold valP
    rw [List.map_cons, List.find?_cons]
    have e2 : (decide ((keyV q).1 = (.inr l : L2.Key))) = false := by
      exact decide_eq_false fun z => h (by
        have z' : q.1 = l := Sum.inr.inj z
        rw [List.map_cons, z']
        exact List.mem_cons_self)
    rw [e2]
    exact val_none fun m => h (by rw [List.map_cons]; exact List.mem_cons_of_mem _ m)
theorem many_spec {n r : Nat} {vh : VH} {R : List (Str × Int)} {l : Str} {m : Int} (hr : vh[r]? = some (.lst (R.map rowV))) (g : GoodR R) (hl : (l, m) ∈ AllR R) :
    Wp (callF T (n + 1) f__law_many [.ref r, .str l] vh) (fun p v => p = .int m ∧ Kp [] vh v) X0 := by
  have hsz := size_1000
  have hlen := g.len
  refine wp_call (fn := df__law_many) rfl rfl ?_
  show Wp (evSs T (callF T n) b__law_many_0 [some (.ref r), some (.str l)] vh) _ _
  have h1 := at_app (u := .lst [rowV ("keep", 1)]) (at_new vh (.lst (R.map rowV)))
  have h2 := at_new (vh ++ [VO.lst (R.map rowV)]) (.lst [rowV ("keep", 1)])
  have hlp : listP (.ref r) vh = some (.ref vh.length, vh ++ [VO.lst (R.map rowV)]) := by
    unfold listP
    dsimp only
    rw [hr]
    simp [newL, alloc, show R.length ≤ sizeLine by omega]
  have hadd : addP (.ref vh.length) (.ref (vh ++ [VO.lst (R.map rowV)]).length) (vh ++ [VO.lst (R.map rowV)] ++ [VO.lst [rowV ("keep", 1)]]) = some (.ref (vh ++ [VO.lst (R.map rowV)] ++ [VO.lst [rowV ("keep", 1)]]).length, vh ++ [VO.lst (R.map rowV)] ++ [VO.lst [rowV ("keep", 1)]] ++ [VO.lst ((AllR R).map rowV)]) := by
    have := add_lst h1 h2 (by simp; omega)
    rw [this]
    simp [AllR]
  generalize hv3 : vh ++ [VO.lst (R.map rowV)] ++ [VO.lst [rowV ("keep", 1)]] = v3 at h1 h2 hadd
  have h3 := at_new v3 (.lst ((AllR R).map rowV))
  have hd : dictP (.ref v3.length) (v3 ++ [VO.lst ((AllR R).map rowV)]) = some (.ref (v3 ++ [VO.lst ((AllR R).map rowV)]).length, v3 ++ [VO.lst ((AllR R).map rowV)] ++ [VO.dct ((AllR R).map keyV)]) := by
    unfold dictP
    dsimp only
    rw [h3]
    dsimp only
    rw [pairs_rows]
    dsimp only
    rw [merge_nodup _ [] (by rw [List.nil_append]; exact keys_nodup g)]
    rfl
  generalize hv4 : v3 ++ [VO.lst ((AllR R).map rowV)] = v4 at hd
  have hix : idxP (.ref v4.length) (.str l) (v4 ++ [VO.dct ((AllR R).map keyV)]) = some (.int m, v4 ++ [VO.dct ((AllR R).map keyV)]) := by
    unfold idxP
    dsimp only
    rw [at_new]
    dsimp only [kOf]
    rw [val_row g.all hl]
  have hK : Kp [] vh (v4 ++ [VO.dct ((AllR R).map keyV)]) := by
    rw [← hv4, ← hv3]
    exact (((Kp.app _).trans (Kp.app _)).trans (Kp.app _)).trans (Kp.app _)
  have e : evSs T (callF T n) b__law_many_0 [some (.ref r), some (.str l)] vh = .ok (.rt (.int m)) (v4 ++ [VO.dct ((AllR R).map keyV)]) := by
    have hk : newL [rowV ("keep", 1)] (vh ++ [VO.lst (R.map rowV)]) = some (.ref (vh ++ [VO.lst (R.map rowV)]).length, v3) := by
      unfold newL alloc
      rw [if_pos (by simp; omega), hv3]
    rw [show rowV ("keep", 1) = .tup [.str "keep", .int 1] from rfl] at hk
    simp only [b__law_many_0, s__law_many_0, evSs, evS, evE, evEs, List.getElem?_cons_zero, List.getElem?_cons_succ, Res.bind_ok, blt, if_true, if_false, hlp, res_o, newT, List.length_cons, List.length_nil, show 0 + 1 + 1 ≤ sizeLine by omega, hk, binop, hadd, hv4, hd, hix, bindS_ok, String.reduceEq]
  exact Wp.eq e ⟨rfl, hK⟩
def labV (R : List (Str × Int)) : List PV := (AllR R).map fun q => .str q.1
theorem labels_spec {n r : Nat} {vh : VH} {R : List (Str × Int)} (hr : vh[r]? = some (.lst (R.map rowV))) (g : GoodR R) :
    Wp (callF T (n + 1) f__law_labels [.ref r] vh) (fun p v => ∃ D, p = .ref D ∧ vh.length ≤ D ∧ v[D]? = some (.lst (labV R)) ∧ Kp [] vh v) X0 := by
  have hsz := size_1000
  have hlen := g.len
  refine wp_call (fn := df__law_labels) rfl rfl ?_
  show Wp (evSs T (callF T n) b__law_labels_0 [some (.ref r), none, none] vh) _ _
  have hc : Wp (evE T (callF T n) c__law_labels_0 [some (.ref r), none, none] vh) (fun p v => p = .ref vh.length ∧ v[vh.length]? = some (.lst (R.map fun q => .str q.1)) ∧ Kp [] vh v) X0 := by
    unfold c__law_labels_0 evE
    have e0 : evI T (callF T n) (.val (.var 0)) [some (.ref r), none, none] vh = .ok (.ls r) vh := by simp [evI, evE, src_lst hr]
    rw [e0]
    simp only [Res.bind_ok, len_ls hr]
    refine (lc_pure (xs := R.map rowV) (fun p => match p with | .tup (x :: _) => some x | _ => none) (fun v hK k => item_ls (hK.get hr (by simp))) (fun p hp v hK => ?_) (by simp; omega)).thn fun p v ⟨h1, h2, h3⟩ => ⟨h1, ?_, h3⟩
    · obtain ⟨q, _, rfl⟩ := List.mem_map.mp hp
      simp [setTg, setAll, setEnv, wipeE, evC, rowV, x__law_labels_0, evE, Kp.refl]
    · rw [h2, List.filterMap_map]
      congr
      rw [← List.filterMap_eq_map]
      rfl
  obtain ⟨p, v1, e1, rfl, h1, hK⟩ := hc.ex
  have h2 := at_app (u := .lst [.str "keep"]) h1
  have ha := add_lst h2 (at_new v1 (.lst [.str "keep"])) (by simp; omega)
  have e : evSs T (callF T n) b__law_labels_0 [some (.ref r), none, none] vh = .ok (.rt (.ref (v1 ++ [VO.lst [.str "keep"]]).length)) (v1 ++ [VO.lst [.str "keep"]] ++ [VO.lst (labV R)]) := by
    have hk : newL [.str "keep"] v1 = some (.ref v1.length, v1 ++ [VO.lst [.str "keep"]]) := by
      unfold newL
      rw [if_pos (by simp; omega)]
      rfl
    have hl : labV R = (R.map fun q => PV.str q.1) ++ [.str "keep"] := by simp [labV, AllR]
    rw [hl]
    simp only [b__law_labels_0, s__law_labels_0, evSs, evS, evE, evEs, e1, Res.bind_ok, hk, res_o, binop, ha, bindS_ok]
  refine Wp.eq e ⟨_, rfl, ?_, at_new _ _, (hK.trans (Kp.app _)).trans (Kp.app _)⟩
  have := hK.len
  simp
  omega
end Mini
end T_S6

section T_S7
set_option Elab.async false
set_option linter.all false
set_option autoImplicit false
set_option maxRecDepth 10000
/-! specs: drawn trees -/
namespace Mini
open PySem
/-- a tree over the labels L, of this depth at most -/
def TrP (L : List (Str × Int)) : Nat → PV → Prop
  | 0, _ => False
  | d + 1, p => ∃ (l : Str) (cs : List PV), p = .tup (.str l :: cs) ∧ (l, (cs.length : Int)) ∈ L ∧ ∀ c ∈ cs, TrP L d c
theorem TrP.up {L : List (Str × Int)} : ∀ {d : Nat} {p : PV}, TrP L d p → TrP L (d + 1) p
  | 0, _, h => h.elim
  | d + 1, p, ⟨l, cs, e, h1, h2⟩ => ⟨l, cs, e, h1, fun c hc => (h2 c hc).up⟩
theorem TrP.mono {L : List (Str × Int)} {d e : Nat} {p : PV} (h : TrP L d p) (hd : d ≤ e) : TrP L e p := by
  induction hd with
  | refl => exact h
  | step _ ih => exact ih.up
theorem keep_ok : PyData.strOk ("keep" : Str) = true := by decide +kernel
theorem GoodR.ok {R : List (Str × Int)} (g : GoodR R) : ∀ q ∈ AllR R, PyData.strOk q.1 = true := fun q hq => by
  rcases List.mem_append.mp hq with h | h
  · exact w14_ok _ (g.w q h)
  · have : q = (("keep" : Str), 1) := by simpa using h
    subst this
    exact keep_ok
theorem GoodR.m3 {R : List (Str × Int)} (g : GoodR R) : ∀ q ∈ AllR R, q.2 = 0 ∨ q.2 = 1 ∨ q.2 = 2 := fun q hq => by
  rcases List.mem_append.mp hq with h | h
  · have := g.m q h
    omega
  · have : q = (("keep" : Str), 1) := by simpa using h
    subst this
    exact .inr (.inl rfl)
theorem GoodR.uniq {R : List (Str × Int)} (g : GoodR R) {l : Str} {m m' : Int} (h : (l, m) ∈ AllR R) (h' : (l, m') ∈ AllR R) : m = m' := by
  have e1 := val_row g.all h
  have e2 := val_row g.all h'
  rw [e1] at e2
  cases e2
  rfl
theorem eq_str {vh : VH} {s t : Str} (hs : PyData.strOk s = true) (ht : PyData.strOk t = true) : eqP vh (.str s) (.str t) = some (s == t) := by
  have h : ∀ s : Str, PyData.strOk s = true → toD vh 190 (.str s) = some (.str s) := fun s hs => by
    show (if PyData.strOk s = true then some (PyData.str s) else none) = _
    rw [if_pos hs]
  unfold eqP
  rw [h s hs, h t ht]
  rfl
/-- labels drawn from L with fewer children than nodes -/
def LabL (R : List (Str × Int)) (nodes : Int) (xs : List PV) : Prop := xs.length ≤ 15 ∧ ∀ p ∈ xs, ∃ q ∈ AllR R, p = .str q.1 ∧ q.2 < nodes
theorem fits_spec {n a r : Nat} {vh : VH} {R : List (Str × Int)} {nodes : Int} {x3 x4 x5 x6 x7 x8 : Option PV} (hr : vh[r]? = some (.lst (R.map rowV))) (g : GoodR R) (hn : 1 ≤ nodes) :
    Wp (evE T (callF T (n + 1)) c__law_tree_0 [some (.ref a), some (.ref r), some (.int nodes), x3, x4, x5, x6, x7, x8] vh) (fun p v => ∃ D xs, p = .ref D ∧ vh.length ≤ D ∧ v[D]? = some (.lst xs) ∧ LabL R nodes xs ∧ xs ≠ [] ∧ Kp [] vh v) X0 := by
  have hsz := size_1000
  have hlen := g.len
  obtain ⟨p, v1, e1, D1, rfl, hD1, hL, hK1⟩ := (labels_spec (n := n) hr g).ex
  have hr1 := hK1.get hr (by simp)
  have hll : (labV R).length ≤ 15 := by simp [labV, AllR]; omega
  unfold c__law_tree_0 evE
  have e0 : evI T (callF T (n + 1)) (.val (.call f__law_labels (.cons (.var 1) .nil))) [some (.ref a), some (.ref r), some (.int nodes), x3, x4, x5, x6, x7, x8] vh = .ok (.ls D1) v1 := by
    simp [evI, evE, evEs, e1, src_lst hL]
  rw [e0]
  simp only [Res.bind_ok, len_ls hL]
  let f : PV → Option PV := fun p => match p with
    | .str l => if ((AllR R).any fun q => decide (q.1 = l) && decide (q.2 < nodes)) = true then some p else none
    | _ => none
  refine (lc_pure (xs := labV R) f (fun v hK k => item_ls (hK.get hL (by simp))) (fun p hp v hK => ?_) (by omega)).thn fun p v ⟨h1, h2, h3⟩ => ?_
  · obtain ⟨⟨l, m⟩, hq, rfl⟩ := List.mem_map.mp hp
    obtain ⟨pm, v2, e2, rfl, hK2⟩ := (many_spec (n := n) (hK.get hr1 (by simp)) g hq).ex
    have hf : f (.str l) = if decide (m < nodes) = true then some (.str l) else none := by
      show (if ((AllR R).any fun q => decide (q.1 = l) && decide (q.2 < nodes)) = true then some (PV.str l) else none) = _
      congr 1
      rw [List.any_eq_true, decide_eq_true_eq]
      refine propext ⟨fun ⟨q, h1, h2⟩ => ?_, fun h => ⟨(l, m), hq, by simp [h]⟩⟩
      simp only [Bool.and_eq_true, decide_eq_true_eq] at h2
      have := g.uniq (l := l) (m := q.2) (m' := m) (by rw [← h2.1]; exact h1) hq
      omega
    have ec : evC T (callF T (n + 1)) (.cons (.cmp .Lt (.call f__law_many (.cons (.var 1) (.cons (.var 5) .nil))) (.var 2)) .nil) [some (.ref a), some (.ref r), some (.int nodes), x3, x4, some (.str l), x6, x7, x8] v = .ok (decide (m < nodes)) v2 := by
      simp [evC, evE, evEs, e2, cmpop, ordP]
    simp only [setTg, setEnv, wipeE, List.set_cons_succ, List.set_cons_zero, ec, Res.bindN_ok]
    rw [hf]
    by_cases hm : m < nodes
    · simp [hm, x__law_tree_0, evE, hK2]
    · simp [hm, hK2]
  · refine ⟨_, _, h1, hK1.len, h2, ⟨Nat.le_trans (List.length_filterMap_le _ _) hll, fun p hp => ?_⟩, ?_, hK1.trans h3⟩
    · obtain ⟨y, hy, e⟩ := List.mem_filterMap.mp hp
      obtain ⟨q, hq, rfl⟩ := List.mem_map.mp hy
      have e' : (if ((AllR R).any fun q' => decide (q'.1 = q.1) && decide (q'.2 < nodes)) = true then some (PV.str q.1) else none) = some p := e
      split at e'
      · rename_i hany
        cases e'
        obtain ⟨q', h1, h2⟩ := List.any_eq_true.mp hany
        simp only [Bool.and_eq_true, decide_eq_true_eq] at h2
        exact ⟨q', h1, by rw [h2.1], h2.2⟩
      · cases e'
    · obtain ⟨q, hq, hz⟩ := g.z
      have hqa : q ∈ AllR R := List.mem_append_left _ hq
      refine List.ne_nil_of_mem (a := .str q.1) (List.mem_filterMap.mpr ⟨.str q.1, List.mem_map.mpr ⟨q, hqa, rfl⟩, ?_⟩)
      show (if ((AllR R).any fun q' => decide (q'.1 = q.1) && decide (q'.2 < nodes)) = true then some (PV.str q.1) else none) = _
      rw [if_pos (List.any_eq_true.mpr ⟨q, hqa, by simp; omega⟩)]
theorem more_spec {n a r F : Nat} {vh : VH} {R : List (Str × Int)} {nodes : Int} {xs : List PV} {x4 x5 x6 x7 x8 : Option PV} (hr : vh[r]? = some (.lst (R.map rowV))) (g : GoodR R) (hF : vh[F]? = some (.lst xs)) (hx : LabL R nodes xs) :
    Wp (evE T (callF T (n + 1)) c__law_tree_1 [some (.ref a), some (.ref r), some (.int nodes), some (.ref F), x4, x5, x6, x7, x8] vh) (fun p v => ∃ D ys, p = .ref D ∧ vh.length ≤ D ∧ v[D]? = some (.lst ys) ∧ LabL R nodes ys ∧ Kp [] vh v) X0 := by
  have hsz := size_1000
  unfold c__law_tree_1 evE
  have e0 : evI T (callF T (n + 1)) (.val (.var 3)) [some (.ref a), some (.ref r), some (.int nodes), some (.ref F), x4, x5, x6, x7, x8] vh = .ok (.ls F) vh := by
    simp [evI, evE, src_lst hF]
  rw [e0]
  simp only [Res.bind_ok, len_ls hF]
  let f : PV → Option PV := fun p => match p with
    | .str l => if ((AllR R).any fun q => decide (q.1 = l) && decide (0 < q.2)) = true ∧ (l == ("keep" : Str)) = false then some p else none
    | _ => none
  refine (lc_pure (xs := xs) f (fun v hK k => item_ls (hK.get hF (by simp))) (fun p hp v hK => ?_) (by have := hx.1; omega)).thn fun p v ⟨h1, h2, h3⟩ => ?_
  · obtain ⟨⟨l, m⟩, hq, rfl, hlt⟩ := hx.2 p hp
    obtain ⟨pm, v2, e2, rfl, hK2⟩ := (many_spec (n := n) (hK.get hr (by simp)) g hq).ex
    have hf : f (.str l) = if (decide (0 < m) && !(l == ("keep" : Str))) = true then some (.str l) else none := by
      show (if ((AllR R).any fun q => decide (q.1 = l) && decide (0 < q.2)) = true ∧ (l == ("keep" : Str)) = false then some (PV.str l) else none) = _
      congr 1
      rw [List.any_eq_true]
      simp only [Bool.and_eq_true, decide_eq_true_eq, Bool.not_eq_true']
      refine propext ⟨fun ⟨⟨q, h1, h2⟩, h3⟩ => ⟨?_, h3⟩, fun ⟨h, h3⟩ => ⟨⟨(l, m), hq, rfl, h⟩, h3⟩⟩
      have := g.uniq (l := l) (m := q.2) (m' := m) (by rw [← h2.1]; exact h1) hq
      omega
    have hok := g.ok _ hq
    have ec : evC T (callF T (n + 1)) (.cons (.and2 (.cmp .Gt (.call f__law_many (.cons (.var 1) (.cons (.var 5) .nil))) (.con (.int 0))) (.cmp .NotEq (.var 5) (.con (.str "keep")))) .nil) [some (.ref a), some (.ref r), some (.int nodes), some (.ref F), x4, some (.str l), x6, x7, x8] v = .ok (decide (0 < m) && !(l == ("keep" : Str))) v2 := by
      by_cases h0 : 0 < m <;> simp [evC, evE, evEs, e2, cmpop, ordP, h0, eq_str hok keep_ok]
    simp only [setTg, setEnv, wipeE, List.set_cons_succ, List.set_cons_zero, ec, Res.bindN_ok]
    rw [hf]
    cases (decide (0 < m) && !(l == ("keep" : Str))) with
    | true => simp [x__law_tree_1, evE, hK2]
    | false => simp [hK2]
  · refine ⟨_, _, h1, Nat.le_refl _, h2, ⟨Nat.le_trans (List.length_filterMap_le _ _) hx.1, fun p hp => ?_⟩, h3⟩
    obtain ⟨y, hy, e⟩ := List.mem_filterMap.mp hp
    obtain ⟨q, hq, rfl, hlt⟩ := hx.2 y hy
    have e' : (if ((AllR R).any fun q' => decide (q'.1 = q.1) && decide (0 < q'.2)) = true ∧ (q.1 == ("keep" : Str)) = false then some (PV.str q.1) else none) = some p := e
    split at e'
    · cases e'
      exact ⟨q, hq, rfl, hlt⟩
    · cases e'
end Mini
end T_S7

section T_S8
set_option Elab.async false
set_option linter.all false
set_option autoImplicit false
set_option maxRecDepth 10000
/-! specs: drawn trees -/
namespace Mini
open PySem
theorem LabL.dat {R : List (Str × Int)} {nodes : Int} {xs : List PV} (g : GoodR R) (h : LabL R nodes xs) (vh : VH) : DatL vh xs := fun x hx => by
  obtain ⟨q, hq, rfl, _⟩ := h.2 x hx
  exact pl_str (g.ok q hq) vh
theorem tree_spec {R : List (Str × Int)} (g : GoodR R) {a b r : Nat} (hra : r ≠ a) : ∀ (m : Nat) {nodes n k : Nat} {vh : VH}, 1 ≤ nodes → nodes ≤ m → vh[r]? = some (.lst (R.map rowV)) → St a b k vh → k + 3 * nodes < 2 ^ 40 → nodes < 1000 →
    Wp (callF T (n + m + 2) f__law_tree [.ref a, .ref r, .int nodes] vh) (fun p v => TrP (AllR R) m p ∧ St a b (k + 3 * nodes) v ∧ Kp [a] vh v) X0
  | 0, nodes, n, k, vh, h1, h2, _, _, _, _ => absurd h1 (by omega)
  | m + 1, nodes, n, k, vh, h1, h2, hr, hs, hk, hn => by
    have hsz := size_1000
    obtain ⟨la, lb, lab⟩ := hs.lt
    refine wp_call (n := n + m + 2) (fn := df__law_tree) rfl rfl ?_
    show Wp (evSs T (callF T (n + m + 2)) b__law_tree_0 [some (.ref a), some (.ref r), some (.int nodes), none, none, none, none, none, none] vh) _ _
    obtain ⟨p1, v1, e1, F, xs, rfl, hF1, hF, hx, hne, hK1⟩ := (fits_spec (n := n + m + 1) (a := a) (nodes := (nodes : Int)) (x3 := none) (x4 := none) (x5 := none) (x6 := none) (x7 := none) (x8 := none) hr g (by omega)).ex
    have hr1 := hK1.get hr (by simp)
    obtain ⟨p2, v2, e2, M, ys, rfl, hM1, hM, hy, hK2⟩ := (more_spec (n := n + m + 1) (a := a) (x4 := none) (x5 := none) (x6 := none) (x7 := none) (x8 := none) hr1 g hF hx).ex
    have hF2 := hK2.get hF (by simp)
    have hr2 := hK2.get hr1 (by simp)
    have hs2 : St a b k v2 := (hs.kp hK1 (by simp) (by simp)).kp hK2 (by simp) (by simp)
    have hK12 : Kp [] vh v2 := hK1.trans hK2
    have s0 : evSs T (callF T (n + m + 2)) b__law_tree_0 [some (.ref a), some (.ref r), some (.int nodes), none, none, none, none, none, none] vh = evSs T (callF T (n + m + 2)) b__law_tree_2 [some (.ref a), some (.ref r), some (.int nodes), some (.ref F), some (.ref M), none, none, none, none] v2 := by
      simp only [b__law_tree_0, s__law_tree_0, b__law_tree_1, s__law_tree_1, evSs, evS, e1, e2, bindS_ok, Res.bind_ok, setTg, setEnv, List.set_cons_succ, List.set_cons_zero]
    rw [s0]
    -- the labels that are drawn from
    have pick : ∃ (F' : Nat) (zs : List PV) (v3 : VH), evS T (callF T (n + m + 2)) s__law_tree_2 [some (.ref a), some (.ref r), some (.int nodes), some (.ref F), some (.ref M), none, none, none, none] v2 = .ok (.nx [some (.ref a), some (.ref r), some (.int nodes), some (.ref F'), some (.ref M), none, none, none, none]) v3 ∧
        v3[F']? = some (.lst zs) ∧ zs ≠ [] ∧ LabL R nodes zs ∧ F' ≠ a ∧ St a b (k + 1) v3 ∧ Kp [a] v2 v3 := by
      have hn0 := ne_nil (at_app (u := .lst []) hM) (at_new v2 (.lst [])) (hy.dat g _)
      have hM' := at_app (u := .lst []) hM
      by_cases hyn : ys = []
      · subst hyn
        refine ⟨F, xs, v2 ++ [.lst []], ?_, at_app hF2, hne, hx, by omega, (hs2.app _).mono (by omega), Kp.app _⟩
        simp [s__law_tree_2, evS, evSs, evE, evEs, newL, alloc, hn0]
      · obtain ⟨pt, v3, et, ⟨d, rfl, hd0, hd1⟩, hs3, hK3⟩ := (take_spec (n := n + m + 1) (many := 8) (by omega) (by omega) (hs2.app (.lst [])) (by omega)).ex
        have hye : ys.isEmpty = false := by simpa using hyn
        rw [hye] at hn0
        have hM3 := hK3.get hM' (by simp; have := hK1.len; omega)
        have hF3 := hK3.get (at_app hF2) (by simp; omega)
        have hgt : cmpop .Gt (.int d) (.int 0) v3 = some (decide (0 < d)) := rfl
        by_cases hd : 0 < d
        · refine ⟨M, ys, v3, ?_, hM3, hyn, hy, by have := hK1.len; omega, hs3, (Kp.app _).trans hK3⟩
          simp [s__law_tree_2, b__law_tree_3, s__law_tree_3, evS, evSs, evE, evEs, newL, alloc, hn0, et, hgt, hd, setTg, setEnv]
        · refine ⟨F, xs, v3, ?_, hF3, hne, hx, by omega, hs3, (Kp.app _).trans hK3⟩
          simp [s__law_tree_2, b__law_tree_3, s__law_tree_3, evS, evSs, evE, evEs, newL, alloc, hn0, et, hgt, hd, setTg, setEnv]
    obtain ⟨F', zs, v3, e3, hF3, hzn, hz, hFa, hs3, hK3⟩ := pick
    have hr3 := hK3.get hr2 (by simpa using hra)
    obtain ⟨p4, v4, e4, hmem, hs4, hK4⟩ := (one_spec (n := n + m) hF3 hzn (by have := hz.1; omega) hFa hs3 (by omega)).ex
    obtain ⟨⟨l, c⟩, hq, rfl, hlt⟩ := hz.2 p4 hmem
    have hr4 := hK4.get hr3 (by simpa using hra)
    obtain ⟨p5, v5, e5, rfl, hK5⟩ := (many_spec (n := n + m + 1) hr4 g hq).ex
    have hr5 := hK5.get hr4 (by simp)
    have hs5 : St a b (k + 2) v5 := hs4.kp hK5 (by simp) (by simp)
    have hK05 : Kp [a] vh v5 := (hK12.mono (by simp)).trans (hK3.trans (hK4.trans (hK5.mono (by simp))))
    have s1 : evSs T (callF T (n + m + 2)) b__law_tree_2 [some (.ref a), some (.ref r), some (.int nodes), some (.ref F), some (.ref M), none, none, none, none] v2 = evSs T (callF T (n + m + 2)) b__law_tree_6 [some (.ref a), some (.ref r), some (.int nodes), some (.ref F'), some (.ref M), some (.str l), some (.int c), none, none] v5 := by
      simp only [b__law_tree_2, evSs, e3, Res.bind_ok, b__law_tree_4, s__law_tree_4, b__law_tree_5, s__law_tree_5, evS, evE, evEs, List.getElem?_cons_zero, List.getElem?_cons_succ, e4, e5, bindS_ok, setTg, setEnv, List.set_cons_succ, List.set_cons_zero]
    rw [s1]
    rcases g.m3 _ hq with hc | hc | hc
    · -- a leaf
      have hc : c = 0 := hc
      subst hc
      have e6 : evSs T (callF T (n + m + 2)) b__law_tree_6 [some (.ref a), some (.ref r), some (.int nodes), some (.ref F'), some (.ref M), some (.str l), some (.int 0), none, none] v5 = .ok (.rt (.tup [.str l])) v5 := by
        simp [b__law_tree_6, s__law_tree_6, b__law_tree_10, s__law_tree_10, i__law_tree_0, evSs, evS, evE, evEs, cmpop, newT, show 1 ≤ sizeLine by omega]
      refine Wp.eq e6 ⟨⟨l, [], rfl, hq, by simp⟩, hs5.mono (by omega), hK05⟩
    · have hc : c = 1 := hc
      subst hc
      have hlt : (1 : Int) < nodes := hlt
      obtain ⟨p6, v6, e6, ht, hs6, hK6⟩ := (tree_spec g hra m (nodes := nodes - 1) (n := n) (by omega) (by omega) hr5 hs5 (by omega) (by omega)).ex
      have hcast : ((nodes : Int) - 1) = ((nodes - 1 : Nat) : Int) := by omega
      have e7 : evSs T (callF T (n + m + 2)) b__law_tree_6 [some (.ref a), some (.ref r), some (.int nodes), some (.ref F'), some (.ref M), some (.str l), some (.int 1), none, none] v5 = .ok (.rt (.tup [.str l, p6])) v6 := by
        simp [b__law_tree_6, s__law_tree_6, b__law_tree_10, s__law_tree_10, i__law_tree_0, evSs, evS, evE, evEs, cmpop, binop, intP, hcast, e6, newT, show 2 ≤ sizeLine by omega]
      refine Wp.eq e7 ⟨⟨l, [p6], rfl, by simpa using hq, by simpa using ht⟩, hs6.mono (by omega), hK05.trans hK6⟩
    · have hc : c = 2 := hc
      subst hc
      have hlt : (2 : Int) < nodes := hlt
      obtain ⟨p6, v6, e6, ⟨d, rfl, hd0, hd1⟩, hs6, hK6⟩ := (take_spec (n := n + m + 1) (many := (nodes : Int) - 2) (by omega) (by omega) hs5 (by omega)).ex
      obtain ⟨j, rfl⟩ : ∃ j : Nat, d = j := ⟨d.toNat, by omega⟩
      have hr6 := hK6.get hr5 (by simpa using hra)
      obtain ⟨p7, v7, e7, ht7, hs7, hK7⟩ := (tree_spec g hra m (nodes := 1 + j) (n := n) (by omega) (by omega) hr6 hs6 (by omega) (by omega)).ex
      have hr7 := hK7.get hr6 (by simpa using hra)
      obtain ⟨p8, v8, e8, ht8, hs8, hK8⟩ := (tree_spec g hra m (nodes := nodes - 1 - (1 + j)) (n := n) (by omega) (by omega) hr7 hs7 (by omega) (by omega)).ex
      have hc1 : (1 + (j : Int)) = ((1 + j : Nat) : Int) := by omega
      have hc2 : ((nodes : Int) - 1 - (1 + (j : Int))) = ((nodes - 1 - (1 + j) : Nat) : Int) := by omega
      rw [← hc1] at e7
      rw [← hc2] at e8
      have e9 : evSs T (callF T (n + m + 2)) b__law_tree_6 [some (.ref a), some (.ref r), some (.int nodes), some (.ref F'), some (.ref M), some (.str l), some (.int 2), none, none] v5 = .ok (.rt (.tup [.str l, p7, p8])) v8 := by
        simp [b__law_tree_6, s__law_tree_6, b__law_tree_7, s__law_tree_7, b__law_tree_8, s__law_tree_8, b__law_tree_9, s__law_tree_9, evSs, evS, evE, evEs, cmpop, binop, intP, addP, e6, e7, e8, setTg, setEnv, newT, show 3 ≤ sizeLine by omega]
      refine Wp.eq e9 ⟨⟨l, [p7, p8], rfl, by simpa using hq, ?_⟩, hs8.mono (by omega), hK05.trans (hK6.trans (hK7.trans hK8))⟩
      intro c hc
      rcases List.mem_cons.mp hc with rfl | hc
      · exact ht7
      · have : c = p8 := by simpa using hc
        subst this
        exact ht8
end Mini
end T_S8

section T_S9
set_option Elab.async false
set_option linter.all false
set_option autoImplicit false
set_option maxRecDepth 10000
/-! things that may be trees -/
namespace Mini
open PySem
inductive Da where
  | oth | str (s : Str) | seq (ds : List Da)
inductive All2 {α β : Type} (R : α → β → Prop) : List α → List β → Prop
  | nil : All2 R [] []
  | cons {x : α} {y : β} {xs : List α} {ys : List β} : R x y → All2 R xs ys → All2 R (x :: xs) (y :: ys)
theorem All2.imp {α β : Type} {R R' : α → β → Prop} (h : ∀ x y, R x y → R' x y) : ∀ {xs : List α} {ys : List β}, All2 R xs ys → All2 R' xs ys
  | _, _, .nil => .nil
  | _, _, .cons r t => .cons (h _ _ r) (t.imp h)
theorem All2.len {α β : Type} {R : α → β → Prop} : ∀ {xs : List α} {ys : List β}, All2 R xs ys → xs.length = ys.length
  | _, _, .nil => rfl
  | _, _, .cons _ t => congrArg Nat.succ t.len
theorem All2.get {α β : Type} {R : α → β → Prop} : ∀ {xs : List α} {ys : List β} {k : Nat} {x : α}, All2 R xs ys → xs[k]? = some x → ∃ y, ys[k]? = some y ∧ R x y
  | _, _, _, _, .nil, e => by simp at e
  | _, _, 0, _, .cons r _, e => by simp at e; subst e; exact ⟨_, rfl, r⟩
  | _, _, k + 1, x, .cons _ t, e => t.get (k := k) (by simpa using e)
theorem All2.snoc {α β : Type} {R : α → β → Prop} : ∀ {xs : List α} {ys : List β} {x : α} {y : β}, All2 R xs ys → R x y → All2 R (xs ++ [x]) (ys ++ [y])
  | _, _, _, _, .nil, r => .cons r .nil
  | _, _, _, _, .cons r t, q => .cons r (t.snoc q)
/-- what a thing is as far as trees go, to this depth; no object of S in it -/
def Rep (S : List Nat) (vh : VH) : Nat → PV → Da → Prop
  | 0, _, _ => False
  | d + 1, p, da => match da with
    | .oth => p = .non ∨ (∃ b, p = .bl b) ∨ (∃ i, p = .int i) ∨ ∃ i kvs, p = .ref i ∧ i ∉ S ∧ vh[i]? = some (.dct kvs)
    | .str s => p = .str s ∧ PyData.strOk s = true
    | .seq ds => ∃ xs, (p = .tup xs ∨ ∃ i, p = .ref i ∧ i ∉ S ∧ vh[i]? = some (.lst xs)) ∧ xs.length ≤ 4 ∧ All2 (Rep S vh d) xs ds
theorem Rep.imp {S S' : List Nat} {vh v : VH} (h : ∀ i o, vh[i]? = some o → i ∉ S → i ∉ S' ∧ v[i]? = some o) : ∀ {d : Nat} {p : PV} {da : Da}, Rep S vh d p da → Rep S' v d p da
  | 0, _, _, r => r.elim
  | d + 1, p, da, r => by
    cases da with
    | oth =>
      rcases r with r | r | r | ⟨i, kvs, e, hi, hv⟩
      · exact .inl r
      · exact .inr (.inl r)
      · exact .inr (.inr (.inl r))
      · obtain ⟨h1, h2⟩ := h i _ hv hi
        exact .inr (.inr (.inr ⟨i, kvs, e, h1, h2⟩))
    | str s => exact r
    | seq ds =>
      obtain ⟨xs, hp, hl, ha⟩ := r
      refine ⟨xs, ?_, hl, ha.imp fun x y q => Rep.imp h q⟩
      rcases hp with e | ⟨i, e, hi, hv⟩
      · exact .inl e
      · obtain ⟨h1, h2⟩ := h i _ hv hi
        exact .inr ⟨i, e, h1, h2⟩
theorem Rep.kp {S : List Nat} {vh v : VH} {d : Nat} {p : PV} {da : Da} (r : Rep S vh d p da) (k : Kp S vh v) : Rep S v d p da := r.imp fun i o e hn => ⟨hn, k.get e hn⟩
theorem Rep.weak {S S' : List Nat} {vh : VH} {d : Nat} {p : PV} {da : Da} (r : Rep S vh d p da) (h : ∀ i ∈ S', i ∈ S) : Rep S' vh d p da := r.imp fun i o e hn => ⟨fun m => hn (h i m), e⟩
theorem Rep.fresh {S : List Nat} {vh : VH} {d D : Nat} {p : PV} {da : Da} (r : Rep S vh d p da) (h : vh.length ≤ D) : Rep (D :: S) vh d p da :=
  r.imp fun i o e hn => ⟨fun m => by
    rcases List.mem_cons.mp m with rfl | m
    · exact absurd (lt_at e) (by omega)
    · exact hn m, e⟩
theorem Rep.up {S : List Nat} {vh : VH} : ∀ {d : Nat} {p : PV} {da : Da}, Rep S vh d p da → Rep S vh (d + 1) p da
  | 0, _, _, r => r.elim
  | d + 1, p, da, r => by
    cases da with
    | oth => exact r
    | str s => exact r
    | seq ds =>
      obtain ⟨xs, hp, hl, ha⟩ := r
      exact ⟨xs, hp, hl, ha.imp fun x y q => Rep.up q⟩
theorem Rep.mono {S : List Nat} {vh : VH} {d e : Nat} {p : PV} {da : Da} (r : Rep S vh d p da) (h : d ≤ e) : Rep S vh e p da := by
  induction h with
  | refl => exact r
  | step _ ih => exact ih.up
def isT (L : List (Str × Int)) : Nat → Da → Bool
  | 0, _ => false
  | d + 1, da => match da with
    | .seq (.str l :: cs) => (L.any fun q => decide (q.1 = l) && decide (q.2 = (cs.length : Int))) && cs.all (isT L d)
    | _ => false
/-- is it a list or a tuple? -/
def isSeq : Da → Bool
  | .seq _ => true
  | _ => false
theorem rep_isSeq {S : List Nat} {vh : VH} {d : Nat} {p : PV} {da : Da} (r : Rep S vh d p da) : isIn T vh p [.list, .tuple] = some (isSeq da) := by
  cases d with
  | zero => exact r.elim
  | succ d =>
    cases da with
    | oth =>
      rcases r with rfl | ⟨b, rfl⟩ | ⟨i, rfl⟩ | ⟨i, kvs, rfl, hi, hv⟩
      · rfl
      · rfl
      · rfl
      · simp [isIn, typ, hv, isSeq]
    | str s => obtain ⟨rfl, _⟩ := r; rfl
    | seq ds =>
      obtain ⟨xs, hp, hl, ha⟩ := r
      rcases hp with rfl | ⟨i, rfl, hi, hv⟩
      · rfl
      · simp [isIn, typ, hv, isSeq]
end Mini
end T_S9

section T_S10
set_option Elab.async false
set_option linter.all false
set_option autoImplicit false
set_option maxRecDepth 10000
/-! specs: loose -/
namespace Mini
open PySem
def lcost : Nat → Nat
  | 0 => 0
  | d + 1 => 4 * lcost d + 1
theorem tuple_lst {vh : VH} {a : Nat} {xs : List PV} (ha : vh[a]? = some (.lst xs)) : tupleP (.ref a) vh = some (.tup xs, vh) := by
  unfold tupleP
  dsimp only
  rw [ha]
theorem loose_spec {a b : Nat} : ∀ (d : Nat) {n k : Nat} {vh : VH} {S : List Nat} {p : PV} {da : Da}, a ∈ S → (∀ i ∈ S, i < vh.length) → Rep S vh d p da → St a b k vh → k + lcost d < 2 ^ 40 →
    Wp (callF T (n + d + 1) f__law_loose [.ref a, p] vh) (fun p' v => Rep S v d p' da ∧ St a b (k + lcost d) v ∧ Kp [a] vh v) X0
  | 0, _, _, _, _, _, _, _, _, r, _, _ => r.elim
  | d + 1, n, k, vh, S, p, da, haS, hSl, r, hs, hk => by
    have hsz := size_1000
    obtain ⟨la, lb, lab⟩ := hs.lt
    have hq := rep_isSeq r
    refine wp_call (n := n + d + 1) (fn := df__law_loose) rfl rfl ?_
    show Wp (evSs T (callF T (n + d + 1)) b__law_loose_0 [some (.ref a), some p, none, none] vh) _ _
    by_cases hseq : isSeq da = false
    · have e : evSs T (callF T (n + d + 1)) b__law_loose_0 [some (.ref a), some p, none, none] vh = .ok (.rt p) vh := by
        rw [hseq] at hq
        simp [b__law_loose_0, s__law_loose_0, b__law_loose_3, s__law_loose_3, evSs, evS, evE, hq]
      exact Wp.eq e ⟨r, hs.mono (by omega), Kp.refl _ _⟩
    · cases da with
      | oth => exact absurd rfl hseq
      | str s => exact absurd rfl hseq
      | seq ds =>
        obtain ⟨xs, hp, hl, ha⟩ := id r
        have hlen := ha.len
        have hasrc : ∃ src, srcOf vh p = some src ∧ src.len vh = xs.length ∧ ∀ v, Kp S vh v → ∀ kk, itemAt v src kk = some xs[kk]? := by
          rcases hp with rfl | ⟨i, rfl, hi, hv⟩
          · exact ⟨.vals xs, rfl, rfl, fun v _ kk => rfl⟩
          · exact ⟨.ls i, src_lst hv, len_ls hv, fun v hK kk => item_ls (hK.get hv hi)⟩
        obtain ⟨src, hsrc, hslen, hitem⟩ := hasrc
        have hc : Wp (evE T (callF T (n + d + 1)) c__law_loose_0 [some (.ref a), some p, none, none] vh) (fun q v => q = .ref vh.length ∧ ∃ acc, v[vh.length]? = some (.lst acc) ∧ All2 (Rep (vh.length :: S) v d) acc ds ∧ St a b (k + 4 * lcost d) v ∧ Kp [a] vh v) X0 := by
          unfold c__law_loose_0 evE
          have e0 : evI T (callF T (n + d + 1)) (.val (.var 1)) [some (.ref a), some p, none, none] vh = .ok src vh := by simp [evI, evE, hsrc]
          rw [e0]
          simp only [Res.bind_ok, hslen]
          refine wp_lc (xs := xs) (fun kk acc v => kk ≤ xs.length ∧ All2 (Rep (vh.length :: S) v d) acc (ds.take kk) ∧ St a b (k + kk * lcost d) v ∧ Kp [a] vh v ∧ vh.length < v.length) (fun kk acc v ⟨_, _, _, hK, _⟩ _ => hitem v (hK.mono fun i _ m => by
              have : i = a := by simpa using m
              rw [this]; exact haS) kk) (fun kk acc v x ⟨h0, hA, hS, hK, hlt⟩ hD hx => ?_) (fun acc v ⟨_, hA, hS, hK, _⟩ hD => ?_) _ 0 [] _ (by simp) ⟨Nat.zero_le _, by simpa using All2.nil, by simpa using hs.app _, Kp.app _, by simp⟩ (at_new _ _)
          · obtain ⟨hkk, hxe⟩ := List.getElem?_eq_some_iff.mp hx
            obtain ⟨y, hy, ry⟩ := ha.get hx
            have hKS : Kp (vh.length :: S) vh v := hK.mono fun i _ m => by
              have : i = a := by simpa using m
              rw [this]; exact List.mem_cons_of_mem _ haS
            have rx : Rep (vh.length :: S) v d x y := (ry.fresh (Nat.le_refl _)).kp hKS
            have hb1 : kk * lcost d + lcost d = (kk + 1) * lcost d := by rw [Nat.succ_mul]
            have hb2 : (kk + 1) * lcost d ≤ 4 * lcost d := Nat.mul_le_mul_right _ (by omega)
            have hk' : k + lcost (d + 1) < 2 ^ 40 := hk
            unfold lcost at hk'
            obtain ⟨p', v1, e1, r1, hs1, hK1⟩ := (loose_spec d (n := n) (S := vh.length :: S) (List.mem_cons_of_mem _ haS) (fun i hi => by
              rcases List.mem_cons.mp hi with rfl | hi
              · exact hlt
              · exact Nat.lt_of_lt_of_le (hSl i hi) hK.len) rx hS (by omega)).ex
            have e2 : evE T (callF T (n + d + 1)) x__law_loose_0 [some (.ref a), some p, none, some x] v = .ok p' v1 := by
              simp [x__law_loose_0, evE, evEs, e1]
            have hD1 := hK1.get hD (by simp; omega)
            simp only [setTg, setEnv, wipeE, List.set_cons_succ, List.set_cons_zero, evC, e2, Res.bindN_ok, wp_ok]
            have hacc := hA.len
            have hset : Kp (vh.length :: S) v1 (v1.set vh.length (.lst (acc ++ [p']))) := Kp.set List.mem_cons_self
            have hK1S : Kp (vh.length :: S) v v1 := hK1.mono fun i _ m => by
              have : i = a := by simpa using m
              rw [this]; exact List.mem_cons_of_mem _ haS
            refine ⟨hD1, ?_, hkk, ?_, ?_, ?_, ?_⟩
            · rw [hacc, List.length_take]; omega
            · obtain ⟨hkd, hye⟩ := List.getElem?_eq_some_iff.mp hy
              rw [← List.take_append_getElem hkd, hye]
              exact (hA.imp fun q z t => (t.kp hK1S).kp hset).snoc (r1.kp hset)
            · rw [← hb1, ← Nat.add_assoc]
              exact hs1.set (by omega) (by omega) _
            · exact (hK.trans hK1).set_new (Nat.le_refl _)
            · rw [List.length_set]
              exact Nat.lt_of_lt_of_le hlt hK1.len
          · refine ⟨rfl, acc, hD, ?_, ?_, hK⟩
            · have : ds.take xs.length = ds := by rw [hlen]; exact List.take_length
              rw [← this]
              exact hA
            · exact hS.mono (by have := Nat.mul_le_mul_right (lcost d) hl; omega)
        obtain ⟨q, v1, e1, rfl, acc, hD, hA, hs1, hK1⟩ := hc.ex
        have hk' : k + lcost (d + 1) < 2 ^ 40 := hk
        unfold lcost at hk'
        obtain ⟨pt, v2, e2, ⟨t, rfl, ht0, ht1⟩, hs2, hK2⟩ := (take_spec (n := n + d) (many := 2) (by omega) (by omega) hs1 (by omega)).ex
        have hD2 := hK2.get hD (by simp; omega)
        have hA2 : All2 (Rep S v2 d) acc ds := hA.imp fun x y r => (r.kp (hK2.mono fun i _ m => by
          have : i = a := by simpa using m
          rw [this]; exact List.mem_cons_of_mem _ haS)).weak fun i hi => List.mem_cons_of_mem _ hi
        have hal : acc.length ≤ 4 := by have := hA.len; omega
        have hDS : vh.length ∉ S := fun m => by have := hSl _ m; omega
        have e3 : evSs T (callF T (n + d + 1)) b__law_loose_0 [some (.ref a), some p, none, none] vh = .ok (.rt (if t = 0 then .ref vh.length else .tup acc)) v2 := by
          have hq' : isIn T vh p [.list, .tuple] = some true := hq
          by_cases ht : t = 0
          · simp [b__law_loose_0, s__law_loose_0, b__law_loose_1, s__law_loose_1, b__law_loose_2, s__law_loose_2, i__law_loose_0, evSs, evS, evE, evEs, hq', e1, e2, setTg, setEnv, cmpop, ht]
          · simp [b__law_loose_0, s__law_loose_0, b__law_loose_1, s__law_loose_1, b__law_loose_2, s__law_loose_2, i__law_loose_0, evSs, evS, evE, evEs, hq', e1, e2, setTg, setEnv, cmpop, ht, blt, tuple_lst hD2]
        refine Wp.eq e3 ⟨?_, hs2.mono (by show _ ≤ k + (4 * lcost d + 1); omega), hK1.trans hK2⟩
        by_cases ht : t = 0
        · rw [if_pos ht]
          exact ⟨acc, .inr ⟨_, rfl, hDS, hD2⟩, hal, hA2⟩
        · rw [if_neg ht]
          exact ⟨acc, .inl rfl, hal, hA2⟩
end Mini
end T_S10

section T_S11
set_option Elab.async false
set_option linter.all false
set_option autoImplicit false
set_option maxRecDepth 10000
/-! specs: the law's own is_tree -/
namespace Mini
open PySem
theorem lc_map {src : Src} {xs zs : List PV} {v0 : VH} {step : PV → VH → Res (Option PV)} (items : ∀ v, Kp [] v0 v → ∀ k, itemAt v src k = some xs[k]?) (hl : zs.length = xs.length)
    (hstep : ∀ (k : Nat) (p z : PV), xs[k]? = some p → zs[k]? = some z → ∀ v, Kp [] v0 v → Wp (step p v) (fun r v1 => r = some z ∧ Kp [] v v1) X0) (hz : xs.length ≤ sizeLine) :
    Wp (lcLoop src v0.length step xs.length 0 (v0 ++ [.lst []])) (fun p v => p = .ref v0.length ∧ v[v0.length]? = some (.lst zs) ∧ Kp [] v0 v) X0 := by
  refine wp_lc (xs := xs) (fun k acc v => k ≤ xs.length ∧ acc = zs.take k ∧ Kp [] v0 v) (fun k acc v ⟨_, _, h⟩ _ => items v h k) (fun k acc v p ⟨h0, ha, h⟩ hD hp => ?_) (fun acc v ⟨_, ha, h⟩ hD => ?_) _ 0 [] _ (by simp) ⟨Nat.zero_le _, by simp, Kp.app _⟩ (at_new _ _)
  · obtain ⟨hk, e⟩ := List.getElem?_eq_some_iff.mp hp
    have hkz : k < zs.length := by omega
    refine (hstep k p zs[k] hp (List.getElem?_eq_getElem hkz) v h).thn fun r v1 ⟨hr, h1⟩ => ?_
    subst hr
    have hD1 := h1.get hD (by simp)
    refine ⟨hD1, ?_, hk, ?_, (h.trans h1).set_new (Nat.le_refl _)⟩
    · rw [ha, List.length_take]; omega
    · rw [ha, List.take_append_getElem hkz]
  · rw [← hl, List.take_length] at ha
    exact ⟨rfl, by rw [← ha]; exact hD, h⟩
theorem mapO_strs {vh : VH} : ∀ {L : List (Str × Int)}, (∀ q ∈ L, PyData.strOk q.1 = true) → mapO (toD vh 190) (L.map fun q => .str q.1) = some (L.map fun q => PyData.str q.1)
  | [], _ => rfl
  | q :: L, h => by
    rw [List.map_cons]
    unfold mapO
    have e : toD vh 190 (.str q.1) = some (.str q.1) := by
      show (if PyData.strOk q.1 = true then some (PyData.str q.1) else none) = _
      rw [if_pos (h q List.mem_cons_self)]
    rw [e, mapO_strs fun x hx => h x (List.mem_cons_of_mem _ hx)]
    rfl
theorem in_labs {vh : VH} {D : Nat} {R : List (Str × Int)} {l : Str} (g : GoodR R) (h : vh[D]? = some (.lst (labV R))) (hl : PyData.strOk l = true) : inP (.str l) (.ref D) vh = some ((AllR R).any fun q => q.1 == l) := by
  unfold inP
  dsimp only
  rw [h]
  dsimp only
  unfold inSeq labV
  rw [mapO_strs g.ok, show toD vh 190 (.str l) = some (.str l) from by
    show (if PyData.strOk l = true then some (PyData.str l) else none) = _
    rw [if_pos hl]]
  dsimp only
  rw [List.any_map]
  rfl
theorem bools_map {α : Type} (f : α → Bool) : ∀ l : List α, boolsOf (l.map fun y => PV.bl (f y)) = some (l.map f)
  | [] => rfl
  | y :: l => by
    have := bools_map f l
    unfold boolsOf at this ⊢
    rw [List.map_cons]
    unfold mapO
    rw [this]
    rfl
theorem all_lst {vh : VH} {D : Nat} {α : Type} {f : α → Bool} {l : List α} (h : vh[D]? = some (.lst (l.map fun y => PV.bl (f y)))) : allP true (.ref D) vh = some (.bl (l.all f), vh) := by
  unfold allP
  dsimp only
  rw [h]
  dsimp only
  rw [bools_map]
  simp [List.all_map]
def isStrD : Da → Bool
  | .str _ => true
  | _ => false
/-- the head of a thing: a text? -/
theorem rep_isStr {S : List Nat} {vh : VH} {d : Nat} {p : PV} {da : Da} (r : Rep S vh d p da) : isIn T vh p [.str] = some (isStrD da) := by
  cases d with
  | zero => exact r.elim
  | succ d =>
    cases da with
    | oth =>
      rcases r with rfl | ⟨b, rfl⟩ | ⟨i, rfl⟩ | ⟨i, kvs, rfl, hi, hv⟩
      · rfl
      · rfl
      · rfl
      · simp [isIn, typ, hv, isStrD]
    | str s => obtain ⟨rfl, _⟩ := r; rfl
    | seq ds =>
      obtain ⟨xs, hp, hl, ha⟩ := r
      rcases hp with rfl | ⟨i, rfl, hi, hv⟩
      · rfl
      · simp [isIn, typ, hv, isStrD]
/-- the parts of a list or a tuple -/
structure SeqV (vh : VH) (p : PV) (xs : List PV) : Prop where
  len : lenP p vh = some (.int xs.length, vh)
  at0 : ∀ x r, xs = x :: r → idxP p (.int 0) vh = some (x, vh)
  tail : ∃ q v src, slP p (some 1) none vh = some (q, v) ∧ Kp [] vh v ∧ srcOf v q = some src ∧ src.len v = xs.tail.length ∧ ∀ v', Kp [] v v' → ∀ k, itemAt v' src k = some xs.tail[k]?
theorem seqV_of {S : List Nat} {vh : VH} {p : PV} {xs : List PV} (hp : p = .tup xs ∨ ∃ i, p = .ref i ∧ i ∉ S ∧ vh[i]? = some (.lst xs)) (hl : xs.length ≤ 4) : SeqV vh p xs := by
  have hsz := size_1000
  rcases hp with rfl | ⟨i, rfl, hi, hv⟩
  · refine ⟨rfl, fun x r e => by subst e; simp [idxP], .tup (cutP xs (some 1) none), vh, .vals xs.tail, rfl, Kp.refl _ _, by rw [cut_tail]; rfl, rfl, fun v' _ k => rfl⟩
  · have hz : (cutP xs (some 1) none).length ≤ sizeLine := by rw [cut_tail, List.length_tail]; omega
    refine ⟨len_lst hv, fun x r e => by subst e; exact idx_lst (k := 0) hv rfl, _, _, .ls vh.length, sl_lst hv hz, Kp.app _, src_lst (at_new _ _), ?_, fun v' hK k => ?_⟩
    · rw [len_ls (at_new _ _), cut_tail]
    · rw [item_ls (hK.get (at_new _ _) (by simp)), cut_tail]
theorem own_spec {R : List (Str × Int)} (g : GoodR R) {r : Nat} {S : List Nat} : ∀ (d : Nat) {n : Nat} {vh : VH} {p : PV} {da : Da}, Rep S vh d p da → vh[r]? = some (.lst (R.map rowV)) →
    Wp (callF T (n + d + 1) f__law_is_tree [.ref r, p] vh) (fun q v => q = .bl (isT (AllR R) d da) ∧ Kp [] vh v) X0
  | 0, _, _, _, _, r, _ => r.elim
  | d + 1, n, vh, p, da, rp, hr => by
    have hsz := size_1000
    have hq := rep_isSeq rp
    refine wp_call (n := n + d + 1) (fn := df__law_is_tree) rfl rfl ?_
    show Wp (evSs T (callF T (n + d + 1)) b__law_is_tree_0 [some (.ref r), some p, none] vh) _ _
    by_cases hseq : isSeq da = false
    · have e : evSs T (callF T (n + d + 1)) b__law_is_tree_0 [some (.ref r), some p, none] vh = .ok (.rt (.bl false)) vh := by
        rw [hseq] at hq
        simp [b__law_is_tree_0, s__law_is_tree_0, b__law_is_tree_1, s__law_is_tree_1, evSs, evS, evE, hq]
      refine Wp.eq e ⟨?_, Kp.refl _ _⟩
      cases da with
      | seq ds => exact absurd hseq (by simp [isSeq])
      | _ => rfl
    · cases da with
      | oth => exact absurd rfl hseq
      | str s => exact absurd rfl hseq
      | seq ds =>
        have hq' : isIn T vh p [.list, .tuple] = some true := hq
        obtain ⟨xs, hp, hl, ha⟩ := id rp
        have sv := seqV_of hp hl
        have hlen := sv.len
        cases ha with
        | nil =>
          have e : evSs T (callF T (n + d + 1)) b__law_is_tree_0 [some (.ref r), some p, none] vh = .ok (.rt (.bl false)) vh := by
            simp [b__law_is_tree_0, s__law_is_tree_0, b__law_is_tree_1, s__law_is_tree_1, evSs, evS, evE, evEs, hq', blt, hlen, cmpop]
          exact Wp.eq e ⟨rfl, Kp.refl _ _⟩
        | @cons x0 y0 xt yt r0 rt =>
          have h0 := sv.at0 x0 xt rfl
          have hs0 := rep_isStr r0
          have hne : ¬ ((xt.length : Int) + 1 = 0) := by omega
          simp only [List.length_cons, Int.natCast_add, Int.cast_ofNat_Int] at hlen
          cases y0 with
          | oth =>
            have e : evSs T (callF T (n + d + 1)) b__law_is_tree_0 [some (.ref r), some p, none] vh = .ok (.rt (.bl false)) vh := by
              simp [b__law_is_tree_0, s__law_is_tree_0, b__law_is_tree_1, s__law_is_tree_1, evSs, evS, evE, evEs, hq', blt, hlen, cmpop, hne, h0, hs0, isStrD]
            exact Wp.eq e ⟨rfl, Kp.refl _ _⟩
          | seq zs =>
            have e : evSs T (callF T (n + d + 1)) b__law_is_tree_0 [some (.ref r), some p, none] vh = .ok (.rt (.bl false)) vh := by
              simp [b__law_is_tree_0, s__law_is_tree_0, b__law_is_tree_1, s__law_is_tree_1, evSs, evS, evE, evEs, hq', blt, hlen, cmpop, hne, h0, hs0, isStrD]
            exact Wp.eq e ⟨rfl, Kp.refl _ _⟩
          | str l =>
            have hx0 : x0 = .str l ∧ PyData.strOk l = true := by
              cases d with
              | zero => exact r0.elim
              | succ d => exact r0
            obtain ⟨rfl, hok⟩ := hx0
            obtain ⟨pl, v1, e1, D, rfl, hD1, hD, hK1⟩ := (labels_spec (n := n + d) hr g).ex
            have hin := in_labs g hD hok
            have hni : cmpop .NotIn (.str l) (.ref D) v1 = some (!((AllR R).any fun q => q.1 == l)) := by
              show (inP (.str l) (.ref D) v1).map (!·) = _
              rw [hin]
              rfl
            have hz0 : cmpop .Eq (.int ((xt.length : Int) + 1)) (.int 0) vh = some false := by
              simp [cmpop, hne]
            by_cases hmem : ((AllR R).any fun q => q.1 == l) = false
            · have e : evSs T (callF T (n + d + 1)) b__law_is_tree_0 [some (.ref r), some p, none] vh = .ok (.rt (.bl false)) v1 := by
                rw [hmem] at hni
                simp [b__law_is_tree_0, s__law_is_tree_0, b__law_is_tree_1, s__law_is_tree_1, evSs, evS, evE, evEs, hq', blt, hlen, hz0, h0, hs0, isStrD, e1, hni]
              refine Wp.eq e ⟨?_, hK1⟩
              have : ((AllR R).any fun q => decide (q.1 = l) && decide (q.2 = (yt.length : Int))) = false := by
                rw [List.any_eq_false] at hmem ⊢
                intro q hq
                have := hmem q hq
                simp at this ⊢
                exact fun e => absurd e this
              unfold isT
              dsimp only
              rw [this]
              rfl
            · have hmem' : ((AllR R).any fun q => q.1 == l) = true := by simpa using hmem
              obtain ⟨⟨l', m⟩, hqm, hle⟩ := List.any_eq_true.mp hmem'
              have hle' : l' = l := by simpa using hle
              subst hle'
              have hr1 := hK1.get hr (by simp)
              obtain ⟨pm, v2, e2, rfl, hK2⟩ := (many_spec (n := n + d) hr1 g hqm).ex
              rw [hmem'] at hni
              have sv1 : ∀ v, Kp [] vh v → SeqV v p (.str l' :: xt) := fun v hK => seqV_of (S := S) (by
                rcases hp with e | ⟨i, e, hi, hv⟩
                · exact .inl e
                · exact .inr ⟨i, e, hi, hK.get hv (by simp)⟩) hl
              have hK12 := hK1.trans hK2
              have hlen1 := (sv1 v1 hK1).len
              have h01 := (sv1 v1 hK1).at0 _ _ rfl
              simp only [List.length_cons, Int.natCast_add, Int.cast_ofNat_Int] at hlen1
              have hcmp : cmpop .Eq (.int ((xt.length : Int) + 1)) (.int (m + 1)) v2 = some (decide ((xt.length : Int) + 1 = m + 1)) := by
                simp [cmpop]
              have hyl := rt.len
              have hany : ((AllR R).any fun q => decide (q.1 = l') && decide (q.2 = (yt.length : Int))) = decide ((xt.length : Int) + 1 = m + 1) := by
                rw [Bool.eq_iff_iff, List.any_eq_true, decide_eq_true_eq]
                constructor
                · rintro ⟨q, h1, h2⟩
                  simp only [Bool.and_eq_true, decide_eq_true_eq] at h2
                  have := g.uniq (l := l') (m := q.2) (m' := m) (by rw [← h2.1]; exact h1) hqm
                  omega
                · intro h
                  exact ⟨(l', m), hqm, by simp; omega⟩
              have s0 : evSs T (callF T (n + d + 1)) b__law_is_tree_0 [some (.ref r), some p, none] vh = evSs T (callF T (n + d + 1)) b__law_is_tree_2 [some (.ref r), some p, none] v1 := by
                simp [b__law_is_tree_0, s__law_is_tree_0, evSs, evS, evE, evEs, hq', blt, hlen, hz0, h0, hs0, isStrD, e1, hni]
              rw [s0]
              by_cases hml : (xt.length : Int) + 1 = m + 1
              · obtain ⟨q, v3, src, hsl, hK3, hsrc, hsn, hitem⟩ := (sv1 v2 hK12).tail
                have hc : Wp (evE T (callF T (n + d + 1)) c__law_is_tree_0 [some (.ref r), some p, none] v2) (fun q v => q = .ref v3.length ∧ v[v3.length]? = some (.lst (yt.map fun y => PV.bl (isT (AllR R) d y))) ∧ Kp [] v2 v) X0 := by
                  unfold c__law_is_tree_0 evE
                  have e0 : evI T (callF T (n + d + 1)) (.val (.sl (.var 1) (.con (.int 1)) .absent)) [some (.ref r), some p, none] v2 = .ok src v3 := by
                    simp [evI, evE, isAbs, partI, hsl, hsrc]
                  rw [e0]
                  simp only [Res.bind_ok, hsn, List.tail_cons]
                  refine (lc_map (zs := yt.map fun y => PV.bl (isT (AllR R) d y)) hitem (by simp [hyl]) (fun k x z hx hz v hK => ?_) (by simp at hl ⊢; omega)).thn fun p v ⟨h1, h2, h3⟩ => ⟨h1, h2, hK3.trans h3⟩
                  obtain ⟨y, hy, ry⟩ := rt.get hx
                  have hzz : z = .bl (isT (AllR R) d y) := by
                    rw [List.getElem?_map, hy] at hz
                    exact (Option.some.inj hz).symm
                  subst hzz
                  have hKv : Kp [] vh v := hK12.trans (hK3.trans hK)
                  have ry' : Rep S v d x y := ry.imp fun i o e hn => ⟨hn, hKv.get e (by simp)⟩
                  obtain ⟨pq, v4, e4, rfl, hK4⟩ := (own_spec g d (n := n) ry' (hKv.get hr (by simp))).ex
                  simp [setTg, setEnv, wipeE, evC, x__law_is_tree_0, evE, evEs, e4, hK4]
                obtain ⟨q2, v4, e4, rfl, h4, hK4⟩ := hc.ex
                have hall := all_lst h4
                have hcmp' : cmpop .Eq (.int ((xt.length : Int) + 1)) (.int (m + 1)) v2 = some true := by rw [hcmp, decide_eq_true hml]
                have e5 : evSs T (callF T (n + d + 1)) b__law_is_tree_2 [some (.ref r), some p, none] v1 = .ok (.rt (.bl (yt.all (isT (AllR R) d)))) v4 := by
                  simp [b__law_is_tree_2, s__law_is_tree_2, evSs, evS, evE, evEs, blt, hlen1, h01, e2, binop, addP, hcmp', e4, hall]
                refine Wp.eq e5 ⟨?_, hK12.trans hK4⟩
                unfold isT
                dsimp only
                rw [hany, decide_eq_true hml]
                simp
              · have e5 : evSs T (callF T (n + d + 1)) b__law_is_tree_2 [some (.ref r), some p, none] v1 = .ok (.rt (.bl false)) v2 := by
                  simp [b__law_is_tree_2, s__law_is_tree_2, evSs, evS, evE, evEs, blt, hlen1, h01, e2, binop, addP, hcmp, hml]
                refine Wp.eq e5 ⟨?_, hK12⟩
                unfold isT
                dsimp only
                rw [hany, decide_eq_false hml]
                rfl
end Mini
end T_S11

section T_S12
set_option Elab.async false
set_option linter.all false
set_option autoImplicit false
set_option maxRecDepth 10000
/-! specs: Language.is_tree -/
namespace Mini
open PySem
/-- a language with the rows R -/
structure LangV (o : Nat) (R : List (Str × Int)) (vh : VH) : Prop where
  ex : ∃ (fs : List (Str × PV)) (dm : Nat), vh[o]? = some (.ins 4 fs) ∧ fs.lookup ("many" : Str) = some (.ref dm) ∧ fs.lookup ("is_tree" : Str) = none ∧ vh[dm]? = some (.dct ((AllR R).map keyV))
theorem LangV.kp {o : Nat} {R : List (Str × Int)} {vh v : VH} {S : List Nat} (h : LangV o R vh) (k : Kp S vh v) (hS : ∀ i ∈ S, ∀ c, vh[i]? ≠ some (.ins 4 c) ∧ ∀ m, vh[i]? ≠ some (.dct m)) : LangV o R v := by
  obtain ⟨fs, dm, h1, h2, h3, h4⟩ := h.ex
  exact ⟨fs, dm, k.get h1 fun m => (hS _ m fs).1 h1, h2, h3, k.get h4 fun m => (hS _ m fs).2 _ h4⟩
theorem LangV.kp0 {o : Nat} {R : List (Str × Int)} {vh v : VH} (h : LangV o R vh) (k : Kp [] vh v) : LangV o R v := h.kp k (by simp)
theorem is_list_eq {n : Nat} {vh : VH} {p : PV} {c : Bool} (h : isIn T vh p [.list, .tuple] = some c) : callF T (n + 1) f_is_list [p] vh = .ok (.bl c) vh := by
  have e : Wp (callF T (n + 1) f_is_list [p] vh) (fun q v => q = .bl c ∧ v = vh) X0 := by
    refine wp_call (fn := df_is_list) rfl rfl ?_
    show Wp (evSs T (callF T n) b_is_list_0 [some p] vh) _ _
    have e : evSs T (callF T n) b_is_list_0 [some p] vh = .ok (.rt (.bl c)) vh := by
      simp [b_is_list_0, s_is_list_0, evSs, evS, evE, h]
    exact Wp.eq e ⟨rfl, rfl⟩
  obtain ⟨q, v, e1, rfl, rfl⟩ := e.ex
  exact e1
theorem val_some {L : List (Str × Int)} (nd : (L.map (·.1)).Nodup) (l : Str) : (valP (L.map keyV) (.inr l)).isSome = L.any fun q => q.1 == l := by
  by_cases h : (L.any fun q => q.1 == l) = true
  · obtain ⟨⟨l', m⟩, hq, e⟩ := List.any_eq_true.mp h
    have : l' = l := by simpa using e
    subst this
    rw [val_row nd hq, h]
    rfl
  · have h' : (L.any fun q => q.1 == l) = false := Bool.eq_false_iff.mpr h
    rw [h', val_none]
    · rfl
    · intro hm
      obtain ⟨q, hq, rfl⟩ := List.mem_map.mp hm
      rw [List.any_eq_false] at h'
      exact h' q hq (by simp)
theorem fld_of {vh : VH} {o : Nat} {c : Nat} {fs : List (Str × PV)} {f : Str} {p : PV} (h : vh[o]? = some (.ins c fs)) (ha : hasAttr T c f = true) (hl : fs.lookup f = some p) : fldP T (.ref o) f vh = some (p, vh) := by
  unfold fldP
  dsimp only
  rw [h]
  dsimp only
  rw [if_pos ha, hl]
theorem resM_lang {vh : VH} {o : Nat} {fs : List (Str × PV)} (h : vh[o]? = some (.ins 4 fs)) (hl : fs.lookup ("is_tree" : Str) = none) : resM T "is_tree" 1 (.ref o) vh = some f_Language_is_tree := by
  unfold resM
  dsimp only
  rw [h]
  dsimp only
  rw [hl]
  rfl
theorem lang_spec {R : List (Str × Int)} (g : GoodR R) {o : Nat} {S : List Nat} : ∀ (d : Nat) {n : Nat} {vh : VH} {p : PV} {da : Da}, Rep S vh d p da → LangV o R vh →
    Wp (callF T (n + d + 1) f_Language_is_tree [.ref o, p] vh) (fun q v => q = .bl (isT (AllR R) d da) ∧ Kp [] vh v) X0
  | 0, _, _, _, _, r, _ => r.elim
  | d + 1, n, vh, p, da, rp, hL => by
    have hsz := size_1000
    have hq := rep_isSeq rp
    obtain ⟨fs, dm, ho, hmany, hist, hdm⟩ := hL.ex
    have hfld := fld_of ho (f := "many") (by decide +kernel) hmany
    refine wp_call (n := n + d + 1) (fn := df_Language_is_tree) rfl rfl ?_
    show Wp (evSs T (callF T (n + d + 1)) b_Language_is_tree_0 [some (.ref o), some p, none] vh) _ _
    by_cases hseq : isSeq da = false
    · rw [hseq] at hq
      have hil := is_list_eq (n := n + d) hq
      have e : evSs T (callF T (n + d + 1)) b_Language_is_tree_0 [some (.ref o), some p, none] vh = .ok (.rt (.bl false)) vh := by
        simp [b_Language_is_tree_0, s_Language_is_tree_0, b_Language_is_tree_1, s_Language_is_tree_1, evSs, evS, evE, evEs, hil]
      refine Wp.eq e ⟨?_, Kp.refl _ _⟩
      cases da with
      | seq ds => exact absurd hseq (by simp [isSeq])
      | _ => rfl
    · cases da with
      | oth => exact absurd rfl hseq
      | str s => exact absurd rfl hseq
      | seq ds =>
        have hq' : isIn T vh p [.list, .tuple] = some true := hq
        have hil := is_list_eq (n := n + d) hq'
        obtain ⟨xs, hp, hl, ha⟩ := id rp
        have sv := seqV_of hp hl
        have hlen := sv.len
        cases ha with
        | nil =>
          have e : evSs T (callF T (n + d + 1)) b_Language_is_tree_0 [some (.ref o), some p, none] vh = .ok (.rt (.bl false)) vh := by
            simp [b_Language_is_tree_0, s_Language_is_tree_0, b_Language_is_tree_1, s_Language_is_tree_1, evSs, evS, evE, evEs, hil, blt, hlen, cmpop]
          exact Wp.eq e ⟨rfl, Kp.refl _ _⟩
        | @cons x0 y0 xt yt r0 rt =>
          have h0 := sv.at0 x0 xt rfl
          have hs0 := rep_isStr r0
          have hne : ¬ ((xt.length : Int) + 1 = 0) := by omega
          simp only [List.length_cons, Int.natCast_add, Int.cast_ofNat_Int] at hlen
          cases y0 with
          | oth =>
            have e : evSs T (callF T (n + d + 1)) b_Language_is_tree_0 [some (.ref o), some p, none] vh = .ok (.rt (.bl false)) vh := by
              simp [b_Language_is_tree_0, s_Language_is_tree_0, b_Language_is_tree_1, s_Language_is_tree_1, evSs, evS, evE, evEs, hil, blt, hlen, cmpop, hne, h0, hs0, isStrD]
            exact Wp.eq e ⟨rfl, Kp.refl _ _⟩
          | seq zs =>
            have e : evSs T (callF T (n + d + 1)) b_Language_is_tree_0 [some (.ref o), some p, none] vh = .ok (.rt (.bl false)) vh := by
              simp [b_Language_is_tree_0, s_Language_is_tree_0, b_Language_is_tree_1, s_Language_is_tree_1, evSs, evS, evE, evEs, hil, blt, hlen, cmpop, hne, h0, hs0, isStrD]
            exact Wp.eq e ⟨rfl, Kp.refl _ _⟩
          | str l =>
            have hx0 : x0 = .str l ∧ PyData.strOk l = true := by
              cases d with
              | zero => exact r0.elim
              | succ d => exact r0
            obtain ⟨rfl, hok⟩ := hx0
            have hni : cmpop .NotIn (.str l) (.ref dm) vh = some (!((AllR R).any fun q => q.1 == l)) := by
              rw [← val_some g.all]
              simp [cmpop, inP, hdm, kOf]
            have hz0 : cmpop .Eq (.int ((xt.length : Int) + 1)) (.int 0) vh = some false := by simp [cmpop, hne]
            by_cases hmem : ((AllR R).any fun q => q.1 == l) = false
            · have e : evSs T (callF T (n + d + 1)) b_Language_is_tree_0 [some (.ref o), some p, none] vh = .ok (.rt (.bl false)) vh := by
                rw [hmem] at hni
                simp [b_Language_is_tree_0, s_Language_is_tree_0, b_Language_is_tree_1, s_Language_is_tree_1, evSs, evS, evE, evEs, hil, blt, hlen, hz0, h0, hs0, isStrD, hfld, hni]
              refine Wp.eq e ⟨?_, Kp.refl _ _⟩
              have : ((AllR R).any fun q => decide (q.1 = l) && decide (q.2 = (yt.length : Int))) = false := by
                rw [List.any_eq_false] at hmem ⊢
                intro q hq
                have := hmem q hq
                simp at this ⊢
                exact fun e => absurd e this
              unfold isT
              dsimp only
              rw [this]
              rfl
            · have hmem' : ((AllR R).any fun q => q.1 == l) = true := by simpa using hmem
              obtain ⟨⟨l', m⟩, hqm, hle⟩ := List.any_eq_true.mp hmem'
              have hle' : l' = l := by simpa using hle
              subst hle'
              rw [hmem'] at hni
              have hix : idxP (.ref dm) (.str l') vh = some (.int m, vh) := by
                unfold idxP
                dsimp only
                rw [hdm]
                dsimp only [kOf]
                rw [val_row g.all hqm]
              have hyl := rt.len
              have hany : ((AllR R).any fun q => decide (q.1 = l') && decide (q.2 = (yt.length : Int))) = decide ((xt.length : Int) + 1 = m + 1) := by
                rw [Bool.eq_iff_iff, List.any_eq_true, decide_eq_true_eq]
                constructor
                · rintro ⟨q, h1, h2⟩
                  simp only [Bool.and_eq_true, decide_eq_true_eq] at h2
                  have := g.uniq (l := l') (m := q.2) (m' := m) (by rw [← h2.1]; exact h1) hqm
                  omega
                · intro h
                  exact ⟨(l', m), hqm, by simp; omega⟩
              have s0 : evSs T (callF T (n + d + 1)) b_Language_is_tree_0 [some (.ref o), some p, none] vh = evSs T (callF T (n + d + 1)) b_Language_is_tree_2 [some (.ref o), some p, none] vh := by
                simp [b_Language_is_tree_0, s_Language_is_tree_0, evSs, evS, evE, evEs, hil, blt, hlen, hz0, h0, hs0, isStrD, hfld, hni]
              rw [s0]
              by_cases hml : (xt.length : Int) + 1 = m + 1
              · obtain ⟨q, v3, src, hsl, hK3, hsrc, hsn, hitem⟩ := sv.tail
                have hc : Wp (evE T (callF T (n + d + 1)) c_Language_is_tree_0 [some (.ref o), some p, none] vh) (fun q v => q = .ref v3.length ∧ v[v3.length]? = some (.lst (yt.map fun y => PV.bl (isT (AllR R) d y))) ∧ Kp [] vh v) X0 := by
                  unfold c_Language_is_tree_0 evE
                  have e0 : evI T (callF T (n + d + 1)) (.val (.sl (.var 1) (.con (.int 1)) .absent)) [some (.ref o), some p, none] vh = .ok src v3 := by
                    simp [evI, evE, isAbs, partI, hsl, hsrc]
                  rw [e0]
                  simp only [Res.bind_ok, hsn, List.tail_cons]
                  refine (lc_map (zs := yt.map fun y => PV.bl (isT (AllR R) d y)) hitem (by simp [hyl]) (fun k x z hx hz v hK => ?_) (by simp at hl ⊢; omega)).thn fun p v ⟨h1, h2, h3⟩ => ⟨h1, h2, hK3.trans h3⟩
                  obtain ⟨y, hy, ry⟩ := rt.get hx
                  have hzz : z = .bl (isT (AllR R) d y) := by
                    rw [List.getElem?_map, hy] at hz
                    exact (Option.some.inj hz).symm
                  subst hzz
                  have hKv : Kp [] vh v := hK3.trans hK
                  have ry' : Rep S v d x y := ry.imp fun i o e hn => ⟨hn, hKv.get e (by simp)⟩
                  obtain ⟨pq, v4, e4, rfl, hK4⟩ := (lang_spec g d (n := n) ry' (hL.kp0 hKv)).ex
                  have hrm := resM_lang (hKv.get ho (by simp)) hist
                  simp [setTg, setEnv, wipeE, evC, x_Language_is_tree_0, evE, evEs, Exs.len, hrm, e4, hK4]
                obtain ⟨q2, v4, e4, rfl, h4, hK4⟩ := hc.ex
                have hall := all_lst h4
                have hcmp' : cmpop .NotEq (.int ((xt.length : Int) + 1)) (.int (m + 1)) vh = some false := by
                  simp only [cmpop, eq_int, decide_eq_true hml]
                  rfl
                have e5 : evSs T (callF T (n + d + 1)) b_Language_is_tree_2 [some (.ref o), some p, none] vh = .ok (.rt (.bl (yt.all (isT (AllR R) d)))) v4 := by
                  simp [b_Language_is_tree_2, s_Language_is_tree_2, b_Language_is_tree_4, s_Language_is_tree_4, evSs, evS, evE, evEs, blt, hlen, h0, hfld, hix, binop, addP, hcmp', e4, hall]
                refine Wp.eq e5 ⟨?_, hK4⟩
                unfold isT
                dsimp only
                rw [hany, decide_eq_true hml]
                simp
              · have hcmp' : cmpop .NotEq (.int ((xt.length : Int) + 1)) (.int (m + 1)) vh = some true := by
                  simp only [cmpop, eq_int, decide_eq_false hml]
                  rfl
                have e5 : evSs T (callF T (n + d + 1)) b_Language_is_tree_2 [some (.ref o), some p, none] vh = .ok (.rt (.bl false)) vh := by
                  simp [b_Language_is_tree_2, s_Language_is_tree_2, b_Language_is_tree_3, s_Language_is_tree_3, evSs, evS, evE, evEs, blt, hlen, h0, hfld, hix, binop, addP, hcmp']
                refine Wp.eq e5 ⟨?_, Kp.refl _ _⟩
                unfold isT
                dsimp only
                rw [hany, decide_eq_false hml]
                rfl
end Mini
end T_S12

section T_S13
set_option Elab.async false
set_option linter.all false
set_option autoImplicit false
set_option maxRecDepth 10000
/-! specs: what a language is made of -/
namespace Mini
open PySem
def LET : Str := "abcdefghijklmnopqrstuvwxyz"
def isW (s : Str) : Bool := decide (1 ≤ s.length) && decide (s.length ≤ 8) && s.cps.toList.all fun c => decide (c ∈ LET.cps.toList)
theorem w14_isW : ∀ s ∈ W14, isW s = true := by decide +kernel
theorem word_spec {n : Nat} {vh : VH} {s : Str} (h : isW s = true) : Wp (callF T (n + 1) f_is_word [.str s] vh) (fun q v => q = .bl true ∧ Kp [] vh v) X0 := by
  have hsz := size_1000
  unfold isW at h
  simp only [Bool.and_eq_true, decide_eq_true_eq] at h
  obtain ⟨⟨h1, h2⟩, h3⟩ := h
  have hlen : lenP (.str s) vh = some (.int s.length, vh) := by
    unfold lenP
    dsimp only
    rw [if_pos (by omega)]
  refine wp_call (fn := df_is_word) rfl rfl ?_
  show Wp (evSs T (callF T n) b_is_word_0 [some (.str s), none] vh) _ _
  have e0 : evSs T (callF T n) b_is_word_0 [some (.str s), none] vh = evSs T (callF T n) b_is_word_2 [some (.str s), none] vh := by
    have a1 : ¬ ((s.length : Int) < 1) := by omega
    have a2 : ¬ (8 < (s.length : Int)) := by omega
    simp [b_is_word_0, s_is_word_0, evSs, evS, evE, evEs, isIn, typ, blt, hlen, cmpop, ordP, a1, a2]
  rw [e0]
  have hsz2 : s.cps.toList.length = s.length := by simp [Str.length]
  have hc : Wp (evE T (callF T n) c_is_word_0 [some (.str s), none] vh) (fun q v => q = .ref vh.length ∧ v[vh.length]? = some (.lst (s.cps.toList.map fun c => PV.bl ((fun _ => true) c))) ∧ Kp [] vh v) X0 := by
    unfold c_is_word_0 evE
    have e1 : evI T (callF T n) (.val (.var 0)) [some (.str s), none] vh = .ok (.vals (s.cps.toList.map fun c => .str ⟨#[c]⟩)) vh := by simp [evI, evE, srcOf]
    rw [e1]
    simp only [Res.bind_ok, Src.len]
    refine lc_map (fun v _ k => rfl) (by simp) (fun k x z hx hz v hK => ?_) (by simp [hsz2] at *; omega)
    rw [List.getElem?_map] at hx hz
    cases ec : s.cps.toList[k]? with
    | none => rw [ec] at hx; cases hx
    | some c =>
      rw [ec] at hx hz
      cases hx
      cases hz
      have hin : decide (c ∈ LET.cps.toList) = true := List.all_eq_true.mp h3 c (List.mem_of_getElem? ec)
      have hcm : cmpop .In (.str ⟨#[c]⟩) (.str LET) v = some true := by
        simp only [cmpop, inP]
        rw [if_pos (show #[c].size = 1 from rfl)]
        exact congrArg some hin
      have e2 : evE T (callF T n) x_is_word_0 [some (.str s), some (.str ⟨#[c]⟩)] v = .ok (.bl true) v := by
        have : evE T (callF T n) x_is_word_0 [some (.str s), some (.str ⟨#[c]⟩)] v = Res.ofB (cmpop .In (.str ⟨#[c]⟩) (.str LET) v) v := rfl
        rw [this, hcm]
        rfl
      simp [setTg, setEnv, wipeE, evC, e2, Kp.refl]
  obtain ⟨q, v1, e1, rfl, h4, hK⟩ := hc.ex
  have hall := all_lst h4
  have e2 : evSs T (callF T n) b_is_word_2 [some (.str s), none] vh = .ok (.rt (.bl true)) v1 := by
    simp [b_is_word_2, s_is_word_2, evSs, evS, evE, evEs, e1, blt, hall]
  exact Wp.eq e2 ⟨rfl, hK⟩
theorem number_eq {n : Nat} {vh : VH} {i : Int} : callF T (n + 1) f_is_number [.int i] vh = .ok (.bl true) vh := by
  have e : Wp (callF T (n + 1) f_is_number [.int i] vh) (fun q v => q = .bl true ∧ v = vh) X0 := by
    refine wp_call (fn := df_is_number) rfl rfl ?_
    show Wp (evSs T (callF T n) b_is_number_0 [some (.int i)] vh) _ _
    have e : evSs T (callF T n) b_is_number_0 [some (.int i)] vh = .ok (.rt (.bl true)) vh := by
      simp [b_is_number_0, s_is_number_0, evSs, evS, evE, isIn, typ]
    exact Wp.eq e ⟨rfl, rfl⟩
  obtain ⟨q, v, e1, rfl, rfl⟩ := e.ex
  exact e1
theorem row_spec {n : Nat} {vh : VH} {q : Str × Int} (hw : q.1 ∈ W14) (h0 : 0 ≤ q.2) (h2 : q.2 ≤ 2) : Wp (callF T (n + 2) f_is_row [rowV q] vh) (fun p v => p = .bl true ∧ Kp [] vh v) X0 := by
  obtain ⟨l, m⟩ := q
  refine wp_call (fn := df_is_row) rfl rfl ?_
  show Wp (evSs T (callF T (n + 1)) b_is_row_0 [some (rowV (l, m))] vh) _ _
  have hil := is_list_eq (n := n) (vh := vh) (p := rowV (l, m)) (c := true) rfl
  obtain ⟨p1, v1, e1, rfl, hK1⟩ := (word_spec (n := n) (vh := vh) (w14_isW l hw)).ex
  have hne : (l == ("keep" : Str)) = false := by
    cases e : l == ("keep" : Str) with
    | false => rfl
    | true =>
      have : l = ("keep" : Str) := by simpa using e
      exact absurd (this ▸ hw) keep_w14
  have hk : cmpop .Eq (.str l) (.str "keep") v1 = some false := by
    show eqP v1 (.str l) (.str "keep") = _
    rw [eq_str (w14_ok l hw) keep_ok, hne]
  have e : evSs T (callF T (n + 1)) b_is_row_0 [some (rowV (l, m))] vh = .ok (.rt (.bl true)) v1 := by
    have hl2 : cmpop .NotEq (.int 2) (.int 2) vh = some false := by simp [cmpop]
    have c1 : cmpop .LtE (.int 0) (.int m) v1 = some (decide (0 ≤ m)) := rfl
    have c2 : cmpop .LtE (.int m) (.int 2) v1 = some (decide (m ≤ 2)) := rfl
    have a1 : 0 ≤ m := h0
    have a2 : m ≤ 2 := h2
    rw [show rowV (l, m) = .tup [.str l, .int m] from rfl] at hil ⊢
    simp [b_is_row_0, s_is_row_0, b_is_row_2, s_is_row_2, evSs, evS, evE, evEs, hil, blt, lenP, hl2, idxP, e1, hk, number_eq, c1, c2, a1, a2]
  exact Wp.eq e ⟨rfl, hK1⟩
end Mini
end T_S13

section T_S14
set_option Elab.async false
set_option linter.all false
set_option autoImplicit false
set_option maxRecDepth 10000
/-! specs: frozen_rows, Language -/
namespace Mini
open PySem
theorem in_strs {vh : VH} {D : Nat} {L : List (Str × Int)} {l : Str} (hok : ∀ q ∈ L, PyData.strOk q.1 = true) (h : vh[D]? = some (.lst (L.map fun q => .str q.1))) (hl : PyData.strOk l = true) : inP (.str l) (.ref D) vh = some (L.any fun q => q.1 == l) := by
  unfold inP
  dsimp only
  rw [h]
  dsimp only
  unfold inSeq
  rw [mapO_strs hok, show toD vh 190 (.str l) = some (.str l) from by
    show (if PyData.strOk l = true then some (PyData.str l) else none) = _
    rw [if_pos hl]]
  dsimp only
  rw [List.any_map]
  rfl
theorem any_lst {vh : VH} {D : Nat} {α : Type} {f : α → Bool} {l : List α} (h : vh[D]? = some (.lst (l.map fun y => PV.bl (f y)))) : allP false (.ref D) vh = some (.bl (l.any f), vh) := by
  unfold allP
  dsimp only
  rw [h]
  dsimp only
  rw [bools_map]
  simp [List.any_map]
theorem frozen_spec {n r : Nat} {vh : VH} {R : List (Str × Int)} (hr : vh[r]? = some (.lst (R.map rowV))) (g : GoodR R) :
    Wp (callF T (n + 3) f_frozen_rows [.ref r] vh) (fun p v => p = .tup (R.map rowV) ∧ Kp [] vh v) X0 := by
  have hsz := size_1000
  have hlen := g.len
  refine wp_call (fn := df_frozen_rows) rfl rfl ?_
  show Wp (evSs T (callF T (n + 2)) b_frozen_rows_0 [some (.ref r), none, none, none, none, none] vh) _ _
  have hil := is_list_eq (n := n + 1) (vh := vh) (p := .ref r) (c := true) (by simp [isIn, typ, hr])
  have s0 : evSs T (callF T (n + 2)) b_frozen_rows_0 [some (.ref r), none, none, none, none, none] vh = evSs T (callF T (n + 2)) b_frozen_rows_3 [some (.ref r), some (.ref vh.length), none, none, none, none] (vh ++ [.lst []]) := by
    simp [b_frozen_rows_0, s_frozen_rows_0, b_frozen_rows_2, s_frozen_rows_2, evSs, evS, evE, evEs, hil, newL, alloc, setTg, setEnv]
  rw [s0]
  have hrl := lt_at hr
  have e1 : evI T (callF T (n + 2)) (.enum (.var 0)) [some (.ref r), some (.ref vh.length), none, none, none, none] (vh ++ [.lst []]) = .ok (.enum (.ls r)) (vh ++ [.lst []]) := by
    simp [evI, evE, at_app hr]
  simp only [b_frozen_rows_3, s_frozen_rows_3, evSs, evS, e1, bindS_ok, Src.len, at_app hr]
  rw [wp_bind]
  refine wp_for (xs := ((List.range (R.map rowV).length).zip (R.map rowV)).map fun q => PV.tup [.int (q.1 : Nat), q.2]) (fun k env v => ∃ x2 x3 : Option PV, env = [some (.ref r), some (.ref vh.length), x2, x3, none, none] ∧ k ≤ R.length ∧ v[vh.length]? = some (.lst ((R.take k).map rowV)) ∧ Kp [] vh v) (fun k env v ⟨_, _, _, _, _, hK⟩ => item_enum (hK.get hr (by simp))) (fun k env v p ⟨x2, x3, ee, hk0, hF, hK⟩ hp => ?_) (fun env v ⟨x2, x3, ee, hk0, hF, hK⟩ => ?_) _ 0 _ _ (by simp)
    ⟨none, none, rfl, Nat.zero_le _, at_new _ _, Kp.app _⟩
  · subst ee
    have hk : k < R.length := by
      have := (List.getElem?_eq_some_iff.mp hp).1
      simpa using this
    have hpe : p = .tup [.int k, rowV R[k]] := by
      simp [hk] at hp
      exact hp.symm
    subst hpe
    have hq : R[k] ∈ R := List.getElem_mem _
    generalize hqe : R[k] = q at hq
    obtain ⟨l, m⟩ := q
    obtain ⟨h0, h2⟩ := g.m _ hq
    have hw := g.w _ hq
    obtain ⟨p1, v1, e2, rfl, hK1⟩ := (row_spec (n := n) (vh := v) hw h0 h2).ex
    have hF1 := hK1.get hF (by simp)
    -- the labels so far
    have hc : Wp (evE T (callF T (n + 2)) c_frozen_rows_0 [some (.ref r), some (.ref vh.length), some (.int k), some (rowV (l, m)), none, none] v1) (fun p v2 => p = .ref v1.length ∧ v2[v1.length]? = some (.lst ((R.take k).map fun q => .str q.1)) ∧ Kp [] v1 v2) X0 := by
      unfold c_frozen_rows_0 evE
      have e0 : evI T (callF T (n + 2)) (.val (.var 1)) [some (.ref r), some (.ref vh.length), some (.int k), some (rowV (l, m)), none, none] v1 = .ok (.ls vh.length) v1 := by simp [evI, evE, src_lst hF1]
      rw [e0]
      simp only [Res.bind_ok, len_ls hF1]
      refine lc_map (fun v' hK' k' => item_ls (hK'.get hF1 (by simp))) (by simp) (fun k' x z hx hz v' hK' => ?_) (by simp; omega)
      rw [List.getElem?_map] at hx hz
      cases ek : (R.take k)[k']? with
      | none => rw [ek] at hx; cases hx
      | some q' =>
        rw [ek] at hx hz
        cases hx
        cases hz
        simp [setTg, setAll, setEnv, wipeE, evC, rowV, x_frozen_rows_0, evE, Kp.refl]
    obtain ⟨p3, v2, e3, rfl, hD, hK2⟩ := hc.ex
    have hin := in_strs (l := l) (fun q hq => w14_ok _ (g.w q (List.mem_of_mem_take hq))) hD (w14_ok l hw)
    have hno : ((R.take k).any fun q => q.1 == l) = false := by
      rw [List.any_eq_false]
      intro q hq e
      have e' : q.1 = l := by simpa using e
      obtain ⟨i, hi, hie⟩ := List.getElem_of_mem hq
      have hik : i < k := by
        rw [List.length_take] at hi
        omega
      rw [List.getElem_take] at hie
      have hnd := g.nd
      have h1 : (R.map (·.1))[i]'(by simp; omega) = (R.map (·.1))[k]'(by simp; omega) := by
        rw [List.getElem_map, List.getElem_map, hie, hqe, e']
      have := (List.getElem_inj hnd).mp h1
      omega
    have hcm : cmpop .In (.str l) (.ref v1.length) v2 = some false := by
      show inP (.str l) (.ref v1.length) v2 = _
      rw [hin, hno]
    have hF2 := hK2.get hF1 (by simp)
    have hfl : ((R.take k).map rowV).length < sizeLine := by simp; omega
    refine ⟨_, rfl, ?_⟩
    have eb : evSs T (callF T (n + 2)) b_frozen_rows_4 [some (.ref r), some (.ref vh.length), some (.int k), some (rowV (l, m)), none, none] v =
        .ok (.nx [some (.ref r), some (.ref vh.length), some (.int k), some (rowV (l, m)), none, none]) (v2.set vh.length (.lst ((R.take k).map rowV ++ [rowV (l, m)]))) := by
      have ap := append_lst (p := rowV (l, m)) hF2 hfl
      have il := isLst_of hF2
      have t1 : ∀ v', idxP (rowV (l, m)) (.int 0) v' = some (.str l, v') := fun v' => by simp [rowV, idxP]
      have t2 : ∀ v', idxP (rowV (l, m)) (.int 1) v' = some (.int m, v') := fun v' => by simp [rowV, idxP]
      have t3 : PV.tup [.str l, .int m] = rowV (l, m) := rfl
      simp [b_frozen_rows_4, s_frozen_rows_4, evSs, evS, evE, evEs, e2, e3, t1, hcm]
      simp [b_frozen_rows_6, s_frozen_rows_6, evSs, evS, evE, evEs, t1, t2, il, newT, show 2 ≤ sizeLine by omega, t3]
      rw [ap]
      simp
    show Wp (evSs T (callF T (n + 2)) b_frozen_rows_4 [some (.ref r), some (.ref vh.length), some (.int k), some (rowV (l, m)), none, none] v) _ _
    refine Wp.eq eb ⟨_, _, rfl, hk, ?_, ?_⟩
    · rw [at_set hF2, ← List.take_append_getElem hk, List.map_append, hqe]
      rfl
    · exact (hK.trans (hK1.trans hK2)).set_new (Nat.le_refl _)
  · subst ee
    have hF' : v[vh.length]? = some (.lst (R.map rowV)) := by
      rw [hF]
      simp
    have hc : Wp (evE T (callF T (n + 2)) c_frozen_rows_1 [some (.ref r), some (.ref vh.length), x2, x3, none, none] v) (fun p v2 => p = .ref v.length ∧ v2[v.length]? = some (.lst (R.map fun q => PV.bl ((fun q : Str × Int => decide (q.2 = 0)) q))) ∧ Kp [] v v2) X0 := by
      unfold c_frozen_rows_1 evE
      have e0 : evI T (callF T (n + 2)) (.val (.var 1)) [some (.ref r), some (.ref vh.length), x2, x3, none, none] v = .ok (.ls vh.length) v := by simp [evI, evE, src_lst hF']
      rw [e0]
      simp only [Res.bind_ok, len_ls hF']
      refine lc_map (fun v' hK' k' => item_ls (hK'.get hF' (by simp))) (by simp) (fun k' x z hx hz v' hK' => ?_) (by simp; omega)
      rw [List.getElem?_map] at hx hz
      cases ek : R[k']? with
      | none => rw [ek] at hx; cases hx
      | some q' =>
        rw [ek] at hx hz
        cases hx
        cases hz
        simp [setTg, setAll, setEnv, wipeE, evC, rowV, x_frozen_rows_1, evE, cmpop, Kp.refl]
    obtain ⟨p3, v2, e3, rfl, hD, hK2⟩ := hc.ex
    have hany := any_lst hD
    have htrue : (R.any fun q => decide (q.2 = 0)) = true := by
      obtain ⟨q, hq, e⟩ := g.z
      exact List.any_eq_true.mpr ⟨q, hq, by simp [e]⟩
    rw [htrue] at hany
    have ht := tuple_lst (hK2.get hF' (by simp))
    have eb : evSs T (callF T (n + 2)) b_frozen_rows_7 [some (.ref r), some (.ref vh.length), x2, x3, none, none] v = .ok (.rt (.tup (R.map rowV))) v2 := by
      simp [b_frozen_rows_7, s_frozen_rows_7, b_frozen_rows_9, s_frozen_rows_9, evSs, evS, evE, evEs, e3, blt, hany, ht]
    exact Wp.eq eb ⟨rfl, hK.trans hK2⟩
end Mini
end T_S14

section T_S15
set_option Elab.async false
set_option linter.all false
set_option autoImplicit false
set_option maxRecDepth 10000
set_option maxHeartbeats 400000
/-! specs: Language(rows) -/
namespace Mini
open PySem
theorem setf_of {vh : VH} {o c : Nat} {fs : List (Str × PV)} {f : Str} {p : PV} (h : vh[o]? = some (.ins c fs)) (ha : hasAttr T c f = true) (hl : fs.length < 1000) : setfP T (.ref o) f p vh = some (vh.set o (.ins c (putFP f p fs))) := by
  unfold setfP
  dsimp only
  rw [h]
  dsimp only
  rw [if_pos ⟨ha, hl⟩]
theorem wp_callE {T : Tab} {n f : Nat} {fn : Fn} {ps : List PV} {vh : VH} {Q : PV → VH → Prop} {E : XQ} (b : Sms) (env : Env) (hf : T.fns[f]? = some fn) (hl : ps.length = fn.ps.length) (hb : fn.body = b) (he : ps.map some ++ List.replicate (fn.N.length - ps.length) none = env)
    (h : Wp (evSs T (callF T n) b env vh) (fun f vh1 => match f with
      | .nx _ => Q .non vh1
      | .rt p => Q p vh1
      | .ex c fs _ => E c fs vh1
      | _ => False) X0) : Wp (callF T (n + 1) f ps vh) Q E := by
  subst hb
  subst he
  exact wp_call hf hl h
theorem init_spec {n r : Nat} {vh : VH} {R : List (Str × Int)} (hr : vh[r]? = some (.lst (R.map rowV))) (g : GoodR R) :
    Wp (callF T (n + 4) f_Language___init__ [.ref vh.length, .ref r] (vh ++ [.ins 4 []])) (fun p v => p = .non ∧ LangV vh.length R v ∧ Kp [] vh v) X0 := by
  have hsz := size_1000
  have hlen := g.len
  refine wp_callE (n := n + 3) (fn := df_Language___init__) b_Language___init___0 [some (.ref vh.length), some (.ref r), none, none] (by rfl) (by rfl) (by rfl) (by rfl) ?_
  have ho0 := at_new vh (.ins 4 [])
  obtain ⟨p1, v1, e1, rfl, hK1⟩ := (frozen_spec (n := n) (at_app hr) g).ex
  have ho1 := hK1.get ho0 (by simp)
  have f1 := setf_of (p := .tup (R.map rowV)) ho1 (f := "rows") (by decide +kernel) (by simp)
  have s0 : evSs T (callF T (n + 3)) b_Language___init___0 [some (.ref vh.length), some (.ref r), none, none] (vh ++ [.ins 4 []]) = evSs T (callF T (n + 3)) b_Language___init___1 [some (.ref vh.length), some (.ref r), none, none] (v1.set vh.length (.ins 4 [(("rows" : Str), .tup (R.map rowV))])) := by
    simp [b_Language___init___0, s_Language___init___0, evSs, evS, evE, evEs, e1, f1, putFP]
  rw [s0]
  have ho2 := at_set (u := .ins 4 [(("rows" : Str), .tup (R.map rowV))]) ho1
  have hK2 : Kp [] vh (v1.set vh.length (.ins 4 [(("rows" : Str), .tup (R.map rowV))])) := ((Kp.app _).trans hK1).set_new (Nat.le_refl _)
  generalize hv2 : v1.set vh.length (.ins 4 [(("rows" : Str), .tup (R.map rowV))]) = v2 at ho2 hK2
  have hf2 := fld_of ho2 (f := "rows") (p := .tup (R.map rowV)) (by decide +kernel) (by simp)
  have hc : Wp (evE T (callF T (n + 3)) c_Language___init___0 [some (.ref vh.length), some (.ref r), none, none] v2) (fun p v => p = .ref v2.length ∧ v[v2.length]? = some (.lst (R.map fun q => .str q.1)) ∧ Kp [] v2 v) X0 := by
    unfold c_Language___init___0 evE
    have e0 : evI T (callF T (n + 3)) (.val (.fld (.var 0) "rows")) [some (.ref vh.length), some (.ref r), none, none] v2 = .ok (.vals (R.map rowV)) v2 := by simp [evI, evE, hf2, srcOf]
    rw [e0]
    simp only [Res.bind_ok, Src.len]
    refine lc_map (fun v' hK' k' => rfl) (by simp) (fun k' x z hx hz v' hK' => ?_) (by simp; omega)
    rw [List.getElem?_map] at hx hz
    cases ek : R[k']? with
    | none => rw [ek] at hx; cases hx
    | some q' =>
      rw [ek] at hx hz
      cases hx
      cases hz
      simp [setTg, setAll, setEnv, wipeE, evC, rowV, x_Language___init___0, evE, Kp.refl]
  obtain ⟨p3, v3, e3, rfl, hD, hK3⟩ := hc.ex
  have ht := tuple_lst hD
  have ho3 := hK3.get ho2 (by simp)
  have f3 := setf_of (p := .tup ((R.map fun q => PV.str q.1) ++ [.str "keep"])) ho3 (f := "labels") (by decide +kernel) (by simp)
  have s1 : evSs T (callF T (n + 3)) b_Language___init___1 [some (.ref vh.length), some (.ref r), none, none] v2 = evSs T (callF T (n + 3)) b_Language___init___2 [some (.ref vh.length), some (.ref r), none, none] (v3.set vh.length (.ins 4 [(("rows" : Str), .tup (R.map rowV)), (("labels" : Str), .tup ((R.map fun q => PV.str q.1) ++ [.str "keep"]))])) := by
    have hne : ¬ (("rows" : Str) = ("labels" : Str)) := by decide +kernel
    simp [b_Language___init___1, s_Language___init___1, evSs, evS, evE, evEs, e3, blt, ht, newT, show 1 ≤ sizeLine by omega, binop, addP, show R.length + 1 ≤ sizeLine by omega, f3, putFP, hne]
  rw [s1]
  have ho4 := at_set (u := .ins 4 [(("rows" : Str), .tup (R.map rowV)), (("labels" : Str), .tup ((R.map fun q => PV.str q.1) ++ [.str "keep"]))]) ho3
  have hK4 : Kp [] vh (v3.set vh.length (.ins 4 [(("rows" : Str), .tup (R.map rowV)), (("labels" : Str), .tup ((R.map fun q => PV.str q.1) ++ [.str "keep"]))])) := (hK2.trans hK3).set_new (Nat.le_refl _)
  generalize hv4 : v3.set vh.length (.ins 4 [(("rows" : Str), .tup (R.map rowV)), (("labels" : Str), .tup ((R.map fun q => PV.str q.1) ++ [.str "keep"]))]) = v4 at ho4 hK4
  have hf4 := fld_of ho4 (f := "rows") (p := .tup (R.map rowV)) (by decide +kernel) (by simp)
  have hds : dsumP (.tup (R.map rowV)) (.tup [.tup [.str "keep", .int 1]]) v4 = some (.ref v4.length, v4 ++ [.dct ((AllR R).map keyV)]) := by
    have hRn : R.length ≠ 0 := by
      obtain ⟨q, hq, _⟩ := g.z
      intro h
      have := List.eq_nil_of_length_eq_zero h
      subst this
      cases hq
    unfold dsumP
    dsimp only
    rw [if_pos ⟨by simpa using hRn, by simp, by simp; omega⟩]
    have e : R.map rowV ++ [.tup [.str "keep", .int 1]] = (AllR R).map rowV := by simp [AllR, rowV]
    rw [e, pairs_rows]
    dsimp only
    rw [merge_nodup _ [] (by rw [List.nil_append]; exact keys_nodup g)]
    rfl
  have ho5 := at_app (u := .dct ((AllR R).map keyV)) ho4
  have f5 := setf_of (p := .ref v4.length) ho5 (f := "many") (by decide +kernel) (by simp)
  have s2 : evSs T (callF T (n + 3)) b_Language___init___2 [some (.ref vh.length), some (.ref r), none, none] v4 = .ok (.nx [some (.ref vh.length), some (.ref r), none, none]) (((v4 ++ [VO.dct ((AllR R).map keyV)]) : VH).set vh.length (VO.ins 4 [(("rows" : Str), PV.tup (R.map rowV)), (("labels" : Str), PV.tup ((R.map fun q => PV.str q.1) ++ [PV.str "keep"])), (("many" : Str), .ref v4.length)])) := by
    have hne : ¬ (("rows" : Str) = ("many" : Str)) := by decide +kernel
    have hne2 : ¬ (("labels" : Str) = ("many" : Str)) := by decide +kernel
    simp [b_Language___init___2, s_Language___init___2, evSs, evS, evE, evEs, hf4, newT, show 1 ≤ sizeLine by omega, show 2 ≤ sizeLine by omega, hds, f5, putFP, hne, hne2]
  have ho6 := at_set (u := .ins 4 [(("rows" : Str), .tup (R.map rowV)), (("labels" : Str), .tup ((R.map fun q => PV.str q.1) ++ [.str "keep"])), (("many" : Str), .ref v4.length)]) ho5
  have hd6 : ((v4 ++ [VO.dct ((AllR R).map keyV)]).set vh.length (.ins 4 [(("rows" : Str), .tup (R.map rowV)), (("labels" : Str), .tup ((R.map fun q => PV.str q.1) ++ [.str "keep"])), (("many" : Str), .ref v4.length)]))[v4.length]? = some (.dct ((AllR R).map keyV)) := by
    have := lt_at ho4
    rw [at_ne (by omega)]
    exact at_new _ _
  refine Wp.eq s2 ⟨rfl, ⟨_, _, ho6, ?_, ?_, hd6⟩, (hK4.trans (Kp.app _)).set_new (Nat.le_refl _)⟩
  · have b1 : (("many" : Str) == ("rows" : Str)) = false := by decide +kernel
    have b2 : (("many" : Str) == ("labels" : Str)) = false := by decide +kernel
    have b3 : (("many" : Str) == ("many" : Str)) = true := by decide +kernel
    simp only [List.lookup, b1, b2, b3]
  · have b1 : (("is_tree" : Str) == ("rows" : Str)) = false := by decide +kernel
    have b2 : (("is_tree" : Str) == ("labels" : Str)) = false := by decide +kernel
    have b3 : (("is_tree" : Str) == ("many" : Str)) = false := by decide +kernel
    simp only [List.lookup, b1, b2, b3]
theorem new_spec {n r : Nat} {vh : VH} {R : List (Str × Int)} (hr : vh[r]? = some (.lst (R.map rowV))) (g : GoodR R) :
    Wp (newP T (callF T (n + 4)) 4 [.ref r] vh) (fun p v => p = .ref vh.length ∧ LangV vh.length R v ∧ Kp [] vh v) X0 := by
  obtain ⟨p, v, e, rfl, hL, hK⟩ := (init_spec (n := n) hr g).ex
  have e2 : newP T (callF T (n + 4)) 4 [.ref r] vh = .ok (.ref vh.length) v := by
    show ((callF T (n + 4) f_Language___init__ [.ref vh.length, .ref r] (vh ++ [.ins 4 []])).bind fun r vh1 => match r with
      | .non => Res.ok (PV.ref vh.length) vh1
      | _ => .stuck) = _
    rw [e]
    rfl
  exact Wp.eq e2 ⟨rfl, hL, hK⟩
end Mini
end T_S15

section T_S16
set_option Elab.async false
set_option linter.all false
set_option autoImplicit false
set_option maxRecDepth 10000
/-! specs: places, at, put -/
namespace Mini
open PySem
def pathV (is : List Nat) : PV := .tup (is.map fun i : Nat => .int (i : Int))
def Sub : List Nat → PV → PV → Prop
  | [], p, q => p = q
  | i :: is, p, q => ∃ x cs c, p = .tup (x :: cs) ∧ cs[i]? = some c ∧ Sub is c q
theorem TrP.sub {L : List (Str × Int)} : ∀ {is : List Nat} {d : Nat} {p q : PV}, TrP L d p → Sub is p q → TrP L (d - is.length) q ∧ is.length < d
  | [], 0, p, q, h, s => h.elim
  | [], d + 1, p, q, h, s => by
    have : p = q := s
    rw [← this]
    exact ⟨h, by simp⟩
  | i :: is, 0, p, q, h, _ => h.elim
  | i :: is, d + 1, p, q, ⟨l, cs, e, h1, h2⟩, ⟨x, cs', c, e', hc, s⟩ => by
    rw [e] at e'
    injection e' with e'
    injection e' with _ e'
    subst e'
    obtain ⟨h3, h4⟩ := (h2 c (List.mem_of_getElem? hc)).sub s
    refine ⟨?_, by simp; omega⟩
    have : d + 1 - (i :: is).length = d - is.length := by simp
    rw [this]
    exact h3
theorem path_eq {vh : VH} (is : List Nat) : cmpop .Eq (pathV is) (.tup []) vh = some is.isEmpty := by
  have h := toD_ints vh (is.map fun i : Nat => (i : Int))
  have h' : ∀ n, mapO (toD vh (n + 1)) ((is.map fun i : Nat => (i : Int)).map PV.int) = some ((is.map fun i : Nat => (i : Int)).map PyData.int) := by
    intro n
    generalize is.map (fun i : Nat => (i : Int)) = ms
    induction ms with
    | nil => rfl
    | cons m ms ih =>
      rw [List.map_cons]
      unfold mapO
      rw [show toD vh (n + 1) (.int m) = some (.int m) from rfl, ih]
      rfl
  have e1 : toD vh 190 (pathV is) = some (.tuple ((is.map fun i : Nat => (i : Int)).map PyData.int)) := by
    unfold pathV
    show (mapO (toD vh 189) (is.map fun i : Nat => PV.int (i : Int))).map PyData.tuple = _
    rw [show (is.map fun i : Nat => PV.int (i : Int)) = (is.map fun i : Nat => (i : Int)).map PV.int by simp, h' 188]
    rfl
  have e2 : toD vh 190 (.tup []) = some (.tuple []) := rfl
  show eqP vh _ _ = _
  unfold eqP
  rw [e1, e2]
  cases is with
  | nil => rfl
  | cons i is => rfl
theorem idx_path {vh : VH} {i : Nat} {is : List Nat} : idxP (pathV (i :: is)) (.int 0) vh = some (.int i, vh) := by simp [idxP, pathV]
theorem sl_path {vh : VH} {i : Nat} {is : List Nat} : slP (pathV (i :: is)) (some 1) none vh = some (pathV is, vh) := by
  unfold slP pathV
  dsimp only
  rw [cut_tail]
  simp
theorem idx_tup {vh : VH} {xs : List PV} {k : Nat} {y : PV} (hy : xs[k]? = some y) : idxP (.tup xs) (.int k) vh = some (y, vh) := by
  unfold idxP
  dsimp only
  show (match L2.atI xs (k : Int) with | some y => some (y, vh) | none => none) = _
  rw [at_nat, hy]
theorem at_spec : ∀ (is : List Nat) {m : Nat} {vh : VH} {p q : PV}, is.length < m → Sub is p q → callF T m f__law_at [p, pathV is] vh = .ok q vh
  | [], m, vh, p, q, hm, s => by
    obtain ⟨n, rfl⟩ : ∃ n, m = n + 1 := ⟨m - 1, by omega⟩
    have : p = q := s
    subst this
    have e : Wp (callF T (n + 1) f__law_at [p, pathV []] vh) (fun q v => q = p ∧ v = vh) X0 := by
      refine wp_call (fn := df__law_at) rfl rfl ?_
      show Wp (evSs T (callF T n) b__law_at_0 [some p, some (pathV [])] vh) _ _
      have e : evSs T (callF T n) b__law_at_0 [some p, some (pathV [])] vh = .ok (.rt p) vh := by
        simp [b__law_at_0, s__law_at_0, i__law_at_0, evSs, evS, evE, evEs, newT, path_eq]
      exact Wp.eq e ⟨rfl, rfl⟩
    obtain ⟨q, v, e1, rfl, rfl⟩ := e.ex
    exact e1
  | i :: is, m, vh, p, q, hm, ⟨x, cs, c, e, hc, s⟩ => by
    simp at hm
    obtain ⟨n, rfl⟩ : ∃ n, m = n + 1 := ⟨m - 1, by omega⟩
    subst e
    have ih := at_spec is (m := n) (vh := vh) (by omega) s
    have hi : idxP (.tup (x :: cs)) (.int ((i : Int) + 1)) vh = some (c, vh) := idx_tup (k := i + 1) (by simpa using hc)
    have e : Wp (callF T (n + 1) f__law_at [.tup (x :: cs), pathV (i :: is)] vh) (fun q' v => q' = q ∧ v = vh) X0 := by
      refine wp_call (fn := df__law_at) rfl rfl ?_
      show Wp (evSs T (callF T n) b__law_at_0 [some (.tup (x :: cs)), some (pathV (i :: is))] vh) _ _
      have e : evSs T (callF T n) b__law_at_0 [some (.tup (x :: cs)), some (pathV (i :: is))] vh = .ok (.rt q) vh := by
        simp [b__law_at_0, s__law_at_0, i__law_at_0, evSs, evS, evE, evEs, newT, path_eq, idx_path, binop, addP, hi, isAbs, partI, sl_path, ih]
      exact Wp.eq e ⟨rfl, rfl⟩
    obtain ⟨q, v, e1, rfl, rfl⟩ := e.ex
    exact e1
theorem All2.app {α β : Type} {R : α → β → Prop} : ∀ {xs xs' : List α} {ys ys' : List β}, All2 R xs ys → All2 R xs' ys' → All2 R (xs ++ xs') (ys ++ ys')
  | _, _, _, _, .nil, t => t
  | _, _, _, _, .cons r q, t => .cons r (q.app t)
theorem All2.ex {α β : Type} {R : α → β → Prop} : ∀ {xs : List α}, (∀ x ∈ xs, ∃ y, R x y) → ∃ ys, All2 R xs ys
  | [], _ => ⟨[], .nil⟩
  | x :: xs, h => by
    obtain ⟨y, hy⟩ := h x List.mem_cons_self
    obtain ⟨ys, hys⟩ := All2.ex (xs := xs) fun z hz => h z (List.mem_cons_of_mem _ hz)
    exact ⟨y :: ys, .cons hy hys⟩
theorem All2.mem {α β : Type} {R : α → β → Prop} : ∀ {xs : List α} {ys : List β} {y : β}, All2 R xs ys → y ∈ ys → ∃ x ∈ xs, R x y
  | _, _, _, .nil, h => by cases h
  | _, _, _, .cons r q, h => by
    rcases List.mem_cons.mp h with rfl | h
    · exact ⟨_, List.mem_cons_self, r⟩
    · obtain ⟨x, hx, hr⟩ := q.mem h
      exact ⟨x, List.mem_cons_of_mem _ hx, hr⟩
/-- a drawn tree is a tree -/
theorem TrP.rep {R : List (Str × Int)} (g : GoodR R) {S : List Nat} {vh : VH} : ∀ {d : Nat} {p : PV}, TrP (AllR R) d p → ∃ da, Rep S vh (d + 1) p da ∧ isT (AllR R) (d + 1) da = true
  | 0, _, h => h.elim
  | d + 1, p, ⟨l, cs, e, h1, h2⟩ => by
    have hc : ∀ c ∈ cs, ∃ y, Rep S vh (d + 1) c y ∧ isT (AllR R) (d + 1) y = true := fun c hc => TrP.rep g (h2 c hc)
    obtain ⟨ys, hys⟩ := All2.ex hc
    have hm : (cs.length : Int) = 0 ∨ (cs.length : Int) = 1 ∨ (cs.length : Int) = 2 := g.m3 _ h1
    have hlen := hys.len
    refine ⟨.seq (.str l :: ys), ⟨.str l :: cs, .inl e, ?_, .cons ⟨rfl, g.ok _ h1⟩ (hys.imp fun _ _ r => r.1)⟩, ?_⟩
    · simp only [List.length_cons]
      omega
    · unfold isT
      dsimp only
      rw [Bool.and_eq_true, List.any_eq_true, List.all_eq_true]
      refine ⟨⟨_, h1, by simp [hlen]⟩, fun y hy => ?_⟩
      obtain ⟨x, _, hr⟩ := hys.mem hy
      exact hr.2
/-- leaves of data -/
theorem rep_non {S : List Nat} {vh : VH} {d : Nat} : Rep S vh (d + 1) .non .oth := .inl rfl
theorem rep_bl {S : List Nat} {vh : VH} {d : Nat} {b : Bool} : Rep S vh (d + 1) (.bl b) .oth := .inr (.inl ⟨b, rfl⟩)
theorem rep_int {S : List Nat} {vh : VH} {d : Nat} {i : Int} : Rep S vh (d + 1) (.int i) .oth := .inr (.inr (.inl ⟨i, rfl⟩))
theorem rep_str {S : List Nat} {vh : VH} {d : Nat} {s : Str} (h : PyData.strOk s = true) : Rep S vh (d + 1) (.str s) (.str s) := ⟨rfl, h⟩
theorem rep_dct {S : List Nat} {vh : VH} {d i : Nat} {kvs : List (L2.Key × PV)} (hi : i ∉ S) (h : vh[i]? = some (.dct kvs)) : Rep S vh (d + 1) (.ref i) .oth := .inr (.inr (.inr ⟨i, kvs, rfl, hi, h⟩))
theorem rep_nil {S : List Nat} {vh : VH} {d i : Nat} (hi : i ∉ S) (h : vh[i]? = some (.lst [])) : Rep S vh (d + 1) (.ref i) (.seq []) := ⟨[], .inr ⟨i, rfl, hi, h⟩, by simp, .nil⟩
theorem rep_tup {S : List Nat} {vh : VH} {d : Nat} {xs : List PV} {ys : List Da} (h : xs.length ≤ 4) (ha : All2 (Rep S vh d) xs ys) : Rep S vh (d + 1) (.tup xs) (.seq ys) := ⟨xs, .inl rfl, h, ha⟩
theorem rep_lst {S : List Nat} {vh : VH} {d i : Nat} {xs : List PV} {ys : List Da} (hi : i ∉ S) (hv : vh[i]? = some (.lst xs)) (h : xs.length ≤ 4) (ha : All2 (Rep S vh d) xs ys) : Rep S vh (d + 1) (.ref i) (.seq ys) := ⟨xs, .inr ⟨i, rfl, hi, hv⟩, h, ha⟩
theorem put_spec {R : List (Str × Int)} (g : GoodR R) {S : List Nat} {de : Nat} : ∀ (is : List Nat) {m d D : Nat} {vh : VH} {p q o : PV} {da : Da}, is.length < m → d + 1 ≤ D → is.length + de ≤ D → TrP (AllR R) d p → Sub is p q → Rep S vh de o da →
    ∃ r db, callF T m f__law_put [p, pathV is, o] vh = .ok r vh ∧ Rep S vh D r db
  | [], m, d, D, vh, p, q, o, da, hm, hD1, hD2, ht, s, ro => by
    obtain ⟨n, rfl⟩ : ∃ n, m = n + 1 := ⟨m - 1, by omega⟩
    have e : Wp (callF T (n + 1) f__law_put [p, pathV [], o] vh) (fun q v => q = o ∧ v = vh) X0 := by
      refine wp_call (fn := df__law_put) rfl rfl ?_
      show Wp (evSs T (callF T n) b__law_put_0 [some p, some (pathV []), some o, none] vh) _ _
      have e : evSs T (callF T n) b__law_put_0 [some p, some (pathV []), some o, none] vh = .ok (.rt o) vh := by
        simp [b__law_put_0, s__law_put_0, b__law_put_1, s__law_put_1, evSs, evS, evE, evEs, newT, path_eq]
      exact Wp.eq e ⟨rfl, rfl⟩
    obtain ⟨q, v, e1, rfl, rfl⟩ := e.ex
    exact ⟨_, da, e1, ro.mono (by simp at hD2; omega)⟩
  | i :: is, m, 0, D, vh, p, q, o, da, hm, _, _, ht, _, ro => ht.elim
  | i :: is, m, d + 1, 0, vh, p, q, o, da, hm, hD1, _, ht, _, ro => absurd hD1 (by omega)
  | i :: is, m, d + 1, D + 1, vh, p, q, o, da, hm, hD1, hD2, ht, ⟨x, cs, c, ep, hc, s⟩, ro => by
    simp at hm hD2
    obtain ⟨n, rfl⟩ : ∃ n, m = n + 1 := ⟨m - 1, by omega⟩
    obtain ⟨l, cs', ep', h1, h2⟩ := id ht
    rw [ep] at ep'
    injection ep' with ep'
    injection ep' with ex ecs
    subst ex
    subst ecs
    subst ep
    have hci : i < cs.length := (List.getElem?_eq_some_iff.mp hc).1
    have hm3 : (cs.length : Int) = 0 ∨ (cs.length : Int) = 1 ∨ (cs.length : Int) = 2 := g.m3 _ h1
    obtain ⟨r, db, ih, rr⟩ := put_spec g is (m := n) (D := D) (vh := vh) (by omega) (by omega) (by omega) (h2 c (List.mem_of_getElem? hc)) s ro
    have hi : idxP (.tup (.str l :: cs)) (.int ((i : Int) + 1)) vh = some (c, vh) := idx_tup (k := i + 1) (by simpa using hc)
    have c1 : cutP (.str l :: cs) none (some ((i : Int) + 1)) = .str l :: cs.take i := by have := cut_take (.str l :: cs) (i + 1); simpa using this
    have c2 : cutP (.str l :: cs) (some ((i : Int) + 1 + 1)) none = cs.drop (i + 1) := by have := cut_drop (.str l :: cs) (i + 1 + 1); simpa using this
    have hsz := size_1000
    have e : Wp (callF T (n + 1) f__law_put [.tup (.str l :: cs), pathV (i :: is), o] vh) (fun q v => q = .tup (.str l :: (cs.take i ++ r :: cs.drop (i + 1))) ∧ v = vh) X0 := by
      refine wp_call (fn := df__law_put) rfl rfl ?_
      show Wp (evSs T (callF T n) b__law_put_0 [some (.tup (.str l :: cs)), some (pathV (i :: is)), some o, none] vh) _ _
      have z1 : cs.length ≤ 2 := by omega
      have e : evSs T (callF T n) b__law_put_0 [some (.tup (.str l :: cs)), some (pathV (i :: is)), some o, none] vh = .ok (.rt (.tup (.str l :: (cs.take i ++ r :: cs.drop (i + 1))))) vh := by
        have q1 : slP (.tup (.str l :: cs)) none (some ((i : Int) + 1)) vh = some (.tup (.str l :: cs.take i), vh) := by simp [slP, c1]
        have q2 : slP (.tup (.str l :: cs)) (some ((i : Int) + 1 + 1)) none vh = some (.tup (cs.drop (i + 1)), vh) := by simp [slP, c2]
        have k1 : (cs.take i).length ≤ 2 := by rw [List.length_take]; omega
        have k2 : (cs.drop (i + 1)).length ≤ 2 := by rw [List.length_drop]; omega
        have w1 : min i cs.length + 1 + 1 ≤ sizeLine := by omega
        have w2 : min i cs.length + 1 + 1 + (cs.length - (i + 1)) ≤ sizeLine := by omega
        simp [b__law_put_0, s__law_put_0, b__law_put_2, s__law_put_2, b__law_put_3, s__law_put_3, evSs, evS, evE, evEs, newT, path_eq, idx_path, binop, addP, hi, isAbs, partI, sl_path, ih, q1, q2, setTg, setEnv, show 1 ≤ sizeLine by omega, w1, w2]
      exact Wp.eq e ⟨rfl, rfl⟩
    obtain ⟨q, v, e1, rfl, rfl⟩ := e.ex
    have hcs : ∀ c ∈ cs, ∃ y, Rep S v D c y := fun c hc => by
      obtain ⟨y, hy, _⟩ := TrP.rep g (S := S) (vh := v) (h2 c hc)
      exact ⟨y, hy.mono (by omega)⟩
    obtain ⟨ys1, hys1⟩ := All2.ex (xs := cs.take i) fun c hc => hcs c (List.mem_of_mem_take hc)
    obtain ⟨ys2, hys2⟩ := All2.ex (xs := cs.drop (i + 1)) fun c hc => hcs c (List.mem_of_mem_drop hc)
    refine ⟨_, .seq (.str l :: (ys1 ++ db :: ys2)), e1, _, .inl rfl, ?_, .cons ?_ (hys1.app (.cons rr hys2))⟩
    · simp
      omega
    · obtain ⟨D', rfl⟩ : ∃ D', D = D' + 1 := ⟨D - 1, by omega⟩
      exact rep_str (g.ok _ h1)
theorem item_enumv {vh : VH} {k : Nat} {xs : List PV} : itemAt vh (.enum (.vals xs)) k = some ((List.range xs.length).zip xs |>.map fun q => PV.tup [.int (q.1 : Nat), q.2])[k]? := by
  simp only [itemAt]
  by_cases hk : k < xs.length
  · rw [List.getElem?_eq_getElem hk]
    simp [hk]
  · rw [List.getElem?_eq_none (by omega), List.getElem?_eq_none (by simp; omega)]
def consP (k : Nat) : PV → Option PV
  | .tup xs => some (.tup (.int k :: xs))
  | _ => none
theorem places_spec {R : List (Str × Int)} (g : GoodR R) : ∀ (d : Nat) {n : Nat} {vh : VH} {p : PV}, d ≤ 16 → TrP (AllR R) d p →
    Wp (callF T (n + d + 1) f__law_places [p] vh) (fun q v => ∃ r xs, q = .ref r ∧ vh.length ≤ r ∧ v[r]? = some (.lst xs) ∧ xs ≠ [] ∧ xs.length + 1 ≤ 2 ^ d ∧ (∀ x ∈ xs, ∃ is s, x = pathV is ∧ Sub is p s ∧ is.length ≤ d) ∧ Kp [] vh v) X0
  | 0, _, _, _, _, h => h.elim
  | d + 1, n, vh, p, hd, ht => by
    have hsz : 2 ^ 20 ≤ sizeLine := by decide
    obtain ⟨l, cs, rfl, h1, h2⟩ := ht
    have hm3 : (cs.length : Int) = 0 ∨ (cs.length : Int) = 1 ∨ (cs.length : Int) = 2 := g.m3 _ h1
    have hpow : 2 ^ (d + 1) ≤ 2 ^ 16 := Nat.pow_le_pow_right (by omega) hd
    have hpow1 : 2 ^ (d + 1) = 2 * 2 ^ d := by rw [Nat.pow_succ]; omega
    have hpow0 : 1 ≤ 2 ^ d := Nat.one_le_two_pow
    refine wp_call (n := n + d + 1) (fn := df__law_places) rfl rfl ?_
    show Wp (evSs T (callF T (n + d + 1)) b__law_places_0 [some (.tup (.str l :: cs)), none, none, none, none] vh) _ _
    have e0 : evI T (callF T (n + d + 1)) (.enum (.sl (.var 0) (.con (.int 1)) .absent)) [some (.tup (.str l :: cs)), some (.ref vh.length), none, none, none] (vh ++ [.lst [pathV []]]) = .ok (.enum (.vals cs)) (vh ++ [.lst [pathV []]]) := by
      simp [evI, evE, isAbs, partI, slP, cut_tail]
    have s0 : evSs T (callF T (n + d + 1)) b__law_places_0 [some (.tup (.str l :: cs)), none, none, none, none] vh = evSs T (callF T (n + d + 1)) b__law_places_1 [some (.tup (.str l :: cs)), some (.ref vh.length), none, none, none] (vh ++ [.lst [pathV []]]) := by
      simp [b__law_places_0, s__law_places_0, evSs, evS, evE, evEs, newT, newL, alloc, show 1 ≤ sizeLine by omega, setTg, setEnv, pathV]
    rw [s0]
    simp only [b__law_places_1, s__law_places_1, evSs, evS, e0, bindS_ok, Src.len]
    rw [wp_bind]
    refine wp_for (xs := ((List.range cs.length).zip cs).map fun q => PV.tup [.int (q.1 : Nat), q.2]) (fun k env v => ∃ (x2 x3 : Option PV) (xs : List PV), env = [some (.tup (.str l :: cs)), some (.ref vh.length), x2, x3, none] ∧ v[vh.length]? = some (.lst xs) ∧ xs ≠ [] ∧ xs.length + k ≤ 1 + k * 2 ^ d ∧ (∀ x ∈ xs, ∃ is s, x = pathV is ∧ Sub is (.tup (.str l :: cs)) s ∧ is.length ≤ d + 1) ∧ Kp [] vh v)
      (fun k env v _ => item_enumv) (fun k env v p ⟨x2, x3, xs, ee, hF, hne, hlen, hx, hK⟩ hp => ?_) (fun env v ⟨x2, x3, xs, ee, hF, hne, hlen, hx, hK⟩ => ?_) _ 0 _ _ (by simp)
      ⟨none, none, [pathV []], rfl, at_new _ _, by simp, by simp, fun x hx => ⟨[], _, by simpa using hx, rfl, by simp⟩, Kp.app _⟩
    · subst ee
      have hk : k < cs.length := by
        have := (List.getElem?_eq_some_iff.mp hp).1
        simpa using this
      have hpe : p = .tup [.int k, cs[k]] := by
        simp [hk] at hp
        exact hp.symm
      subst hpe
      refine ⟨_, rfl, ?_⟩
      show Wp (evSs T (callF T (n + d + 1)) b__law_places_2 [some (.tup (.str l :: cs)), some (.ref vh.length), some (.int k), some cs[k], none] v) _ _
      obtain ⟨q, v1, e1, r, ys, rfl, hr, hr1, hyn, hyl, hy, hK1⟩ := (places_spec g d (n := n) (vh := v) (by omega) (h2 cs[k] (List.getElem_mem _))).ex
      have hF1 := hK1.get hF (by simp)
      have hc : Wp (evE T (callF T (n + d + 1)) c__law_places_0 [some (.tup (.str l :: cs)), some (.ref vh.length), some (.int k), some cs[k], none] v) (fun q w => q = .ref v1.length ∧ w[v1.length]? = some (.lst (ys.filterMap (consP k))) ∧ Kp [] v1 w) X0 := by
        unfold c__law_places_0 evE
        have e2 : evI T (callF T (n + d + 1)) (.val (.call f__law_places (.cons (.var 3) .nil))) [some (.tup (.str l :: cs)), some (.ref vh.length), some (.int k), some cs[k], none] v = .ok (.ls r) v1 := by
          simp [evI, evE, evEs, e1, src_lst hr1]
        rw [e2]
        simp only [Res.bind_ok, len_ls hr1]
        refine lc_pure (xs := ys) (consP k) (fun w hK k => item_ls (hK.get hr1 (by simp))) (fun y hym w hK => ?_) (by omega)
        obtain ⟨is, s, rfl, _, hil⟩ := hy y hym
        have : 1 + is.length ≤ sizeLine := by omega
        simp [setTg, setEnv, wipeE, evC, x__law_places_0, evE, evEs, newT, show 1 ≤ sizeLine by omega, binop, addP, pathV, consP, this, Kp.refl]
      obtain ⟨q2, v2, e2, rfl, h4, hK2⟩ := hc.ex
      have hF2 := hK2.get hF1 (by simp)
      have hfl := List.length_filterMap_le (consP k) ys
      have hkk : k * 2 ^ d ≤ 2 * 2 ^ d := Nat.mul_le_mul_right _ (by omega)
      have hF0 := lt_at hF1
      have e3 : evSs T (callF T (n + d + 1)) b__law_places_2 [some (.tup (.str l :: cs)), some (.ref vh.length), some (.int k), some cs[k], none] v = .ok (.nx [some (.tup (.str l :: cs)), some (.ref vh.length), some (.int k), some cs[k], none]) (v2.set vh.length (.lst (xs ++ ys.filterMap (consP k)))) := by
        simp [b__law_places_2, s__law_places_2, evSs, evS, evE, evEs, isLst_of hF, e2, extend_lst hF2 h4 (by omega) (by omega)]
      refine Wp.eq e3 ⟨_, _, xs ++ ys.filterMap (consP k), rfl, at_set hF2, by simp [hne], ?_, ?_, ?_⟩
      · rw [List.length_append, Nat.succ_mul]
        omega
      · intro x hxm
        rcases List.mem_append.mp hxm with h | h
        · exact hx x h
        · obtain ⟨y, hym, hcy⟩ := List.mem_filterMap.mp h
          obtain ⟨is, s, rfl, hs, hil⟩ := hy y hym
          have : x = pathV (k :: is) := by
            simp [consP, pathV] at hcy
            rw [← hcy]
            simp [pathV]
          exact ⟨k :: is, s, this, ⟨_, cs, cs[k], rfl, List.getElem?_eq_getElem hk, hs⟩, by simp; omega⟩
      · exact (hK.trans (hK1.trans hK2)).set_new (Nat.le_refl _)
    · subst ee
      have e3 : evSs T (callF T (n + d + 1)) b__law_places_3 [some (.tup (.str l :: cs)), some (.ref vh.length), x2, x3, none] v = .ok (.rt (.ref vh.length)) v := by
        simp [b__law_places_3, s__law_places_3, evSs, evS, evE]
      refine Wp.eq e3 ⟨vh.length, xs, rfl, Nat.le_refl _, hF, hne, ?_, hx, hK⟩
      simp at hlen
      have hkk : cs.length * 2 ^ d ≤ 2 * 2 ^ d := Nat.mul_le_mul_right _ (by omega)
      have : cs.length = 0 ∨ cs.length = 1 ∨ cs.length = 2 := by omega
      rcases this with h | h | h <;> rw [h] at hlen <;> omega
end Mini
end T_S16

section T_S17
set_option Elab.async false
set_option linter.all false
set_option autoImplicit false
set_option maxRecDepth 10000
/-! specs: same, fresh, spoilt -/
namespace Mini
open PySem
theorem same_bl {n : Nat} {vh : VH} {c : Bool} : callF T (n + 1) f__law_same [.bl c, .bl c] vh = .ok (.bl true) vh := by
  have e : Wp (callF T (n + 1) f__law_same [.bl c, .bl c] vh) (fun q v => q = .bl true ∧ v = vh) X0 := by
    refine wp_callE (fn := df__law_same) b__law_same_0 [some (.bl c), some (.bl c), none, none] (by rfl) (by rfl) (by rfl) (by rfl) ?_
    have h : ∀ b : Bool, cmpop .Eq (.bl b) (.bl b) vh = some true := fun b => by cases b <;> rfl
    have e : evSs T (callF T n) b__law_same_0 [some (.bl c), some (.bl c), none, none] vh = .ok (.rt (.bl true)) vh := by
      simp [b__law_same_0, s__law_same_0, b__law_same_4, s__law_same_4, b__law_same_5, s__law_same_5, evSs, evS, evE, isIn, typ, h]
    exact Wp.eq e ⟨rfl, rfl⟩
  obtain ⟨q, v, e1, rfl, rfl⟩ := e.ex
  exact e1
theorem fresh_spec {n : Nat} {ns : List Int} (h : ns.length ≤ 63) :
    Wp (callF T (n + 1) f__law_fresh [.fl (ns.map PV.int)] []) (fun p v => ∃ a b, p = .ref a ∧ St a b 0 v) X0 := by
  have hsz := size_1000
  refine wp_callE (fn := df__law_fresh) b__law_fresh_0 [some (.fl (ns.map PV.int))] (by rfl) (by rfl) (by rfl) (by rfl) ?_
  have hc : cutP (ns.map PV.int) none (some (40 : Int)) = (ns.take 40).map PV.int := by
    rw [show (40 : Int) = ((40 : Nat) : Int) from rfl, cut_take, List.map_take]
  have hl : (ns.take 40).length ≤ 40 := by rw [List.length_take]; omega
  have hs : slP (.fl (ns.map PV.int)) none (some 40) [] = some (.ref 0, [.lst ((ns.take 40).map PV.int)]) := by
    unfold slP
    dsimp only
    rw [hc]
    unfold newL
    rw [if_pos (by rw [List.length_map]; omega)]
    rfl
  have e : evSs T (callF T n) b__law_fresh_0 [some (.fl (ns.map PV.int))] [] = .ok (.rt (.ref 2)) [.lst ((ns.take 40).map PV.int), .lst ((ns.take 40).map PV.int), .lst [.ref 1, .int 0, .int 0, .int 0, .int 0]] := by
    have w : min 40 ns.length ≤ sizeLine := by omega
    simp [b__law_fresh_0, s__law_fresh_0, evSs, evS, evE, evEs, isAbs, partI, hs, blt, listP, newL, alloc, w, show 5 ≤ sizeLine by omega]
  refine Wp.eq e ⟨2, 1, rfl, ns.take 40, 0, 0, 0, 0, rfl, rfl, by decide, by omega, by decide, by decide, by decide, by decide, by decide⟩
theorem cut_last (xs : List PV) : cutP xs none (some (-1)) = xs.dropLast := by
  unfold cutP
  rw [HT.sIx_none, show HT.sIx xs.length xs.length (some (-1)) = xs.length - 1 by
    show (if (-1 : Int) < 0 then ((-1 : Int) + (xs.length : Int)).toNat else min (-1 : Int).toNat xs.length) = _
    rw [if_pos (by omega)]
    omega]
  simp [List.dropLast_eq_take]
theorem spoilt_spec {R : List (Str × Int)} (g : GoodR R) {n a b r k d : Nat} {vh : VH} {p : PV} (hr : vh[r]? = some (.lst (R.map rowV))) (hra : r ≠ a) (hs : St a b k vh) (hk : k + 20 < 2 ^ 40) (ht : TrP (AllR R) d p) :
    Wp (callF T (n + 6) f__law_spoilt [.ref a, .ref r, p] vh) (fun q v => (∃ da, Rep [a] v (d + 3) q da) ∧ St a b (k + 10) v ∧ Kp [a] vh v) X0 := by
  have hsz := size_1000
  have hlen := g.len
  obtain ⟨la, lb, lab⟩ := hs.lt
  obtain ⟨d, rfl⟩ : ∃ d', d = d' + 1 := by
    cases d with
    | zero => exact ht.elim
    | succ d => exact ⟨d, rfl⟩
  obtain ⟨l, cs, rfl, h1, h2⟩ := id ht
  have hok : PyData.strOk l = true := g.ok _ h1
  have hm3 : (cs.length : Int) = 0 ∨ (cs.length : Int) = 1 ∨ (cs.length : Int) = 2 := g.m3 _ h1
  have hcs : ∀ v, ∃ ys, All2 (Rep [a] v (d + 3)) cs ys := fun v => All2.ex fun c hc => by
    obtain ⟨y, hy, _⟩ := TrP.rep g (S := [a]) (vh := v) (h2 c hc)
    exact ⟨y, hy.mono (by omega)⟩
  refine wp_callE (n := n + 5) (fn := df__law_spoilt) b__law_spoilt_0 [some (.ref a), some (.ref r), some (.tup (.str l :: cs)), none] (by rfl) (by rfl) (by rfl) (by rfl) ?_
  obtain ⟨pw, v1, e1, ⟨w, rfl, hw0, hw1⟩, hs1, hK1⟩ := (take_spec (n := n + 4) (many := 6) (by omega) (by omega) hs (by omega)).ex
  have hr1 := hK1.get hr (by simpa using hra)
  have s0 : evSs T (callF T (n + 5)) b__law_spoilt_0 [some (.ref a), some (.ref r), some (.tup (.str l :: cs)), none] vh = evSs T (callF T (n + 5)) b__law_spoilt_1 [some (.ref a), some (.ref r), some (.tup (.str l :: cs)), some (.int w)] v1 := by
    simp [b__law_spoilt_0, s__law_spoilt_0, evSs, evS, evE, evEs, e1, setTg, setEnv]
  rw [s0]
  have hi0 : ∀ v, idxP (.tup (.str l :: cs)) (.int 0) v = some (.str l, v) := fun v => by simp [idxP]
  have hw : w = 0 ∨ w = 1 ∨ w = 2 ∨ w = 3 ∨ 4 ≤ w := by omega
  rcases hw with rfl | rfl | rfl | rfl | hw
  · have e2 : evSs T (callF T (n + 5)) b__law_spoilt_1 [some (.ref a), some (.ref r), some (.tup (.str l :: cs)), some (.int 0)] v1 = .ok (.rt (.tup (.str l :: (cs ++ [.tup [.str l]])))) v1 := by
      simp [b__law_spoilt_1, s__law_spoilt_1, b__law_spoilt_2, s__law_spoilt_2, evSs, evS, evE, evEs, cmpop, hi0, newT, show 1 ≤ sizeLine by omega, binop, addP, show cs.length + 1 + 1 ≤ sizeLine by omega]
    obtain ⟨ys, hys⟩ := hcs v1
    refine Wp.eq e2 ⟨⟨.seq (.str l :: (ys ++ [.seq [.str l]])), _, .inl rfl, ?_, .cons (rep_str hok) (hys.snoc (rep_tup (by simp) (.cons (rep_str hok) .nil)))⟩, hs1.mono (by omega), hK1⟩
    simp
    omega
  · have hsl : slP (.tup (.str l :: cs)) none (some (-1)) v1 = some (.tup (.str l :: cs).dropLast, v1) := by simp only [slP, cut_last]
    have e2 : evSs T (callF T (n + 5)) b__law_spoilt_1 [some (.ref a), some (.ref r), some (.tup (.str l :: cs)), some (.int 1)] v1 = .ok (.rt (.tup (.str l :: cs).dropLast)) v1 := by
      simp [b__law_spoilt_1, s__law_spoilt_1, b__law_spoilt_3, s__law_spoilt_3, b__law_spoilt_4, s__law_spoilt_4, evSs, evS, evE, evEs, cmpop, isAbs, partI, negP, hsl]
    obtain ⟨ys, hys⟩ := All2.ex (R := Rep [a] v1 (d + 3)) (xs := (.str l :: cs).dropLast) fun x hx => by
      rcases List.mem_cons.mp (List.dropLast_subset _ hx) with rfl | hx
      · exact ⟨_, rep_str hok⟩
      · obtain ⟨y, hy, _⟩ := TrP.rep g (S := [a]) (vh := v1) (h2 x hx)
        exact ⟨y, hy.mono (by omega)⟩
    refine Wp.eq e2 ⟨⟨.seq ys, _, .inl rfl, ?_, hys⟩, hs1.mono (by omega), hK1⟩
    simp
    omega
  · -- another label
    let base : List PV := [.str "qq", .str "", .non, .int 5, .tup [.str "a"], .bl true]
    have hB := at_new v1 (.lst base)
    obtain ⟨p3, v3, e3, D, rfl, hD1, hD, hK3⟩ := (labels_spec (n := n + 4) (at_app (u := .lst base) hr1) g).ex
    have hB3 := hK3.get hB (by simp)
    have hll : (labV R).length ≤ 15 := by simp [labV, AllR]; omega
    have hadd := add_lst hB3 hD (by simp [base]; omega)
    have hA := at_new v3 (.lst (base ++ labV R))
    have hs3 : St a b (k + 1) (v3 ++ [.lst (base ++ labV R)]) := ((hs1.app _).kp hK3 (by simp) (by simp)).app _
    have hv3 : v1.length + 1 ≤ v3.length := by have := hK3.len; simpa using this
    have hv1 := hK1.len
    obtain ⟨x, v4, e4, hx, hs4, hK4⟩ := (one_spec (n := n + 3) hA (by simp [base]) (by simp [base]; omega) (by omega) hs3 (by omega)).ex
    have hsl : ∀ v, slP (.tup (.str l :: cs)) (some 1) none v = some (.tup cs, v) := fun v => by simp [slP, cut_tail]
    have hnb : newL [.str "qq", .str "", .non, .int 5, .tup [.str "a"], .bl true] v1 = some (.ref v1.length, v1 ++ [.lst base]) := by
      unfold newL
      rw [if_pos (by simp; omega)]
      rfl
    have e2 : evSs T (callF T (n + 5)) b__law_spoilt_1 [some (.ref a), some (.ref r), some (.tup (.str l :: cs)), some (.int 2)] v1 = .ok (.rt (.tup (x :: cs))) v4 := by
      have w2 : 1 + cs.length ≤ sizeLine := by omega
      have t1 : addP (.tup [x]) (.tup cs) v4 = some (.tup (x :: cs), v4) := by simp [addP, w2]
      simp [b__law_spoilt_1, s__law_spoilt_1, b__law_spoilt_3, s__law_spoilt_3, b__law_spoilt_5, s__law_spoilt_5, b__law_spoilt_6, s__law_spoilt_6, evSs, evS, evE, evEs, cmpop, newT, show 1 ≤ sizeLine by omega, hnb, e3, binop, hadd, e4, isAbs, partI, hsl, t1]
    obtain ⟨ys, hys⟩ := hcs v4
    have hxr : ∃ y, Rep [a] v4 (d + 3) x y := by
      rcases List.mem_append.mp hx with h | h
      · simp only [base, List.mem_cons, List.not_mem_nil, or_false] at h
        rcases h with rfl | rfl | rfl | rfl | rfl | rfl
        · exact ⟨_, rep_str (by decide +kernel)⟩
        · exact ⟨_, rep_str (by decide +kernel)⟩
        · exact ⟨_, rep_non⟩
        · exact ⟨_, rep_int⟩
        · exact ⟨_, rep_tup (by simp) (.cons (rep_str (by decide +kernel)) .nil)⟩
        · exact ⟨_, rep_bl⟩
      · obtain ⟨q, hq, rfl⟩ := List.mem_map.mp h
        exact ⟨_, rep_str (g.ok q hq)⟩
    obtain ⟨y, hy⟩ := hxr
    refine Wp.eq e2 ⟨⟨_, rep_tup (by simp; omega) (.cons hy hys)⟩, hs4.mono (by omega), hK1.trans (((Kp.app _).trans (hK3.mono (by simp))).trans ((Kp.app _).trans hK4))⟩
  · -- another thing
    have z1 : 1 ≤ sizeLine := by omega
    have z8 : 8 ≤ sizeLine := by omega
    let v2 : VH := v1 ++ [.dct []] ++ [.lst []] ++ [.lst []] ++ [.lst [.ref (v1.length + 2)]]
    let xs : List PV := [.non, .int 5, .str "a", .str l, .ref v1.length, .bl true, .ref (v1.length + 1), .ref (v1.length + 3)]
    have hv1 := hK1.len
    have hA := at_new v2 (.lst xs)
    have hl2 : v2.length = v1.length + 4 := by simp [v2]
    have hKv : Kp [a] v1 (v2 ++ [.lst xs]) := ((((Kp.app _).trans (Kp.app _)).trans (Kp.app _)).trans (Kp.app _)).trans (Kp.app _)
    have hs2 : St a b (k + 1) (v2 ++ [.lst xs]) := ((((hs1.app _).app _).app _).app _).app _
    obtain ⟨x, v4, e4, hx, hs4, hK4⟩ := (one_spec (n := n + 3) hA (by simp [xs]) (by simp [xs]) (by omega) hs2 (by omega)).ex
    have g0 : (v2 ++ [.lst xs])[v1.length]? = some (.dct []) := by simp [v2]
    have g1 : (v2 ++ [.lst xs])[v1.length + 1]? = some (.lst []) := by simp [v2]
    have g2 : (v2 ++ [.lst xs])[v1.length + 2]? = some (.lst []) := by simp [v2]
    have g3 : (v2 ++ [.lst xs])[v1.length + 3]? = some (.lst [.ref (v1.length + 2)]) := by simp [v2]
    have e2 : evSs T (callF T (n + 5)) b__law_spoilt_1 [some (.ref a), some (.ref r), some (.tup (.str l :: cs)), some (.int 3)] v1 = .ok (.rt x) v4 := by
      obtain ⟨LE, hLE⟩ : ∃ LE : Ex, LE = (.lst (.cons (.con (.non)) (.cons (.con (.int 5)) (.cons (.con (.str "a")) (.cons (.idx (.var 2) (.con (.int 0))) (.cons (.dct0) (.cons (.con (.bl true)) (.cons (.lst .nil) (.cons (.lst (.cons (.lst .nil) .nil)) .nil))))))))) := ⟨_, rfl⟩
      have hs8 : s__law_spoilt_8 = .ret (.call f__law_one (.cons (.var 0) (.cons LE .nil))) := by rw [hLE]; rfl
      have q1 : evE T (callF T (n + 5)) LE [some (.ref a), some (.ref r), some (.tup (.str l :: cs)), some (.int 3)] v1 = .ok (.ref v2.length) (v2 ++ [.lst xs]) := by
        rw [hLE]
        simp [evE, evEs, newL, alloc, hi0, z1, z8, v2, xs]
      clear hLE
      simp [b__law_spoilt_1, s__law_spoilt_1, b__law_spoilt_3, s__law_spoilt_3, b__law_spoilt_5, s__law_spoilt_5, b__law_spoilt_7, s__law_spoilt_7, b__law_spoilt_8, hs8, evSs, evS, cmpop, evE, evEs, q1, e4]
    have hxr : ∃ y, Rep [a] v4 (d + 4) x y := by
      simp only [xs, List.mem_cons, List.not_mem_nil, or_false] at hx
      have na : ∀ j, v1.length ≤ j → j ∉ [a] := fun j hj => by simp; omega
      rcases hx with rfl | rfl | rfl | rfl | rfl | rfl | rfl | rfl
      · exact ⟨_, rep_non⟩
      · exact ⟨_, rep_int⟩
      · exact ⟨_, rep_str (by decide +kernel)⟩
      · exact ⟨_, rep_str hok⟩
      · exact ⟨_, rep_dct (na _ (by omega)) (hK4.get g0 (na _ (by omega)))⟩
      · exact ⟨_, rep_bl⟩
      · exact ⟨_, rep_nil (na _ (by omega)) (hK4.get g1 (na _ (by omega)))⟩
      · exact ⟨_, rep_lst (na _ (by omega)) (hK4.get g3 (na _ (by omega))) (by simp) (.cons (rep_nil (na _ (by omega)) (hK4.get g2 (na _ (by omega)))) .nil)⟩
    exact Wp.eq e2 ⟨hxr, hs4.mono (by omega), hK1.trans (hKv.trans hK4)⟩
  · obtain ⟨p4, v4, e4, ht4, hs4, hK4⟩ := (tree_spec g hra 3 (nodes := 3) (n := n) (by omega) (by omega) hr1 hs1 (by omega) (by omega)).ex
    have c0 : cmpop .Eq (.int w) (.int 0) v1 = some false := by simp [cmpop]; omega
    have c1 : cmpop .Eq (.int w) (.int 1) v1 = some false := by simp [cmpop]; omega
    have c2 : cmpop .Eq (.int w) (.int 2) v1 = some false := by simp [cmpop]; omega
    have c3 : cmpop .Eq (.int w) (.int 3) v1 = some false := by simp [cmpop]; omega
    have e4' : callF T (n + 5) f__law_tree [.ref a, .ref r, .int 3] v1 = .ok p4 v4 := e4
    have e2 : evSs T (callF T (n + 5)) b__law_spoilt_1 [some (.ref a), some (.ref r), some (.tup (.str l :: cs)), some (.int w)] v1 = .ok (.rt p4) v4 := by
      simp [b__law_spoilt_1, s__law_spoilt_1, b__law_spoilt_3, s__law_spoilt_3, b__law_spoilt_5, s__law_spoilt_5, b__law_spoilt_7, s__law_spoilt_7, b__law_spoilt_9, s__law_spoilt_9, evSs, evS, evE, evEs, c0, c1, c2, c3, e4']
    obtain ⟨y, hy, _⟩ := TrP.rep g (S := [a]) (vh := v4) ht4
    exact Wp.eq e2 ⟨⟨y, hy.mono (by omega)⟩, hs4.mono (by omega), hK1.trans hK4⟩
end Mini
end T_S17

section T_S18
set_option Elab.async false
set_option linter.all false
set_option autoImplicit false
set_option maxRecDepth 10000
/-! the law k03 -/
namespace Mini
open PySem
theorem St.isl {a b k : Nat} {vh : VH} (h : St a b k vh) : ∀ i ∈ [a], ∀ c, vh[i]? ≠ some (.ins 4 c) ∧ ∀ m, vh[i]? ≠ some (.dct m) := by
  obtain ⟨cells, i, c, acc, cnt, ha, _⟩ := h.ex
  intro i hi c
  have : i = a := by simpa using hi
  subst this
  rw [ha]
  exact ⟨by simp, by simp⟩
theorem LangV.st {o : Nat} {R : List (Str × Int)} {vh v : VH} {a b k : Nat} (h : LangV o R vh) (hs : St a b k vh) (hK : Kp [a] vh v) : LangV o R v := h.kp hK hs.isl
theorem law_tree_ok {R : List (Str × Int)} (g : GoodR R) {o : Nat} {a : Nat} {vh : VH} {p : PV} {da : Da} {D : Nat} (hD : D ≤ 39) (h1 : Rep [a] vh D p da) (hL : LangV o R vh) :
    ∃ v1, callF T 40 f_Language_is_tree [.ref o, p] vh = .ok (.bl (isT (AllR R) D da)) v1 ∧ Kp [] vh v1 := by
  obtain ⟨n, hn⟩ : ∃ n, 40 = n + D + 1 := ⟨39 - D, by omega⟩
  rw [hn]
  obtain ⟨q1, v1, e1, rfl, hK1⟩ := (lang_spec g D (n := n) h1 hL).ex
  exact ⟨v1, e1, hK1⟩
theorem law_own_ok {R : List (Str × Int)} (g : GoodR R) {r : Nat} {a : Nat} {vh : VH} {p : PV} {da : Da} {D : Nat} (hD : D ≤ 39) (h1 : Rep [a] vh D p da) (hr : vh[r]? = some (.lst (R.map rowV))) :
    ∃ v1, callF T 40 f__law_is_tree [.ref r, p] vh = .ok (.bl (isT (AllR R) D da)) v1 ∧ Kp [] vh v1 := by
  obtain ⟨n, hn⟩ : ∃ n, 40 = n + D + 1 := ⟨39 - D, by omega⟩
  rw [hn]
  obtain ⟨q1, v1, e1, rfl, hK1⟩ := (own_spec g D (n := n) h1 hr).ex
  exact ⟨v1, e1, hK1⟩
theorem LangV.res {o : Nat} {R : List (Str × Int)} {vh : VH} (h : LangV o R vh) : resM T "is_tree" 1 (.ref o) vh = some f_Language_is_tree := by
  obtain ⟨fs, dm, h1, h2, h3, h4⟩ := h.ex
  exact resM_lang h1 h3
/-- one thing that is put in -/
theorem again_spec {R : List (Str × Int)} (g : GoodR R) {sc t : PV} {o r a b k : Nat} {vh : VH} {x2 x6 x7 x8 x9 : Option PV} (hs : St a b k vh) (hk : k + 2 ^ 30 < 2 ^ 40) (hr : vh[r]? = some (.lst (R.map rowV))) (hra : r ≠ a) (hL : LangV o R vh) (ht : TrP (AllR R) 12 t) :
    Wp (evSs T (callF T 40) b_law_7 [some sc, some (.ref a), x2, some (.ref r), some (.ref o), some t, x6, x7, x8, x9] vh) (fun f v => (∃ y7 y8, f = .nx [some sc, some (.ref a), x2, some (.ref r), some (.ref o), some t, x6, y7, y8, x9]) ∧ St a b (k + 2 ^ 30) v ∧ Kp [a] vh v) X0 := by
  obtain ⟨la, lb, lab⟩ := hs.lt
  obtain ⟨p1, v1, e1, D, xs, rfl, hD, hD1, hne, hxl, hx, hK1⟩ := (places_spec g 12 (n := 27) (vh := vh) (by omega) ht).ex
  have hs1 : St a b k v1 := hs.kp hK1 (by simp) (by simp)
  obtain ⟨pl, v2, e2, hpl, hs2, hK2⟩ := (one_spec (n := 38) hD1 hne (by omega) (by omega) hs1 (by omega)).ex
  obtain ⟨is, s, rfl, hsub, hil⟩ := hx pl hpl
  obtain ⟨hts, hlt⟩ := ht.sub hsub
  have e3 := at_spec is (m := 40) (vh := v2) (by omega) hsub
  have hr2 := hK2.get (hK1.get hr (by simp)) (by simpa using hra)
  obtain ⟨ps, v3, e4, ⟨da, hda⟩, hs3, hK3⟩ := (spoilt_spec g (n := 34) hr2 hra hs2 (by omega) hts).ex
  obtain ⟨th, db, e5, hth⟩ := put_spec g (S := [a]) is (m := 40) (D := 15) (vh := v3) (by omega) (by omega) (by omega) ht hsub hda
  have hr3 := hK3.get hr2 (by simpa using hra)
  have hL3 : LangV o R v3 := ((hL.kp0 hK1).st hs1 hK2).st hs2 hK3
  have la3 := hs3.lt.1
  have hcost : lcost 15 = 357913941 := by decide
  obtain ⟨lo, v4, e6, hlo, hs4, hK4⟩ := (loose_spec 15 (n := 24) (S := [a]) (by simp) (by simp; exact la3) hth hs3 (by omega)).ex
  have hL4 := hL3.st hs3 hK4
  have hr4 := hK4.get hr3 (by simpa using hra)
  obtain ⟨v5, e7, hK5⟩ := law_tree_ok g (by omega) hlo hL4
  have hth5 : Rep [a] v5 15 th db := (hth.kp hK4).kp (hK5.mono (by simp))
  obtain ⟨v6, e8, hK6⟩ := law_own_ok g (by omega) hth5 (hK5.get hr4 (by simp))
  have e9 := same_bl (n := 39) (vh := v6) (c := isT (AllR R) 15 db)
  have hres := hL3.res
  have E : evSs T (callF T 40) b_law_7 [some sc, some (.ref a), x2, some (.ref r), some (.ref o), some t, x6, x7, x8, x9] vh = .ok (.nx [some sc, some (.ref a), x2, some (.ref r), some (.ref o), some t, x6, some (pathV is), some th, x9]) v6 := by
    simp only [Nat.reduceAdd] at e1 e2 e3 e4 e5 e6 e7 e8 e9
    simp [b_law_7, s_law_7, b_law_8, s_law_8, b_law_9, s_law_9, evSs, evS, evE, evEs, Exs.len, setTg, setEnv, e1, e2, e3, e4, e5, hres, e6, e7, e8, e9]
  refine Wp.eq E ⟨⟨_, _, rfl⟩, ?_, ?_⟩
  · exact ((hs4.kp hK5 (by simp) (by simp)).kp hK6 (by simp) (by simp)).mono (by omega)
  · exact ((hK1.mono (by simp)).trans hK2).trans (hK3.trans (hK4.trans ((hK5.trans hK6).mono (by simp))))
theorem odd_spec {R : List (Str × Int)} (g : GoodR R) {sc t p : PV} {da : Da} {o r a b k : Nat} {vh : VH} {x2 x6 x7 x8 : Option PV} (hs : St a b k vh) (hr : vh[r]? = some (.lst (R.map rowV))) (hL : LangV o R vh) (h : Rep [a] vh 15 p da) :
    Wp (evSs T (callF T 40) b_law_12 [some sc, some (.ref a), x2, some (.ref r), some (.ref o), some t, x6, x7, x8, some p] vh) (fun f v => f = .nx [some sc, some (.ref a), x2, some (.ref r), some (.ref o), some t, x6, x7, x8, some p] ∧ Kp [] vh v) X0 := by
  obtain ⟨v5, e7, hK5⟩ := law_tree_ok g (by omega) h hL
  have hth5 : Rep [a] v5 15 p da := h.kp (hK5.mono (by simp))
  obtain ⟨v6, e8, hK6⟩ := law_own_ok g (by omega) hth5 (hK5.get hr (by simp))
  have e9 := same_bl (n := 39) (vh := v6) (c := isT (AllR R) 15 da)
  have hres := hL.res
  have E : evSs T (callF T 40) b_law_12 [some sc, some (.ref a), x2, some (.ref r), some (.ref o), some t, x6, x7, x8, some p] vh = .ok (.nx [some sc, some (.ref a), x2, some (.ref r), some (.ref o), some t, x6, x7, x8, some p]) v6 := by
    simp only [Nat.reduceAdd] at e7 e8 e9
    simp [b_law_12, s_law_12, evSs, evS, evE, evEs, Exs.len, hres, e7, e8, e9]
  exact Wp.eq E ⟨rfl, hK5.trans hK6⟩
theorem law_turn {sc : PV} {a b k : Nat} {vh : VH} {x2 x3 x4 x5 x6 x7 x8 x9 : Option PV} (hs : St a b k vh) (hk : k + 2 ^ 34 < 2 ^ 40) :
    Wp (evSs T (callF T 40) b_law_2 [some sc, some (.ref a), x2, x3, x4, x5, x6, x7, x8, x9] vh) (fun f v => (∃ y2 y3 y4 y5 y6 y7 y8 y9, f = .nx [some sc, some (.ref a), y2, y3, y4, y5, y6, y7, y8, y9]) ∧ St a b (k + 2 ^ 33) v) X0 := by
  have hsz := size_1000
  obtain ⟨la, lb, lab⟩ := hs.lt
  obtain ⟨p1, v1, e1, r, R, rfl, hr0, hr, g, _, hs1, hK1⟩ := (rows_spec (n := 36) (most := 4) (by omega) (by omega) hs (by omega)).ex
  have hra : r ≠ a := by omega
  obtain ⟨p2, v2, e2, rfl, hL, hK2⟩ := (new_spec (n := 36) hr g).ex
  have hr2 := hK2.get hr (by simp)
  have hs2 : St a b (k + 60) v2 := hs1.kp hK2 (by simp) (by simp)
  obtain ⟨p3, v3, e3, ⟨d, rfl, hd0, hd1⟩, hs3, hK3⟩ := (take_spec (n := 39) (many := 12) (by omega) (by omega) hs2 (by omega)).ex
  obtain ⟨j, rfl⟩ : ∃ j : Nat, d = j := ⟨d.toNat, by omega⟩
  have hr3 := hK3.get hr2 (by simpa using hra)
  obtain ⟨t, v4, e4, ht, hs4, hK4⟩ := (tree_spec g hra 12 (nodes := 1 + j) (n := 26) (by omega) (by omega) hr3 hs3 (by omega) (by omega)).ex
  have hr4 := hK4.get hr3 (by simpa using hra)
  have e4' : callF T 40 f__law_tree [.ref a, .ref r, .int (1 + (j : Int))] v3 = .ok t v4 := by
    rw [← e4]
    congr
  have hL4 : LangV v1.length R v4 := (hL.st hs2 hK3).st hs3 hK4
  have s0 : evSs T (callF T 40) b_law_2 [some sc, some (.ref a), x2, x3, x4, x5, x6, x7, x8, x9] vh = evSs T (callF T 40) b_law_4 [some sc, some (.ref a), x2, some (.ref r), some (.ref v1.length), some t, x6, x7, x8, x9] v4 := by
    simp only [Nat.reduceAdd] at e1 e2 e3
    have e1' : callF T 40 f__law_rows [.ref a, .int 4] vh = .ok (.ref r) v1 := e1
    simp [b_law_2, s_law_2, b_law_3, s_law_3, evSs, evS, evE, evEs, e1', e2, e3, binop, addP, e4', setTg, setEnv]
  rw [s0]
  obtain ⟨dt, hdt, hdT⟩ := TrP.rep g (S := [a]) (vh := v4) ht
  have la4 := hs4.lt.1
  have hcost : lcost 13 = 22369621 := by decide
  obtain ⟨lo, v5, e5, hlo, hs5, hK5⟩ := (loose_spec 13 (n := 26) (S := [a]) (by simp) (by simp; exact la4) hdt hs4 (by omega)).ex
  have hL5 := hL4.st hs4 hK5
  obtain ⟨v6, e6, hK6⟩ := law_tree_ok g (by omega) hlo hL5
  have hL6 := hL5.kp0 hK6
  obtain ⟨v7, e7, hK7⟩ := law_tree_ok g (by omega) ((hdt.kp hK5).kp (hK6.mono (by simp))) hL6
  have hL7 := hL6.kp0 hK7
  have hr7 := hK7.get (hK6.get (hK5.get hr4 (by simpa using hra)) (by simp)) (by simp)
  have hs7 : St a b (k + 60 + 1 + 3 * (1 + j) + lcost 13) v7 := (hs5.kp hK6 (by simp) (by simp)).kp hK7 (by simp) (by simp)
  rw [hdT] at e6 e7
  have hi0 : ∀ v, ∃ l : Str, idxP t (.int 0) v = some (.str l, v) ∧ PyData.strOk l = true := fun v => by
    obtain ⟨l, cs, rfl, h1, h2⟩ := ht
    exact ⟨l, by simp [idxP], g.ok _ h1⟩
  have s1 : evSs T (callF T 40) b_law_4 [some sc, some (.ref a), x2, some (.ref r), some (.ref v1.length), some t, x6, x7, x8, x9] v4 = evSs T (callF T 40) b_law_6 [some sc, some (.ref a), x2, some (.ref r), some (.ref v1.length), some t, x6, x7, x8, x9] v7 := by
    simp only [Nat.reduceAdd] at e5
    simp [b_law_4, s_law_4, evSs, evS, evE, evEs, Exs.len, hL4.res, hL6.res, e5, e6, e7, cmpop, isP]
  rw [s1]
  -- three times
  simp only [b_law_6, s_law_6, evSs, evS]
  have ei : evI T (callF T 40) (.rng1 (.con (.int 3))) [some sc, some (.ref a), x2, some (.ref r), some (.ref v1.length), some t, x6, x7, x8, x9] v7 = .ok (.vals [.int 0, .int 1, .int 2]) v7 := by
    simp [evI, evE, rngS]
    rfl
  rw [ei]
  simp only [bindS_ok, Src.len]
  rw [wp_bind]
  refine wp_for (xs := [.int 0, .int 1, .int 2]) (fun kk env v => (∃ y6 y7 y8, env = [some sc, some (.ref a), x2, some (.ref r), some (.ref v1.length), some t, y6, y7, y8, x9]) ∧ St a b (k + 2 ^ 32 + kk * 2 ^ 30) v ∧ kk ≤ 3 ∧ Kp [a] v7 v) (fun kk env v _ => rfl) (fun kk env v p ⟨⟨y6, y7, y8, ee⟩, hS, hk3, hK⟩ hp => ?_) (fun env v ⟨⟨y6, y7, y8, ee⟩, hS, hk3, hK⟩ => ?_) _ 0 _ _ (by simp)
    ⟨⟨_, _, _, rfl⟩, hs7.mono (by omega), by omega, Kp.refl _ _⟩
  · subst ee
    have hkk : kk < 3 := by
      have := (List.getElem?_eq_some_iff.mp hp).1
      simpa using this
    refine ⟨_, rfl, ?_⟩
    show Wp (evSs T (callF T 40) b_law_7 [some sc, some (.ref a), x2, some (.ref r), some (.ref v1.length), some t, some p, y7, y8, x9] v) _ _
    refine (again_spec g hS (by omega) (hK.get hr7 (by simpa using hra)) hra (hL7.st hs7 hK) ht).thn fun f v' ⟨⟨z7, z8, ef⟩, hS', hK'⟩ => ?_
    subst ef
    exact ⟨⟨_, _, _, rfl⟩, hS'.mono (by omega), by omega, hK.trans hK'⟩
  · subst ee
    have hrv := hK.get hr7 (by simpa using hra)
    have hLv := hL7.st hs7 hK
    simp at hS
    -- odd things
    obtain ⟨l, hl0, hlok⟩ := hi0 v
    obtain ⟨LE, hLE⟩ : ∃ LE : Ex, LE = (.lst (.cons (.con (.non)) (.cons (.con (.int 5)) (.cons (.con (.str "one")) (.cons (.idx (.var 5) (.con (.int 0))) (.cons (.tup .nil) (.cons (.dct0) (.cons (.tup (.cons (.var 5) .nil)) (.cons (.con (.bl true)) .nil))))))))) := ⟨_, rfl⟩
    have hs11 : s_law_11 = .for (.nm 9) (.val LE) b_law_12 := by rw [hLE]; rfl
    have q1 : evE T (callF T 40) LE [some sc, some (.ref a), x2, some (.ref r), some (.ref v1.length), some t, y6, y7, y8, x9] v = .ok (.ref (v.length + 1)) (v ++ [.dct []] ++ [.lst [.non, .int 5, .str "one", .str l, .tup [], .ref v.length, .tup [t], .bl true]]) := by
      have hl0' : ∀ w, idxP t (.int 0) w = some (.str l, w) := fun w => by
        obtain ⟨l', cs, rfl, _⟩ := ht
        simp [idxP] at hl0 ⊢
        exact hl0
      rw [hLE]
      simp [evE, evEs, newT, newL, alloc, hl0', show 1 ≤ sizeLine by omega, show 8 ≤ sizeLine by omega]
    clear hLE
    have hD := at_new (v ++ [.dct []]) (.lst [.non, .int 5, .str "one", .str l, .tup [], .ref v.length, .tup [t], .bl true])
    have hdc : (v ++ [.dct []])[v.length]? = some (VO.dct []) := at_new _ _
    simp only [List.length_append, List.length_singleton] at hD
    simp only [b_law_11, hs11, evSs, evS, evI, q1, Res.bind_ok, src_lst hD, bindS_ok, len_ls hD]
    rw [wp_bind]
    refine wp_for (xs := [.non, .int 5, .str "one", .str l, .tup [], .ref v.length, .tup [t], .bl true]) (fun kk env v' => (∃ y9, env = [some sc, some (.ref a), x2, some (.ref r), some (.ref v1.length), some t, y6, y7, y8, y9]) ∧ Kp [] (v ++ [.dct []] ++ [.lst [.non, .int 5, .str "one", .str l, .tup [], .ref v.length, .tup [t], .bl true]]) v') (fun kk env v' ⟨_, hK'⟩ => item_ls (hK'.get hD (by simp))) (fun kk env v' p ⟨⟨y9, ee⟩, hK'⟩ hp => ?_) (fun env v' ⟨⟨y9, ee⟩, hK'⟩ => ?_) _ 0 _ _ (by simp)
      ⟨⟨_, rfl⟩, Kp.refl _ _⟩
    · subst ee
      refine ⟨_, rfl, ?_⟩
      show Wp (evSs T (callF T 40) b_law_12 [some sc, some (.ref a), x2, some (.ref r), some (.ref v1.length), some t, y6, y7, y8, some p] v') _ _
      have hKv : Kp [] v v' := ((Kp.app _).trans (Kp.app _)).trans hK'
      have hSv : St a b (k + 2 ^ 32 + 3 * 2 ^ 30) v' := hS.kp hKv (by simp) (by simp)
      have hmem := List.mem_of_getElem? hp
      have hlv := hS.lt.1
      have hrep : ∃ da, Rep [a] v' 15 p da := by
        simp only [List.mem_cons, List.not_mem_nil, or_false] at hmem
        rcases hmem with rfl | rfl | rfl | rfl | rfl | rfl | rfl | rfl
        · exact ⟨_, rep_non⟩
        · exact ⟨_, rep_int⟩
        · exact ⟨_, rep_str (by decide +kernel)⟩
        · exact ⟨_, rep_str hlok⟩
        · exact ⟨_, rep_tup (by simp) .nil⟩
        · exact ⟨_, rep_dct (by simp; omega) (hK'.get (at_app hdc) (by simp))⟩
        · obtain ⟨y, hy, _⟩ := TrP.rep g (S := [a]) (vh := v') ht
          exact ⟨_, rep_tup (by simp) (.cons (hy.mono (by omega)) .nil)⟩
        · exact ⟨_, rep_bl⟩
      obtain ⟨da, hda⟩ := hrep
      refine (odd_spec g hSv (hKv.get hrv (by simp)) (hLv.kp0 hKv) hda).thn fun f v'' ⟨ef, hK''⟩ => ?_
      subst ef
      exact ⟨⟨_, rfl⟩, hK'.trans hK''⟩
    · subst ee
      have hKv : Kp [] v v' := ((Kp.app _).trans (Kp.app _)).trans hK'
      exact ⟨⟨_, _, _, _, _, _, _, _, rfl⟩, (hS.kp hKv (by simp) (by simp)).mono (by omega)⟩
theorem law_true (ns : List Int) (h : ns.length ≤ 63) : ∃ vh, callF T 41 f_law [.fl (ns.map PV.int)] [] = .ok (.bl true) vh := by
  have e : Wp (callF T (40 + 1) f_law [.fl (ns.map PV.int)] []) (fun q v => q = .bl true) X0 := by
    refine wp_callE (n := 40) (fn := df_law) b_law_0 [some (.fl (ns.map PV.int)), none, none, none, none, none, none, none, none, none] (by rfl) (by rfl) (by rfl) (by rfl) ?_
    obtain ⟨p1, v1, e1, a, b, rfl, hs⟩ := (fresh_spec (n := 39) h).ex
    have ei : evI T (callF T 40) (.rng1 (.con (.int 8))) [some (.fl (ns.map PV.int)), some (.ref a), none, none, none, none, none, none, none, none] v1 = .ok (.vals [.int 0, .int 1, .int 2, .int 3, .int 4, .int 5, .int 6, .int 7]) v1 := by
      simp [evI, evE, rngS]
      rfl
    simp only [Nat.reduceAdd] at e1
    simp only [b_law_0, s_law_0, b_law_1, s_law_1, evSs, evS, evE, evEs, List.getElem?_cons_zero, Res.bind_ok, e1, bindS_ok, setTg, setEnv, List.set_cons_succ, List.set_cons_zero, ei, Src.len]
    rw [wp_bind]
    refine wp_for (xs := [.int 0, .int 1, .int 2, .int 3, .int 4, .int 5, .int 6, .int 7]) (fun kk env v => (∃ y2 y3 y4 y5 y6 y7 y8 y9, env = [some (.fl (ns.map PV.int)), some (.ref a), y2, y3, y4, y5, y6, y7, y8, y9]) ∧ St a b (kk * 2 ^ 33) v ∧ kk ≤ 8) (fun kk env v _ => rfl) (fun kk env v p ⟨⟨y2, y3, y4, y5, y6, y7, y8, y9, ee⟩, hS, hk8⟩ hp => ?_) (fun env v ⟨⟨y2, y3, y4, y5, y6, y7, y8, y9, ee⟩, hS, _⟩ => ?_) _ 0 _ _ (by simp)
      ⟨⟨_, _, _, _, _, _, _, _, rfl⟩, by simpa using hs, by omega⟩
    · subst ee
      have hkk : kk < 8 := by
        have := (List.getElem?_eq_some_iff.mp hp).1
        simpa using this
      refine ⟨_, rfl, ?_⟩
      refine (law_turn (sc := .fl (ns.map PV.int)) hS (by omega)).thn fun f v' ⟨⟨z2, z3, z4, z5, z6, z7, z8, z9, ef⟩, hS'⟩ => ?_
      subst ef
      exact ⟨⟨_, _, _, _, _, _, _, _, rfl⟩, hS'.mono (by omega), by omega⟩
    · subst ee
      simp [b_law_14, s_law_14, evSs, evS, evE]
  obtain ⟨q, v, e1, rfl⟩ := e.ex
  exact ⟨v, e1⟩
end Mini
end T_S18
section T_head
set_option linter.all false
set_option autoImplicit false
set_option maxRecDepth 100000
set_option maxHeartbeats 0
namespace Mini
theorem defs_ok_here : defsB T PySem.Challenge.pw_secondruns_k03_trees_told ls = true := by decide +kernel
end Mini
namespace Mini
open PySem PySem.Spec PyProof.Rows L2
abbrev Rw : PySem.W.OpenRow := PySem.W.OpenLaw.row PySem.Challenge.rw_secondruns_k03_trees_told
def DDw : List He.DefD := dfs T PySem.Challenge.pw_secondruns_k03_trees_told ls
abbrev hkw : PySem.W.Hook := hookM 4 T ls DDw
def obw (s : PySem.W.SharedT) : He.AlD := obsMG 4 T ls DDw (HandSHeadRun.getT s)
theorem obw_eq (s : PySem.W.SharedT) : obw s = hkw.obs s.abs := obsMG_eq (HandSHeadRun.getT_eq s)
abbrev topKw : Nat := 34
def loosew : List Str := ["_wall", "LETTERS", "KEEP", "is_word", "is_list", "is_number", "RunError", "BadLanguage", "UnknownLabel", "BadLine", "frozen_rows", "is_row", "row_read", "Language", "_law_fresh", "_law_take", "_law_one", "_law_mix", "_law_same", "_law_words", "_law_rows", "_law_many", "_law_labels", "_law_tree", "_law_places", "_law_at", "_law_put", "_law_loose", "_law_is_tree", "_law_spoilt"]
theorem runw (w : World) : HandSHeadRun.RunEq Rw (PySem.W.view Rw.prog [topKw]) hkw obw 3000 loosew w := by
  intro os
  kernel_rfl
end Mini
end T_head
open PySem PySem.W PySem.Calls PyProof.Rows
set_option maxRecDepth 100000 in
set_option maxHeartbeats 0 in
theorem PySem.Challenge.cw_secondruns_k03_trees_told_holds : PySem.Challenge.rw_secondruns_k03_trees_told.Holds := by
  w_on; o_law
  refine HandSHeadRun.head_any (r := OpenLaw.row PySem.Challenge.rw_secondruns_k03_trees_told) (q := view (OpenLaw.row PySem.Challenge.rw_secondruns_k03_trees_told).prog [Mini.topKw]) (H := Mini.hkw) (ob := Mini.obw) (M := 3000) (loose := Mini.loosew) (d := HandSHeadRun.topDef (OpenLaw.row PySem.Challenge.rw_secondruns_k03_trees_told).prog Mini.topKw) (kwd := []) Mini.obw_eq
    (by kernel_rfl) (fun s => by kernel_rfl) Mini.runw (by kernel_rfl) (by kernel_rfl) (by kernel_rfl) (by rfl) (by first | assumption | decide +kernel) (by decide +kernel) ⟨rfl, rfl, rfl, rfl, rfl, by decide +kernel⟩ ?hw ?hc
  case hw => w_witness2
  case hc =>
    exact Mini.walk_mini (l := PySem.Challenge.rw_secondruns_k03_trees_told) (n := 40) (m := 63) (x := "_law_script") (fl := Mini.f_law) (fn := Mini.df_law) rfl (by decide) (by kernel_rfl) ⟨rfl, by decide, by decide⟩ Mini.defs_ok_here rfl rfl rfl (by kernel_rfl) Mini.law_true
