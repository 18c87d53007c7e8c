import PyProof.Rows.All
import Wide.All
import OpenK.AllK
import Wide.FinOn
import KE.KStateDown
import HandS.ForMost
import HandS.ForExc
import HandS.Text
import HandS.Conv
import HandS.TupAny
import HandS.Wide
import HandS.RaiseMore
import PyProof.ReprRoads
import HandS.Deep
import HandS.Defaults
import HandS.IsInst
import HandS.HeadHook2
import HandS.Codes
import HandS.Ends
import HandS.Head2
import HandS.HeadEnd
import PySem.Challenge.RW_vowblocks_k87_papers_and_runs_as_texts
set_option Elab.async false
set_option linter.all false
/-! The small language: values, heap, expressions, statements, what they tell. -/
namespace Vb
open PySem L2

/-- values: what never changes is a tree; what may change has a number -/
inductive PV where
  | non | bl (b : Bool) | int (i : Int) | str (x : Str) | tup (xs : List PV) | ref (n : Nat)
  deriving Inhabited

/-- what stands at a number -/
inductive MO where
  | lst (xs : List PV) | ro (xs : List PV) | ins (c : Nat) (fs : List (Nat × PV))
abbrev MH := List MO
/-- an exception: its class, its fields -/
structure Ex where
  c : Nat
  fs : List (Nat × PV)
inductive Res (α : Type) where
  | ok (a : α) (h : MH) | ex (e : Ex) (h : MH) | no
def Res.bind {α β : Type} : Res α → (α → MH → Res β) → Res β
  | .ok a h, f => f a h
  | .ex e h, _ => .ex e h
  | .no, _ => .no
def ofOpt {α : Type} (h : MH) : Option α → Res α
  | some a => .ok a h
  | none => .no
abbrev Lo := List (Option PV)

/-! ### data -/
def optAll {α β : Type} (f : α → Option β) : List α → Option (List β)
  | [] => some []
  | x :: xs => match f x, optAll f xs with
    | some y, some ys => some (y :: ys)
    | _, _ => none
/-- the list at a number, whether it may be written or not -/
def seqAt (h : MH) (r : Nat) : Option (List PV) := match h[r]? with
  | some (.lst xs) => some xs
  | some (.ro xs) => some xs
  | _ => none
def data (h : MH) : Nat → PV → Option PyData
  | _, .non => some .none
  | _, .bl b => some (.bool b)
  | _, .int i => some (.int i)
  | _, .str x => some (.str x)
  | n + 1, .tup xs => (optAll (data h n) xs).map .tuple
  | n + 1, .ref r => match seqAt h r with
    | some xs => (optAll (data h n) xs).map .list
    | none => none
  | 0, _ => none
/-- deep enough for all data here -/
abbrev deepest : Nat := 24
/-- the data of a value that may be compared -/
def cmpData (h : MH) (v : PV) : Option PyData := match data h deepest v with
  | some d => if d.canLay0 = true then some d else none
  | none => none

/-! ### operators -/
inductive BOp where | add | sub | mul | fdiv | mod | pow
  deriving DecidableEq
inductive COp where | eq | ne | lt | le | gt | ge | isn | notn | in_ | nin
  deriving DecidableEq
def big64 (i : Int) : Bool := decide (-(2 ^ 64) < i) && decide (i < 2 ^ 64)
def newObj (o : MO) (h : MH) : Res PV := .ok (.ref h.length) (h ++ [o])
def binS : BOp → PV → PV → MH → Res PV
  | .add, .int i, .int j, h => .ok (.int (i + j)) h
  | .add, .str x, .str y, h => if x.length + y.length ≤ sizeLine then .ok (.str (x ++ y)) h else .no
  | .add, .tup xs, .tup ys, h => if xs.length + ys.length ≤ sizeLine then .ok (.tup (xs ++ ys)) h else .no
  | .add, .ref a, .ref b, h => match h[a]?, h[b]? with
    | some (.lst xs), some (.lst ys) => if xs.length + ys.length ≤ sizeLine then newObj (.lst (xs ++ ys)) h else .no
    | _, _ => .no
  | .sub, .int i, .int j, h => .ok (.int (i - j)) h
  | .mul, .int i, .int j, h => if big64 i = true ∨ big64 j = true then .ok (.int (i * j)) h else .no
  | .fdiv, .int i, .int j, h => if 0 < j ∧ j < 2 ^ 63 then .ok (.int (i / j)) h else .no
  | .mod, .int i, .int j, h => if 0 < j then .ok (.int (i % j)) h else .no
  | .pow, .int i, .int j, h => if 0 ≤ j ∧ j ≤ 1000 ∧ i.natAbs < 2 ^ 64 then .ok (.int (i ^ j.toNat)) h else .no
  | _, _, _, _ => .no
def inStr (x y : Str) : Bool := !(Builtin.Str.occurrences y x 0 y.length 1).isEmpty
/-- flat values for `in` over a tuple -/
def pvV : PV → Option V
  | .non => some .non
  | .bl b => some (.bl b)
  | .int i => some (.int i)
  | .str x => some (.str x)
  | _ => none
def isIn (x y : PV) (h : MH) : Option Bool := match y with
  | .str z => match x with
    | .str w => some (inStr w z)
    | _ => none
  | .tup ys => match pvV x, optAll pvV ys with
    | some a, some bs => some (inV a bs)
    | _, _ => none
  | .ref _ => match cmpData h x, cmpData h y with
    | some d, some (.list ds) => some (ds.any fun z => PyData.eqv z d)
    | _, _ => none
  | _ => none
def cmpS : COp → PV → PV → MH → Option Bool
  | .eq, x, y, h => match cmpData h x, cmpData h y with
    | some d, some e => some (PyData.eqv d e)
    | _, _ => none
  | .ne, x, y, h => match cmpData h x, cmpData h y with
    | some d, some e => some (!PyData.eqv d e)
    | _, _ => none
  | .lt, .int i, .int j, _ => some (decide (i < j))
  | .le, .int i, .int j, _ => some (decide (i ≤ j))
  | .gt, .int i, .int j, _ => some (decide (j < i))
  | .ge, .int i, .int j, _ => some (decide (j ≤ i))
  | .isn, x, .non, _ => some (match x with | .non => true | _ => false)
  | .notn, x, .non, _ => some (match x with | .non => false | _ => true)
  | .in_, x, y, h => isIn x y h
  | .nin, x, y, h => (isIn x y h).map (!·)
  | _, _, _, _ => none
/-- truth -/
def truS (h : MH) : PV → Option Bool
  | .non => some false
  | .bl b => some b
  | .int i => some (i != 0)
  | .str x => if x.length ≤ sizeLine then some ((x.length : Int) != 0) else none
  | .tup xs => some (!xs.isEmpty)
  | .ref r => (seqAt h r).map fun xs => !xs.isEmpty
/-- xs[i] -/
def idxS (a b : PV) (h : MH) : Option PV := match a, b with
  | .tup xs, .int i => atI xs i
  | .str x, .int i => if x.length ≤ sizeLine then (atI x.cps.toList i).map fun c => .str ⟨#[c]⟩ else none
  | .ref r, .int i => (seqAt h r).bind fun xs => atI xs i
  | _, _ => none
def cutP {α : Type} (xs : List α) (lo hi : Option Int) : List α := (xs.drop (HT.sIx xs.length 0 lo)).take (HT.sIx xs.length xs.length hi - HT.sIx xs.length 0 lo)
def slcS (a : PV) (lo hi : Option Int) (h : MH) : Res PV := match a with
  | .tup xs => .ok (.tup (cutP xs lo hi)) h
  | .ref r => match seqAt h r with
    | some xs => newObj (.lst (cutP xs lo hi)) h
    | none => .no
  | _ => .no

/-! ### built-ins -/
inductive Ty where | int | bool | str | tup | lst
  deriving DecidableEq
def isiS (h : MH) (t : Ty) : PV → Option Bool
  | .non => some false
  | .bl _ => some (t == .bool || t == .int)
  | .int _ => some (t == .int)
  | .str _ => some (t == .str)
  | .tup _ => some (t == .tup)
  | .ref r => (seqAt h r).map fun _ => t == .lst
/-- data that repr is asked of: a list or a tuple -/
def reprData (h : MH) : PV → Option PyData
  | .tup xs => data h deepest (.tup xs)
  | .ref r => data h deepest (.ref r)
  | _ => none
inductive Bi where | len | str | int | tuple | list | max2 | min2 | all | any | repr
  deriving DecidableEq
def itemsOf (h : MH) : PV → Option (List PV)
  | .tup xs => some xs
  | .ref r => seqAt h r
  | _ => none
def bools : List PV → Option (List Bool) := optAll fun | .bl b => some b | _ => none
def texts : List PV → Option (List Str) := optAll fun | .str b => some b | _ => none
def biS : Bi → List PV → MH → Res PV
  | .len, [.str x], h => if x.length ≤ sizeLine then .ok (.int x.length) h else .no
  | .len, [v], h => ofOpt h ((itemsOf h v).map fun xs => .int xs.length)
  | .str, [.int i], h => if i.natAbs.log2 < 1920 then .ok (.str (toString i)) h else .no
  | .str, [.str x], h => .ok (.str x) h
  | .int, [.str x], h => if x.length ≤ 640 then ofOpt h ((PySem.intText? x).map .int) else .no
  | .int, [.int i], h => .ok (.int i) h
  | .int, [.bl b], h => .ok (.int (if b then 1 else 0)) h
  | .tuple, [v], h => ofOpt h ((itemsOf h v).map .tup)
  | .list, [v], h => match itemsOf h v with
    | some xs => newObj (.lst xs) h
    | none => .no
  | .max2, [.int i, .int j], h => .ok (.int (if j > i then j else i)) h
  | .min2, [.int i, .int j], h => .ok (.int (if j < i then j else i)) h
  | .all, [.ref r], h => match h[r]? with
    | some (.lst xs) => ofOpt h ((bools xs).map fun bs => .bl (bs.all id))
    | _ => .no
  | .any, [.ref r], h => match h[r]? with
    | some (.lst xs) => ofOpt h ((bools xs).map fun bs => .bl (bs.any id))
    | _ => .no
  | .repr, [.int i], h => if i.natAbs.log2 < 1920 then .ok (.str (toString i)) h else .no
  | .repr, [v], h => match reprData h v with
    | some d => if d.showable = true ∧ d.hasDict = false ∧ d.shown.length ≤ sizeLine then .ok (.str d.shown) h else .no
    | none => .no
  | _, _, _ => .no
inductive Bm where | append | extend | pop | join | split
  deriving DecidableEq
def bmS : Bm → PV → List PV → MH → Res PV
  | .append, .ref r, [v], h => match h[r]? with
    | some (.lst xs) => if xs.length < sizeLine then .ok .non (h.set r (.lst (xs ++ [v]))) else .no
    | _ => .no
  | .extend, .ref r, [.ref q], h => match h[r]?, h[q]? with
    | some (.lst xs), some (.lst ys) => if xs.length + ys.length ≤ sizeLine then .ok .non (h.set r (.lst (xs ++ ys))) else .no
    | _, _ => .no
  | .pop, .ref r, [], h => match h[r]? with
    | some (.lst xs) => match xs[xs.length - 1]? with
      | some v => .ok v (h.set r (.lst xs.dropLast))
      | none => .no
    | _ => .no
  | .join, .str x, [v], h => match (itemsOf h v).bind texts with
    | some ys => if (ys.map (·.length)).sum + ys.length * x.length ≤ 16777216 then .ok (.str (Txt.join x ys)) h else .no
    | none => .no
  | .split, .str x, [.str y], h => if (y.length == 0) = false ∧ x.length + 2 ≤ sizeLine then newObj (.lst ((Txt.split x y).map .str)) h else .no
  | _, _, _, _ => .no

/-- what has such a method -/
def bmTy : Bm → PV → MH → Bool
  | .join, .str _, _ => true
  | .split, .str _, _ => true
  | .append, .ref r, h => (seqAt h r).isSome
  | .extend, .ref r, h => (seqAt h r).isSome
  | .pop, .ref r, h => (seqAt h r).isSome
  | _, _, _ => false

/-! ### expressions -/
/-- where an item of a loop goes -/
inductive Tg where
  | n (i : Nat) | t (is : List Nat)
mutual
inductive E where
  | never
  | var (i : Nat)
  | cst (v : PV)
  | bin (op : BOp) (a b : E)
  | cmp (op : COp) (a b : E)
  | chain (op op' : COp) (a b c : E)
  | and (a b : E)
  | or (a b : E)
  | not (a : E)
  | ife (t a b : E)
  | neg (a : E)
  | call (f : Nat) (as : List E)
  | mk (c : Nat) (as : List E)
  | meth (m : Nat) (o : E) (as : List E)
  | attr (o : E) (f : Nat)
  | bi (b : Bi) (as : List E)
  | bm (b : Bm) (o : E) (as : List E)
  | idx (a b : E)
  | slc (a : E) (lo hi : Option E)
  | tup (as : List E)
  | lst (as : List E)
  | isi (a : E) (t : Ty)
  | lc (g : Tg) (own : List Nat) (it : IX) (t : Option E) (e : E)
  | val (e : E)
/-- what a loop goes over -/
inductive IX where
  | rng (n : E)
  | rng2 (m n : E)
  | e (x : E)
  | enum (x : E)
end

/-- what a program has: classes (their __init__, their methods), the functions' bodies are told by calls -/
structure KD where
  init : Option Nat
  meths : List (Nat × Nat)
  attrs : List Nat
structure CB where
  fn : Nat → List PV → MH → Res PV
  fnI : Nat → List PV → MH → Res PV
  cls : List KD
def methOf (C : CB) (h : MH) (m : Nat) : PV → Option Nat
  | .ref r => match h[r]? with
    | some (.ins c _) => C.cls[c]?.bind fun k => k.meths.lookup m
    | _ => none
  | _ => none
def hasAttr (C : CB) (c f : Nat) : Bool := match C.cls[c]? with
  | some k => k.attrs.contains f
  | none => false
def attrS (C : CB) (h : MH) (f : Nat) : PV → Option PV
  | .ref r => match h[r]? with
    | some (.ins c fs) => if hasAttr C c f = true then fs.lookup f else none
    | _ => none
  | _ => none
def putN (f : Nat) (v : PV) : List (Nat × PV) → List (Nat × PV)
  | [] => [(f, v)]
  | (g, x) :: r => if g = f then (g, v) :: r else (g, x) :: putN f v r
def getLo (lo : Lo) (i : Nat) : Option PV := match lo[i]? with
  | some (some v) => some v
  | _ => none
def wipeL (lo : Lo) : List Nat → Lo
  | [] => lo
  | v :: vs => (wipeL lo vs).set v none
/-- an item of a loop is stored -/
def storeAll (lo : Lo) : List Nat → List PV → Option Lo
  | [], [] => some lo
  | i :: is, v :: vs => storeAll (lo.set i (some v)) is vs
  | _, _ => none
def storeTg (g : Tg) (v : PV) (lo : Lo) : Option Lo := match g, v with
  | .n i, v => some (lo.set i (some v))
  | .t is, .tup vs => storeAll lo is vs
  | _, _ => none
/-- an iterator of a list wants the list as it was -/
def sameSeq (v : PV) (h0 h : MH) : Prop := match v with
  | .ref r => h[r]? = h0[r]?
  | _ => True
open Classical in
/-- a comprehension's loop: what each item adds, the items, the list's number -/
noncomputable def lcLoop (f : PV → MH → Res (Option PV)) (good : MH → Prop) (D : Nat) : List PV → MH → Res PV
  | [], h => if good h then .ok (.ref D) h else .no
  | v :: vs, h => if good h then match f v h with
      | .ok none h1 => lcLoop f good D vs h1
      | .ok (some y) h1 => match h1[D]? with
        | some (.lst acc) => if acc.length < sizeLine then lcLoop f good D vs (h1.set D (.lst (acc ++ [y]))) else .no
        | _ => .no
      | _ => .no
    else .no
def rangeL (m n : Int) : List PV := (List.range (n - m).toNat).map fun (i : Nat) => .int (m + i)
def enumL (vs : List PV) : List PV := vs.zipIdx.map fun p => .tup [.int p.2, p.1]
def iterOf (h : MH) : PV → Option (List PV)
  | .tup xs => some xs
  | .ref r => seqAt h r
  | .str x => some (x.cps.toList.map fun c => .str ⟨#[c]⟩)
  | _ => none
def small62 (n : Int) : Bool := decide (-(2 ^ 62) ≤ n) && decide (n < 2 ^ 62)

mutual
noncomputable def evalE (C : CB) : E → Lo → MH → Res PV
  | .never, _, _ => .no
  | .var i, lo, h => ofOpt h (getLo lo i)
  | .cst v, _, h => .ok v h
  | .bin op a b, lo, h => (evalE C a lo h).bind fun x h => (evalE C b lo h).bind fun y h => binS op x y h
  | .cmp op a b, lo, h => (evalE C a lo h).bind fun x h => (evalE C b lo h).bind fun y h => ofOpt h ((cmpS op x y h).map .bl)
  | .chain op op' a b c, lo, h => (evalE C a lo h).bind fun x h => (evalE C b lo h).bind fun y h => match cmpS op x y h with
    | some true => (evalE C c lo h).bind fun z h => ofOpt h ((cmpS op' y z h).map .bl)
    | some false => .ok (.bl false) h
    | none => .no
  | .and a b, lo, h => (evalE C a lo h).bind fun x h => match x with
    | .bl true => evalE C b lo h
    | .bl false => .ok (.bl false) h
    | _ => .no
  | .or a b, lo, h => (evalE C a lo h).bind fun x h => match x with
    | .bl true => .ok (.bl true) h
    | .bl false => evalE C b lo h
    | _ => .no
  | .not a, lo, h => (evalE C a lo h).bind fun x h => match x with
    | .bl c => .ok (.bl (!c)) h
    | _ => .no
  | .ife t a b, lo, h => (evalT C t lo h).bind fun c h => match c with
    | true => evalE C a lo h
    | false => evalE C b lo h
  | .neg a, lo, h => (evalE C a lo h).bind fun x h => match x with
    | .int i => .ok (.int (-i)) h
    | _ => .no
  | .call f as, lo, h => (evalEs C as lo h).bind fun vs h => C.fn f vs h
  | .mk c as, lo, h => (evalEs C as lo h).bind fun vs h => match C.cls[c]?.bind (·.init) with
    | some f => (C.fnI f (.ref h.length :: vs) (h ++ [.ins c []])).bind fun r h2 => match r with
      | .non => .ok (.ref h.length) h2
      | _ => .no
    | none => .no
  | .meth m o as, lo, h => (evalE C o lo h).bind fun x h => match methOf C h m x with
    | some f => (evalEs C as lo h).bind fun vs h => C.fn f (x :: vs) h
    | none => .no
  | .attr o f, lo, h => (evalE C o lo h).bind fun x h => ofOpt h (attrS C h f x)
  | .bi b as, lo, h => (evalEs C as lo h).bind fun vs h => biS b vs h
  | .bm b o as, lo, h => (evalE C o lo h).bind fun x h => if bmTy b x h = true then (evalEs C as lo h).bind fun vs h => bmS b x vs h else .no
  | .idx a b, lo, h => (evalE C a lo h).bind fun x h => (evalE C b lo h).bind fun y h => ofOpt h (idxS x y h)
  | .slc a l u, lo, h => (evalE C a lo h).bind fun x h => (evalO C l lo h).bind fun i h => (evalO C u lo h).bind fun j h => slcS x i j h
  | .tup as, lo, h => (evalEs C as lo h).bind fun vs h => if vs.length ≤ sizeLine then .ok (.tup vs) h else .no
  | .lst as, lo, h => (evalEs C as lo h).bind fun vs h => if vs.length ≤ sizeLine then newObj (.lst vs) h else .no
  | .isi a t, lo, h => (evalE C a lo h).bind fun x h => ofOpt h ((isiS h t x).map .bl)
  | .val e, lo, h => evalE C e lo h
  | .lc g own it t e, lo, h => (evalI C it lo h).bind fun p h => lcLoop (fun v h => match storeTg g v (wipeL lo own) with
          | some lo' => (evalOT C t lo' h).bind fun c h => match c with
            | true => (evalE C e lo' h).bind fun y h => .ok (some y) h
            | false => .ok none h
          | none => .no) (sameSeq p.2 h) h.length p.1 (h ++ [.lst []])
noncomputable def evalI (C : CB) : IX → Lo → MH → Res (List PV × PV)
  | .rng n, lo, h => (evalE C n lo h).bind fun x h => match x with
    | .int k => if small62 k = true then .ok (rangeL 0 k, .non) h else .no
    | _ => .no
  | .rng2 m n, lo, h => (evalE C m lo h).bind fun x h => (evalE C n lo h).bind fun y h => match x, y with
    | .int j, .int k => if small62 j = true ∧ small62 k = true then .ok (rangeL j k, .non) h else .no
    | _, _ => .no
  | .e x, lo, h => (evalE C x lo h).bind fun v h => match iterOf h v with
    | some vs => .ok (vs, v) h
    | none => .no
  | .enum x, lo, h => (evalE C x lo h).bind fun v h => match v with
    | .ref r => match seqAt h r with
      | some vs => .ok (enumL vs, .ref r) h
      | none => .no
    | _ => .no
noncomputable def evalEs (C : CB) : List E → Lo → MH → Res (List PV)
  | [], _, h => .ok [] h
  | e :: es, lo, h => (evalE C e lo h).bind fun v h => (evalEs C es lo h).bind fun vs h => .ok (v :: vs) h
noncomputable def evalO (C : CB) : Option E → Lo → MH → Res (Option Int)
  | none, _, h => .ok none h
  | some e, lo, h => (evalE C e lo h).bind fun v h => match v with
    | .int i => .ok (some i) h
    | _ => .no
noncomputable def evalOT (C : CB) : Option E → Lo → MH → Res Bool
  | none, _, h => .ok true h
  | some e, lo, h => evalT C e lo h
noncomputable def evalT (C : CB) : E → Lo → MH → Res Bool
  | .never, _, _ => .no
  | .and a b, lo, h => (evalT C a lo h).bind fun c h => match c with
    | true => evalT C b lo h
    | false => .ok false h
  | .or a b, lo, h => (evalT C a lo h).bind fun c h => match c with
    | true => .ok true h
    | false => evalT C b lo h
  | .not a, lo, h => (evalT C a lo h).bind fun c h => .ok (!c) h
  | .cmp op a b, lo, h => (evalE C a lo h).bind fun x h => (evalE C b lo h).bind fun y h => ofOpt h (cmpS op x y h)
  | .chain op op' a b c, lo, h => (evalE C a lo h).bind fun x h => (evalE C b lo h).bind fun y h => match cmpS op x y h with
    | some true => (evalE C c lo h).bind fun z h => ofOpt h (cmpS op' y z h)
    | some false => .ok false h
    | none => .no
  | .val e, lo, h => (evalE C e lo h).bind fun x h => ofOpt h (truS h x)
  | _, _, _ => .no
end

/-! ### statements -/
inductive Fl where
  | nx (lo : Lo) | bk (lo : Lo) | ct (lo : Lo) | rt (v : PV) | th (e : Ex) (lo : Lo)
inductive SR where
  | ok (f : Fl) (h : MH) | no
/-- an expression's end, then a statement's -/
def Res.then_ {α : Type} (r : Res α) (lo : Lo) (f : α → MH → SR) : SR := match r with
  | .ok a h => f a h
  | .ex e h => .ok (.th e lo) h
  | .no => .no
/-- a statement's end, then the next one -/
def SR.next (r : SR) (f : Lo → MH → SR) : SR := match r with
  | .ok (.nx lo) h => f lo h
  | r => r
open Classical in
noncomputable def forLoop (f : PV → Lo → MH → SR) (good : MH → Prop) : List PV → Lo → MH → SR
  | [], lo, h => if good h then .ok (.nx lo) h else .no
  | v :: vs, lo, h => if good h then match f v lo h with
      | .ok (.nx lo') h' => forLoop f good vs lo' h'
      | .ok (.ct lo') h' => forLoop f good vs lo' h'
      | .ok (.bk lo') h' => .ok (.nx lo') h'
      | r => r
    else .no
def whileLoop (t : Lo → MH → Res Bool) (f : Lo → MH → SR) : Nat → Lo → MH → SR
  | 0, _, _ => .no
  | n + 1, lo, h => (t lo h).then_ lo fun c h => match c with
    | false => .ok (.nx lo) h
    | true => match f lo h with
      | .ok (.nx lo') h' => whileLoop t f n lo' h'
      | .ok (.ct lo') h' => whileLoop t f n lo' h'
      | .ok (.bk lo') h' => .ok (.nx lo') h'
      | r => r
/-- targets of an assignment -/
inductive AT where
  | n (i : Nat) | t (is : List Nat) | attr (o : E) (f : Nat) | sub (o i : E)
inductive S where
  | never
  | pass
  | expr (e : E)
  | asg (t : AT) (e : E)
  | par (i j : Nat) (a b : E)
  | augA (o : E) (f : Nat) (op : BOp) (e : E)
  | augN (i : Nat) (op : BOp) (e : E)
  | ret (e : E)
  | retN
  | if_ (t : E) (a b : List S)
  | for_ (g : Tg) (it : IX) (b : List S)
  | while_ (t : E) (b : List S)
  | brk
  | cnt
  | raise (c : Nat) (as : List E)
  | try_ (b : List S) (c : List Nat) (i : Nat) (s : List S)
def setAttrS (C : CB) (r f : Nat) (v : PV) (h : MH) : Option MH := match h[r]? with
  | some (.ins c fs) => if hasAttr C c f = true ∧ fs.length < 100 then some (h.set r (.ins c (putN f v fs))) else none
  | _ => none
def setItemS (o i v : PV) (h : MH) : Option MH := match o, i with
  | .ref r, .int k => match h[r]? with
    | some (.lst xs) => (ixN xs.length k).map fun j => h.set r (.lst (xs.set j v))
    | _ => none
  | _, _ => none
noncomputable def asgS (C : CB) (t : AT) (v : PV) (lo : Lo) (h : MH) : SR := match t with
  | .n i => .ok (.nx (lo.set i (some v))) h
  | .t is => match v with
    | .tup vs => match storeAll lo is vs with
      | some lo' => .ok (.nx lo') h
      | none => .no
    | _ => .no
  | .attr o f => (evalE C o lo h).then_ lo fun x h => match x with
    | .ref r => match setAttrS C r f v h with
      | some h' => .ok (.nx lo) h'
      | none => .no
    | _ => .no
  | .sub o i => (evalE C o lo h).then_ lo fun x h => (evalE C i lo h).then_ lo fun y h => match setItemS x y v h with
    | some h' => .ok (.nx lo) h'
    | none => .no
def augS : BOp → PV → PV → Option PV
  | .add, .int i, .int j => some (.int (i + j))
  | .sub, .int i, .int j => some (.int (i - j))
  | .mul, .int i, .int j => if big64 i = true ∨ big64 j = true then some (.int (i * j)) else none
  | _, _, _ => none
/-- the classes' ways: which exception classes an except names; how an exception is made (its one field, if it has one) -/
structure XT where
  isa : Nat → Nat → Bool
  fld : Nat → Option (Option Nat)
mutual
noncomputable def exec (C : CB) (T : XT) (W : Nat) : S → Lo → MH → SR
  | .never, _, _ => .no
  | .pass, lo, h => .ok (.nx lo) h
  | .expr e, lo, h => (evalE C e lo h).then_ lo fun _ h => .ok (.nx lo) h
  | .asg t e, lo, h => (evalE C e lo h).then_ lo fun v h => asgS C t v lo h
  | .par i j a b, lo, h => (evalE C a lo h).then_ lo fun x h => (evalE C b lo h).then_ lo fun y h => .ok (.nx ((lo.set i (some x)).set j (some y))) h
  | .augA o f op e, lo, h => (evalE C o lo h).then_ lo fun x h => match attrS C h f x, x with
    | some v, .ref r => (evalE C e lo h).then_ lo fun y h2 => match augS op v y with
      | some z => match h[r]?, h2[r]? with
        | some (.ins c _), some (.ins c2 fs) => if c2 = c ∧ fs.length < 100 then .ok (.nx lo) (h2.set r (.ins c (putN f z fs))) else .no
        | _, _ => .no
      | none => .no
    | _, _ => .no
  | .augN i op e, lo, h => match getLo lo i with
    | some v => (evalE C e lo h).then_ lo fun y h => match augS op v y with
      | some z => .ok (.nx (lo.set i (some z))) h
      | none => .no
    | none => .no
  | .ret e, lo, h => (evalE C e lo h).then_ lo fun v h => .ok (.rt v) h
  | .retN, _, h => .ok (.rt .non) h
  | .if_ t a b, lo, h => (evalT C t lo h).then_ lo fun c h => match c with
    | true => execs C T W a lo h
    | false => execs C T W b lo h
  | .for_ g it b, lo, h => (evalI C it lo h).then_ lo fun p h => forLoop (fun v lo h => match storeTg g v lo with
        | some lo' => execs C T W b lo' h
        | none => .no) (sameSeq p.2 h) p.1 lo h
  | .while_ t b, lo, h => whileLoop (evalT C t) (execs C T W b) W lo h
  | .brk, lo, h => .ok (.bk lo) h
  | .cnt, lo, h => .ok (.ct lo) h
  | .raise c as, lo, h => (evalEs C as lo h).then_ lo fun vs h => match T.fld c, vs with
    | some none, _ => .ok (.th ⟨c, []⟩ lo) h
    | some (some f), [v] => .ok (.th ⟨c, [(f, v)]⟩ lo) h
    | _, _ => .no
  | .try_ b cs i s, lo, h => match execs C T W b lo h with
    | .ok (.th e lo') h' => .no
    | r => r
noncomputable def execs (C : CB) (T : XT) (W : Nat) : List S → Lo → MH → SR
  | [], lo, h => .ok (.nx lo) h
  | s :: ss, lo, h => (exec C T W s lo h).next fun lo h => execs C T W ss lo h
end
/-- a function: how many parameters, how many names, its body -/
structure FD where
  ps : Nat
  nl : Nat
  body : List S
structure Prog where
  fns : List FD
  cls : List KD
  xt : XT
  wl : Nat
def finF : SR → Res PV
  | .ok (.rt v) h => .ok v h
  | .ok (.nx _) h => .ok .non h
  | .ok (.th e _) h => .ex e h
  | _ => .no
noncomputable def callF (P : Prog) : Nat → Nat → List PV → MH → Res PV
  | 0, _, _, _ => .no
  | n + 1, f, vs, h => match P.fns[f]? with
    | none => .no
    | some d => if vs.length = d.ps then finF (execs ⟨callF P n, (match n with | 0 => fun _ _ _ => .no | m + 1 => callF P m), P.cls⟩ P.xt P.wl d.body (vs.map some ++ List.replicate (d.nl - d.ps) none) h)
      else .no
end Vb

set_option Elab.async false
set_option linter.all false
set_option maxRecDepth 100000
set_option maxHeartbeats 2000000
/-! How the small language's values and heap stand for the model's. -/
namespace Vb
open PySem L2

/-- the names that a program's text has: attributes, classes, exception classes -/
structure LT where
  an : List Str
  mn : List Str
  ca : List Addr
  xa : List Addr
  anNd : an.Nodup
  mnA : ∀ x ∈ mn, x ∉ an

theorem optAll_cons {α β : Type} {f : α → Option β} {x : α} {xs : List α} {ys : List β} (h : optAll f (x :: xs) = some ys) : ∃ y zs, f x = some y ∧ optAll f xs = some zs ∧ ys = y :: zs := by
  unfold optAll at h
  split at h
  · rename_i y zs e1 e2
    cases h
    exact ⟨y, zs, e1, e2, rfl⟩
  · cases h
theorem optAll_nil {α β : Type} {f : α → Option β} {ys : List β} (h : optAll f [] = some ys) : ys = [] := by cases h; rfl
/-! ### values -/
mutual
inductive Rep (K : PySem.W.Frag) (ρ : List Addr) (H : Hp) : V → PV → Prop
  | non : Rep K ρ H .non .non
  | bl (b : Bool) : Rep K ρ H (.bl b) (.bl b)
  | int (i : Int) : Rep K ρ H (.int i) (.int i)
  | str (x : Str) : Rep K ρ H (.str x) (.str x)
  | tup {a : Addr} {xs : List V} {ms : List PV} : SqT K H a xs → Reps K ρ H xs ms → Rep K ρ H (.ref a) (.tup ms)
  | ref {a : Addr} {n : Nat} : ρ[n]? = some a → Rep K ρ H (.ref a) (.ref n)
inductive Reps (K : PySem.W.Frag) (ρ : List Addr) (H : Hp) : List V → List PV → Prop
  | nil : Reps K ρ H [] []
  | cons {v : V} {vs : List V} {m : PV} {ms : List PV} : Rep K ρ H v m → Reps K ρ H vs ms → Reps K ρ H (v :: vs) (m :: ms)
end
/-- more numbers -/
def RLe (ρ ρ' : List Addr) : Prop := ∀ (n : Nat) (a : Addr), ρ[n]? = some a → ρ'[n]? = some a
/-- tuples and what is locked stay -/
structure HLe (H H' : Hp) : Prop where
  tups : ∀ b xs, H b = some (.tup xs) → H' b = some (.tup xs)
  frzs : ∀ b o u, H b = some (.frz o u) → H' b = some (.frz o u)
theorem RLe.refl {ρ : List Addr} : RLe ρ ρ := fun _ _ h => h
theorem RLe.trans {a b c : List Addr} (h : RLe a b) (g : RLe b c) : RLe a c := fun n x e => g n x (h n x e)
theorem RLe.snoc {ρ : List Addr} {p : Addr} : RLe ρ (ρ ++ [p]) := fun n a h => by
  have hn : n < ρ.length := (List.getElem?_eq_some_iff.mp h).1
  rw [List.getElem?_append_left hn]; exact h
theorem HLe.refl {H : Hp} : HLe H H := ⟨fun _ _ h => h, fun _ _ _ h => h⟩
theorem HLe.trans {A B C : Hp} (h : HLe A B) (g : HLe B C) : HLe A C := ⟨fun b xs e => g.tups b xs (h.tups b xs e), fun b o u e => g.frzs b o u (h.frzs b o u e)⟩
theorem HLe.new {H : Hp} {p : Addr} {o : HO} (h : H p = none) : HLe H (upd H p o) :=
  ⟨fun b xs e => by rw [upd_ne (ne_of_none e h)]; exact e, fun b o u e => by rw [upd_ne (ne_of_none e h)]; exact e⟩
/-- what may be written is no tuple, not locked -/
def Wr : HO → Prop
  | .tup _ => False
  | .frz _ _ => False
  | _ => True
theorem HLe.write {H : Hp} {p : Addr} {o u : HO} (h : H p = some u) (w : Wr u) : HLe H (upd H p o) :=
  ⟨fun b xs e => by
    rw [upd_ne (ne_of e h (fun q => by rw [← q] at w; exact w))]; exact e,
   fun b o' u' e => by
    rw [upd_ne (ne_of e h (fun q => by rw [← q] at w; exact w))]; exact e⟩
theorem SqT.le {K : PySem.W.Frag} {H H' : Hp} {a : Addr} {xs : List V} (g : HLe H H') (h : SqT K H a xs) : SqT K H' a xs := by
  rcases h with (h | ⟨o, h⟩) | h
  · exact .inl (.inl (g.tups _ _ h))
  · exact .inl (.inr ⟨o, g.frzs _ _ _ h⟩)
  · exact .inr h
section
variable {K : PySem.W.Frag} {ρ ρ' : List Addr} {H H' : Hp}
mutual
theorem Rep.le (r : RLe ρ ρ') (g : HLe H H') : ∀ {v : V} {m : PV}, Rep K ρ H v m → Rep K ρ' H' v m
  | _, _, .non => .non
  | _, _, .bl b => .bl b
  | _, _, .int i => .int i
  | _, _, .str x => .str x
  | _, _, .tup h hs => .tup (SqT.le g h) (Reps.le r g hs)
  | _, _, .ref h => .ref (r _ _ h)
theorem Reps.le (r : RLe ρ ρ') (g : HLe H H') : ∀ {vs : List V} {ms : List PV}, Reps K ρ H vs ms → Reps K ρ' H' vs ms
  | _, _, .nil => .nil
  | _, _, .cons h t => .cons (Rep.le r g h) (Reps.le r g t)
end
theorem Reps.length : ∀ {vs : List V} {ms : List PV}, Reps K ρ H vs ms → vs.length = ms.length
  | _, _, .nil => rfl
  | _, _, .cons _ t => congrArg (· + 1) t.length
theorem Reps.append : ∀ {vs ws : List V} {ms ns : List PV}, Reps K ρ H vs ms → Reps K ρ H ws ns → Reps K ρ H (vs ++ ws) (ms ++ ns)
  | _, _, _, _, .nil, g => g
  | _, _, _, _, .cons h t, g => .cons h (t.append g)
theorem Reps.get : ∀ {vs : List V} {ms : List PV} {i : Nat} {m : PV}, Reps K ρ H vs ms → ms[i]? = some m → ∃ v, vs[i]? = some v ∧ Rep K ρ H v m
  | _, _, _, _, .nil, e => by simp at e
  | _, _, 0, _, .cons h _, e => by simp at e; subst e; exact ⟨_, rfl, h⟩
  | _, _, i + 1, _, .cons _ t, e => by
    obtain ⟨v, h1, h2⟩ := Reps.get (i := i) t (by simpa using e)
    exact ⟨v, by simpa using h1, h2⟩
theorem Reps.getV : ∀ {vs : List V} {ms : List PV} {i : Nat} {v : V}, Reps K ρ H vs ms → vs[i]? = some v → ∃ m, ms[i]? = some m ∧ Rep K ρ H v m
  | _, _, _, _, .nil, e => by simp at e
  | _, _, 0, _, .cons h _, e => by simp at e; subst e; exact ⟨_, rfl, h⟩
  | _, _, i + 1, _, .cons _ t, e => by
    obtain ⟨m, h1, h2⟩ := Reps.getV (i := i) t (by simpa using e)
    exact ⟨m, by simpa using h1, h2⟩
theorem Reps.set {v : V} {m : PV} (r : Rep K ρ H v m) : ∀ {vs : List V} {ms : List PV} (i : Nat), Reps K ρ H vs ms → Reps K ρ H (vs.set i v) (ms.set i m)
  | _, _, _, .nil => .nil
  | _, _, 0, .cons _ t => .cons r t
  | _, _, i + 1, .cons h t => .cons h (Reps.set r i t)
theorem Reps.take : ∀ {vs : List V} {ms : List PV} (n : Nat), Reps K ρ H vs ms → Reps K ρ H (vs.take n) (ms.take n)
  | _, _, 0, _ => .nil
  | _, _, _ + 1, .nil => .nil
  | _, _, n + 1, .cons h t => .cons h (Reps.take n t)
theorem Reps.drop : ∀ {vs : List V} {ms : List PV} (n : Nat), Reps K ρ H vs ms → Reps K ρ H (vs.drop n) (ms.drop n)
  | _, _, 0, h => h
  | _, _, _ + 1, .nil => .nil
  | _, _, n + 1, .cons _ t => Reps.drop n t
theorem Reps.dropLast {vs : List V} {ms : List PV} (h : Reps K ρ H vs ms) : Reps K ρ H vs.dropLast ms.dropLast := by
  rw [List.dropLast_eq_take, List.dropLast_eq_take, h.length]
  exact h.take _
theorem Reps.cut {vs : List V} {ms : List PV} (lo hi : Option Int) (h : Reps K ρ H vs ms) : Reps K ρ H (cutV vs lo hi) (cutP ms lo hi) := by
  unfold cutV cutP
  rw [h.length]
  exact (h.drop _).take _
theorem Reps.one {v : V} {m : PV} (h : Rep K ρ H v m) : Reps K ρ H [v] [m] := .cons h .nil
theorem Reps.ints : ∀ (ns : List Int), Reps K ρ H (ns.map V.int) (ns.map PV.int)
  | [] => .nil
  | n :: r => .cons (.int n) (Reps.ints r)
theorem Reps.strs : ∀ (ns : List Str), Reps K ρ H (ns.map V.str) (ns.map PV.str)
  | [] => .nil
  | n :: r => .cons (.str n) (Reps.strs r)
theorem Reps.bools : ∀ {vs : List V} {ms : List PV} {bs : List Bool}, Reps K ρ H vs ms → bools ms = some bs → vs = bs.map V.bl
  | _, _, bs, .nil, e => by cases e; rfl
  | _, _, bs, .cons h t, e => by
    obtain ⟨b, cs, e1, e2, rfl⟩ := optAll_cons e
    cases h <;> first | (cases e1; rw [Reps.bools t e2]; rfl) | cases e1
theorem Reps.texts : ∀ {vs : List V} {ms : List PV} {bs : List Str}, Reps K ρ H vs ms → texts ms = some bs → vs = bs.map V.str
  | _, _, bs, .nil, e => by cases e; rfl
  | _, _, bs, .cons h t, e => by
    obtain ⟨b, cs, e1, e2, rfl⟩ := optAll_cons e
    cases h <;> first | (cases e1; rw [Reps.texts t e2]; rfl) | cases e1
end

/-! ### objects -/
/-- a list that is never written: locked, or the text's own -/
def RoL (K : PySem.W.Frag) (H : Hp) (a : Addr) (xs : List V) : Prop :=
  (∃ o, H a = some (.frz o (.lst xs))) ∨
    ∃ (o : Obj) (its : Array Value) (n : Nat), K.lookup a = some o ∧ o.cls = .type "list" ∧ o.dict = none ∧ o.data = .seq its n ∧ its.size ≤ sizeLine ∧ Vals xs its.toList
theorem RoL.sq {K : PySem.W.Frag} {H : Hp} {a : Addr} {xs : List V} (h : RoL K H a xs) : SqL K H a xs := by
  rcases h with ⟨o, h⟩ | h
  · exact .inl (.inr ⟨o, h⟩)
  · exact .inr h
theorem RoL.le {K : PySem.W.Frag} {H H' : Hp} {a : Addr} {xs : List V} (g : HLe H H') (h : RoL K H a xs) : RoL K H' a xs := by
  rcases h with ⟨o, h⟩ | h
  · exact .inl ⟨o, g.frzs _ _ _ h⟩
  · exact .inr h
/-- attributes -/
inductive Flds (T : LT) (K : PySem.W.Frag) (ρ : List Addr) (H : Hp) : List (Str × V) → List (Nat × PV) → Prop
  | nil : Flds T K ρ H [] []
  | cons {f : Nat} {x : Str} {v : V} {m : PV} {gs : List (Str × V)} {fs : List (Nat × PV)} : T.an[f]? = some x → Rep K ρ H v m → Flds T K ρ H gs fs → Flds T K ρ H ((x, v) :: gs) ((f, m) :: fs)
theorem nodup_inj {α : Type} {l : List α} (nd : l.Nodup) {i j : Nat} {x : α} (a : l[i]? = some x) (b : l[j]? = some x) : i = j := by
  obtain ⟨h1, e1⟩ := List.getElem?_eq_some_iff.mp a
  obtain ⟨h2, e2⟩ := List.getElem?_eq_some_iff.mp b
  exact (List.getElem_inj nd).mp (e1.trans e2.symm)
section
variable {T : LT} {K : PySem.W.Frag} {ρ ρ' : List Addr} {H H' : Hp}
theorem Flds.le (r : RLe ρ ρ') (g : HLe H H') : ∀ {gs : List (Str × V)} {fs : List (Nat × PV)}, Flds T K ρ H gs fs → Flds T K ρ' H' gs fs
  | _, _, .nil => .nil
  | _, _, .cons e h t => .cons e (h.le r g) (t.le r g)
theorem Flds.look : ∀ {gs : List (Str × V)} {fs : List (Nat × PV)} {f : Nat} {x : Str} {m : PV}, Flds T K ρ H gs fs → T.an[f]? = some x → fs.lookup f = some m → ∃ v, gs.lookup x = some v ∧ Rep K ρ H v m
  | _, _, _, _, _, .nil, _, e => by simp at e
  | _, _, f, x, m, .cons (f := g) (x := y) (v := v) (m := m') e h t, hx, hl => by
    by_cases c : f = g
    · subst c
      have exy : x = y := Option.some.inj (hx.symm.trans e)
      subst exy
      simp at hl; subst hl
      exact ⟨v, by simp, h⟩
    · have cxy : x ≠ y := fun q => c (nodup_inj T.anNd hx (q ▸ e))
      have c1 : (f == g) = false := by simpa using c
      have c2 : (x == y) = false := by simpa using cxy
      rw [List.lookup_cons, c1] at hl
      obtain ⟨w, h1, h2⟩ := t.look hx hl
      exact ⟨w, by rw [List.lookup_cons, c2]; exact h1, h2⟩
theorem Flds.none_ : ∀ {gs : List (Str × V)} {fs : List (Nat × PV)} {x : Str}, Flds T K ρ H gs fs → x ∉ T.an → gs.lookup x = none
  | _, _, _, .nil, _ => rfl
  | _, _, x, .cons (x := y) e h t, hx => by
    have cxy : x ≠ y := fun q => hx (q ▸ List.mem_of_getElem? e)
    have c2 : (x == y) = false := by simpa using cxy
    rw [List.lookup_cons, c2]
    exact t.none_ hx
theorem Flds.put {f : Nat} {x : Str} {v : V} {m : PV} (hx : T.an[f]? = some x) (r : Rep K ρ H v m) : ∀ {gs : List (Str × V)} {fs : List (Nat × PV)}, Flds T K ρ H gs fs → Flds T K ρ H (putF x v gs) (putN f m fs)
  | _, _, .nil => .cons hx r .nil
  | _, _, .cons (f := g) (x := y) (v := v') (m := m') (gs := gs) (fs := fs) e h t => by
    show Flds T K ρ H (if y = x then (y, v) :: gs else (y, v') :: putF x v gs) (if g = f then (g, m) :: fs else (g, m') :: putN f m fs)
    by_cases c : g = f
    · have c2 : y = x := by subst c; exact Option.some.inj (e.symm.trans hx)
      rw [if_pos c, if_pos c2]
      exact .cons e r t
    · have c2 : y ≠ x := fun q => c (nodup_inj T.anNd e (q ▸ hx))
      rw [if_neg c, if_neg c2]
      exact .cons e h (Flds.put hx r t)
theorem Flds.length : ∀ {gs : List (Str × V)} {fs : List (Nat × PV)}, Flds T K ρ H gs fs → gs.length = fs.length
  | _, _, .nil => rfl
  | _, _, .cons _ _ t => congrArg (· + 1) t.length
end
/-- what stands at an address is what the small heap has -/
def ORep (T : LT) (K : PySem.W.Frag) (ρ : List Addr) (H : Hp) (a : Addr) : MO → Prop
  | .lst ms => ∃ xs, H a = some (.lst xs) ∧ Reps K ρ H xs ms
  | .ro ms => ∃ xs, RoL K H a xs ∧ Reps K ρ H xs ms
  | .ins c fs => ∃ C dx gs, T.ca[c]? = some C ∧ H a = some (.ins C dx gs) ∧ Flds T K ρ H gs fs
/-- may be written -/
def MO.wr : MO → Bool
  | .ro _ => false
  | _ => true
structure HRel (T : LT) (K : PySem.W.Frag) (ρ : List Addr) (H : Hp) (h : MH) : Prop where
  len : ρ.length = h.length
  at_ : ∀ (n : Nat) (o : MO), h[n]? = some o → ∃ a, ρ[n]? = some a ∧ ORep T K ρ H a o
  sep : ∀ (n m : Nat) (o u : MO) (a : Addr), h[n]? = some o → h[m]? = some u → o.wr = true → u.wr = true → ρ[n]? = some a → ρ[m]? = some a → n = m
section
variable {T : LT} {K : PySem.W.Frag} {ρ ρ' : List Addr} {H H' : Hp} {h : MH}
theorem ORep.le (r : RLe ρ ρ') (g : HLe H H') {a : Addr} (e : H' a = H a) : ∀ {o : MO}, ORep T K ρ H a o → ORep T K ρ' H' a o
  | .lst ms, ⟨xs, h1, h2⟩ => ⟨xs, e.trans h1, h2.le r g⟩
  | .ro ms, ⟨xs, h1, h2⟩ => ⟨xs, h1.le g, h2.le r g⟩
  | .ins c fs, ⟨C, dx, gs, h1, h2, h3⟩ => ⟨C, dx, gs, h1, e.trans h2, h3.le r g⟩
theorem ORep.ro_le (r : RLe ρ ρ') (g : HLe H H') {a : Addr} {o : MO} (w : o.wr = false) (x : ORep T K ρ H a o) : ORep T K ρ' H' a o := by
  cases o with
  | ro ms => obtain ⟨xs, h1, h2⟩ := x; exact ⟨xs, h1.le g, h2.le r g⟩
  | _ => cases w
theorem ORep.there {a : Addr} {o : MO} (w : o.wr = true) (x : ORep T K ρ H a o) : ∃ u, H a = some u ∧ Wr u := by
  cases o with
  | lst ms => obtain ⟨xs, h1, _⟩ := x; exact ⟨_, h1, trivial⟩
  | ins c fs => obtain ⟨C, dx, gs, _, h2, _⟩ := x; exact ⟨_, h2, trivial⟩
  | ro ms => cases w
theorem HRel.addr (R : HRel T K ρ H h) {n : Nat} {o : MO} {a : Addr} (e : h[n]? = some o) (ea : ρ[n]? = some a) : ORep T K ρ H a o := by
  obtain ⟨b, h1, h2⟩ := R.at_ n o e
  rw [ea] at h1; cases h1; exact h2
/-- a new object -/
theorem HRel.new (R : HRel T K ρ H h) {p : Addr} {o : MO} (g : HLe H H') (hp : H p = none) (ke : ∀ b, (H b).isSome = true → b ≠ p → H' b = H b)
    (x : ORep T K (ρ ++ [p]) H' p o) : HRel T K (ρ ++ [p]) H' (h ++ [o]) := by
  have old : ∀ (n : Nat) (u : MO), h[n]? = some u → ∃ a, (ρ ++ [p])[n]? = some a ∧ ORep T K (ρ ++ [p]) H' a u := fun n u e => by
    obtain ⟨a, h1, h2⟩ := R.at_ n u e
    refine ⟨a, RLe.snoc _ _ h1, ?_⟩
    cases w : u.wr with
    | false => exact h2.ro_le RLe.snoc g w
    | true =>
      obtain ⟨z, hz, _⟩ := h2.there w
      exact h2.le RLe.snoc g (ke a (by rw [hz]; rfl) (ne_of_none hz hp))
  have split : ∀ (n : Nat) (u : MO), (h ++ [o])[n]? = some u → h[n]? = some u ∨ (n = h.length ∧ u = o) := fun n u e => by
    by_cases c : n < h.length
    · rw [List.getElem?_append_left c] at e; exact .inl e
    · rw [List.getElem?_append_right (by omega)] at e
      have : n - h.length = 0 := by
        obtain ⟨q, _⟩ := List.getElem?_eq_some_iff.mp e
        simp at q; omega
      rw [this] at e; simp at e
      exact .inr ⟨by omega, e.symm⟩
  have lastA : (ρ ++ [p])[h.length]? = some p := by rw [← R.len]; simp
  refine ⟨by simp [R.len], fun n u e => ?_, fun n m u v a e1 e2 w1 w2 a1 a2 => ?_⟩
  · rcases split n u e with q | ⟨q1, q2⟩
    · exact old n u q
    · subst q1 q2; exact ⟨p, lastA, x⟩
  · have notp : ∀ (n : Nat) (u : MO), h[n]? = some u → u.wr = true → (ρ ++ [p])[n]? = some p → False := fun n u e w q => by
      obtain ⟨b, h1, h2⟩ := R.at_ n u e
      have h3 := RLe.snoc (p := p) _ _ h1
      rw [q] at h3; cases h3
      obtain ⟨z, hz, _⟩ := h2.there w
      rw [hp] at hz; cases hz
    rcases split n u e1 with q | ⟨q1, q2⟩
    · rcases split m v e2 with r | ⟨r1, r2⟩
      · obtain ⟨b, h1, _⟩ := R.at_ n u q
        obtain ⟨c, h3, _⟩ := R.at_ m v r
        have z1 := RLe.snoc (p := p) _ _ h1
        have z2 := RLe.snoc (p := p) _ _ h3
        rw [a1] at z1; cases z1
        rw [a2] at z2; cases z2
        exact R.sep n m u v a q r w1 w2 h1 h3
      · subst r1
        rw [lastA] at a2; cases a2
        exact (notp n u q w1 a1).elim
    · subst q1
      rw [lastA] at a1; cases a1
      rcases split m v e2 with r | ⟨r1, r2⟩
      · exact (notp m v r w2 a2).elim
      · exact r1.symm
/-- an object written -/
theorem HRel.write (R : HRel T K ρ H h) {n : Nat} {o o' : MO} {a : Addr} {u : HO} (e : h[n]? = some o) (w : o.wr = true) (w' : o'.wr = true) (ea : ρ[n]? = some a)
    (x : ORep T K ρ (upd H a u) a o') : HRel T K ρ (upd H a u) (h.set n o') := by
  obtain ⟨z, hz, wz⟩ := (R.addr e ea).there w
  have g : HLe H (upd H a u) := HLe.write hz wz
  have hn : n < h.length := (List.getElem?_eq_some_iff.mp e).1
  have split : ∀ (m : Nat) (v : MO), (h.set n o')[m]? = some v → (m = n ∧ v = o') ∨ (m ≠ n ∧ h[m]? = some v) := fun m v q => by
    by_cases c : m = n
    · subst c
      rw [List.getElem?_set_self hn] at q
      exact .inl ⟨rfl, (Option.some.inj q).symm⟩
    · rw [List.getElem?_set_ne (Ne.symm c)] at q
      exact .inr ⟨c, q⟩
  refine ⟨by rw [List.length_set]; exact R.len, fun m v q => ?_, fun m k v y b q1 q2 w1 w2 b1 b2 => ?_⟩
  · rcases split m v q with ⟨rfl, rfl⟩ | ⟨c, q⟩
    · exact ⟨a, ea, x⟩
    · obtain ⟨b, h1, h2⟩ := R.at_ m v q
      refine ⟨b, h1, ?_⟩
      cases wv : v.wr with
      | false => exact h2.ro_le RLe.refl g wv
      | true =>
        have cb : b ≠ a := fun z => c (R.sep m n v o b q e wv w h1 (z ▸ ea))
        exact h2.le RLe.refl g (upd_ne cb)
  · have old : ∀ (m : Nat) (v : MO), (h.set n o')[m]? = some v → v.wr = true → ∃ v', h[m]? = some v' ∧ v'.wr = true := fun m v q wv => by
      rcases split m v q with ⟨rfl, rfl⟩ | ⟨c, q⟩
      · exact ⟨o, e, w⟩
      · exact ⟨v, q, wv⟩
    obtain ⟨v', e1, wv⟩ := old m v q1 w1
    obtain ⟨y', e2, wy⟩ := old k y q2 w2
    exact R.sep m k v' y' b e1 e2 wv wy b1 b2
/-- reading a list -/
theorem HRel.seq (R : HRel T K ρ H h) {n : Nat} {ms : List PV} {a : Addr} (e : seqAt h n = some ms) (ea : ρ[n]? = some a) : ∃ xs, SqL K H a xs ∧ Reps K ρ H xs ms := by
  unfold seqAt at e
  cases q : h[n]? with
  | none => rw [q] at e; cases e
  | some o =>
    rw [q] at e
    cases o with
    | lst ys =>
      cases e
      obtain ⟨xs, h1, h2⟩ := R.addr q ea
      exact ⟨xs, SqL.of h1, h2⟩
    | ro ys =>
      cases e
      obtain ⟨xs, h1, h2⟩ := R.addr q ea
      exact ⟨xs, h1.sq, h2⟩
    | ins _ _ => cases e
end
end Vb

set_option Elab.async false
set_option linter.all false
set_option maxRecDepth 100000
set_option maxHeartbeats 2000000
/-! Defs' promises with the guards known; what the small language's expressions tell, as readings of the hand layer. -/
namespace Vb
open PySem L2 PySem.Spec PyProof.Rows

/-! ### syntax -/
def notStar : Expr → Bool
  | .Starred _ _ => false
  | _ => true
theorem star_cons {e : Expr} {es : List Expr} {env : Env} (h : notStar e = true) : starEach (e :: es) env = (false, eval e env) :: starEach es env := by
  cases e <;> first | rfl | cases h
theorem star_any {pos : Pos} {env : Env} : ∀ {es : List Expr}, es.all notStar = true → (backTo pos (starEach es env)).any (·.1) = false
  | [], _ => rfl
  | e :: es, h => by
    rw [List.all_cons, Bool.and_eq_true] at h
    rw [star_cons h.1]
    show (false || (backTo pos (starEach es env)).any (·.1)) = false
    rw [star_any h.2]
    rfl
theorem star_len {env : Env} : ∀ {es : List Expr}, (starEach es env).length = es.length
  | [] => rfl
  | e :: es => by
    have ih := star_len (env := env) (es := es)
    cases e <;> exact congrArg (· + 1) ih
def notSuper : Expr → Bool
  | .Call (.Name _ _) [] [] _ => false
  | _ => true
theorem base_ok {o : Expr} {f : Str} {env : Env} {w : Sem Value} (h : notSuper o = true) : attributeBase o f env w = w := by
  cases o with
  | Call g as ks p =>
    cases g with
    | Name id q =>
      cases as with
      | nil => cases ks with
        | nil => cases h
        | cons _ _ => rfl
      | cons _ _ => rfl
    | _ => rfl
  | _ => rfl

/-! ### defs -/
structure FnG (P : Program) (w : World) (K : PySem.W.Frag) (mg : Str → Option Value) (base : Heap) (k : Nat) (f : Addr) (fd : FuncData) (ps : List Str) (sp : Sp) : Prop where
  len : ∀ vs H Q E, sp vs H Q E → vs.length = ps.length
  run : ∀ (A : Around) (outer : List Env) (s : Shared) (H : Hp) (args : Args) (us : List Value) (vs : List V) (Q : VK) (E : XK), Room k A → A.guards = some [] → Env0 P w K mg base A outer s H →
    BindsTo s fd args (ps.zip us) → Vals vs us → sp vs H Q E → codeAny (model P w) A (.call (.ref f) args) (CR (L2.CX P w) outer P w H s Q E) s
theorem fng_of {P : Program} {w : World} {K : PySem.W.Frag} {mg : Str → Option Value} {base : Heap} {k : Nat} {f : Addr} {fd : FuncData} {name qual : Str} {params : Arguments} {body : List Stmt} {scope : Scope} {N ps : List Str} {sp : Sp}
    (F : FunD K name qual params body scope [] [] f fd) (S : FnScope N ps scope) (len : ∀ vs H Q E, sp vs H Q E → vs.length = ps.length)
    (hb : ∀ (cdv : Value) (A : Around) (outer : List Env) (s : Shared) (H : Hp) (vs : List V) (Q : VK) (E : XK), Room k (A.deeper (envOfC qual scope s.heap.objs.size f cdv)) → A.guards = some [] → sp vs H Q E →
      ∃ t, PSs (cxOf (L2.CX P w) P w K mg base N qual scope f cdv A outer s H E) body t ∧ t { nx := fun _ H' => Q .non H', rt := Q } (start N vs) H) :
    FnG P w K mg base (k + 1) f fd ps sp := by
  obtain ⟨oc, od, dV, kV, doc, pm, an, cdv, ct, osl, rfl, lk, hcd, _, _⟩ := F.ex
  refine ⟨len, fun A out s H args us vs Q E room gds en bnd rel prom => ?_⟩
  have hlen := len _ _ _ _ prom
  have inK : K.In s.heap := en.mod.kin.keeps fun c u q => (en.bs c u q).1
  have noL : s.heap.NoLimit := en.mod.nolimit.keeps fun c u q => (en.bs c u q).1
  have kinds : ∀ z ∈ ps.zip us, scope.names.lookup z.1 = some .local ∨ (scope.names.lookup z.1 = some .cell ∧ ((cellsFrom (s.heap.objs.size + 1) scope.names []).lookup z.1).isSome = true) := by
    rintro ⟨x, u⟩ hz
    rcases S.par x (List.of_mem_zip hz).1 with c | c
    · exact Or.inl c
    · exact Or.inr ⟨c, PySem.W.cellsFrom_some _ _ _ (Or.inl c)⟩
  refine codeAny_call_function room.depth (inK _ _ lk) rfl S.co S.gen rfl (PySem.W.codeRec_of inK hcd) (bnd _ _ _ _ ?_)
  refine wpAny_newFunctionEnv_cells S.kind kinds fun env eqv s2 made => ?_
  subst eqv
  refine ⟨noL.keeps made.toInCall.keep, codeAny_func ?_⟩
  obtain ⟨t, pt, tq⟩ := hb cdv A out s H vs Q E (room.deeper _) gds prom
  have inv0 := inv_start (CX := L2.CX P w) (E := E) S room.hd en hlen rel made
  have close : ∀ {τ : L2.St} {G : Hp} {y : V} {u : Value} {s3 : Shared}, Inv (cxOf (L2.CX P w) P w K mg base N qual scope f cdv A out s H E) [] τ G s3 → RelV y u → Q y G → CE out P w H s Q u s3 :=
    fun {τ G y u s3} J ry qy => ⟨y, G, J.os, J.bare, J.base, J.hok, ry, qy⟩
  refine wpAny_mono (pt.run [] s2 (start N vs) H _ inv0 tq) (fun fl s3 hs => ?_) fun e s3 hs => hs
  cases fl with
  | next => obtain ⟨τ, G, J, q⟩ := hs; exact close (y := V.non) (u := Value.none) J rfl q
  | ret u => obtain ⟨y, τ, G, J, ry, q⟩ := hs; exact close J ry q
  | brk => obtain ⟨_, _, _, q⟩ := hs; exact q.elim
  | cont => obtain ⟨_, _, _, q⟩ := hs; exact q.elim
section
variable {X : Cx} {W : WX} {k : Nat} {f C : Addr} {fd : FuncData} {ps : List Str} {sp : Sp}
theorem run_g {pins : List (Addr × Obj)} {σ : L2.St} {H : Hp} {s : Shared} {Q : VK} {us : List Value} {vs : List V} (F : FnG X.prog X.w X.K X.mg X.base k f fd ps sp) (hr : Room k X.A) (hg : X.A.guards = some []) (hb : Binds X.K fd ps []) (tk : Takes X W)
    (I : Inv X pins σ H s) (r : Vals vs us) (h : sp vs H Q fun cls d H' => W cls d σ H') : wpAny (model X.prog X.w) X.A (call (.ref f) us) (EP X pins σ Q) X.xe s := by
  have b := hb s us I.kIn (by rw [List.append_nil, ← r.length]; exact F.len _ _ _ _ h)
  rw [List.append_nil] at b
  refine wpAny_call (codeAny_mono (F.run X.A X.stack s H ⟨us, []⟩ us vs Q _ hr hg I.env0 b r h) fun res s2 hq => ?_)
  cases res with
  | ok fl =>
    cases fl with
    | ret u => exact I.after hq
    | next => exact hq.elim
    | brk => exact hq.elim
    | cont => exact hq.elim
  | error e => exact passAt tk σ pins H s e s2 I hq
theorem run_mkg {pins : List (Addr × Obj)} {σ : L2.St} {H : Hp} {s : Shared} {Q : VK} {us : List Value} {vs : List V} (M : Mk X.K C f) (F : FnG X.prog X.w X.K X.mg X.base k f fd ps sp) (hr : Room (k + 1) X.A) (hg : X.A.guards = some []) (hb : Binds X.K fd ps [])
    (tk : Takes X W) (I : Inv X pins σ H s) (r : Vals vs us)
    (h : ∀ x dx, H x = none → H dx = none → dx ≠ x → sp (.ref x :: vs) (upd (upd H dx (.own x)) x (.ins C dx [])) (fun v H2 => v = .non ∧ Q (.ref x) H2) fun cls d H' => W cls d σ H') :
    wpAny (model X.prog X.w) X.A (call (.ref C) us) (EP X pins σ Q) X.xe s := by
  have prom := h (s.heap.objs.size + 1) s.heap.objs.size (I.hok.fresh (Nat.le_succ _)) (I.hok.fresh (Nat.le_refl _)) (Nat.ne_of_lt (Nat.lt_succ_self _))
  have J := Inv.made (C := C) I
  have rel : Vals (V.ref (s.heap.objs.size + 1) :: vs) (Value.ref (s.heap.objs.size + 1) :: us) := .cons rfl r
  have b := hb _ (Value.ref (s.heap.objs.size + 1) :: us) J.kIn (by rw [List.append_nil, ← rel.length]; exact F.len _ _ _ _ prom)
  rw [List.append_nil] at b
  have gds : (X.A.under (.builtin "type.__call__" ⟨.ref C :: us, []⟩)).guards = some [] := by
    have e : (X.A.under (.builtin "type.__call__" ⟨.ref C :: us, []⟩)).guards = PySem.pushGuards (Code.guards (.builtin "type.__call__" ⟨.ref C :: us, []⟩)) X.A.guards := rfl
    rw [e, hg]; rfl
  refine wpAny_call (make_map (f := f) I.kIn M.makes M.init (beq_iff_eq.mp M.fn) (codeAny_mono (F.run _ X.stack _ _ ⟨Value.ref (s.heap.objs.size + 1) :: us, []⟩ _ _ _ _ (hr.make C us []) gds (J.env0.make C us []) b rel prom) fun res s2 hq => ?_))
  cases res with
  | ok fl =>
    cases fl with
    | ret u =>
      obtain ⟨y, G, J2, ry, ey, q2⟩ := J.after hq
      subst ey
      exact ⟨ry, ⟨V.ref (s.heap.objs.size + 1), G, J2, rfl, q2⟩⟩
    | next => exact hq.elim
    | brk => exact hq.elim
    | cont => exact hq.elim
  | error e => exact passAt tk σ pins _ _ e s2 J hq
end
end Vb

set_option Elab.async false
set_option linter.all false
set_option maxRecDepth 100000
set_option maxHeartbeats 2000000
/-! What expressions of the small language tell, as readings: the joints, operators. -/
namespace Vb
open PySem L2 PySem.Spec PyProof.Rows

structure LRel (K : PySem.W.Frag) (ρ : List Addr) (H : Hp) (σ : L2.St) (lo : Lo) : Prop where
  len : σ.length = lo.length
  get : ∀ (i : Nat) (m : PV), lo[i]? = some (some m) → ∃ v, σ[i]? = some (some v) ∧ Rep K ρ H v m
/-- an exception on its way -/
def ERep (T : LT) (K : PySem.W.Frag) (ρ : List Addr) (H : Hp) (cls : Value) (d : Option Addr) (e : Ex) : Prop :=
  ∃ C, T.xa[e.c]? = some C ∧ cls = .ref C ∧ match e.fs with
    | [] => True
    | [(f, m)] => ∃ dd x v, d = some dd ∧ T.an[f]? = some x ∧ H dd = some (.xd [(x, v)]) ∧ Rep K ρ H v m
    | _ => False
section
variable {T : LT} {K : PySem.W.Frag} {ρ ρ' : List Addr} {H H' : Hp} {σ : L2.St} {lo : Lo} {h : MH}
theorem LRel.le (r : RLe ρ ρ') (g : HLe H H') (l : LRel K ρ H σ lo) : LRel K ρ' H' σ lo :=
  ⟨l.len, fun i m e => let ⟨v, h1, h2⟩ := l.get i m e; ⟨v, h1, h2.le r g⟩⟩
theorem LRel.set (l : LRel K ρ H σ lo) {v : V} {m : PV} (r : Rep K ρ H v m) (i : Nat) : LRel K ρ H (σ.set i (some v)) (lo.set i (some m)) := by
  refine ⟨by rw [List.length_set, List.length_set]; exact l.len, fun j n e => ?_⟩
  by_cases c : i = j
  · subst c
    have hi : i < lo.length := by
      by_cases q : i < lo.length
      · exact q
      · rw [List.getElem?_eq_none (by rw [List.length_set]; omega)] at e; cases e
    rw [List.getElem?_set_self hi] at e
    cases e
    exact ⟨v, List.getElem?_set_self (by rw [l.len]; exact hi), r⟩
  · rw [List.getElem?_set_ne c] at e
    obtain ⟨w, h1, h2⟩ := l.get j n e
    exact ⟨w, by rw [List.getElem?_set_ne c]; exact h1, h2⟩
theorem LRel.unset (l : LRel K ρ H σ lo) (i : Nat) : LRel K ρ H (σ.set i none) (lo.set i none) := by
  refine ⟨by rw [List.length_set, List.length_set]; exact l.len, fun j n e => ?_⟩
  by_cases c : i = j
  · subst c
    have hi : i < lo.length := by
      by_cases q : i < lo.length
      · exact q
      · rw [List.getElem?_eq_none (by rw [List.length_set]; omega)] at e; cases e
    rw [List.getElem?_set_self hi] at e
    cases e
  · rw [List.getElem?_set_ne c] at e
    obtain ⟨w, h1, h2⟩ := l.get j n e
    exact ⟨w, by rw [List.getElem?_set_ne c]; exact h1, h2⟩
theorem LRel.wipe (l : LRel K ρ H σ lo) : ∀ vs : List Nat, LRel K ρ H (L2.wipe σ vs) (wipeL lo vs)
  | [] => l
  | v :: vs => (LRel.wipe l vs).unset v
theorem LRel.start {vs : List V} {ms : List PV} (r : Reps K ρ H vs ms) (N : List Str) : LRel K ρ H (L2.start N vs) (ms.map some ++ List.replicate (N.length - ms.length) none) := by
  have hl := r.length
  refine ⟨by unfold L2.start; simp [hl], fun i m e => ?_⟩
  by_cases c : i < ms.length
  · rw [List.getElem?_append_left (by simpa using c)] at e
    have e2 : ms[i]? = some m := by simpa using e
    obtain ⟨v, h1, h2⟩ := r.get e2
    refine ⟨v, ?_, h2⟩
    unfold L2.start
    rw [List.getElem?_append_left (by simp; omega)]
    simpa using h1
  · rw [List.getElem?_append_right (by simpa using c)] at e
    have e3 := List.mem_of_getElem? e
    simp at e3

/-! ### joints -/
def Post (T : LT) (K : PySem.W.Frag) (ρ : List Addr) (H : Hp) {α : Type} (r : Res α) (Q : List Addr → Hp → MH → α → Prop) (W : Value → Option Addr → Hp → Prop) : Prop := match r with
  | .ok a h => ∀ ρ' H', RLe ρ ρ' → HLe H H' → HRel T K ρ' H' h → Q ρ' H' h a
  | .ex e h => ∀ ρ' H' cls d, RLe ρ ρ' → HLe H H' → HRel T K ρ' H' h → ERep T K ρ' H' cls d e → W cls d H'
  | .no => False
variable {α β : Type} {Q Q' : List Addr → Hp → MH → α → Prop} {W : Value → Option Addr → Hp → Prop}
theorem Post.bind {r : Res α} {f : α → MH → Res β} {Q : List Addr → Hp → MH → β → Prop} (p : Post T K ρ H (r.bind f) Q W) : Post T K ρ H r (fun ρ1 H1 h1 a => Post T K ρ1 H1 (f a h1) Q W) W := by
  cases r with
  | ok a h1 =>
    intro ρ1 H1 r1 g1 _
    have p' : Post T K ρ H (f a h1) Q W := p
    show Post T K ρ1 H1 (f a h1) Q W
    cases q : f a h1 with
    | ok b h2 => rw [q] at p'; exact fun ρ2 H2 r2 g2 R => p' ρ2 H2 (r1.trans r2) (g1.trans g2) R
    | ex e h2 => rw [q] at p'; exact fun ρ2 H2 c d r2 g2 R E => p' ρ2 H2 c d (r1.trans r2) (g1.trans g2) R E
    | no => rw [q] at p'; exact p'
  | ex e h1 => exact p
  | no => exact p
theorem Post.imp {r : Res α} {W' : Value → Option Addr → Hp → Prop} (p : Post T K ρ H r Q W) (k : ∀ ρ1 H1 h1 a, RLe ρ ρ1 → HLe H H1 → HRel T K ρ1 H1 h1 → Q ρ1 H1 h1 a → Q' ρ1 H1 h1 a) (w : ∀ c d H', W c d H' → W' c d H') : Post T K ρ H r Q' W' := by
  cases r with
  | ok a h1 => exact fun ρ1 H1 r1 g1 R => k ρ1 H1 h1 a r1 g1 R (p ρ1 H1 r1 g1 R)
  | ex e h1 => exact fun ρ1 H1 c d r1 g1 R E => w _ _ _ (p ρ1 H1 c d r1 g1 R E)
  | no => exact p
theorem Post.then {r : Res α} (p : Post T K ρ H r Q W) (k : ∀ ρ1 H1 h1 a, RLe ρ ρ1 → HLe H H1 → HRel T K ρ1 H1 h1 → Q ρ1 H1 h1 a → Q' ρ1 H1 h1 a) : Post T K ρ H r Q' W := p.imp k fun _ _ _ x => x
theorem Post.move {r : Res α} (p : Post T K ρ H r Q W) (a : RLe ρ ρ') (b : HLe H H') : Post T K ρ' H' r Q W := by
  cases r with
  | ok x h1 => exact fun ρ1 H1 r1 g1 R => p ρ1 H1 (a.trans r1) (b.trans g1) R
  | ex e h1 => exact fun ρ1 H1 c d r1 g1 R E => p ρ1 H1 c d (a.trans r1) (b.trans g1) R E
  | no => exact p
theorem Post.here {a : α} (R : HRel T K ρ H h) (p : Post T K ρ H (.ok a h) Q W) : Q ρ H h a := p ρ H RLe.refl HLe.refl R
theorem Post.opt {o : Option α} (R : HRel T K ρ H h) (p : Post T K ρ H (ofOpt h o) Q W) : ∃ a, o = some a ∧ Q ρ H h a := by
  cases o with
  | none => exact p.elim
  | some a => exact ⟨a, rfl, p.here R⟩
/-- a new object at a free place -/
theorem Post.fresh {o : MO} {Q : List Addr → Hp → MH → PV → Prop} (R : HRel T K ρ H h) (p : Post T K ρ H (newObj o h) Q W) {a : Addr} {u : HO} (ha : H a = none) (x : ∀ ρ', RLe ρ ρ' → ORep T K ρ' (upd H a u) a o) :
    Q (ρ ++ [a]) (upd H a u) (h ++ [o]) (.ref h.length) ∧ Rep K (ρ ++ [a]) (upd H a u) (.ref a) (.ref h.length) :=
  ⟨p _ _ RLe.snoc (HLe.new ha) (R.new (HLe.new ha) ha (fun b _ c => upd_ne c) (x _ RLe.snoc)), .ref (by rw [← R.len]; simp)⟩
/-- a new tuple at a free place -/
theorem HRel.keep (R : HRel T K ρ H h) {a : Addr} {u : HO} (ha : H a = none) : HRel T K ρ (upd H a u) h := by
  refine ⟨R.len, fun n o e => ?_, R.sep⟩
  obtain ⟨b, h1, h2⟩ := R.at_ n o e
  refine ⟨b, h1, ?_⟩
  cases w : o.wr with
  | false => exact h2.ro_le RLe.refl (HLe.new ha) w
  | true =>
    obtain ⟨z, hz, _⟩ := h2.there w
    exact h2.le RLe.refl (HLe.new ha) (upd_ne (ne_of_none hz ha))
theorem Post.tuple {ms : List PV} {xs : List V} {Q : List Addr → Hp → MH → PV → Prop} (R : HRel T K ρ H h) (p : Post T K ρ H (.ok (.tup ms) h) Q W) {a : Addr} (ha : H a = none) (r : Reps K ρ H xs ms) :
    Q ρ (upd H a (.tup xs)) h (.tup ms) ∧ Rep K ρ (upd H a (.tup xs)) (.ref a) (.tup ms) :=
  ⟨p _ _ RLe.refl (HLe.new ha) (R.keep ha), .tup (.inl (.inl upd_same)) (r.le RLe.refl (HLe.new ha))⟩
end

/-! ### readings -/
section
variable (T : LT) (K : PySem.W.Frag) (C : CB) (W : WX)
def tE (m : E) : TE := fun σ H Q => ∃ ρ lo h, HRel T K ρ H h ∧ LRel K ρ H σ lo ∧ Post T K ρ H (evalE C m lo h) (fun ρ' H' _ v => ∀ x, Rep K ρ' H' x v → Q x H') fun c d H' => W c d σ H'
def tEs (ms : List E) : TA := fun σ H Q => ∃ ρ lo h, HRel T K ρ H h ∧ LRel K ρ H σ lo ∧ Post T K ρ H (evalEs C ms lo h) (fun ρ' H' _ vs => ∀ xs, Reps K ρ' H' xs vs → Q xs H') fun c d H' => W c d σ H'
def tT (m : E) : TT := fun σ H Q => ∃ ρ lo h, HRel T K ρ H h ∧ LRel K ρ H σ lo ∧ Post T K ρ H (evalT C m lo h) (fun _ H' _ b => Q b H') fun c d H' => W c d σ H'
def tOI (m : Option E) : TO := fun σ H Q => ∃ ρ lo h, HRel T K ρ H h ∧ LRel K ρ H σ lo ∧ Post T K ρ H (evalO C m lo h) (fun _ H' _ b => Q b H') fun c d H' => W c d σ H'
end
abbrev ME (X : Cx) (T : LT) (C : CB) (W : WX) (e : Expr) (m : E) : Prop := PE X e (tE T X.K C W m)
abbrev MEs (X : Cx) (T : LT) (C : CB) (W : WX) (es : List Expr) (ms : List E) : Prop := PA X es (tEs T X.K C W ms)
abbrev MT (X : Cx) (T : LT) (C : CB) (W : WX) (e : Expr) (m : E) : Prop := PT X e (tT T X.K C W m)
abbrev MO_ (X : Cx) (T : LT) (C : CB) (W : WX) (e : Option Expr) (m : Option E) : Prop := PO X e (tOI T X.K C W m)
section
variable {X : Cx} {T : LT} {C : CB} {W : WX}
theorem weakE {e : Expr} {t t' : TE} (p : PE X e t) (k : ∀ σ H Q, t' σ H Q → t σ H Q) : PE X e t' := ⟨fun pins s σ H Q I q => p.run pins s σ H Q I (k σ H Q q)⟩
theorem weakT {e : Expr} {t t' : TT} (p : PT X e t) (k : ∀ σ H Q, t' σ H Q → t σ H Q) : PT X e t' := ⟨fun pins s σ H Q I q => p.run pins s σ H Q I (k σ H Q q)⟩
theorem weakA {e : List Expr} {t t' : TA} (p : PA X e t) (k : ∀ σ H Q, t' σ H Q → t σ H Q) : PA X e t' := ⟨fun pos pins s σ H Q I q => p.run pos pins s σ H Q I (k σ H Q q)⟩
theorem weakO {e : Option Expr} {t t' : TO} (p : PO X e t) (k : ∀ σ H Q, t' σ H Q → t σ H Q) : PO X e t' := ⟨fun pins s σ H Q I q => p.run pins s σ H Q I (k σ H Q q)⟩

theorem me_never {e : Expr} : ME X T C W e .never := ⟨fun pins s σ H Q I q => by
  obtain ⟨ρ, lo, h, _, _, p⟩ := q
  exact p.elim⟩
theorem mt_never {e : Expr} : MT X T C W e .never := ⟨fun pins s σ H Q I q => by
  obtain ⟨ρ, lo, h, _, _, p⟩ := q
  exact p.elim⟩
theorem getLo_some {lo : Lo} {i : Nat} {v : PV} (h : getLo lo i = some v) : lo[i]? = some (some v) := by
  unfold getLo at h
  split at h
  · rename_i w e; cases h; exact e
  · cases h
theorem me_var {i : Nat} {x : Str} {pos : Pos} (hN : X.N[i]? = some x) (hv : Vis X.env.scope x) (hd : (x == ("__debug__" : Str)) = false) (hcd : (x == ("__classdict__" : Str)) = false) : ME X T C W (.Name x pos) (.var i) :=
  weakE (pe_var hN hv hd hcd) fun σ H Q ⟨ρ, lo, h, R, l, p⟩ => by
    obtain ⟨v, e, q⟩ := Post.opt R p
    obtain ⟨y, h1, h2⟩ := l.get i v (getLo_some e)
    exact ⟨y, h1, q y h2⟩
theorem me_int {i j pos} : ME X T C W (.Constant (.int i) j pos) (.cst (.int i)) := weakE pe_int fun σ H Q ⟨ρ, lo, h, R, l, p⟩ => p.here R _ (.int i)
theorem me_bl {b j pos} : ME X T C W (.Constant (.bool b) j pos) (.cst (.bl b)) := weakE pe_bl fun σ H Q ⟨ρ, lo, h, R, l, p⟩ => p.here R _ (.bl b)
theorem me_non {j pos} : ME X T C W (.Constant .none j pos) (.cst .non) := weakE pe_non fun σ H Q ⟨ρ, lo, h, R, l, p⟩ => p.here R _ .non
theorem me_str {x j pos} : ME X T C W (.Constant (.str x) j pos) (.cst (.str x)) := weakE pe_str fun σ H Q ⟨ρ, lo, h, R, l, p⟩ => p.here R _ (.str x)
/-- a constant of the module -/
theorem me_glob {x : Str} {v : V} {m : PV} {u : Value} {pos : Pos} (hg : Gl X x) (hm : X.mg x = some u) (r : RelV v u) (rep : ∀ ρ H, Rep X.K ρ H v m) (hd : (x == ("__debug__" : Str)) = false) : ME X T C W (.Name x pos) (.cst m) :=
  weakE (pe_glob hg hm r hd) fun σ H Q ⟨ρ, lo, h, R, l, p⟩ => p.here R _ (rep ρ H)

/-! ### operators -/
def pyB : BOp → Operator
  | .add => .Add
  | .sub => .Sub
  | .mul => .Mult
  | .fdiv => .FloorDiv
  | .mod => .Mod
  | .pow => .Pow
def rBin (T : LT) (K : PySem.W.Frag) (op : BOp) : R2 := fun x y H Q => ∃ ρ h a b W, HRel T K ρ H h ∧ Rep K ρ H x a ∧ Rep K ρ H y b ∧ Post T K ρ H (binS op a b h) (fun ρ' H' _ v => ∀ z, Rep K ρ' H' z v → Q z H') W
theorem log2_small {j : Int} (h0 : 0 < j) (h1 : j < 2 ^ 63) : j.natAbs.log2 < 9000 := by
  have e : j.natAbs < 2 ^ 63 := by omega
  exact Nat.lt_of_lt_of_le (PySem.Flt.log2_lt_of (by omega) e) (by decide)
theorem big64_ok {i : Int} (h : big64 i = true) : -(2 ^ 64) < i ∧ i < 2 ^ 64 := by
  unfold big64 at h
  rw [Bool.and_eq_true, decide_eq_true_eq, decide_eq_true_eq] at h
  exact h
theorem if_post {K : PySem.W.Frag} {ρ : List Addr} {H : Hp} {α : Type} {c : Prop} [Decidable c] {r : Res α} {Q : List Addr → Hp → MH → α → Prop} {W : Value → Option Addr → Hp → Prop} (p : Post T K ρ H (if c then r else .no) Q W) : c ∧ Post T K ρ H r Q W := by
  by_cases hc : c
  · rw [if_pos hc] at p; exact ⟨hc, p⟩
  · rw [if_neg hc] at p; exact p.elim
theorem if_post' {K : PySem.W.Frag} {ρ : List Addr} {H : Hp} {α : Type} {c : Prop} {d : Decidable c} {r : Res α} {Q : List Addr → Hp → MH → α → Prop} {W : Value → Option Addr → Hp → Prop} (p : Post T K ρ H (@ite _ c d r .no) Q W) : c ∧ Post T K ρ H r Q W := if_post p
theorem op_bin {op : BOp} : OpR X (binaryOp (pyB op)) (rBin T X.K op) := by
  intro pins s σ H x y v u Q I rx ry q
  obtain ⟨ρ, h, a, b, W, R, ra, rb, p⟩ := q
  cases op with
  | add =>
    cases ra with
    | int i =>
      cases rb with
      | int j => exact op_add pins s σ H _ _ v u Q I rx ry ⟨i, j, rfl, rfl, p.here R _ (.int _)⟩
      | _ => exact p.elim
    | str i =>
      cases rb with
      | str j =>
        obtain ⟨c, p⟩ := if_post p
        exact op_add_str pins s σ H _ _ v u Q I rx ry ⟨i, j, rfl, rfl, c, p.here R _ (.str _)⟩
      | _ => exact p.elim
    | @tup a1 xs1 ms1 h1 h2 =>
      cases rb with
      | @tup a2 xs2 ms2 g1 g2 =>
        obtain ⟨c, p⟩ := if_post p
        have r3 := h2.append g2
        refine op_catA pins s σ H _ _ v u Q I rx ry ⟨_, _, _, _, rfl, rfl, h1, g1, ?_, ?_⟩
        · rw [h2.length, g2.length]; exact c
        · refine ⟨fun e => ?_, fun _ e => ?_, fun _ _ q hq => ?_⟩
          · subst e
            have z : ms1 = [] := by have := h2.length; simp at this; exact List.length_eq_zero_iff.mp this.symm
            subst z
            exact p.here R _ (.tup g1 g2)
          · subst e
            have z : ms2 = [] := by have := g2.length; simp at this; exact List.length_eq_zero_iff.mp this.symm
            subst z
            rw [List.append_nil] at p
            exact p.here R _ (.tup h1 h2)
          · obtain ⟨k, rep⟩ := Post.tuple R p hq r3
            exact k _ rep
      | _ => exact p.elim
    | @ref a1 n1 h1 =>
      cases rb with
      | @ref a2 n2 g1 =>
        have p' : Post T X.K ρ H (match h[n1]?, h[n2]? with
          | some (.lst xs), some (.lst ys) => if xs.length + ys.length ≤ sizeLine then newObj (.lst (xs ++ ys)) h else .no
          | _, _ => .no) (fun ρ' H' _ v => ∀ z, Rep X.K ρ' H' z v → Q z H') W := p
        split at p'
        · rename_i xs ys e1 e2
          obtain ⟨c, p'⟩ := if_post p'
          obtain ⟨vs, o1, o2⟩ := R.addr e1 h1
          obtain ⟨ws, o3, o4⟩ := R.addr e2 g1
          refine op_cat pins s σ H _ _ v u Q I rx ry ⟨_, _, _, _, rfl, rfl, o1, o3, by rw [o2.length, o4.length]; exact c, fun q hq => ?_⟩
          obtain ⟨k, rep⟩ := Post.fresh (u := .lst (vs ++ ws)) R p' hq fun ρ' r => ⟨_, upd_same, (o2.append o4).le r (HLe.new hq)⟩
          exact k _ rep
        · exact p'.elim
      | _ => exact p.elim
    | _ => exact p.elim
  | sub =>
    cases ra with
    | int i =>
      cases rb with
      | int j => exact op_sub pins s σ H _ _ v u Q I rx ry ⟨i, j, rfl, rfl, p.here R _ (.int _)⟩
      | _ => exact p.elim
    | _ => exact p.elim
  | mul =>
    cases ra with
    | int i =>
      cases rb with
      | int j =>
        obtain ⟨c, p⟩ := if_post p
        exact op_mul pins s σ H _ _ v u Q I rx ry ⟨i, j, rfl, rfl, c.imp big64_ok big64_ok, p.here R _ (.int _)⟩
      | _ => exact p.elim
    | _ => exact p.elim
  | fdiv =>
    cases ra with
    | int i =>
      cases rb with
      | int j =>
        obtain ⟨c, p⟩ := if_post p
        exact op_fdivW pins s σ H _ _ v u Q I rx ry ⟨i, j, rfl, rfl, ⟨c.1, log2_small c.1 c.2⟩, p.here R _ (.int _)⟩
      | _ => exact p.elim
    | _ => exact p.elim
  | mod =>
    cases ra with
    | int i =>
      cases rb with
      | int j =>
        obtain ⟨c, p⟩ := if_post p
        exact op_mod pins s σ H _ _ v u Q I rx ry ⟨i, j, rfl, rfl, c, p.here R _ (.int _)⟩
      | _ => exact p.elim
    | _ => exact p.elim
  | pow =>
    cases ra with
    | int i =>
      cases rb with
      | int j =>
        obtain ⟨c, p⟩ := if_post p
        exact op_pow pins s σ H _ _ v u Q I rx ry ⟨i, j, rfl, rfl, ⟨c.1, by omega, c.2.2⟩, p.here R _ (.int _)⟩
      | _ => exact p.elim
    | _ => exact p.elim
end
end Vb

set_option Elab.async false
set_option linter.all false
set_option maxRecDepth 100000
set_option maxHeartbeats 2000000
/-! Comparisons, truth, subscripts, built-ins of the small language. -/
namespace Vb
open PySem L2 PySem.Spec PyProof.Rows
section
variable {X : Cx} {T : LT} {C : CB} {W : WX} {K : PySem.W.Frag} {ρ : List Addr} {H : Hp} {h : MH}
/-! ### data -/
theorem data_tup {n : Nat} {xs : List PV} {d : PyData} (e : data h (n + 1) (.tup xs) = some d) : ∃ ds, optAll (data h n) xs = some ds ∧ d = .tuple ds := by
  simp only [data] at e
  cases q : optAll (data h n) xs with
  | none => rw [q] at e; cases e
  | some ds => rw [q] at e; cases e; exact ⟨ds, rfl, rfl⟩
theorem data_ref {n r : Nat} {d : PyData} (e : data h (n + 1) (.ref r) = some d) : ∃ xs ds, seqAt h r = some xs ∧ optAll (data h n) xs = some ds ∧ d = .list ds := by
  simp only [data] at e
  cases q : seqAt h r with
  | none => rw [q] at e; cases e
  | some xs =>
    rw [q] at e
    cases q2 : optAll (data h n) xs with
    | none => simp only [q2] at e; cases e
    | some ds => simp only [q2] at e; cases e; exact ⟨xs, ds, rfl, q2, rfl⟩
theorem dpAll_of {f : PV → Option PyData} (hf : ∀ x m d, Rep K ρ H x m → f m = some d → Dp K H x d) : ∀ {xs : List V} {ms : List PV} {ds : List PyData}, Reps K ρ H xs ms → optAll f ms = some ds → DpAll K H xs ds
  | _, _, _, .nil, e => by cases optAll_nil e; exact .nil
  | _, _, _, .cons r t, e => by
    obtain ⟨y, zs, e1, e2, rfl⟩ := optAll_cons e
    exact .cons (hf _ _ _ r e1) (dpAll_of hf t e2)
theorem data_dp (R : HRel T K ρ H h) : ∀ (n : Nat) (x : V) (m : PV) (d : PyData), Rep K ρ H x m → data h n m = some d → Dp K H x d
  | 0, x, m, d, r, e => by
    cases r with
    | non => simp only [data] at e; cases e; exact .non
    | bl b => simp only [data] at e; cases e; exact .bl b
    | int i => simp only [data] at e; cases e; exact .int i
    | str y => simp only [data] at e; cases e; exact .str y
    | tup _ _ => simp only [data] at e; cases e
    | ref _ => simp only [data] at e; cases e
  | n + 1, x, m, d, r, e => by
    cases r with
    | non => simp only [data] at e; cases e; exact .non
    | bl b => simp only [data] at e; cases e; exact .bl b
    | int i => simp only [data] at e; cases e; exact .int i
    | str y => simp only [data] at e; cases e; exact .str y
    | tup hs rs =>
      obtain ⟨ds, e1, rfl⟩ := data_tup e
      exact .tup hs (dpAll_of (data_dp R n) rs e1)
    | ref ha =>
      obtain ⟨ys, ds, e0, e1, rfl⟩ := data_ref e
      obtain ⟨zs, hz, rs⟩ := R.seq e0 ha
      exact .lst hz (dpAll_of (data_dp R n) rs e1)
theorem depthAll_of {f : PV → Option PyData} {n : Nat} (hf : ∀ m d, f m = some d → d.depth ≤ n) : ∀ {ms : List PV} {ds : List PyData}, optAll f ms = some ds → PyData.depthAll ds ≤ n
  | [], _, e => by cases optAll_nil e; simp [PyData.depthAll]
  | m :: ms, _, e => by
    obtain ⟨y, zs, e1, e2, rfl⟩ := optAll_cons e
    simp only [PyData.depthAll]
    exact Nat.max_le.mpr ⟨hf _ _ e1, depthAll_of hf e2⟩
theorem data_depth : ∀ (n : Nat) (m : PV) (d : PyData), data h n m = some d → d.depth ≤ n
  | 0, m, d, e => by
    cases m with
    | tup _ => simp only [data] at e; cases e
    | ref _ => simp only [data] at e; cases e
    | _ => simp only [data] at e; cases e; simp [PyData.depth]
  | n + 1, m, d, e => by
    cases m with
    | tup xs =>
      obtain ⟨ds, e1, rfl⟩ := data_tup e
      simp only [PyData.depth]
      have := depthAll_of (data_depth n) e1
      omega
    | ref r =>
      obtain ⟨ys, ds, e0, e1, rfl⟩ := data_ref e
      simp only [PyData.depth]
      have := depthAll_of (data_depth n) e1
      omega
    | _ => simp only [data] at e; cases e; simp [PyData.depth]
theorem cmp_ok (R : HRel T K ρ H h) {x : V} {m : PV} {d : PyData} (r : Rep K ρ H x m) (e : cmpData h m = some d) : Dp K H x d ∧ SeqAt.shaped d = true := by
  unfold cmpData at e
  split at e
  · rename_i d' e'
    split at e
    · rename_i c
      cases e
      refine ⟨data_dp R _ _ _ _ r e', ?_⟩
      unfold SeqAt.shaped
      rw [c, decide_eq_true (Nat.le_trans (data_depth _ _ _ e') (by decide))]
      rfl
    · cases e
  · cases e

/-! ### comparisons -/
def pyC : COp → CmpOp
  | .eq => .Eq
  | .ne => .NotEq
  | .lt => .Lt
  | .le => .LtE
  | .gt => .Gt
  | .ge => .GtE
  | .isn => .Is
  | .notn => .IsNot
  | .in_ => .In
  | .nin => .NotIn
def rCmp (T : LT) (K : PySem.W.Frag) (op : COp) : R2 := fun x y H Q => ∃ ρ h a b c, HRel T K ρ H h ∧ Rep K ρ H x a ∧ Rep K ρ H y b ∧ cmpS op a b h = some c ∧ Q (.bl c) H
theorem pvV_eq {x : V} {m : PV} {v : V} (r : Rep K ρ H x m) (e : pvV m = some v) : x = v ∧ flatV x = true := by
  cases r <;> simp only [pvV] at e <;> cases e <;> exact ⟨rfl, rfl⟩
theorem pvVs_eq : ∀ {xs : List V} {ms : List PV} {vs : List V}, Reps K ρ H xs ms → optAll pvV ms = some vs → xs = vs ∧ xs.all flatV = true
  | _, _, _, .nil, e => by cases optAll_nil e; exact ⟨rfl, rfl⟩
  | _, _, _, .cons r t, e => by
    obtain ⟨y, zs, e1, e2, rfl⟩ := optAll_cons e
    obtain ⟨h1, h2⟩ := pvV_eq r e1
    obtain ⟨h3, h4⟩ := pvVs_eq t e2
    exact ⟨by rw [h1, h3], by rw [List.all_cons, h2, h4]; rfl⟩
/-- in, by the container -/
theorem isIn_ok (hu : X.A.units + 65 < cLine) {pins : List (Addr × Obj)} {s : Shared} {σ : L2.St} {x y : V} {v u : Value} {Q : VK} {ρ : List Addr} {H : Hp} {h : MH} {a b : PV} {c : Bool} (neg : Bool) (I : L2.Inv X pins σ H s) (rx : L2.RelV x v) (ry : L2.RelV y u)
    (R : HRel T X.K ρ H h) (ra : Rep X.K ρ H x a) (rb : Rep X.K ρ H y b) (e : isIn a b h = some c) (q : Q (.bl (if neg then !c else c)) H) :
    wpAny (model X.prog X.w) X.A (compareOp (if neg then .NotIn else .In) v u) (EP X pins σ Q) X.xe s := by
  cases rb with
  | str z =>
    cases ra with
    | str w =>
      simp only [isIn] at e
      cases e
      cases neg with
      | false => exact op_in_str pins s σ H _ _ v u Q I rx ry ⟨w, z, rfl, rfl, q⟩
      | true => exact op_notin_str pins s σ H _ _ v u Q I rx ry ⟨w, z, rfl, rfl, q⟩
    | _ => simp only [isIn] at e; cases e
  | @tup p xs ms hs rs =>
    simp only [isIn] at e
    cases e1 : pvV a with
    | none => rw [e1] at e; simp at e
    | some va =>
      cases e2 : optAll pvV ms with
      | none => rw [e1, e2] at e; simp at e
      | some vb =>
        rw [e1, e2] at e
        simp only [Option.some.injEq] at e
        obtain ⟨h1, h2⟩ := pvV_eq ra e1
        obtain ⟨h3, h4⟩ := pvVs_eq rs e2
        subst h1 h3
        cases neg with
        | false => exact op_in_seq pins s σ H _ _ v u Q I rx ry ⟨p, _, rfl, .inr hs, h2, h4, by rw [e]; exact q⟩
        | true => exact op_notIn_seq pins s σ H _ _ v u Q I rx ry ⟨p, _, rfl, .inr hs, h2, h4, by rw [e]; exact q⟩
  | @ref p n hp =>
    simp only [isIn] at e
    cases e1 : cmpData h a with
    | none => rw [e1] at e; simp at e
    | some d =>
      cases e2 : cmpData h (.ref n) with
      | none => rw [e1, e2] at e; simp at e
      | some d2 =>
        rw [e1, e2] at e
        cases d2 with
        | list ds =>
          simp only [Option.some.injEq] at e
          obtain ⟨h1, h2⟩ := cmp_ok R ra e1
          obtain ⟨h3, h4⟩ := cmp_ok R (.ref hp) e2
          cases neg with
          | false => exact op_inD hu pins s σ H _ _ v u Q I rx ry ⟨d, ds, h1, h3, h2, h4, by rw [e]; exact q⟩
          | true => exact op_notInD hu pins s σ H _ _ v u Q I rx ry ⟨d, ds, h1, h3, h2, h4, by rw [e]; exact q⟩
        | _ => simp at e
  | _ => simp only [isIn] at e; cases e
theorem op_cmp (hu : X.A.units + 65 < cLine) {op : COp} : OpR X (compareOp (pyC op)) (rCmp T X.K op) := by
  intro pins s σ H x y v u Q I rx ry q
  obtain ⟨ρ, h, a, b, c, R, ra, rb, e, q⟩ := q
  have two : ∀ {op : COp} {f : Bool → Bool}, cmpS op a b h = some c → (cmpS op a b h = match cmpData h a, cmpData h b with
      | some d, some e => some (f (PyData.eqv d e))
      | _, _ => none) → ∃ d e, Dp X.K H x d ∧ Dp X.K H y e ∧ SeqAt.shaped d = true ∧ SeqAt.shaped e = true ∧ f (PyData.eqv d e) = c := by
    intro op f e ee
    rw [ee] at e
    cases e1 : cmpData h a with
    | none => rw [e1] at e; simp at e
    | some d =>
      cases e2 : cmpData h b with
      | none => rw [e1, e2] at e; simp at e
      | some d2 =>
        rw [e1, e2] at e
        simp only [Option.some.injEq] at e
        obtain ⟨h1, h2⟩ := cmp_ok R ra e1
        obtain ⟨h3, h4⟩ := cmp_ok R rb e2
        exact ⟨d, d2, h1, h3, h2, h4, e⟩
  cases op with
  | eq =>
    obtain ⟨d, e, h1, h2, h3, h4, ec⟩ := two (op := .eq) (f := id) e rfl
    exact op_eqD (by omega) pins s σ H _ _ v u Q I rx ry ⟨d, e, h1, h2, h3, h4, by rw [show PyData.eqv d e = c from ec]; exact q⟩
  | ne =>
    obtain ⟨d, e, h1, h2, h3, h4, ec⟩ := two (op := .ne) (f := fun z => !z) e rfl
    exact op_neD (by omega) pins s σ H _ _ v u Q I rx ry ⟨d, e, h1, h2, h3, h4, by rw [ec]; exact q⟩
  | lt =>
    cases ra with
    | int i =>
      cases rb with
      | int j => simp only [cmpS] at e; cases e; exact op_lt pins s σ H _ _ v u Q I rx ry ⟨i, j, rfl, rfl, q⟩
      | _ => simp only [cmpS] at e; cases e
    | _ => simp only [cmpS] at e; cases e
  | le =>
    cases ra with
    | int i =>
      cases rb with
      | int j => simp only [cmpS] at e; cases e; exact op_le pins s σ H _ _ v u Q I rx ry ⟨i, j, rfl, rfl, q⟩
      | _ => simp only [cmpS] at e; cases e
    | _ => simp only [cmpS] at e; cases e
  | gt =>
    cases ra with
    | int i =>
      cases rb with
      | int j => simp only [cmpS] at e; cases e; exact op_gt pins s σ H _ _ v u Q I rx ry ⟨i, j, rfl, rfl, q⟩
      | _ => simp only [cmpS] at e; cases e
    | _ => simp only [cmpS] at e; cases e
  | ge =>
    cases ra with
    | int i =>
      cases rb with
      | int j => simp only [cmpS] at e; cases e; exact op_ge pins s σ H _ _ v u Q I rx ry ⟨i, j, rfl, rfl, q⟩
      | _ => simp only [cmpS] at e; cases e
    | _ => simp only [cmpS] at e; cases e
  | isn =>
    cases rb with
    | non =>
      refine op_isN pins s σ H _ _ v u Q I rx ry ⟨rfl, ?_⟩
      have ec : decide (x = V.non) = c := by cases ra <;> simp only [cmpS] at e <;> cases e <;> simp
      rw [ec]; exact q
    | _ => simp only [cmpS] at e; cases e
  | notn =>
    cases rb with
    | non =>
      refine op_notN pins s σ H _ _ v u Q I rx ry ⟨rfl, ?_⟩
      have ec : (!decide (x = V.non)) = c := by cases ra <;> simp only [cmpS] at e <;> cases e <;> simp
      rw [ec]; exact q
    | _ => simp only [cmpS] at e; cases e
  | in_ => exact isIn_ok (T := T) hu (neg := false) I rx ry R ra rb e q
  | nin =>
    simp only [cmpS] at e
    cases e1 : isIn a b h with
    | none => rw [e1] at e; cases e
    | some c' =>
      rw [e1] at e
      have ec : (!c') = c := Option.some.inj e
      exact isIn_ok (T := T) hu (neg := true) I rx ry R ra rb e1 (by show Q (.bl (!c')) H; rw [ec]; exact q)
end
end Vb

set_option Elab.async false
set_option linter.all false
set_option maxRecDepth 100000
set_option maxHeartbeats 2000000
/-! Truth, subscripts, slices, built-ins, methods of built-in types. -/
namespace Vb
open PySem L2 PySem.Spec PyProof.Rows
section
variable {X : Cx} {T : LT} {C : CB} {W : WX} {K : PySem.W.Frag} {ρ : List Addr} {H : Hp} {h : MH}
theorem isEmpty_rep {xs : List V} {ms : List PV} (r : Reps K ρ H xs ms) : (!ms.isEmpty) = !xs.isEmpty := by
  cases r <;> rfl
theorem tru_rep (R : HRel T K ρ H h) {x : V} {m : PV} {k : Bool} (r : Rep K ρ H x m) (e : truS h m = some k) : TruV K x H k := by
  cases r with
  | non => simp only [truS] at e; cases e; rfl
  | bl b => simp only [truS] at e; cases e; rfl
  | int i => simp only [truS] at e; cases e; rfl
  | str x =>
    simp only [truS] at e
    split at e
    · rename_i c; cases e; exact ⟨c, rfl⟩
    · cases e
  | tup hs rs =>
    simp only [truS] at e
    cases e
    exact .inr (.inl ⟨_, hs, isEmpty_rep rs⟩)
  | @ref a n hp =>
    simp only [truS] at e
    cases q : seqAt h n with
    | none => rw [q] at e; cases e
    | some xs =>
      rw [q] at e
      cases e
      obtain ⟨vs, h1, h2⟩ := R.seq q hp
      exact .inl ⟨vs, h1, isEmpty_rep h2⟩
/-- xs[i] -/
theorem atI_rep {xs : List V} {ms : List PV} {i : Int} {m : PV} (r : Reps K ρ H xs ms) (e : atI ms i = some m) : ∃ v, atI xs i = some v ∧ Rep K ρ H v m := by
  unfold atI at e ⊢
  rw [r.length]
  cases q : ixN ms.length i with
  | none => rw [q] at e; cases e
  | some j =>
    rw [q] at e
    exact r.get e
def rIdx (T : LT) (K : PySem.W.Frag) : R2 := fun x y H Q => ∃ ρ h a b c, HRel T K ρ H h ∧ Rep K ρ H x a ∧ Rep K ρ H y b ∧ idxS a b h = some c ∧ ∀ z, Rep K ρ H z c → Q z H
theorem ix_idx : IxR X (rIdx T X.K) := by
  intro value slice pins s σ H x y v u Q I rx ry q hs
  obtain ⟨ρ, h, a, b, c, R, ra, rb, e, q⟩ := q
  cases ra with
  | str x =>
    cases rb with
    | int i =>
      simp only [idxS] at e
      split at e
      · rename_i hl
        cases q1 : atI x.cps.toList i with
        | none => rw [q1] at e; cases e
        | some z =>
          rw [q1] at e
          cases e
          exact ix_str value slice pins s σ H _ _ v u Q I rx ry ⟨x, i, z, rfl, rfl, hl, q1, q _ (.str _)⟩ hs
      · cases e
    | _ => simp only [idxS] at e; cases e
  | @tup p xs ms h1 rs =>
    cases rb with
    | int i =>
      simp only [idxS] at e
      obtain ⟨w, e1, r1⟩ := atI_rep rs e
      exact ix_tup value slice pins s σ H _ _ v u Q I rx ry ⟨p, xs, i, w, rfl, rfl, h1, e1, q _ r1⟩ hs
    | _ => simp only [idxS] at e; cases e
  | @ref p n hp =>
    cases rb with
    | int i =>
      simp only [idxS] at e
      cases q1 : seqAt h n with
      | none => rw [q1] at e; cases e
      | some ms =>
        rw [q1] at e
        obtain ⟨xs, h1, rs⟩ := R.seq q1 hp
        obtain ⟨w, e1, r1⟩ := atI_rep rs e
        exact ix_list value slice pins s σ H _ _ v u Q I rx ry ⟨p, xs, i, w, rfl, rfl, h1, e1, q _ r1⟩ hs
    | _ => simp only [idxS] at e; cases e
  | _ => simp only [idxS] at e; cases e
/-- xs[lo:hi] -/
def rSlc (T : LT) (K : PySem.W.Frag) : V → Option Int → Option Int → Hp → VK → Prop := fun x lo hi H Q => ∃ ρ h a W, HRel T K ρ H h ∧ Rep K ρ H x a ∧ Post T K ρ H (slcS a lo hi h) (fun ρ' H' _ v => ∀ z, Rep K ρ' H' z v → Q z H') W
theorem sIx_bounds (n d : Nat) (o : Option Int) (hd : d ≤ n) : HT.sIx n d o ≤ n := HT.sIx_le n d hd o
theorem cutP_all {α : Type} {xs : List α} {lo hi : Option Int} (h : HT.sIx xs.length 0 lo = 0 ∧ HT.sIx xs.length xs.length hi = xs.length) : cutP xs lo hi = xs := by
  unfold cutP
  rw [h.1, h.2]
  simp
theorem sl_slc : SlR X (rSlc T X.K) := by
  intro pins s σ H x v vl vu lo hi sl Q I rx hs pl pu q
  obtain ⟨ρ, h, a, W, R, ra, p⟩ := q
  cases ra with
  | @tup b xs ms h1 rs =>
    refine sl_tupA pins s σ H _ v vl vu lo hi sl Q I rx hs pl pu ⟨b, xs, rfl, h1, fun w => ?_, fun w q hq => ?_⟩
    · rw [rs.length] at w
      have p' : Post T X.K ρ H (.ok (.tup (cutP ms lo hi)) h) (fun ρ' H' _ v => ∀ z, Rep X.K ρ' H' z v → Q z H') W := p
      rw [cutP_all w] at p'
      exact p'.here R _ (.tup h1 rs)
    · obtain ⟨k, rep⟩ := Post.tuple R p hq (rs.cut lo hi)
      exact k _ rep
  | @ref b n hp =>
    have p' : Post T X.K ρ H (match seqAt h n with
      | some xs => newObj (.lst (cutP xs lo hi)) h
      | none => .no) (fun ρ' H' _ v => ∀ z, Rep X.K ρ' H' z v → Q z H') W := p
    cases q1 : seqAt h n with
    | none => rw [q1] at p'; exact p'.elim
    | some ms =>
      rw [q1] at p'
      obtain ⟨xs, h1, rs⟩ := R.seq q1 hp
      refine sl_list pins s σ H _ v vl vu lo hi sl Q I rx hs pl pu ⟨b, xs, rfl, h1, fun q hq => ?_⟩
      obtain ⟨k, rep⟩ := Post.fresh (u := .lst (cutV xs lo hi)) R p' hq fun ρ' r => ⟨_, upd_same, (rs.cut lo hi).le r (HLe.new hq)⟩
      exact k _ rep
  | _ => exact p.elim

/-! ### built-ins -/
def rBi (T : LT) (K : PySem.W.Frag) (b : Bi) : List V → Hp → VK → Prop := fun xs H Q => ∃ ρ h ms W, HRel T K ρ H h ∧ Reps K ρ H xs ms ∧ Post T K ρ H (biS b ms h) (fun ρ' H' _ v => ∀ z, Rep K ρ' H' z v → Q z H') W
theorem itemsOf_rep (R : HRel T K ρ H h) {x : V} {m : PV} {ms : List PV} (r : Rep K ρ H x m) (e : itemsOf h m = some ms) : ∃ a xs, x = .ref a ∧ (SqL K H a xs ∨ SqT K H a xs) ∧ Reps K ρ H xs ms := by
  cases r with
  | tup h1 rs => simp only [itemsOf] at e; cases e; exact ⟨_, _, rfl, .inr h1, rs⟩
  | ref hp =>
    simp only [itemsOf] at e
    obtain ⟨xs, h1, h2⟩ := R.seq e hp
    exact ⟨_, _, rfl, .inl h1, h2⟩
  | _ => simp only [itemsOf] at e; cases e
theorem reps_one {xs : List V} {ms : List PV} (r : Reps K ρ H xs ms) (h : ms.length = 1) : ∃ x m, xs = [x] ∧ ms = [m] ∧ Rep K ρ H x m := by
  cases r with
  | nil => simp at h
  | cons r t => cases t with
    | nil => exact ⟨_, _, rfl, rfl, r⟩
    | cons _ _ => simp at h
theorem call_len_ : CallR X (.builtin "len") (rBi T X.K .len) := by
  intro pins s σ H xs us Q I rs q
  obtain ⟨ρ, h, ms, W, R, rm, p⟩ := q
  cases rm with
  | nil => exact p.elim
  | cons r t =>
    cases t with
    | cons _ _ => cases r <;> exact p.elim
    | nil =>
      have gen : ∀ {m : PV} {x : V}, Rep X.K ρ H x m → Post T X.K ρ H (ofOpt h ((itemsOf h m).map fun xs => PV.int xs.length)) (fun ρ' H' _ v => ∀ z, Rep X.K ρ' H' z v → Q z H') W → ∃ y n, [x] = [y] ∧ LenV X.K y H n ∧ Q (.int n) H := by
        intro m x r p
        obtain ⟨c, e, q⟩ := Post.opt R p
        cases e1 : itemsOf h m with
        | none => rw [e1] at e; cases e
        | some ns =>
          rw [e1] at e
          cases e
          obtain ⟨a, ys, rfl, h1, h2⟩ := itemsOf_rep R r e1
          refine ⟨_, ns.length, rfl, ?_, q _ (.int _)⟩
          rcases h1 with h1 | h1
          · exact .inl ⟨ys, h1, h2.length.symm⟩
          · exact .inr ⟨ys, h1, h2.length.symm⟩
      cases r with
      | str x =>
        obtain ⟨c, p⟩ := if_post (show Post T X.K ρ H (if x.length ≤ sizeLine then .ok (PV.int x.length) h else .no) (fun ρ' H' _ v => ∀ z, Rep X.K ρ' H' z v → Q z H') W from p)
        exact call_len pins s σ H _ us Q I rs ⟨_, _, rfl, ⟨c, rfl⟩, p.here R _ (.int _)⟩
      | non => exact call_len pins s σ H _ us Q I rs (gen .non p)
      | bl b => exact call_len pins s σ H _ us Q I rs (gen (.bl b) p)
      | int b => exact call_len pins s σ H _ us Q I rs (gen (.int b) p)
      | tup h1 h2 => exact call_len pins s σ H _ us Q I rs (gen (.tup h1 h2) p)
      | ref h1 => exact call_len pins s σ H _ us Q I rs (gen (.ref h1) p)
theorem call_str_ : CallR X (.type "str") (rBi T X.K .str) := by
  intro pins s σ H xs us Q I rs q
  obtain ⟨ρ, h, ms, W, R, rm, p⟩ := q
  cases rm with
  | nil => exact p.elim
  | cons r t =>
    cases t with
    | cons _ _ => cases r <;> exact p.elim
    | nil =>
      cases r with
      | str x => exact SkE.call_str_str pins s σ H _ us Q I rs ⟨x, rfl, p.here R _ (.str _)⟩
      | int i =>
        obtain ⟨c, p⟩ := if_post (show Post T X.K ρ H (if i.natAbs.log2 < 1920 then .ok (PV.str (toString i)) h else .no) (fun ρ' H' _ v => ∀ z, Rep X.K ρ' H' z v → Q z H') W from p)
        exact call_str_int pins s σ H _ us Q I rs ⟨i, rfl, c, p.here R _ (.str _)⟩
      | _ => exact p.elim
theorem call_int_ : CallR X (.type "int") (rBi T X.K .int) := by
  intro pins s σ H xs us Q I rs q
  obtain ⟨ρ, h, ms, W, R, rm, p⟩ := q
  cases rm with
  | nil => exact p.elim
  | cons r t =>
    cases t with
    | cons _ _ => cases r <;> exact p.elim
    | nil =>
      cases r with
      | str x =>
        obtain ⟨c, p⟩ := if_post (show Post T X.K ρ H (if x.length ≤ 640 then ofOpt h ((PySem.intText? x).map PV.int) else .no) (fun ρ' H' _ v => ∀ z, Rep X.K ρ' H' z v → Q z H') W from p)
        obtain ⟨v, e, q⟩ := Post.opt R p
        cases e1 : PySem.intText? x with
        | none => rw [e1] at e; cases e
        | some n =>
          rw [e1] at e
          cases e
          exact call_int_str pins s σ H _ us Q I rs ⟨x, n, rfl, e1, c, q _ (.int _)⟩
      | int i => exact call_int1 pins s σ H _ us Q I rs (.inl ⟨i, rfl, p.here R _ (.int _)⟩)
      | bl b => exact call_int1 pins s σ H _ us Q I rs (.inr ⟨b, rfl, p.here R _ (.int _)⟩)
      | _ => exact p.elim
theorem call_tuple_ : CallR X (.type "tuple") (rBi T X.K .tuple) := by
  intro pins s σ H xs us Q I rs q
  obtain ⟨ρ, h, ms, W, R, rm, p⟩ := q
  cases rm with
  | nil => exact p.elim
  | cons r t =>
    cases t with
    | cons _ _ => exact p.elim
    | nil =>
      rename_i x m
      obtain ⟨c, e, q⟩ := Post.opt R (show Post T X.K ρ H (ofOpt h ((itemsOf h m).map PV.tup)) (fun ρ' H' _ v => ∀ z, Rep X.K ρ' H' z v → Q z H') W from p)
      cases e1 : itemsOf h m with
      | none => rw [e1] at e; cases e
      | some ns =>
        rw [e1] at e
        cases e
        obtain ⟨a, ys, rfl, h1, h2⟩ := itemsOf_rep R r e1
        refine call_tuple_of pins s σ H _ us Q I rs ⟨a, ys, rfl, ?_⟩
        rcases h1 with h1 | h1
        · refine .inl ⟨h1, fun l hl => ?_⟩
          have p' : Post T X.K ρ H (.ok (.tup ns) h) (fun ρ' H' _ v => ∀ z, Rep X.K ρ' H' z v → Q z H') W := by
            have p2 : Post T X.K ρ H (ofOpt h ((itemsOf h m).map PV.tup)) (fun ρ' H' _ v => ∀ z, Rep X.K ρ' H' z v → Q z H') W := p
            rw [e1] at p2; exact p2
          obtain ⟨k, rep⟩ := Post.tuple R p' hl h2
          exact k _ rep
        · exact .inr ⟨h1, q _ (.tup h1 h2)⟩
theorem call_list_ : CallR X (.type "list") (rBi T X.K .list) := by
  intro pins s σ H xs us Q I rs q
  obtain ⟨ρ, h, ms, W, R, rm, p⟩ := q
  cases rm with
  | nil => exact p.elim
  | cons r t =>
    cases t with
    | cons _ _ => exact p.elim
    | nil =>
      rename_i x m
      have p' : Post T X.K ρ H (match itemsOf h m with
        | some xs => newObj (.lst xs) h
        | none => .no) (fun ρ' H' _ v => ∀ z, Rep X.K ρ' H' z v → Q z H') W := p
      cases e1 : itemsOf h m with
      | none => rw [e1] at p'; exact p'.elim
      | some ns =>
        rw [e1] at p'
        obtain ⟨a, ys, rfl, h1, h2⟩ := itemsOf_rep R r e1
        refine call_list_of pins s σ H _ us Q I rs ⟨a, ys, rfl, h1, fun l hl => ?_⟩
        obtain ⟨k, rep⟩ := Post.fresh (u := .lst ys) R p' hl fun ρ' r => ⟨_, upd_same, h2.le r (HLe.new hl)⟩
        exact k _ rep
theorem call_max_ (hc : X.calm = true) : CallR X (.builtin "max") (rBi T X.K .max2) := by
  intro pins s σ H xs us Q I rs q
  obtain ⟨ρ, h, ms, W, R, rm, p⟩ := q
  cases rm with
  | nil => exact p.elim
  | cons r t =>
    cases t with
    | nil => cases r <;> exact p.elim
    | cons r2 t =>
      cases t with
      | cons _ _ => cases r <;> cases r2 <;> exact p.elim
      | nil =>
        cases r with
        | int i =>
          cases r2 with
          | int j => exact call_max2 hc pins s σ H _ us Q I rs ⟨i, j, rfl, p.here R _ (.int _)⟩
          | _ => exact p.elim
        | _ => exact p.elim
theorem call_min_ (hc : X.calm = true) : CallR X (.builtin "min") (rBi T X.K .min2) := by
  intro pins s σ H xs us Q I rs q
  obtain ⟨ρ, h, ms, W, R, rm, p⟩ := q
  cases rm with
  | nil => exact p.elim
  | cons r t =>
    cases t with
    | nil => cases r <;> exact p.elim
    | cons r2 t =>
      cases t with
      | cons _ _ => cases r <;> cases r2 <;> exact p.elim
      | nil =>
        cases r with
        | int i =>
          cases r2 with
          | int j => exact call_min2 hc pins s σ H _ us Q I rs ⟨i, j, rfl, p.here R _ (.int _)⟩
          | _ => exact p.elim
        | _ => exact p.elim
theorem lst_bools {n : Nat} {a : Addr} {ms : List PV} (R : HRel T K ρ H h) (e : h[n]? = some (.lst ms)) (hp : ρ[n]? = some a) {bs : List Bool} (e2 : bools ms = some bs) : SqL K H a (bs.map V.bl) := by
  obtain ⟨xs, h1, h2⟩ := R.addr e hp
  rw [← h2.bools e2]
  exact SqL.of h1
theorem call_all_ (hc : X.calm = true) : CallR X (.builtin "all") (rBi T X.K .all) := by
  intro pins s σ H xs us Q I rs q
  obtain ⟨ρ, h, ms, W, R, rm, p⟩ := q
  cases rm with
  | nil => exact p.elim
  | cons r t =>
    cases t with
    | cons _ _ => cases r <;> exact p.elim
    | nil =>
      cases r with
      | @ref a n hp =>
        have p' : Post T X.K ρ H (match h[n]? with
          | some (.lst xs) => ofOpt h ((bools xs).map fun bs => PV.bl (bs.all id))
          | _ => .no) (fun ρ' H' _ v => ∀ z, Rep X.K ρ' H' z v → Q z H') W := p
        split at p'
        · rename_i ys e1
          obtain ⟨c, e, q⟩ := Post.opt R p'
          cases e2 : bools ys with
          | none => rw [e2] at e; cases e
          | some bs =>
            rw [e2] at e
            cases e
            exact cr_all hc pins s σ H _ us Q I rs ⟨a, bs, rfl, lst_bools R e1 hp e2, q _ (.bl _)⟩
        · exact p'.elim
      | _ => exact p.elim
theorem call_any_ (hc : X.calm = true) : CallR X (.builtin "any") (rBi T X.K .any) := by
  intro pins s σ H xs us Q I rs q
  obtain ⟨ρ, h, ms, W, R, rm, p⟩ := q
  cases rm with
  | nil => exact p.elim
  | cons r t =>
    cases t with
    | cons _ _ => cases r <;> exact p.elim
    | nil =>
      cases r with
      | @ref a n hp =>
        have p' : Post T X.K ρ H (match h[n]? with
          | some (.lst xs) => ofOpt h ((bools xs).map fun bs => PV.bl (bs.any id))
          | _ => .no) (fun ρ' H' _ v => ∀ z, Rep X.K ρ' H' z v → Q z H') W := p
        split at p'
        · rename_i ys e1
          obtain ⟨c, e, q⟩ := Post.opt R p'
          cases e2 : bools ys with
          | none => rw [e2] at e; cases e
          | some bs =>
            rw [e2] at e
            cases e
            exact cr_any hc pins s σ H _ us Q I rs ⟨a, bs, rfl, lst_bools R e1 hp e2, q _ (.bl _)⟩
        · exact p'.elim
      | _ => exact p.elim
theorem call_repr_ (hg : X.A.guards = some []) (hu : X.A.units + 65 < cLine) : CallR X (.builtin "repr") (rBi T X.K .repr) := by
  intro pins s σ H xs us Q I rs q
  obtain ⟨ρ, h, ms, W, R, rm, p⟩ := q
  cases rm with
  | nil => exact p.elim
  | cons r t =>
    cases t with
    | cons _ _ => cases r <;> exact p.elim
    | nil =>
      have gen : ∀ {m : PV} {a : Addr}, Vals [V.ref a] us → Rep X.K ρ H (.ref a) m → Post T X.K ρ H (match data h deepest m with
          | some d => if d.showable = true ∧ d.hasDict = false ∧ d.shown.length ≤ sizeLine then .ok (.str d.shown) h else .no
          | none => .no) (fun ρ' H' _ v => ∀ z, Rep X.K ρ' H' z v → Q z H') W → wpAny (model X.prog X.w) X.A (call (.builtin "repr") us) (EP X pins σ Q) X.xe s := by
        intro m a rs r p
        cases e : data h deepest m with
        | none => rw [e] at p; exact p.elim
        | some d =>
          rw [e] at p
          obtain ⟨⟨c1, c2, c3⟩, p⟩ := if_post p
          have dp := data_dp R _ _ _ _ r e
          have dd := data_depth _ _ _ e
          obtain ⟨u, rfl, ru⟩ := vals1 rs
          obtain ⟨as, rd⟩ := Dp.reads I d _ u dp ru
          obtain rfl : u = Value.ref a := ru
          refine repr_of_reads' rd c1 (PyData.noDict_hsm c2) hg ?_ (fun _ _ z => z) (fun h' w tk hk => ?_) c3
          · have : deepest = 24 := rfl
            omega
          · exact ⟨.str d.shown, H, I.kept hk, ⟨_, rfl⟩, p.here R _ (.str _)⟩
      cases r with
      | int i =>
        obtain ⟨c, p⟩ := if_post (show Post T X.K ρ H (if i.natAbs.log2 < 1920 then .ok (PV.str (toString i)) h else .no) (fun ρ' H' _ v => ∀ z, Rep X.K ρ' H' z v → Q z H') W from p)
        exact SkE.call_repr_int pins s σ H _ us Q I rs ⟨i, rfl, c, p.here R _ (.str _)⟩
      | tup h1 h2 => exact gen rs (.tup h1 h2) p
      | ref h1 => exact gen rs (.ref h1) p
      | _ => exact p.elim
end
end Vb

set_option Elab.async false
set_option linter.all false
set_option maxRecDepth 100000
set_option maxHeartbeats 2000000
/-! Methods of built-in types; isinstance; the joints of arguments. -/
namespace Vb
open PySem L2 PySem.Spec PyProof.Rows
section
variable {X : Cx} {T : LT} {C : CB} {W : WX} {K : PySem.W.Frag} {ρ : List Addr} {H : Hp} {h : MH}
def bmT : Bm → String
  | .join => "str"
  | .split => "str"
  | _ => "list"
def bmId : Bm → String
  | .append => "list.append"
  | .extend => "list.extend"
  | .pop => "list.pop"
  | .join => "str.join"
  | .split => "str.split"
def bmName : Bm → Str
  | .append => "append"
  | .extend => "extend"
  | .pop => "pop"
  | .join => "join"
  | .split => "split"
def rBm (T : LT) (K : PySem.W.Frag) (b : Bm) : V → List V → Hp → VK → Prop := fun x xs H Q => ∃ ρ h a ms W, HRel T K ρ H h ∧ Rep K ρ H x a ∧ Reps K ρ H xs ms ∧ Post T K ρ H (bmS b a ms h) (fun ρ' H' _ v => ∀ z, Rep K ρ' H' z v → Q z H') W
theorem bm_ty (R : HRel T K ρ H h) {b : Bm} {x : V} {m : PV} (r : Rep K ρ H x m) (e : bmTy b m h = true) : tyV K (bmT b) x H := by
  have lst : ∀ {a : Addr} {n : Nat}, ρ[n]? = some a → (seqAt h n).isSome = true → tyV K "list" (.ref a) H := fun {a n} ha hs => by
    obtain ⟨xs, e⟩ := Option.isSome_iff_exists.mp hs
    obtain ⟨vs, h1, _⟩ := R.seq e ha
    exact .inl ⟨rfl, vs, h1⟩
  cases b <;> cases r <;> first | exact rfl | (rename_i ha; exact lst ha e) | (exact absurd (show false = true from e) Bool.false_ne_true)
theorem mt_bm {b : Bm} : MtR X (bmId b) (rBm T X.K b) := by
  intro pins s σ H x xs v us Q I rx rs q
  obtain ⟨ρ, h, a, ms, W, R, ra, rm, p⟩ := q
  cases b with
  | append =>
    cases ra with
    | @ref p' n hp =>
      cases rm with
      | nil => exact p.elim
      | cons r t =>
        cases t with
        | cons _ _ => exact p.elim
        | nil =>
          rename_i y m
          have p2 : Post T X.K ρ H (match h[n]? with
            | some (.lst xs) => if xs.length < sizeLine then .ok PV.non (h.set n (.lst (xs ++ [m]))) else .no
            | _ => .no) (fun ρ' H' _ v => ∀ z, Rep X.K ρ' H' z v → Q z H') W := p
          split at p2
          · rename_i ys e1
            obtain ⟨c, p2⟩ := if_post p2
            obtain ⟨zs, o1, o2⟩ := R.addr e1 hp
            refine mt_append pins s σ H _ _ v us Q I rx rs ⟨p', zs, y, rfl, rfl, o1, by rw [o2.length]; exact c, ?_⟩
            have g : HLe H (upd H p' (.lst (zs ++ [y]))) := HLe.write o1 trivial
            exact p2 ρ _ RLe.refl g (R.write e1 rfl rfl hp ⟨_, upd_same, (o2.append (Reps.one r)).le RLe.refl g⟩) _ .non
          · exact p2.elim
    | _ => cases rm <;> exact p.elim
  | extend =>
    cases ra with
    | @ref p' n hp =>
      cases rm with
      | nil => exact p.elim
      | cons r t =>
        cases t with
        | cons _ _ => cases r <;> exact p.elim
        | nil =>
          cases r with
          | @ref q' m hq =>
            have p2 : Post T X.K ρ H (match h[n]?, h[m]? with
              | some (.lst xs), some (.lst ys) => if xs.length + ys.length ≤ sizeLine then .ok PV.non (h.set n (.lst (xs ++ ys))) else .no
              | _, _ => .no) (fun ρ' H' _ v => ∀ z, Rep X.K ρ' H' z v → Q z H') W := p
            split at p2
            · rename_i ys ws e1 e2
              obtain ⟨c, p2⟩ := if_post p2
              obtain ⟨zs, o1, o2⟩ := R.addr e1 hp
              obtain ⟨zs2, o3, o4⟩ := R.addr e2 hq
              refine mt_extend pins s σ H _ _ v us Q I rx rs ⟨p', q', zs, zs2, rfl, rfl, o1, o3, by rw [o2.length, o4.length]; exact c, ?_⟩
              have g : HLe H (upd H p' (.lst (zs ++ zs2))) := HLe.write o1 trivial
              exact p2 ρ _ RLe.refl g (R.write e1 rfl rfl hp ⟨_, upd_same, (o2.append o4).le RLe.refl g⟩) _ .non
            · exact p2.elim
          | _ => exact p.elim
    | _ => cases rm <;> exact p.elim
  | pop =>
    cases ra with
    | @ref p' n hp =>
      cases rm with
      | cons _ _ => exact p.elim
      | nil =>
        have p2 : Post T X.K ρ H (match h[n]? with
          | some (.lst xs) => match xs[xs.length - 1]? with
            | some v => .ok v (h.set n (.lst xs.dropLast))
            | none => .no
          | _ => .no) (fun ρ' H' _ v => ∀ z, Rep X.K ρ' H' z v → Q z H') W := p
        split at p2
        · rename_i ys e1
          split at p2
          · rename_i y e2
            obtain ⟨zs, o1, o2⟩ := R.addr e1 hp
            obtain ⟨z, o3, o4⟩ := o2.get e2
            rw [← o2.length] at o3
            refine mt_pop pins s σ H _ _ v us Q I rx rs ⟨p', zs, z, rfl, rfl, o1, o3, ?_⟩
            have g : HLe H (upd H p' (.lst zs.dropLast)) := HLe.write o1 trivial
            exact p2 ρ _ RLe.refl g (R.write e1 rfl rfl hp ⟨_, upd_same, o2.dropLast.le RLe.refl g⟩) _ (o4.le RLe.refl g)
          · exact p2.elim
        · exact p2.elim
    | _ => cases rm <;> exact p.elim
  | join =>
    cases ra with
    | str x =>
      cases rm with
      | nil => exact p.elim
      | cons r t =>
        cases t with
        | cons _ _ => exact p.elim
        | nil =>
          rename_i y m
          have p2 : Post T X.K ρ H (match (itemsOf h m).bind texts with
            | some ys => if (ys.map (·.length)).sum + ys.length * x.length ≤ 16777216 then .ok (PV.str (Txt.join x ys)) h else .no
            | none => .no) (fun ρ' H' _ v => ∀ z, Rep X.K ρ' H' z v → Q z H') W := p
          split at p2
          · rename_i ys e1
            obtain ⟨c, p2⟩ := if_post p2
            cases e2 : itemsOf h m with
            | none => rw [e2] at e1; cases e1
            | some ns =>
              rw [e2] at e1
              obtain ⟨b, zs, rfl, h1, h2⟩ := itemsOf_rep R r e2
              have h3 := h2.texts e1
              subst h3
              exact mt_join pins s σ H _ _ v us Q I rx rs ⟨x, b, ys, rfl, rfl, h1, c, p2.here R _ (.str _)⟩
          · exact p2.elim
    | _ => cases rm <;> exact p.elim
  | split =>
    cases ra with
    | str x =>
      cases rm with
      | nil => exact p.elim
      | cons r t =>
        cases t with
        | cons _ _ => cases r <;> exact p.elim
        | nil =>
          cases r with
          | str y =>
            have p2 : Post T X.K ρ H (if (y.length == 0) = false ∧ x.length + 2 ≤ sizeLine then newObj (.lst ((Txt.split x y).map .str)) h else .no) (fun ρ' H' _ v => ∀ z, Rep X.K ρ' H' z v → Q z H') W := p
            obtain ⟨c, p2⟩ := if_post p2
            refine mt_split pins s σ H _ _ v us Q I rx rs ⟨x, y, rfl, rfl, c.1, c.2, fun q hq => ?_⟩
            obtain ⟨k, rep⟩ := Post.fresh (u := .lst ((Txt.split x y).map V.str)) R p2 hq fun ρ' r => ⟨_, upd_same, Reps.strs _⟩
            exact k _ rep
          | _ => exact p.elim
    | _ => cases rm <;> exact p.elim

/-! ### isinstance -/
def tyN : Ty → String
  | .int => "int"
  | .bool => "bool"
  | .str => "str"
  | .tup => "tuple"
  | .lst => "list"
def tyAll : List String := ["NoneType", "bool", "int", "str", "tuple", "list"]
/-- what the text's isinstance tells of the built-in types -/
structure IsK (K : PySem.W.Frag) : Prop where
  yes : ∀ a ∈ tyAll, ∀ t : Ty, PySem.W.kitOne K (.type a) (.type (tyN t)) = some (decide (a = tyN t) || (decide (a = "bool") && decide (t = .int)))
def rIsi_ (T : LT) (K : PySem.W.Frag) (t : Ty) : List V → Hp → VK → Prop := fun xs H Q => ∃ ρ h x m c, HRel T K ρ H h ∧ Rep K ρ H x m ∧ xs = [x, .ty (tyN t)] ∧ isiS h t m = some c ∧ Q (.bl c) H
theorem call_isi_ (z : IsK X.K) {t : Ty} : CallR X (.builtin "isinstance") (rIsi_ T X.K t) := by
  intro pins s σ H xs us Q I rs q
  obtain ⟨ρ, h, x, m, c, R, r, rfl, e, q⟩ := q
  have fin : ∀ {a : String}, a ∈ tyAll → TyX X.K H x (.type a) → (decide (a = tyN t) || (decide (a = "bool") && decide (t = .int))) = c → wpAny (model X.prog X.w) X.A (call (.builtin "isinstance") us) (EP X pins σ Q) X.xe s :=
    fun {a} ha ty ec => call_isi pins s σ H _ us Q I rs ⟨x, .ty (tyN t), .type a, .type (tyN t), c, rfl, .ty _, ty, by rw [z.yes a ha t, ec], q⟩
  cases r with
  | non => refine fin (a := "NoneType") (by decide) (.base .non) ?_; simp only [isiS] at e; cases e; cases t <;> rfl
  | bl b => refine fin (a := "bool") (by decide) (.base (.bl b)) ?_; simp only [isiS] at e; cases e; cases t <;> rfl
  | int b => refine fin (a := "int") (by decide) (.base (.int b)) ?_; simp only [isiS] at e; cases e; cases t <;> rfl
  | str b => refine fin (a := "str") (by decide) (.base (.str b)) ?_; simp only [isiS] at e; cases e; cases t <;> rfl
  | @tup a xs ms h1 rs =>
    have ec : (decide ("tuple" = tyN t) || (decide ("tuple" = "bool") && decide (t = .int))) = c := by simp only [isiS] at e; cases e; cases t <;> rfl
    rcases h1 with (h1 | ⟨o, h1⟩) | ⟨o, its, n, h1, h2, _⟩
    · exact fin (a := "tuple") (by decide) (.base (.tup h1)) ec
    · exact fin (a := "tuple") (by decide) (.fTuple h1) ec
    · exact fin (a := "tuple") (by decide) (.kTuple h1 h2) ec
  | @ref a n hp =>
    simp only [isiS] at e
    cases e1 : seqAt h n with
    | none => rw [e1] at e; cases e
    | some ys =>
      rw [e1] at e
      have ec : (decide ("list" = tyN t) || (decide ("list" = "bool") && decide (t = .int))) = c := by cases e; cases t <;> rfl
      obtain ⟨zs, h1, _⟩ := R.seq e1 hp
      rcases h1 with (h1 | ⟨o, h1⟩) | ⟨o, its, n, h1, h2, _⟩
      · exact fin (a := "list") (by decide) (.base (.lst h1)) ec
      · exact fin (a := "list") (by decide) (.base (.frz h1)) ec
      · exact fin (a := "list") (by decide) (.kList h1 h2) ec
end
end Vb

set_option Elab.async false
set_option linter.all false
set_option maxRecDepth 100000
set_option maxHeartbeats 2000000
/-! Each construct of an expression, by what the small language tells. -/
namespace Vb
open PySem L2 PySem.Spec PyProof.Rows

/-- what a def does, by the small language -/
def spF (T : LT) (K : PySem.W.Frag) (Pr : Prog) (k f : Nat) : Sp := fun vs H Q E => ∃ ρ ms h, HRel T K ρ H h ∧ Reps K ρ H vs ms ∧ Post T K ρ H (callF Pr k f ms h) (fun ρ' H' _ m => ∀ x, Rep K ρ' H' x m → Q x H') E
def FA (P : Program) (w : World) (K : PySem.W.Frag) (mg : Str → Option Value) (base : Heap) (T : LT) (Pr : Prog) (k f : Nat) (a : Addr) : Prop :=
  ∃ fd ps, FnG P w K mg base k a fd ps (spF T K Pr k f) ∧ Binds K fd ps []
/-- the callbacks at a level -/
noncomputable def cbK (Pr : Prog) (k : Nat) : CB := ⟨callF Pr k, (match k with | 0 => fun _ _ _ => .no | m + 1 => callF Pr m), Pr.cls⟩
/-- names of the module: functions, classes -/
structure Nm where
  gf : List (Str × Nat)
  gc : List (Str × Nat)
def biName : Bi → Str
  | .len => "len"
  | .str => "str"
  | .int => "int"
  | .tuple => "tuple"
  | .list => "list"
  | .max2 => "max"
  | .min2 => "min"
  | .all => "all"
  | .any => "any"
  | .repr => "repr"
def tyPy : Ty → Str
  | .int => "int"
  | .bool => "bool"
  | .str => "str"
  | .tup => "tuple"
  | .lst => "list"
/-- the facts of the text and of the calls at a level -/
structure XC (X : Cx) (T : LT) (Pr : Prog) (M : Nm) (k : Nat) (W : WX) : Prop where
  nd : X.N.Nodup
  calm : X.calm = true
  room : Room k X.A
  gds : X.A.guards = some []
  tk : Takes X W
  isk : IsK X.K
  bi : ∀ b : Bi, X.mg (biName b) = none
  ty : ∀ t : Ty, X.mg (tyPy t) = none
  ifn : X.mg "isinstance" = none
  rng : X.mg "range" = none
  enm : X.mg "enumerate" = none
  fn : ∀ x f, M.gf.lookup x = some f → ∃ a, X.mg x = some (.ref a) ∧ PySem.W.keepIn X.K (.ref a) = true ∧ FA X.prog X.w X.K X.mg X.base T Pr k f a
  me : ∀ (c : Nat) (kd : KD) (m f : Nat), Pr.cls[c]? = some kd → kd.meths.lookup m = some f → ∃ C a x, T.ca[c]? = some C ∧ T.mn[m]? = some x ∧ Cls X.K C ∧ Meth X.K C x a ∧ FA X.prog X.w X.K X.mg X.base T Pr k f a
  at_ : ∀ (c : Nat) (kd : KD) (f : Nat), Pr.cls[c]? = some kd → kd.attrs.contains f = true → ∃ C x, T.ca[c]? = some C ∧ T.an[f]? = some x ∧ Cls X.K C ∧ NoAttr X.K C x
  made : ∀ x c, M.gc.lookup x = some c → ∃ D kd f, T.ca[c]? = some D ∧ X.mg x = some (.ref D) ∧ PySem.W.keepIn X.K (.ref D) = true ∧ Pr.cls[c]? = some kd ∧ kd.init = some f ∧
    ∀ j, k = j + 1 → ∃ a, Mk X.K D a ∧ FA X.prog X.w X.K X.mg X.base T Pr j f a
theorem room_units {k : Nat} {A : Around} (r : Room k A) : A.units + 65 < cLine := by have := r.un; omega
section
variable {X : Cx} {T : LT} {Pr : Prog} {M : Nm} {k : Nat} {W : WX} {C : CB}
/-! ### operators -/
theorem me_bin {op : BOp} {a b : Expr} {ma mb : E} {pos : Pos} (ha : ME X T C W a ma) (hb : ME X T C W b mb) : ME X T C W (.BinOp a (pyB op) b pos) (.bin op ma mb) :=
  weakE (pe_op (op_bin (T := T)) ha hb) fun σ H Q ⟨ρ, lo, h, R, l, p⟩ => ⟨ρ, lo, h, R, l, p.bind.then fun ρ1 H1 h1 x r1 g1 R1 p1 vx rx =>
    ⟨ρ1, lo, h1, R1, l.le r1 g1, p1.bind.then fun ρ2 H2 h2 y r2 g2 R2 p2 vy ry => ⟨ρ2, h2, x, y, _, R2, rx.le r2 g2, ry, p2⟩⟩⟩
theorem me_cmp (c : XC X T Pr M k W) {op : COp} {a b : Expr} {ma mb : E} {pos : Pos} (ha : ME X T C W a ma) (hb : ME X T C W b mb) (hm : behindInMarks (pyC op) b = false) : ME X T C W (.Compare a [pyC op] [b] pos) (.cmp op ma mb) :=
  weakE (pe_cmpR (op_cmp (T := T) (room_units c.room)) ha hb hm) fun σ H Q ⟨ρ, lo, h, R, l, p⟩ => ⟨ρ, lo, h, R, l, p.bind.then fun ρ1 H1 h1 x r1 g1 R1 p1 vx rx =>
    ⟨ρ1, lo, h1, R1, l.le r1 g1, p1.bind.then fun ρ2 H2 h2 y r2 g2 R2 p2 vy ry => by
      obtain ⟨v, e, q⟩ := Post.opt R2 p2
      cases e1 : cmpS op x y h2 with
      | none => rw [e1] at e; cases e
      | some d => rw [e1] at e; cases e; exact ⟨ρ2, h2, x, y, d, R2, rx.le r2 g2, ry, e1, q _ (.bl d)⟩⟩⟩
theorem mt_cmp (c : XC X T Pr M k W) {op : COp} {a b : Expr} {ma mb : E} {pos : Pos} (ha : ME X T C W a ma) (hb : ME X T C W b mb) (hm : behindInMarks (pyC op) b = false) : MT X T C W (.Compare a [pyC op] [b] pos) (.cmp op ma mb) :=
  weakT (pt_cmpR (op_cmp (T := T) (room_units c.room)) ha hb hm) fun σ H Q ⟨ρ, lo, h, R, l, p⟩ => ⟨ρ, lo, h, R, l, p.bind.then fun ρ1 H1 h1 x r1 g1 R1 p1 vx rx =>
    ⟨ρ1, lo, h1, R1, l.le r1 g1, p1.bind.then fun ρ2 H2 h2 y r2 g2 R2 p2 vy ry => by
      obtain ⟨d, e, q⟩ := Post.opt R2 p2
      exact ⟨ρ2, h2, x, y, d, R2, rx.le r2 g2, ry, e, d, rfl, q⟩⟩⟩
theorem me_chain (c : XC X T Pr M k W) {op op' : COp} {a b d : Expr} {ma mb md : E} {pos : Pos} (ha : ME X T C W a ma) (hb : ME X T C W b mb) (hd : ME X T C W d md) (hm : lastMarks [pyC op, pyC op'] [b, d] = false) :
    ME X T C W (.Compare a [pyC op, pyC op'] [b, d] pos) (.chain op op' ma mb md) :=
  weakE (pe_chain (op_cmp (T := T) (room_units c.room)) (op_cmp (T := T) (room_units c.room)) ha hb hd hm) fun σ H Q ⟨ρ, lo, h, R, l, p⟩ => ⟨ρ, lo, h, R, l, p.bind.then fun ρ1 H1 h1 x r1 g1 R1 p1 vx rx =>
    ⟨ρ1, lo, h1, R1, l.le r1 g1, p1.bind.then fun ρ2 H2 h2 y r2 g2 R2 p2 vy ry => by
      cases e1 : cmpS op x y h2 with
      | none => rw [e1] at p2; exact p2.elim
      | some z =>
        rw [e1] at p2
        refine ⟨ρ2, h2, x, y, z, R2, rx.le r2 g2, ry, e1, z, rfl, ?_⟩
        cases z with
        | false => rw [if_neg Bool.false_ne_true]; exact p2.here R2 _ (.bl false)
        | true =>
          rw [if_pos rfl]
          exact ⟨ρ2, lo, h2, R2, (l.le r1 g1).le r2 g2, p2.bind.then fun ρ3 H3 h3 z r3 g3 R3 p3 vz rz => by
            obtain ⟨v, e, q⟩ := Post.opt R3 p3
            cases e2 : cmpS op' y z h3 with
            | none => rw [e2] at e; cases e
            | some d => rw [e2] at e; cases e; exact ⟨ρ3, h3, y, z, d, R3, ry.le r3 g3, rz, e2, q _ (.bl d)⟩⟩⟩⟩
theorem mt_chain (c : XC X T Pr M k W) {op op' : COp} {a b d : Expr} {ma mb md : E} {pos : Pos} (ha : ME X T C W a ma) (hb : ME X T C W b mb) (hd : ME X T C W d md) (hm : lastMarks [pyC op, pyC op'] [b, d] = false) :
    MT X T C W (.Compare a [pyC op, pyC op'] [b, d] pos) (.chain op op' ma mb md) :=
  weakT (pt_chain (op_cmp (T := T) (room_units c.room)) (op_cmp (T := T) (room_units c.room)) ha hb hd hm) fun σ H Q ⟨ρ, lo, h, R, l, p⟩ => ⟨ρ, lo, h, R, l, p.bind.then fun ρ1 H1 h1 x r1 g1 R1 p1 vx rx =>
    ⟨ρ1, lo, h1, R1, l.le r1 g1, p1.bind.then fun ρ2 H2 h2 y r2 g2 R2 p2 vy ry => by
      cases e1 : cmpS op x y h2 with
      | none => rw [e1] at p2; exact p2.elim
      | some z =>
        rw [e1] at p2
        refine ⟨ρ2, h2, x, y, z, R2, rx.le r2 g2, ry, e1, z, rfl, ?_⟩
        cases z with
        | false => rw [if_neg Bool.false_ne_true]; exact ⟨false, rfl, p2.here R2⟩
        | true =>
          rw [if_pos rfl]
          exact ⟨ρ2, lo, h2, R2, (l.le r1 g1).le r2 g2, p2.bind.then fun ρ3 H3 h3 z r3 g3 R3 p3 vz rz => by
            obtain ⟨d, e, q⟩ := Post.opt R3 p3
            exact ⟨ρ3, h3, y, z, d, R3, ry.le r3 g3, rz, e, d, rfl, q⟩⟩⟩⟩
theorem me_and {a b : Expr} {rest : List Expr} {ma mb : E} {pos : Pos} (ha : ME X T C W a ma) (hb : ME X T C W (.BoolOp .And (b :: rest) pos) mb) : ME X T C W (.BoolOp .And (a :: b :: rest) pos) (.and ma mb) :=
  weakE (pe_and ha hb) fun σ H Q ⟨ρ, lo, h, R, l, p⟩ => ⟨ρ, lo, h, R, l, p.bind.then fun ρ1 H1 h1 x r1 g1 R1 p1 vx rx => by
    cases rx with
    | bl z =>
      refine ⟨z, rfl, ?_⟩
      cases z with
      | true => rw [if_pos rfl]; exact ⟨ρ1, lo, h1, R1, l.le r1 g1, p1⟩
      | false => rw [if_neg Bool.false_ne_true]; exact p1.here R1 _ (.bl false)
    | _ => exact p1.elim⟩
theorem me_or {a b : Expr} {rest : List Expr} {ma mb : E} {pos : Pos} (ha : ME X T C W a ma) (hb : ME X T C W (.BoolOp .Or (b :: rest) pos) mb) : ME X T C W (.BoolOp .Or (a :: b :: rest) pos) (.or ma mb) :=
  weakE (pe_or ha hb) fun σ H Q ⟨ρ, lo, h, R, l, p⟩ => ⟨ρ, lo, h, R, l, p.bind.then fun ρ1 H1 h1 x r1 g1 R1 p1 vx rx => by
    cases rx with
    | bl z =>
      refine ⟨z, rfl, ?_⟩
      cases z with
      | true => rw [if_pos rfl]; exact p1.here R1 _ (.bl true)
      | false => rw [if_neg Bool.false_ne_true]; exact ⟨ρ1, lo, h1, R1, l.le r1 g1, p1⟩
    | _ => exact p1.elim⟩
theorem mw_and {a b : Expr} {rest : List Expr} {ma mb : E} {pos : Pos} (ha : MT X T C W a ma) (hb : PW X (.BoolOp .And (b :: rest) pos) (tT T X.K C W mb)) : PW X (.BoolOp .And (a :: b :: rest) pos) (tT T X.K C W (.and ma mb)) := by
  refine ⟨fun wh pins s σ H Q I q => (pw_and ha hb).run wh pins s σ H Q I ?_⟩
  obtain ⟨ρ, lo, h, R, l, p⟩ := q
  refine ⟨ρ, lo, h, R, l, p.bind.then fun ρ1 H1 h1 z r1 g1 R1 p1 => ?_⟩
  cases z with
  | true => rw [if_pos rfl]; exact ⟨ρ1, lo, h1, R1, l.le r1 g1, p1⟩
  | false => rw [if_neg Bool.false_ne_true]; exact p1.here R1
theorem mw_or {a b : Expr} {rest : List Expr} {ma mb : E} {pos : Pos} (ha : MT X T C W a ma) (hb : PW X (.BoolOp .Or (b :: rest) pos) (tT T X.K C W mb)) : PW X (.BoolOp .Or (a :: b :: rest) pos) (tT T X.K C W (.or ma mb)) := by
  refine ⟨fun wh pins s σ H Q I q => (pw_or ha hb).run wh pins s σ H Q I ?_⟩
  obtain ⟨ρ, lo, h, R, l, p⟩ := q
  refine ⟨ρ, lo, h, R, l, p.bind.then fun ρ1 H1 h1 z r1 g1 R1 p1 => ?_⟩
  cases z with
  | true => rw [if_pos rfl]; exact p1.here R1
  | false => rw [if_neg Bool.false_ne_true]; exact ⟨ρ1, lo, h1, R1, l.le r1 g1, p1⟩
theorem mt_not {a : Expr} {ma : E} {pos : Pos} (ha : MT X T C W a ma) : MT X T C W (.UnaryOp .Not a pos) (.not ma) :=
  weakT (pt_not ha) fun σ H Q ⟨ρ, lo, h, R, l, p⟩ => ⟨ρ, lo, h, R, l, p.bind.then fun ρ1 H1 h1 z r1 g1 R1 p1 => p1.here R1⟩
theorem me_not {a : Expr} {ma : E} {pos : Pos} (ha : ME X T C W a ma) : ME X T C W (.UnaryOp .Not a pos) (.not ma) :=
  weakE (pe_not ha) fun σ H Q ⟨ρ, lo, h, R, l, p⟩ => ⟨ρ, lo, h, R, l, p.bind.then fun ρ1 H1 h1 x r1 g1 R1 p1 vx rx => by
    cases rx with
    | bl z => exact ⟨z, rfl, p1.here R1 _ (.bl _)⟩
    | _ => exact p1.elim⟩
theorem me_neg {a : Expr} {ma : E} {pos : Pos} (ha : ME X T C W a ma) : ME X T C W (.UnaryOp .USub a pos) (.neg ma) :=
  weakE (pe_un un_neg ha) fun σ H Q ⟨ρ, lo, h, R, l, p⟩ => ⟨ρ, lo, h, R, l, p.bind.then fun ρ1 H1 h1 x r1 g1 R1 p1 vx rx => by
    cases rx with
    | int z => exact ⟨z, rfl, p1.here R1 _ (.int _)⟩
    | _ => exact p1.elim⟩
theorem me_ife {t a b : Expr} {mt ma mb : E} {pos : Pos} (ht : MT X T C W t mt) (ha : ME X T C W a ma) (hb : ME X T C W b mb) : ME X T C W (.IfExp t a b pos) (.ife mt ma mb) :=
  weakE (pe_ifExp ht ha hb) fun σ H Q ⟨ρ, lo, h, R, l, p⟩ => ⟨ρ, lo, h, R, l, p.bind.then fun ρ1 H1 h1 z r1 g1 R1 p1 => by
    cases z with
    | true => rw [if_pos rfl]; exact ⟨ρ1, lo, h1, R1, l.le r1 g1, p1⟩
    | false => rw [if_neg Bool.false_ne_true]; exact ⟨ρ1, lo, h1, R1, l.le r1 g1, p1⟩⟩

/-! ### arguments, displays -/
theorem mes_nil : MEs X T C W [] [] := weakA pa_nil fun σ H Q ⟨ρ, lo, h, R, l, p⟩ => p.here R _ .nil
theorem mes_cons {e : Expr} {es : List Expr} {m : E} {ms : List E} (he : ME X T C W e m) (hs : MEs X T C W es ms) (st : notStar e = true) : MEs X T C W (e :: es) (m :: ms) :=
  weakA (pa_cons he hs (star_cons st)) fun σ H Q ⟨ρ, lo, h, R, l, p⟩ => ⟨ρ, lo, h, R, l, p.bind.then fun ρ1 H1 h1 x r1 g1 R1 p1 vx rx =>
    ⟨ρ1, lo, h1, R1, l.le r1 g1, p1.bind.then fun ρ2 H2 h2 xs r2 g2 R2 p2 vxs rxs => p2.here R2 _ (.cons (rx.le r2 g2) rxs)⟩⟩
theorem me_tup {es : List Expr} {ms : List E} {x1} {pos : Pos} (hs : MEs X T C W es ms) : ME X T C W (.Tuple es x1 pos) (.tup ms) :=
  weakE (pe_tup hs) fun σ H Q ⟨ρ, lo, h, R, l, p⟩ => ⟨ρ, lo, h, R, l, p.bind.then fun ρ1 H1 h1 xs r1 g1 R1 p1 vxs rxs => by
    obtain ⟨c, p1⟩ := if_post p1
    refine ⟨by rw [rxs.length]; exact c, fun q hq => ?_⟩
    obtain ⟨f, rep⟩ := Post.tuple R1 p1 hq rxs
    exact f _ rep⟩
theorem me_lst {es : List Expr} {ms : List E} {pos : Pos} (hs : MEs X T C W es ms) : ME X T C W (.List es pos) (.lst ms) :=
  weakE (pe_lst hs) fun σ H Q ⟨ρ, lo, h, R, l, p⟩ => ⟨ρ, lo, h, R, l, p.bind.then fun ρ1 H1 h1 xs r1 g1 R1 p1 vxs rxs => by
    obtain ⟨c, p1⟩ := if_post p1
    refine ⟨by rw [rxs.length]; exact c, fun q hq => ?_⟩
    obtain ⟨f, rep⟩ := Post.fresh (u := .lst vxs) R1 p1 hq fun ρ' r => ⟨_, upd_same, rxs.le r (HLe.new hq)⟩
    exact f _ rep⟩

/-! ### subscripts -/
def notSlice : Expr → Bool
  | .Slice _ _ _ _ => false
  | _ => true
theorem plain_ix {b : Expr} (h : notSlice b = true) : PlainIx b := by
  intro o i
  cases b <;> first | rfl | cases h
theorem me_idx {a b : Expr} {ma mb : E} {pos : Pos} (ha : ME X T C W a ma) (hb : ME X T C W b mb) (hs : notSlice b = true) : ME X T C W (.Subscript a b pos) (.idx ma mb) :=
  weakE (pe_ix (ix_idx (T := T)) ha hb (plain_ix hs)) fun σ H Q ⟨ρ, lo, h, R, l, p⟩ => ⟨ρ, lo, h, R, l, p.bind.then fun ρ1 H1 h1 x r1 g1 R1 p1 vx rx =>
    ⟨ρ1, lo, h1, R1, l.le r1 g1, p1.bind.then fun ρ2 H2 h2 y r2 g2 R2 p2 vy ry => by
      obtain ⟨d, e, q⟩ := Post.opt R2 p2
      exact ⟨ρ2, h2, x, y, d, R2, rx.le r2 g2, ry, e, q⟩⟩⟩
theorem mo_none : MO_ X T C W none none := weakO po_none fun σ H Q ⟨ρ, lo, h, R, l, p⟩ => p.here R
theorem mo_some {e : Expr} {m : E} (he : ME X T C W e m) : MO_ X T C W (some e) (some m) :=
  weakO (po_some he) fun σ H Q ⟨ρ, lo, h, R, l, p⟩ => ⟨ρ, lo, h, R, l, p.bind.then fun ρ1 H1 h1 x r1 g1 R1 p1 vx rx => by
    cases rx with
    | int z => exact ⟨z, rfl, p1.here R1⟩
    | _ => exact p1.elim⟩
theorem me_slc {a : Expr} {lo' hi : Option Expr} {ma : E} {ml mh : Option E} {pos p2 : Pos} (ha : ME X T C W a ma) (hl : MO_ X T C W lo' ml) (hh : MO_ X T C W hi mh) : ME X T C W (.Subscript a (.Slice lo' hi none p2) pos) (.slc ma ml mh) :=
  weakE (pe_slice (sl_slc (T := T)) ha hl hh) fun σ H Q ⟨ρ, lo, h, R, l, p⟩ => ⟨ρ, lo, h, R, l, p.bind.then fun ρ1 H1 h1 x r1 g1 R1 p1 vx rx =>
    ⟨ρ1, lo, h1, R1, l.le r1 g1, p1.bind.then fun ρ2 H2 h2 y r2 g2 R2 p2 =>
      ⟨ρ2, lo, h2, R2, (l.le r1 g1).le r2 g2, p2.bind.then fun ρ3 H3 h3 z r3 g3 R3 p3 => ⟨ρ3, h3, x, _, R3, (rx.le r2 g2).le r3 g3, p3⟩⟩⟩⟩

/-! ### attributes -/
theorem attr_rep (c : XC X T Pr M k W) {ρ : List Addr} {H : Hp} {h : MH} {C : CB} (hC : C.cls = Pr.cls) (R : HRel T X.K ρ H h) {x : V} {m v : PV} {f : Nat} {nm : Str} (hn : T.an[f]? = some nm) (r : Rep X.K ρ H x m) (e : attrS C h f m = some v) :
    ∃ a D dx gs n cc fs, x = .ref a ∧ m = .ref n ∧ ρ[n]? = some a ∧ h[n]? = some (.ins cc fs) ∧ T.ca[cc]? = some D ∧ hasAttr C cc f = true ∧ H a = some (.ins D dx gs) ∧ Cls X.K D ∧ NoAttr X.K D nm ∧ Flds T X.K ρ H gs fs ∧ ∃ y, gs.lookup nm = some y ∧ Rep X.K ρ H y v := by
  cases r with
  | @ref a n hp =>
    simp only [attrS] at e
    split at e
    · rename_i cc fs e1
      split at e
      · rename_i e2
        obtain ⟨D, dx, gs, h1, h2, h3⟩ := R.addr e1 hp
        obtain ⟨y, h4, h5⟩ := h3.look hn e
        have e3 := e2
        unfold hasAttr at e3
        rw [hC] at e3
        split at e3
        · rename_i kd e4
          obtain ⟨D', x', g1, g2, g3, g4⟩ := c.at_ cc kd f e4 e3
          rw [h1] at g1; cases g1
          rw [hn] at g2; cases g2
          exact ⟨a, D, dx, gs, n, cc, fs, rfl, rfl, hp, e1, h1, e2, h2, g3, g4, h3, y, h4, h5⟩
        · cases e3
      · cases e
    · cases e
  | _ => simp only [attrS] at e; cases e
theorem me_attr (c : XC X T Pr M k W) (hC : C.cls = Pr.cls) {o : Expr} {mo : E} {f : Nat} {nm : Str} {pos : Pos} (ho : ME X T C W o mo) (hn : T.an[f]? = some nm) (hs : notSuper o = true) : ME X T C W (.Attribute o nm pos) (.attr mo f) :=
  weakE (pe_fld ho (base_ok hs)) fun σ H Q ⟨ρ, lo, h, R, l, p⟩ => ⟨ρ, lo, h, R, l, p.bind.then fun ρ1 H1 h1 x r1 g1 R1 p1 vx rx => by
    obtain ⟨v, e, q⟩ := Post.opt R1 p1
    obtain ⟨a, D, dx, gs, n, cc, fs, rfl, rfl, _, _, _, _, h2, h3, h4, _, y, h5, h6⟩ := attr_rep c hC R1 hn rx e
    exact ⟨a, D, dx, gs, y, rfl, h2, h3, h4, h5, q _ h6⟩⟩

/-! ### calls -/
theorem run_fa (c : XC X T Pr M k W) {f : Nat} {a : Addr} (F : FA X.prog X.w X.K X.mg X.base T Pr k f a) {pins : List (Addr × Obj)} {σ : L2.St} {H : Hp} {s : Shared} {Q : VK} {us : List Value} {vs : List V} {ρ : List Addr} {h : MH} {ms : List PV}
    (I : L2.Inv X pins σ H s) (r : Vals vs us) (R : HRel T X.K ρ H h) (rm : Reps X.K ρ H vs ms) (p : Post T X.K ρ H (callF Pr k f ms h) (fun ρ' H' _ m => ∀ x, Rep X.K ρ' H' x m → Q x H') fun c d H' => W c d σ H') :
    wpAny (model X.prog X.w) X.A (call (.ref a) us) (EP X pins σ Q) X.xe s := by
  obtain ⟨fd, ps, G, B⟩ := F
  exact run_g G c.room c.gds B c.tk I r ⟨ρ, ms, h, R, rm, p⟩
theorem call_args {pos : Pos} {g : Value} {first : List Value} {es : List Expr} {ms : List E} {pins : List (Addr × Obj)} {s : Shared} {σ : L2.St} {H : Hp} {Q : Value → Shared → Prop} (hs : MEs X T C W es ms) (hl : es.length = ms.length) (st : es.all notStar = true) (kp : PySem.W.keepIn X.K g = true)
    (I : L2.Inv X pins σ H s) (q : tEs T X.K C W ms σ H fun vs H1 => ∀ us s1, L2.Inv X pins σ H1 s1 → Vals vs us → wpAny (model X.prog X.w) X.A (call g (first ++ us)) Q X.xe s1) :
    wpAny (model X.prog X.w) X.A (callWith pos g first (backTo pos (starEach es X.env)) (backToKw pos (keywordEach [] X.env))) Q X.xe s := by
  cases es with
  | nil =>
    cases ms with
    | cons _ _ => cases hl
    | nil =>
      obtain ⟨ρ, lo, h, R, l, p⟩ := q
      exact PySem.W.callWith_K0 I.kIn kp (p.here R [] .nil [] s I .nil)
  | cons e es =>
    rw [List.all_cons, Bool.and_eq_true] at st
    exact PySem.W.callWith_K (h₀ := X.base) I.ok.mod.kin kp (thn (hs.run pos pins s σ H _ I q) fun us s1 ⟨vs, H1, I1, r, q1⟩ => ⟨I1.kIn, q1 us s1 I1 r⟩) (star_cons st.1) (star_any st.2)
theorem me_call (c : XC X T Pr M k W) {f : Nat} {x : Str} {es : List Expr} {ms : List E} {p pos : Pos} (hf : M.gf.lookup x = some f) (hg : Gl X x) (hdb : (x == ("__debug__" : Str)) = false) (hs : MEs X T (cbK Pr k) W es ms) (hl : es.length = ms.length)
    (st : es.all notStar = true) : ME X T (cbK Pr k) W (.Call (.Name x p) es [] pos) (.call f ms) := by
  refine ⟨fun pins s σ H Q I q => ?_⟩
  obtain ⟨a, h1, h2, F⟩ := c.fn x f hf
  refine wpAny_Call_Name_kw (ld_glob I hg h1 ?_ hdb)
  obtain ⟨ρ, lo, h, R, l, p⟩ := q
  exact call_args (first := []) hs hl st h2 I ⟨ρ, lo, h, R, l, p.bind.then fun ρ1 H1 h1 vs r1 g1 R1 p1 xs rxs us s1 I1 r => run_fa c F I1 r R1 rxs p1⟩
theorem me_meth (c : XC X T Pr M k W) {m : Nat} {x : Str} {o : Expr} {mo : E} {es : List Expr} {ms : List E} {apos pos : Pos} (hm : T.mn[m]? = some x) (ho : ME X T (cbK Pr k) W o mo) (hsu : notSuper o = true) (hs : MEs X T (cbK Pr k) W es ms) (hl : es.length = ms.length)
    (st : es.all notStar = true) (few : methodCallForm es.length (backTo pos (starEach es X.env)) [] = true) (ln : (apos.endLine == pos.line) = true) : ME X T (cbK Pr k) W (.Call (.Attribute o x apos) es [] pos) (.meth m mo ms) := by
  refine ⟨fun pins s σ H Q I q => ?_⟩
  have ht : eval (.Call (.Attribute o x apos) es [] pos) X.env = (do
      let ov ← eval o X.env
      standAt apos.atName
      let (f, first) ← holding [ov] (getMethod ov x (do return (← importBound o X.env).getD true))
      callWith pos f first (backTo pos (starEach es X.env)) (backToKw pos (keywordEach [] X.env))) := by
    show (do
      let ov ← attributeBase o x X.env (eval o X.env)
      standAt apos.atName
      methodCall o x apos pos X.env ov (es.length + ([] : List Keyword).length) (backTo pos (starEach es X.env)) (backToKw pos (keywordEach [] X.env))) = _
    rw [base_ok hsu]
    have e1 : methodCallForm (es.length + ([] : List Keyword).length) (backTo pos (starEach es X.env)) (backToKw pos (keywordEach [] X.env)) = true := few
    unfold methodCall methodCallPos calleeOf
    rw [e1]
    simp only [if_true, Bool.not_true, Bool.false_or, ln]
    rfl
  refine PySem.W.methodCall_KW (pl := (do return (← importBound o X.env).getD true)) (thn (ho.run pins s σ H (fun v H1 => ∃ a D dx gs g f, v = .ref a ∧ H1 a = some (.ins D dx gs) ∧ Cls X.K D ∧ Meth X.K D x g ∧ gs.lookup x = none ∧ FA X.prog X.w X.K X.mg X.base T Pr k f g ∧
      ∃ ρ1 h1 mv, HRel T X.K ρ1 H1 h1 ∧ LRel X.K ρ1 H1 σ (q.choose_spec.choose) ∧ Rep X.K ρ1 H1 v mv ∧ Post T X.K ρ1 H1 ((evalEs (cbK Pr k) ms q.choose_spec.choose h1).bind fun vs h => callF Pr k f (mv :: vs) h) (fun ρ' H' _ m => ∀ x, Rep X.K ρ' H' x m → Q x H') fun c d H' => W c d σ H') I ?_) fun u s1 ⟨v, H1, I1, rv, a, D, dx, gs, g, f, e1, e2, e3, e4, e5, F, ρ1, h1, mv, R1, l1, rm, p1⟩ => ?_) ht
  · obtain ⟨h, R, l, p⟩ := q.choose_spec.choose_spec
    refine ⟨_, _, h, R, l, p.bind.then fun ρ1 H1 h1 m' r1 g1 R1 p1 vx rx => ?_⟩
    cases e : methOf (cbK Pr k) h1 m m' with
    | none => rw [e] at p1; exact p1.elim
    | some f =>
      rw [e] at p1
      cases rx with
      | @ref a n hp =>
        simp only [methOf] at e
        split at e
        · rename_i cc fs e1
          obtain ⟨D, dx, gs, o1, o2, o3⟩ := R1.addr e1 hp
          cases e2 : (cbK Pr k).cls[cc]? with
          | none => rw [e2] at e; cases e
          | some kd =>
            rw [e2] at e
            obtain ⟨D', g, x', z1, z2, z3, z4, F⟩ := c.me cc kd m f e2 e
            rw [o1] at z1; cases z1
            rw [hm] at z2; cases z2
            exact ⟨a, D, dx, gs, g, f, rfl, o2, z3, z4, o3.none_ (T.mnA x (List.mem_of_getElem? hm)), F, ρ1, h1, .ref n, R1, l.le r1 g1, .ref hp, p1⟩
        · cases e
      | _ => simp only [methOf] at e; cases e
  · subst e1
    obtain rfl : u = Value.ref a := rv
    refine getmeth_ok I1 e2 e3 e4 e5 ?_
    exact call_args (first := [.ref a]) hs hl st e4.kp I1 ⟨ρ1, _, h1, R1, l1, p1.bind.then fun ρ2 H2 h2 vs r2 g2 R2 p2 xs rxs us s2 I2 r => run_fa c F (us := .ref a :: us) (vs := .ref a :: xs) I2 (.cons rfl r) R2 (.cons (rm.le r2 g2) rxs) p2⟩
/-- a class called -/
theorem me_mk (c : XC X T Pr M k W) {cn : Nat} {x : Str} {es : List Expr} {ms : List E} {p pos : Pos} (hf : M.gc.lookup x = some cn) (hg : Gl X x) (hdb : (x == ("__debug__" : Str)) = false) (hs : MEs X T (cbK Pr k) W es ms) (hl : es.length = ms.length)
    (st : es.all notStar = true) : ME X T (cbK Pr k) W (.Call (.Name x p) es [] pos) (.mk cn ms) := by
  refine ⟨fun pins s σ H Q I q => ?_⟩
  obtain ⟨D, kd, f, hD, h1, kp, e1, e0, h2⟩ := c.made x cn hf
  refine wpAny_Call_Name_kw (ld_glob I hg h1 ?_ hdb)
  obtain ⟨ρ, lo, h, R, l, p⟩ := q
  have e2 : (cbK Pr k).cls[cn]?.bind (·.init) = some f := by show Pr.cls[cn]?.bind (·.init) = some f; rw [e1]; exact e0
  refine call_args (first := []) hs hl st kp I ⟨ρ, lo, h, R, l, p.bind.then fun ρ1 H1 h1 vs r1 g1 R1 p1 xs rxs us s1 I1 r => ?_⟩
  rw [e2] at p1
  cases k with
  | zero => exact p1.elim
  | succ j =>
    obtain ⟨a, Mk_, fd, ps, G, B⟩ := h2 j rfl
    refine run_mkg Mk_ G c.room c.gds B c.tk I1 r fun y dx hy hdx hne => ?_
    have hp : HLe H1 (upd (upd H1 dx (.own y)) y (.ins D dx [])) := (HLe.new hdx).trans (HLe.new (by rw [upd_ne (Ne.symm hne)]; exact hy))
    have R2 : HRel T X.K (ρ1 ++ [y]) (upd (upd H1 dx (.own y)) y (.ins D dx [])) (h1 ++ [.ins cn []]) := by
      refine R1.new hp hy (fun b hb hb2 => ?_) ⟨D, dx, [], hD, upd_same, .nil⟩
      rw [upd_ne hb2, upd_ne]
      intro z
      rw [z, hdx] at hb; cases hb
    have at1 : (ρ1 ++ [y])[h1.length]? = some y := by rw [← R1.len]; simp
    have ry : Rep X.K (ρ1 ++ [y]) (upd (upd H1 dx (.own y)) y (.ins D dx [])) (.ref y) (.ref h1.length) := .ref at1
    refine ⟨_, _, _, R2, .cons ry (rxs.le RLe.snoc hp), (p1.move RLe.snoc hp).bind.then fun ρ2 H2 h2 m r2 g2 R2' p2 x rx => ?_⟩
    cases rx with
    | non => exact ⟨rfl, p2.here R2' _ (.ref (r2 _ _ at1))⟩
    | _ => exact p2.elim
end
end Vb

set_option Elab.async false
set_option linter.all false
set_option maxRecDepth 100000
set_option maxHeartbeats 2000000
/-! Built-ins called, tests by truth, what loops go over, targets, comprehensions. -/
namespace Vb
open PySem L2 PySem.Spec PyProof.Rows
section
variable {X : Cx} {T : LT} {Pr : Prog} {M : Nm} {k : Nat} {W : WX} {C : CB}
/-! ### built-ins called -/
theorem me_bi (c : XC X T Pr M k W) {b : Bi} {e : Expr} {es : List Expr} {ms : List E} {p pos : Pos} (hg : Gl X (biName b)) (hs : MEs X T C W (e :: es) ms) (st : (e :: es).all notStar = true) : ME X T C W (.Call (.Name (biName b) p) (e :: es) [] pos) (.bi b ms) := by
  rw [List.all_cons, Bool.and_eq_true] at st
  have fin : ∀ {σ H Q}, tE T X.K C W (.bi b ms) σ H Q → tCB (rBi T X.K b) (tEs T X.K C W ms) σ H Q := fun {σ H Q} ⟨ρ, lo, h, R, l, p⟩ =>
    ⟨ρ, lo, h, R, l, p.bind.then fun ρ1 H1 h1 vs r1 g1 R1 p1 xs rxs => ⟨ρ1, h1, vs, _, R1, rxs, p1⟩⟩
  cases b with
  | len => exact weakE (pe_callB call_len_ hg (c.bi .len) (by decide +kernel) hs (by decide) (by decide) (star_cons st.1) (star_any st.2)) fun _ _ _ => fin
  | str => exact weakE (pe_callTy call_str_ hg (c.bi .str) (by decide +kernel) hs (by decide) (by decide) (star_cons st.1) (star_any st.2)) fun _ _ _ => fin
  | int => exact weakE (pe_callTy call_int_ hg (c.bi .int) (by decide +kernel) hs (by decide) (by decide) (star_cons st.1) (star_any st.2)) fun _ _ _ => fin
  | tuple => exact weakE (pe_callTy call_tuple_ hg (c.bi .tuple) (by decide +kernel) hs (by decide) (by decide) (star_cons st.1) (star_any st.2)) fun _ _ _ => fin
  | list => exact weakE (pe_callTy call_list_ hg (c.bi .list) (by decide +kernel) hs (by decide) (by decide) (star_cons st.1) (star_any st.2)) fun _ _ _ => fin
  | max2 => exact weakE (pe_callB (call_max_ c.calm) hg (c.bi .max2) (by decide +kernel) hs (by decide) (by decide) (star_cons st.1) (star_any st.2)) fun _ _ _ => fin
  | min2 => exact weakE (pe_callB (call_min_ c.calm) hg (c.bi .min2) (by decide +kernel) hs (by decide) (by decide) (star_cons st.1) (star_any st.2)) fun _ _ _ => fin
  | all => exact weakE (pe_callB (call_all_ c.calm) hg (c.bi .all) (by decide +kernel) hs (by decide) (by decide) (star_cons st.1) (star_any st.2)) fun _ _ _ => fin
  | any => exact weakE (pe_callB (call_any_ c.calm) hg (c.bi .any) (by decide +kernel) hs (by decide) (by decide) (star_cons st.1) (star_any st.2)) fun _ _ _ => fin
  | repr => exact weakE (pe_callB (call_repr_ c.gds (room_units c.room)) hg (c.bi .repr) (by decide +kernel) hs (by decide) (by decide) (star_cons st.1) (star_any st.2)) fun _ _ _ => fin
theorem me_isi (c : XC X T Pr M k W) {e : Expr} {m : E} {t : Ty} {p p2 pos : Pos} (hg : Gl X "isinstance") (hg2 : Gl X (tyPy t)) (he : ME X T C W e m) (st : notStar e = true) : ME X T C W (.Call (.Name "isinstance" p) [e, .Name (tyPy t) p2] [] pos) (.isi m t) := by
  have ht : PE X (.Name (tyPy t) p2) (tC (.ty (tyN t))) := by
    cases t with
    | int => exact pe_bltn (v := .ty "int") hg2 (c.ty .int) (by decide +kernel) rfl (by decide) (by decide)
    | bool => exact pe_bltn (v := .ty "bool") hg2 (c.ty .bool) (by decide +kernel) rfl (by decide) (by decide)
    | str => exact pe_bltn (v := .ty "str") hg2 (c.ty .str) (by decide +kernel) rfl (by decide) (by decide)
    | tup => exact pe_bltn (v := .ty "tuple") hg2 (c.ty .tup) (by decide +kernel) rfl (by decide) (by decide)
    | lst => exact pe_bltn (v := .ty "list") hg2 (c.ty .lst) (by decide +kernel) rfl (by decide) (by decide)
  refine weakE (pe_callB (call_isi_ (T := T) c.isk (t := t)) hg c.ifn (by decide +kernel) (pa_cons he (pa_cons ht pa_nil rfl) (star_cons st)) (by decide) (by decide) (star_cons st) rfl) fun σ H Q ⟨ρ, lo, h, R, l, p⟩ => ?_
  refine ⟨ρ, lo, h, R, l, p.bind.then fun ρ1 H1 h1 v r1 g1 R1 p1 x rx => ?_⟩
  obtain ⟨d, e, q⟩ := Post.opt R1 p1
  cases e1 : isiS h1 t v with
  | none => rw [e1] at e; cases e
  | some z => rw [e1] at e; cases e; exact ⟨ρ1, h1, x, v, z, R1, rx, rfl, e1, q _ (.bl z)⟩
theorem plain_list : PlainAttrs "list" := PySem.F.plainAttrs_list
theorem me_bm {b : Bm} {o : Expr} {mo : E} {es : List Expr} {ms : List E} {apos pos : Pos} (ho : ME X T C W o mo) (hsu : notSuper o = true) (hs : MEs X T C W es ms) (hl : es.length = ms.length) (st : es.all notStar = true)
    (few : ((backTo pos (starEach es X.env)).all (fun x => !x.1) && (backToKw pos (keywordEach [] X.env)).all (fun x => x.1.isSome) && decide (es.length + ([] : List Keyword).length + (if ([] : List Keyword).isEmpty then 0 else 1) < 30)) = true)
    (ln : (apos.endLine == pos.line) = true) : ME X T C W (.Call (.Attribute o (bmName b) apos) es [] pos) (.bm b mo ms) := by
  have pa : PlainAttrs (bmT b) := by cases b <;> first | exact PySem.F.plainAttrs_list | exact PySem.F.plainAttrs_str
  have sl : Slot (bmT b) (bmName b) (bmId b) := by cases b <;> first | exact PySem.F.slot_list_append | exact PySem.F.slot_list_extend | exact PySem.F.slot_list_pop | exact PySem.F.slot_str_join | exact PySem.F.slot_str_split
  have ty : typeOf (.builtin (bmId b)) = pure (.type "method_descriptor") := by cases b <;> first | exact PySem.F.type_list_append | exact PySem.F.type_list_extend | exact PySem.F.type_list_pop | exact PySem.F.type_str_join | exact PySem.F.type_str_split
  have step : ∀ {ρ1 : List Addr} {H1 : Hp} {h1 : MH} {x : PV} {vx : V} {r : Res PV} {Q : List Addr → Hp → MH → PV → Prop} {W' : Value → Option Addr → Hp → Prop}, HRel T X.K ρ1 H1 h1 → Rep X.K ρ1 H1 vx x → Post T X.K ρ1 H1 (if bmTy b x h1 = true then r else .no) Q W' → tyV X.K (bmT b) vx H1 ∧ Post T X.K ρ1 H1 r Q W' :=
    fun R1 rx p1 => let ⟨c1, p2⟩ := if_post p1; ⟨bm_ty R1 rx c1, p2⟩
  cases es with
  | nil =>
    cases ms with
    | cons _ _ => cases hl
    | nil =>
      refine weakE (pe_bm0 pa sl ty (mt_bm (T := T)) ho (base_ok hsu) ln) fun σ H Q ⟨ρ, lo, h, R, l, p⟩ => ⟨ρ, lo, h, R, l, p.bind.then fun ρ1 H1 h1 x r1 g1 R1 p1 vx rx => ?_⟩
      obtain ⟨c1, p2⟩ := step R1 rx p1
      exact ⟨c1, ρ1, h1, x, [], _, R1, rx, .nil, p2⟩
  | cons e es =>
    rw [List.all_cons, Bool.and_eq_true] at st
    refine weakE (pe_bm pa sl ty (mt_bm (T := T)) ho hs (base_ok hsu) few ln (star_cons st.1) (star_any st.2)) fun σ H Q ⟨ρ, lo, h, R, l, p⟩ => ⟨ρ, lo, h, R, l, p.bind.then fun ρ1 H1 h1 x r1 g1 R1 p1 vx rx => ?_⟩
    obtain ⟨c1, p2⟩ := step R1 rx p1
    exact ⟨c1, ρ1, lo, h1, R1, l.le r1 g1, p2.bind.then fun ρ2 H2 h2 vs r2 g2 R2 p3 xs rxs => ⟨ρ2, h2, x, vs, _, R2, rx.le r2 g2, rxs, p3⟩⟩

/-! ### tests by truth -/
def plainTest : Expr → Bool
  | .UnaryOp .Not _ _ => false
  | .BoolOp _ _ _ => false
  | .IfExp _ _ _ _ => false
  | .Compare _ _ _ _ => false
  | _ => true
theorem plain_true {e : Expr} {env : Env} (h : plainTest e = true) (w : Sem Value) : isTrue e env w = (do let v ← w; standAt e.pos; holding [v] (truthy v)) := by
  cases e with
  | UnaryOp op x p => cases op <;> first | rfl | cases h
  | BoolOp _ _ _ => cases h
  | IfExp _ _ _ _ => cases h
  | Compare _ _ _ _ => cases h
  | _ => rfl
theorem mt_val {e : Expr} {m : E} (he : ME X T C W e m) (hp : plainTest e = true) : MT X T C W e (.val m) :=
  weakT (pt_truth he (plain_true hp)) fun σ H Q ⟨ρ, lo, h, R, l, p⟩ =>
    ⟨ρ, lo, h, R, l, p.bind.then fun ρ1 H1 h1 x r1 g1 R1 p1 vx rx => by
      obtain ⟨d, e, q⟩ := Post.opt R1 p1
      exact ⟨d, tru_rep R1 rx e, q⟩⟩

/-! ### what loops go over -/
def iDyn (K : PySem.W.Frag) (tl : TE) : TI := fun σ H R => tl σ H fun x H1 => (∃ a xs, x = .ref a ∧ SqL K H1 a xs ∧ R (Itl K a) H1) ∨ (∃ a xs, x = .ref a ∧ SqT K H1 a xs ∧ R (Itt K a) H1) ∨ ∃ z, x = .str z ∧ R (Its z) H1
theorem pi_dyn {tg l : Expr} {tl : TE} (hl : PE X l tl) : PI X tg l (iDyn X.K tl) := by
  constructor
  intro pins s σ H R I q
  apply thn (hl.run pins s σ H _ I q)
  rintro v s2 ⟨x, H1, J, rx, (⟨a, xs, rfl, hx, z⟩ | ⟨a, xs, rfl, hx, z⟩ | ⟨y, rfl, z⟩)⟩
  · cases rx
    obtain ⟨its, _, pl, _⟩ := J.list hx
    exact wpAny_pyIter_list pl.isList (pi_one (tk := s2.toks) J _ (turn_list a _) ⟨_, Heap.get?_push_size _ rfl, rfl, rfl⟩ z)
  · cases rx
    obtain ⟨its, _, pl, _⟩ := J.tuple hx
    exact wpAny_pyIter_tuple (show s2.heap.IsTuple a its.toArray from pl) (pi_one (tk := s2.toks) J _ (turn_tuple a _) ⟨_, Heap.get?_push_size _ rfl, rfl, rfl⟩ z)
  · obtain ⟨t, rfl⟩ := rx
    cases small : y.cps.all (· < 128) with
    | true => exact wpAny_pyIter_ascii small (pi_one (tk := s2.toks) J _ (turn_str _ y t "str_ascii_iterator" (.inl rfl)) ⟨_, Heap.get?_push_size _ rfl, rfl, rfl⟩ z)
    | false => exact wpAny_pyIter_wide small (pi_one (tk := s2.toks) J _ (turn_str _ y t "str_iterator" (.inr rfl)) ⟨_, Heap.get?_push_size _ rfl, rfl, rfl⟩ z)
/-- an iterator gives these items, as long as its list stays -/
def JOk (T : LT) (K : PySem.W.Frag) (J : L2.It) (ρ0 : List Addr) (H0 : Hp) (vs : List PV) (good : MH → Prop) : Prop :=
  ∀ ρ H h, RLe ρ0 ρ → HLe H0 H → HRel T K ρ H h → good h → ∀ i, (i = vs.length → J.stop i H) ∧ ∀ v, vs[i]? = some v → J.go i H ∧ ∀ x H', J.yld i H x H' → HLe H H' ∧ HRel T K ρ H' h ∧ Rep K ρ H' x v
def tI (T : LT) (K : PySem.W.Frag) (C : CB) (W : WX) (m : IX) : TI := fun σ H R => ∃ ρ lo h, HRel T K ρ H h ∧ LRel K ρ H σ lo ∧
  Post T K ρ H (evalI C m lo h) (fun ρ' H' h' p => ∀ J, JOk T K J ρ' H' p.1 (sameSeq p.2 h') → R J H') fun c d H' => W c d σ H'
abbrev MI (X : Cx) (T : LT) (C : CB) (W : WX) (tg it : Expr) (m : IX) : Prop := PI X tg it (tI T X.K C W m)
theorem weakI {tg it : Expr} {t t' : TI} (p : PI X tg it t) (k : ∀ σ H R, t' σ H R → t σ H R) : PI X tg it t' := ⟨fun pins s σ H R I q => p.run pins s σ H R I (k σ H R q)⟩
theorem jok_list {K : PySem.W.Frag} {ρ0 : List Addr} {H0 : Hp} {h0 : MH} {n : Nat} {a : Addr} {vs : List PV} (e : seqAt h0 n = some vs) (hp : ρ0[n]? = some a) : JOk T K (Itl K a) ρ0 H0 vs (sameSeq (.ref n) h0) := by
  intro ρ H h r g R gd i
  have e2 : seqAt h n = some vs := by
    have gd' : h[n]? = h0[n]? := gd
    unfold seqAt at e ⊢
    rw [gd']; exact e
  obtain ⟨xs, h1, h2⟩ := R.seq e2 (r _ _ hp)
  refine ⟨fun ei => ⟨xs, h1, by rw [h2.length, ei]; exact Nat.le_refl _⟩, fun v ev => ?_⟩
  obtain ⟨x, hx, rx⟩ := h2.get ev
  refine ⟨⟨xs, x, h1, hx⟩, fun y H' hy => ?_⟩
  obtain ⟨eH, hy⟩ := hy
  subst eH
  have := hy xs h1
  rw [hx] at this; cases this
  exact ⟨HLe.refl, R, rx⟩
theorem jok_tup {K : PySem.W.Frag} {ρ0 : List Addr} {H0 : Hp} {a : Addr} {vs : List PV} {xs : List V} {good : MH → Prop} (hx : SqT K H0 a xs) (rs : Reps K ρ0 H0 xs vs) : JOk T K (Itt K a) ρ0 H0 vs good := by
  intro ρ H h r g R gd i
  have h1 := SqT.le g hx
  have h2 := rs.le r g
  refine ⟨fun ei => ⟨xs, h1, by rw [h2.length, ei]; exact Nat.le_refl _⟩, fun v ev => ?_⟩
  obtain ⟨x, hx, rx⟩ := h2.get ev
  refine ⟨⟨xs, x, h1, hx⟩, fun y H' hy => ?_⟩
  obtain ⟨eH, hy⟩ := hy
  subst eH
  have := hy xs h1
  rw [hx] at this; cases this
  exact ⟨HLe.refl, R, rx⟩
theorem jok_str {K : PySem.W.Frag} {ρ0 : List Addr} {H0 : Hp} {z : Str} {good : MH → Prop} : JOk T K (Its z) ρ0 H0 (z.cps.toList.map fun c => .str ⟨#[c]⟩) good := by
  intro ρ H h r g R gd i
  refine ⟨fun ei => by show z.cps.size ≤ i; rw [ei]; simp, fun v ev => ?_⟩
  rw [List.getElem?_map] at ev
  cases e : z.cps.toList[i]? with
  | none => rw [e] at ev; cases ev
  | some c =>
    rw [e] at ev
    cases ev
    have hi : i < z.cps.size := by
      have := (List.getElem?_eq_some_iff.mp e).1
      simpa using this
    refine ⟨hi, fun y H' hy => ?_⟩
    obtain ⟨eH, d, hd, ey⟩ := hy
    subst eH ey
    have e2 : z.cps[i]? = some c := by simpa using e
    rw [e2] at hd; cases hd
    exact ⟨HLe.refl, R, .str _⟩
theorem rangeL_get {m n : Int} {i : Nat} {v : PV} (h : (rangeL m n)[i]? = some v) : i < (n - m).toNat ∧ v = .int (m + i) := by
  unfold rangeL at h
  rw [List.getElem?_map] at h
  cases e : (List.range (n - m).toNat)[i]? with
  | none => rw [e] at h; cases h
  | some j =>
    rw [e] at h
    obtain ⟨h1, h2⟩ := List.getElem?_eq_some_iff.mp e
    simp at h1 h2
    cases h
    exact ⟨by omega, by rw [h2]⟩
theorem jok_rng {K : PySem.W.Frag} {ρ0 : List Addr} {H0 : Hp} {m n : Int} {good : MH → Prop} : JOk T K (L2.Itr m (n - m).toNat) ρ0 H0 (rangeL m n) good := by
  intro ρ H h r g R gd i
  have hl : (rangeL m n).length = (n - m).toNat := by unfold rangeL; simp
  refine ⟨fun ei => by show (n - m).toNat ≤ i; omega, fun v ev => ?_⟩
  obtain ⟨h1, h2⟩ := rangeL_get ev
  refine ⟨h1, fun y H' hy => ?_⟩
  obtain ⟨eH, ey⟩ := hy
  subst eH ey h2
  exact ⟨HLe.refl, R, .int _⟩
theorem enumL_get {vs : List PV} {i : Nat} {v : PV} (h : (enumL vs)[i]? = some v) : ∃ w, vs[i]? = some w ∧ v = .tup [.int i, w] := by
  unfold enumL at h
  rw [List.getElem?_map, List.getElem?_zipIdx] at h
  cases e : vs[i]? with
  | none => rw [e] at h; cases h
  | some w => rw [e] at h; cases h; exact ⟨w, rfl, by simp⟩
theorem jok_enum {K : PySem.W.Frag} {ρ0 : List Addr} {H0 : Hp} {h0 : MH} {n : Nat} {a : Addr} {vs : List PV} (e : seqAt h0 n = some vs) (hp : ρ0[n]? = some a) : JOk T K (Ite K a) ρ0 H0 (enumL vs) (sameSeq (.ref n) h0) := by
  intro ρ H h r g R gd i
  have e2 : seqAt h n = some vs := by
    have gd' : h[n]? = h0[n]? := gd
    unfold seqAt at e ⊢
    rw [gd']; exact e
  obtain ⟨xs, h1, h2⟩ := R.seq e2 (r _ _ hp)
  have hl : (enumL vs).length = vs.length := by unfold enumL; simp
  refine ⟨fun ei => ⟨xs, h1, by rw [h2.length, ei, hl]; exact Nat.le_refl _⟩, fun v ev => ?_⟩
  obtain ⟨w, ew, rfl⟩ := enumL_get ev
  obtain ⟨x, hx, rx⟩ := h2.get ew
  refine ⟨⟨xs, x, h1, hx⟩, fun y H' hy => ?_⟩
  obtain ⟨p, x', rfl, hn, rfl, hy⟩ := hy
  have := hy xs h1
  rw [hx] at this; cases this
  exact ⟨HLe.new hn, R.keep hn, .tup (.inl (.inl upd_same)) (.cons (.int _) (.cons (rx.le RLe.refl (HLe.new hn)) .nil))⟩
theorem mi_e {tg l : Expr} {m : E} (hl : ME X T C W l m) : MI X T C W tg l (.e m) :=
  weakI (pi_dyn hl) fun σ H Q ⟨ρ, lo, h, R, l, p⟩ => ⟨ρ, lo, h, R, l, p.bind.then fun ρ1 H1 h1 v r1 g1 R1 p1 x rx => by
    cases rx with
    | str z => exact .inr (.inr ⟨z, rfl, p1.here R1 _ jok_str⟩)
    | @tup a xs ms hx rs => exact .inr (.inl ⟨a, xs, rfl, hx, p1.here R1 _ (jok_tup hx rs)⟩)
    | @ref a n hp =>
      cases e : seqAt h1 n with
      | none =>
        have p2 : Post T X.K ρ1 H1 (match seqAt h1 n with | some vs => Res.ok (vs, PV.ref n) h1 | none => .no) (fun ρ' H' h' p => ∀ J, JOk T X.K J ρ' H' p.1 (sameSeq p.2 h') → Q J H') (fun c d H' => W c d σ H') := p1
        rw [e] at p2; exact p2.elim
      | some vs =>
        have p2 : Post T X.K ρ1 H1 (match seqAt h1 n with | some vs => Res.ok (vs, PV.ref n) h1 | none => .no) (fun ρ' H' h' p => ∀ J, JOk T X.K J ρ' H' p.1 (sameSeq p.2 h') → Q J H') (fun c d H' => W c d σ H') := p1
        rw [e] at p2
        obtain ⟨xs, hx, rs⟩ := R1.seq e hp
        exact .inl ⟨a, xs, rfl, hx, p2.here R1 _ (jok_list e hp)⟩
    | _ => exact p1.elim⟩
theorem small62_ok {n : Int} (h : small62 n = true) : -(2 ^ 62) ≤ n ∧ n < 2 ^ 62 := by
  unfold small62 at h
  rw [Bool.and_eq_true, decide_eq_true_eq, decide_eq_true_eq] at h
  exact h
theorem mi_rng (c : XC X T Pr M k W) {tg a : Expr} {m : E} {p pos : Pos} (hg : Gl X "range") (ha : ME X T C W a m) (st : notStar a = true) : MI X T C W tg (.Call (.Name "range" p) [a] [] pos) (.rng m) :=
  weakI (pi_range1 hg c.rng (pa_cons ha pa_nil (star_cons st)) (star_cons st)) fun σ H Q ⟨ρ, lo, h, R, l, p⟩ => ⟨ρ, lo, h, R, l, p.bind.then fun ρ1 H1 h1 v r1 g1 R1 p1 x rx => by
    cases rx with
    | int z =>
      obtain ⟨c1, p2⟩ := if_post p1
      obtain ⟨b1, b2⟩ := small62_ok c1
      have j := jok_rng (T := T) (K := X.K) (ρ0 := ρ1) (H0 := H1) (m := 0) (n := z) (good := sameSeq .non h1)
      rw [Int.sub_zero] at j
      exact ⟨z, rfl, b1, b2, p2.here R1 _ j⟩
    | _ => exact p1.elim⟩
theorem mi_rng2 (c : XC X T Pr M k W) {tg a b : Expr} {ma mb : E} {p pos : Pos} (hg : Gl X "range") (ha : ME X T C W a ma) (hb : ME X T C W b mb) (sa : notStar a = true) (sb : notStar b = true) : MI X T C W tg (.Call (.Name "range" p) [a, b] [] pos) (.rng2 ma mb) :=
  weakI (pi_range2 hg c.rng (pa_cons ha (pa_cons hb pa_nil (star_cons sb)) (star_cons sa)) (by rw [star_cons sa, star_cons sb]; rfl) (star_cons sb)) fun σ H Q ⟨ρ, lo, h, R, l, p⟩ => ⟨ρ, lo, h, R, l, p.bind.then fun ρ1 H1 h1 v r1 g1 R1 p1 x rx =>
    ⟨ρ1, lo, h1, R1, l.le r1 g1, p1.bind.then fun ρ2 H2 h2 w r2 g2 R2 p2 y ry => by
      cases rx with
      | int z =>
        cases ry with
        | int u =>
          obtain ⟨⟨c1, c2⟩, p3⟩ := if_post p2
          obtain ⟨b1, b2⟩ := small62_ok c1
          obtain ⟨b3, b4⟩ := small62_ok c2
          exact ⟨z, u, rfl, ⟨b1, b2, b3, b4⟩, p3.here R2 _ jok_rng⟩
        | _ => exact p2.elim
      | _ => exact p2.elim⟩⟩
theorem mi_enum (c : XC X T Pr M k W) {a : Expr} {m : E} {elts : List Expr} {kk : Nat} {tpos p pos : Pos} (hg : Gl X "enumerate") (ha : ME X T C W a m) (st : notStar a = true) : MI X T C W (.Tuple elts kk tpos) (.Call (.Name "enumerate" p) [a] [] pos) (.enum m) :=
  weakI (pi_enum hg c.enm (pa_cons ha pa_nil (star_cons st)) (star_cons st)) fun σ H Q ⟨ρ, lo, h, R, l, p⟩ => ⟨ρ, lo, h, R, l, p.bind.then fun ρ1 H1 h1 v r1 g1 R1 p1 x rx => by
    cases rx with
    | @ref a n hp =>
      have p2 : Post T X.K ρ1 H1 (match seqAt h1 n with | some vs => Res.ok (enumL vs, PV.ref n) h1 | none => .no) (fun ρ' H' h' p => ∀ J, JOk T X.K J ρ' H' p.1 (sameSeq p.2 h') → Q J H') (fun c d H' => W c d σ H') := p1
      cases e : seqAt h1 n with
      | none => rw [e] at p2; exact p2.elim
      | some vs =>
        rw [e] at p2
        obtain ⟨xs, hx, rs⟩ := R1.seq e hp
        exact ⟨a, xs, rfl, hx, p2.here R1 _ (jok_enum e hp)⟩
    | _ => exact p1.elim⟩
end
end Vb

set_option Elab.async false
set_option linter.all false
set_option maxRecDepth 100000
set_option maxHeartbeats 2000000
/-! Targets; comprehensions. -/
namespace Vb
open PySem L2 PySem.Spec PyProof.Rows
def Tg.ix : Tg → List Nat
  | .n i => [i]
  | .t is => is
def setAll (σ : L2.St) : List Nat → List V → L2.St
  | i :: is, v :: vs => setAll (σ.set i (some v)) is vs
  | _, _ => σ
theorem wipe_len (σ : L2.St) : ∀ vs : List Nat, (L2.wipe σ vs).length = σ.length := fun vs => L2.wipe_length σ vs
theorem wipe_get (σ : L2.St) (j : Nat) : ∀ vs : List Nat, (L2.wipe σ vs)[j]? = if j ∈ vs then (if j < σ.length then some none else none) else σ[j]?
  | [] => by simp [L2.wipe]
  | v :: vs => by
    have ih := wipe_get σ j vs
    show ((L2.wipe σ vs).set v none)[j]? = _
    by_cases c : v = j
    · subst c
      by_cases hl : v < σ.length
      · rw [List.getElem?_set_self (by rw [wipe_len]; exact hl)]
        simp [hl]
      · rw [List.getElem?_eq_none (by rw [List.length_set, wipe_len]; omega)]
        simp [hl]
    · rw [List.getElem?_set_ne c, ih]
      have c2 : ¬ j = v := fun q => c q.symm
      simp [c2]
theorem wipe_set {σ : L2.St} {i : Nat} {x : Option V} {vs : List Nat} (h : i ∈ vs) : L2.wipe (σ.set i x) vs = L2.wipe σ vs := by
  apply List.ext_getElem?
  intro j
  rw [wipe_get, wipe_get, List.length_set]
  by_cases c : j ∈ vs
  · rw [if_pos c, if_pos c]
  · rw [if_neg c, if_neg c, List.getElem?_set_ne]
    intro q
    exact c (q ▸ h)
theorem wipe_wipe (σ : L2.St) (vs : List Nat) : L2.wipe (L2.wipe σ vs) vs = L2.wipe σ vs := by
  apply List.ext_getElem?
  intro j
  rw [wipe_get, wipe_get, wipe_len]
  by_cases c : j ∈ vs
  · rw [if_pos c, if_pos c]
  · rw [if_neg c, if_neg c]
theorem wipe_setAll {vs : List Nat} : ∀ {is : List Nat} {xs : List V} {σ : L2.St}, (∀ i ∈ is, i ∈ vs) → L2.wipe (setAll σ is xs) vs = L2.wipe σ vs
  | [], xs, σ, _ => by cases xs <;> rfl
  | i :: is, [], σ, _ => rfl
  | i :: is, x :: xs, σ, h => by
    show L2.wipe (setAll (σ.set i (some x)) is xs) vs = _
    rw [wipe_setAll fun j hj => h j (List.mem_cons_of_mem _ hj), wipe_set (h i List.mem_cons_self)]
section
variable {X : Cx} {T : LT} {Pr : Prog} {M : Nm} {k : Nat} {W : WX} {C : CB} {K : PySem.W.Frag} {ρ : List Addr} {H : Hp}
theorem setAll_rel : ∀ {is : List Nat} {xs : List V} {ms : List PV} {σ : L2.St} {lo lo' : Lo}, LRel K ρ H σ lo → Reps K ρ H xs ms → storeAll lo is ms = some lo' → LRel K ρ H (setAll σ is xs) lo'
  | [], _, _, _, _, _, l, .nil, e => by simp only [storeAll] at e; cases e; exact l
  | [], _, _, _, _, _, l, .cons _ _, e => by simp only [storeAll] at e; cases e
  | i :: is, _, _, _, _, _, l, .nil, e => by simp only [storeAll] at e; cases e
  | i :: is, _, _, _, _, _, l, .cons r t, e => setAll_rel (is := is) (l.set r i) t e
theorem storeAll_len : ∀ {is : List Nat} {ms : List PV} {lo lo' : Lo}, storeAll lo is ms = some lo' → ms.length = is.length
  | [], [], _, _, _ => rfl
  | [], _ :: _, _, _, e => by simp only [storeAll] at e; cases e
  | _ :: _, [], _, _, e => by simp only [storeAll] at e; cases e
  | _ :: is, _ :: ms, _, _, e => congrArg (· + 1) (storeAll_len (is := is) (ms := ms) e)
/-- a target's reading -/
def tG (T : LT) (K : PySem.W.Frag) (g : Tg) : TG := fun v σ H Q => ∃ ρ lo h m lo', HRel T K ρ H h ∧ LRel K ρ H σ lo ∧ Rep K ρ H v m ∧ storeTg g m lo = some lo' ∧
  ∀ σ', LRel K ρ H σ' lo' → (∀ vs, (∀ i ∈ g.ix, i ∈ vs) → L2.wipe σ' vs = L2.wipe σ vs) → Q σ' H
abbrev MG (X : Cx) (T : LT) (tg : Expr) (g : Tg) : Prop := PG X tg (tG T X.K g)
theorem weakG {tg : Expr} {t t' : TG} (p : PG X tg t) (k : ∀ v σ H Q, t' v σ H Q → t v σ H Q) : PG X tg t' := ⟨fun pins s σ H v u Q I r q => p.run pins s σ H v u Q I r (k v σ H Q q)⟩
/-- a name that may be stored -/
def MayStore (X : Cx) (x : Str) : Prop := Loc X.env.scope x ∧ (X.fn x = true ∨ X.env.scope.names.lookup x = some .local)
theorem mg_n {i : Nat} {x : Str} {pos : Pos} (hN : X.N.Nodup) (hi : X.N[i]? = some x) (hx : MayStore X x) : MG X T (.Name x pos) (.n i) :=
  weakG (pg_name hN hi hx.1 hx.2) fun v σ H Q ⟨ρ, lo, h, m, lo', R, l, r, e, q⟩ => by
    simp only [storeTg] at e
    cases e
    exact q _ (l.set r i) fun vs hv => wipe_set (hv i (by simp [Tg.ix]))
/-- names of a target, with their places -/
inductive Names_ (X : Cx) : List Expr → List Nat → Prop
  | nil : Names_ X [] []
  | cons {i : Nat} {x : Str} {pos : Pos} {es : List Expr} {is : List Nat} : X.N[i]? = some x → MayStore X x → Names_ X es is → Names_ X (.Name x pos :: es) (i :: is)
theorem pgs_names (hN : X.N.Nodup) : ∀ {es : List Expr} {is : List Nat}, Names_ X es is → PGs X es (fun vs σ H Q => vs.length = is.length ∧ Q (setAll σ is vs) H)
  | _, _, .nil => ⟨fun pins s σ H vs us Q I r q => pgs_nil.run pins s σ H vs us Q I r (by
      obtain ⟨h1, h2⟩ := q
      have : vs = [] := List.length_eq_zero_iff.mp h1
      subst this
      exact ⟨rfl, h2⟩)⟩
  | _, _, .cons (i := i) (is := is) h1 h2 t => ⟨fun pins s σ H vs us Q I r q => (pgs_cons (pg_name hN h1 h2.1 h2.2) (pgs_names hN t) rfl).run pins s σ H vs us Q I r (by
      obtain ⟨e1, e2⟩ := q
      cases vs with
      | nil => cases e1
      | cons v vs => exact ⟨v, vs, rfl, by simpa using e1, e2⟩)⟩
theorem names_len : ∀ {es : List Expr} {is : List Nat}, Names_ X es is → (assignEach es X.env).length = is.length
  | _, _, .nil => rfl
  | _, _, .cons _ _ t => congrArg (· + 1) (names_len t)
theorem names_star : ∀ {es : List Expr} {is : List Nat}, Names_ X es is → ∀ p ∈ assignEach es X.env, p.1 = false
  | _, _, .nil => fun p hp => by cases hp
  | _, _, .cons (es := es) _ _ t => fun p hp => by
    rcases List.mem_cons.mp hp with q | q
    · rw [q]
    · exact names_star t p q
theorem mg_t {is : List Nat} {es : List Expr} {kk : Nat} {pos : Pos} (hN : X.N.Nodup) (hc : X.calm = true) (hn : Names_ X es is) : MG X T (.Tuple es kk pos) (.t is) :=
  weakG (pg_tup hc (pgs_names hN hn) (names_len hn) (List.findIdx?_eq_none_iff.mpr (names_star hn))) fun v σ H Q ⟨ρ, lo, h, m, lo', R, l, r, e, q⟩ => by
    cases r with
    | @tup a xs ms hx rs =>
      simp only [storeTg] at e
      have hl : xs.length = is.length := by rw [rs.length]; exact storeAll_len e
      exact ⟨a, xs, rfl, hx, hl, hl, q _ (setAll_rel l rs e) fun vs hv => wipe_setAll hv⟩
    | _ => simp only [storeTg] at e; cases e

/-! ### comprehensions -/
def W0 : WX := fun _ _ _ _ => False
def tOT (T : LT) (K : PySem.W.Frag) (C : CB) (W : WX) (m : Option E) : TT := fun σ H Q => ∃ ρ lo h, HRel T K ρ H h ∧ LRel K ρ H σ lo ∧ Post T K ρ H (evalOT C m lo h) (fun _ H' _ b => Q b H') fun c d H' => W c d σ H'
theorem weakTs {e : List Expr} {t t' : TT} (p : PTs X e t) (k : ∀ σ H Q, t' σ H Q → t σ H Q) : PTs X e t' := ⟨fun pins s σ H Q I q => p.run pins s σ H Q I (k σ H Q q)⟩
theorem mts_none : PTs X [] (tOT T X.K C W none) := weakTs pts_nil fun σ H Q ⟨ρ, lo, h, R, l, p⟩ => p.here R
theorem mts_one {c : Expr} {m : E} (hc : MT X T C W c m) : PTs X [c] (tOT T X.K C W (some m)) := weakTs (pts_one hc) fun σ H Q q => q
theorem lc_read {g : Tg} {own : List Nat} {it : IX} {t : Option E} {e : E} {σ : L2.St} {H : Hp} {Q : VK} (hown : ∀ i ∈ g.ix, i ∈ own) (q : tE T K C W (.lc g own it t e) σ H Q) :
    tLc (tI T K C W it) (tG T K g) (tOT T K C W0 t) (tE T K C W0 e) own σ H Q := by
  obtain ⟨ρ, lo, h, R, l, p⟩ := q
  refine ⟨ρ, lo, h, R, l, p.bind.then fun ρ1 H1 h1 pr r1 g1 R1 p1 J jok D hD => ?_⟩
  have l1 := (l.le r1 g1).wipe own
  have RD : HRel T K (ρ1 ++ [D]) (upd H1 D (.lst [])) (h1 ++ [.lst []]) := R1.new (HLe.new hD) hD (fun b _ c => upd_ne c) ⟨[], upd_same, .nil⟩
  have atD : (ρ1 ++ [D])[h1.length]? = some D := by rw [← R1.len]; simp
  obtain ⟨vs, gv⟩ := pr
  generalize hf : (fun v h => match storeTg g v (wipeL lo own) with
          | some lo' => (evalOT C t lo' h).bind fun c h => match c with
            | true => (evalE C e lo' h).bind fun y h => .ok (some y) h
            | false => .ok none h
          | none => .no : PV → MH → Res (Option PV)) = f at p1
  refine ⟨fun i m H' => m = vs.length - i ∧ i ≤ vs.length ∧ ∃ ρ' h', RLe (ρ1 ++ [D]) ρ' ∧ HLe (upd H1 D (.lst [])) H' ∧ HRel T K ρ' H' h' ∧
    Post T K ρ' H' (lcLoop f (sameSeq gv h1) h1.length (vs.drop i) h') (fun ρ' H' _ v => ∀ x, Rep K ρ' H' x v → Q x H') (fun c d H' => W c d σ H'),
    ⟨vs.length, by simp, Nat.zero_le _, ρ1 ++ [D], _, RLe.refl, HLe.refl, RD, p1.move RLe.snoc (HLe.new hD)⟩, ?_⟩
  rintro i m H' ⟨rfl, hi, ρ', h', r', g', R', p'⟩
  have jk := jok ρ' H' h' (RLe.snoc.trans r') ((HLe.new hD).trans g') R'
  by_cases c : i = vs.length
  · left
    rw [List.drop_eq_nil_of_le (by omega)] at p'
    obtain ⟨gd, p2⟩ := if_post' (show Post T K ρ' H' (@ite _ (sameSeq gv h1 h') (Classical.propDecidable _) (.ok (PV.ref h1.length) h') .no) _ _ from p')
    exact ⟨(jk gd i).1 c, p2.here R' _ (.ref (r' _ _ atD))⟩
  · right
    have hlt : i < vs.length := by omega
    rw [List.drop_eq_getElem_cons hlt] at p'
    obtain ⟨gd, p2⟩ := if_post' (show Post T K ρ' H' (@ite _ (sameSeq gv h1 h') (Classical.propDecidable _) (match f vs[i] h' with
      | .ok none h1' => lcLoop f (sameSeq gv h1) h1.length (vs.drop (i + 1)) h1'
      | .ok (some y) h1' => match h1'[h1.length]? with
        | some (.lst acc) => if acc.length < sizeLine then lcLoop f (sameSeq gv h1) h1.length (vs.drop (i + 1)) (h1'.set h1.length (.lst (acc ++ [y]))) else .no
        | _ => .no
      | _ => .no) .no) _ _ from p')
    obtain ⟨go, yl⟩ := (jk gd i).2 vs[i] (List.getElem?_eq_getElem hlt)
    refine ⟨go, fun H'' => ∃ ρ'' h'', RLe ρ' ρ'' ∧ HLe H' H'' ∧ HRel T K ρ'' H'' h'' ∧ Post T K ρ'' H'' (lcLoop f (sameSeq gv h1) h1.length (vs.drop (i + 1)) h'') (fun ρ' H' _ v => ∀ x, Rep K ρ' H' x v → Q x H') (fun c d H' => W c d σ H'),
      fun H'' ⟨ρ'', h'', a1, a2, a3, a4⟩ => ⟨vs.length - (i + 1), by omega, rfl, by omega, ρ'', h'', r'.trans a1, g'.trans a2, a3, a4⟩, fun x H2 hy => ?_⟩
    obtain ⟨gy, Ry, rx⟩ := yl x H2 hy
    have hfv : f vs[i] h' = (match storeTg g vs[i] (wipeL lo own) with
          | some lo' => (evalOT C t lo' h').bind fun c h => match c with
            | true => (evalE C e lo' h).bind fun y h => .ok (some y) h
            | false => .ok none h
          | none => .no) := by rw [← hf]
    rw [hfv] at p2
    cases es : storeTg g vs[i] (wipeL lo own) with
    | none => simp only [es] at p2; exact p2.elim
    | some lo' =>
      simp only [es] at p2
      refine ⟨ρ', wipeL lo own, h', vs[i], lo', Ry, l1.le (RLe.snoc.trans r') (((HLe.new hD).trans g').trans gy), rx, es, fun σ2 l2 w2 => ⟨(w2 own hown).trans (wipe_wipe σ own), ρ', lo', h', Ry, l2, ?_⟩⟩
      cases e1 : evalOT C t lo' h' with
      | no => simp only [e1, Res.bind] at p2; exact p2.elim
      | ex a b => simp only [e1, Res.bind] at p2; exact p2.elim
      | ok c4 h4 =>
        simp only [e1, Res.bind] at p2
        intro ρ4 H4 r4 g4 R4
        cases c4 with
        | false =>
          rw [if_neg Bool.false_ne_true]
          exact ⟨ρ4, h4, r4, gy.trans g4, R4, p2.move r4 (gy.trans g4)⟩
        | true =>
          rw [if_pos rfl]
          refine ⟨ρ4, lo', h4, R4, l2.le r4 g4, ?_⟩
          cases e2 : evalE C e lo' h4 with
          | no => simp only [e2] at p2; exact p2.elim
          | ex a b => simp only [e2] at p2; exact p2.elim
          | ok y h5 =>
            simp only [e2] at p2
            intro ρ5 H5 r5 g5 R5 z rz
            cases e3 : h5[h1.length]? with
            | none => simp only [e3] at p2; exact p2.elim
            | some ob =>
              cases ob with
              | lst acc =>
                simp only [e3] at p2
                obtain ⟨c5, p3⟩ := if_post p2
                have at5 : ρ5[h1.length]? = some D := r5 _ _ (r4 _ _ (r' _ _ atD))
                obtain ⟨as, o1, o2⟩ := R5.addr e3 at5
                have gw : HLe H5 (upd H5 D (.lst (as ++ [z]))) := HLe.write o1 trivial
                refine ⟨as, o1, by rw [o2.length]; exact c5, ρ5, _, r4.trans r5, ((gy.trans g4).trans g5).trans gw, R5.write (o' := .lst (acc ++ [y])) e3 rfl rfl at5 ⟨_, upd_same, (o2.append (Reps.one rz)).le RLe.refl gw⟩, ?_⟩
                exact p3.move (r4.trans r5) (((gy.trans g4).trans g5).trans gw)
              | _ => simp only [e3] at p2; exact p2.elim
end
end Vb

set_option Elab.async false
set_option linter.all false
set_option maxRecDepth 100000
set_option maxHeartbeats 2000000
/-! Statements of the small language, as readings. -/
namespace Vb
open PySem L2 PySem.Spec PyProof.Rows
section
variable {X : Cx} {T : LT} {Pr : Prog} {M : Nm} {k : Nat} {W : WX} {C : CB} {K : PySem.W.Frag} {ρ ρ' : List Addr} {H H' : Hp} {σ : L2.St} {lo : Lo} {h : MH}
def FlPost (T : LT) (K : PySem.W.Frag) (ρ : List Addr) (H : Hp) (f : Fl) (D : Ends) (W : WX) : Prop := match f with
  | .nx lo => ∀ σ', LRel K ρ H σ' lo → D.nx σ' H
  | .bk lo => ∀ σ', LRel K ρ H σ' lo → D.bk σ' H
  | .ct lo => ∀ σ', LRel K ρ H σ' lo → D.ct σ' H
  | .rt v => ∀ x, Rep K ρ H x v → D.rt x H
  | .th e lo => ∀ cls d σ', ERep T K ρ H cls d e → LRel K ρ H σ' lo → W cls d σ' H
def SPost (T : LT) (K : PySem.W.Frag) (ρ : List Addr) (H : Hp) (r : SR) (D : Ends) (W : WX) : Prop := match r with
  | .ok f h => ∀ ρ' H', RLe ρ ρ' → HLe H H' → HRel T K ρ' H' h → FlPost T K ρ' H' f D W
  | .no => False
variable {D : Ends} {α : Type}
theorem SPost.then_ {r : Res α} {f : α → MH → SR} (l : LRel K ρ H σ lo) (p : SPost T K ρ H (r.then_ lo f) D W) : Post T K ρ H r (fun ρ1 H1 h1 a => SPost T K ρ1 H1 (f a h1) D W) fun c d H' => W c d σ H' := by
  cases r with
  | ok a h1 =>
    intro ρ1 H1 r1 g1 _
    have p' : SPost T K ρ H (f a h1) D W := p
    show SPost T K ρ1 H1 (f a h1) D W
    cases q : f a h1 with
    | ok b h2 => rw [q] at p'; exact fun ρ2 H2 r2 g2 R => p' ρ2 H2 (r1.trans r2) (g1.trans g2) R
    | no => rw [q] at p'; exact p'
  | ex e h1 => exact fun ρ1 H1 c d r1 g1 R E => p ρ1 H1 r1 g1 R c d σ E (l.le r1 g1)
  | no => exact p
theorem SPost.move {r : SR} (p : SPost T K ρ H r D W) (a : RLe ρ ρ') (b : HLe H H') : SPost T K ρ' H' r D W := by
  cases r with
  | ok x h1 => exact fun ρ1 H1 r1 g1 R => p ρ1 H1 (a.trans r1) (b.trans g1) R
  | no => exact p
theorem SPost.here {f : Fl} (R : HRel T K ρ H h) (p : SPost T K ρ H (.ok f h) D W) : FlPost T K ρ H f D W := p ρ H RLe.refl HLe.refl R
theorem sif_post {c : Prop} {d : Decidable c} {r : SR} (p : SPost T K ρ H (@ite _ c d r .no) D W) : c ∧ SPost T K ρ H r D W := by
  by_cases hc : c
  · rw [if_pos hc] at p; exact ⟨hc, p⟩
  · rw [if_neg hc] at p; exact p.elim
/-- what stands at a joint -/
def At_ (T : LT) (K : PySem.W.Frag) (r : Lo → MH → SR) (D : Ends) (W : WX) : L2.St → Hp → Prop := fun σ H => ∃ ρ lo h, HRel T K ρ H h ∧ LRel K ρ H σ lo ∧ SPost T K ρ H (r lo h) D W
theorem SPost.next {r : SR} {f : Lo → MH → SR} (p : SPost T K ρ H (r.next f) D W) : SPost T K ρ H r { D with nx := At_ T K f D W } W := by
  cases r with
  | no => exact p
  | ok fl h1 =>
    intro ρ1 H1 r1 g1 R1
    cases fl with
    | nx lo1 =>
      intro σ1 l1
      have p' : SPost T K ρ H (f lo1 h1) D W := p
      exact ⟨ρ1, lo1, h1, R1, l1, p'.move r1 g1⟩
    | bk lo1 => exact p ρ1 H1 r1 g1 R1
    | ct lo1 => exact p ρ1 H1 r1 g1 R1
    | rt v => exact p ρ1 H1 r1 g1 R1
    | th e lo1 => exact p ρ1 H1 r1 g1 R1
def tS (T : LT) (K : PySem.W.Frag) (C : CB) (xt : XT) (wl : Nat) (W : WX) (s : S) : TS := fun D σ H => At_ T K (exec C xt wl s) D W σ H
def tSs (T : LT) (K : PySem.W.Frag) (C : CB) (xt : XT) (wl : Nat) (W : WX) (s : List S) : TS := fun D σ H => At_ T K (execs C xt wl s) D W σ H
end
abbrev MS (X : Cx) (T : LT) (C : CB) (xt : XT) (wl : Nat) (W : WX) (s : Stmt) (m : S) : Prop := PS X s (tS T X.K C xt wl W m)
abbrev MSs (X : Cx) (T : LT) (C : CB) (xt : XT) (wl : Nat) (W : WX) (s : List Stmt) (m : List S) : Prop := PSs X s (tSs T X.K C xt wl W m)
section
variable {X : Cx} {T : LT} {Pr : Prog} {M : Nm} {k : Nat} {W : WX} {C : CB} {xt : XT} {wl : Nat}
theorem weakS {e : Stmt} {t t' : TS} (p : PS X e t) (k : ∀ D σ H, t' D σ H → t D σ H) : PS X e t' := ⟨fun pins s σ H D I q => p.run pins s σ H D I (k D σ H q)⟩
theorem weakSs {e : List Stmt} {t t' : TS} (p : PSs X e t) (k : ∀ D σ H, t' D σ H → t D σ H) : PSs X e t' := ⟨fun pins s σ H D I q => p.run pins s σ H D I (k D σ H q)⟩
theorem ms_never {s : Stmt} : MS X T C xt wl W s .never := weakS ps_never fun D σ H ⟨ρ, lo, h, R, l, p⟩ => p.elim
theorem mss_nil : MSs X T C xt wl W [] [] := weakSs pss_nil fun D σ H ⟨ρ, lo, h, R, l, p⟩ => p.here R σ l
theorem mss_cons {s : Stmt} {ss : List Stmt} {m : S} {ms : List S} (h1 : MS X T C xt wl W s m) (h2 : MSs X T C xt wl W ss ms) : MSs X T C xt wl W (s :: ss) (m :: ms) :=
  weakSs (pss_cons h1 h2) fun D σ H ⟨ρ, lo, h, R, l, p⟩ => ⟨ρ, lo, h, R, l, p.next⟩
theorem ms_pass {pos : Pos} : MS X T C xt wl W (.Pass pos) .pass := weakS ps_pass fun D σ H ⟨ρ, lo, h, R, l, p⟩ => p.here R σ l
theorem ms_brk {pos : Pos} : MS X T C xt wl W (.Break pos) .brk := weakS ps_break fun D σ H ⟨ρ, lo, h, R, l, p⟩ => p.here R σ l
theorem ms_cnt {pos : Pos} : MS X T C xt wl W (.Continue pos) .cnt := weakS ps_continue fun D σ H ⟨ρ, lo, h, R, l, p⟩ => p.here R σ l
theorem ms_ret {e : Expr} {m : E} {pos : Pos} (he : ME X T C W e m) : MS X T C xt wl W (.Return (some e) pos) (.ret m) :=
  weakS (ps_ret he) fun D σ H ⟨ρ, lo, h, R, l, p⟩ => ⟨ρ, lo, h, R, l, (SPost.then_ l p).then fun ρ1 H1 h1 v r1 g1 R1 p1 x rx => p1.here R1 x rx⟩
theorem ms_retN {pos : Pos} : MS X T C xt wl W (.Return none pos) .retN := weakS ps_retN fun D σ H ⟨ρ, lo, h, R, l, p⟩ => p.here R _ .non
/-! ### comprehensions aside -/
def notComp : Expr → Bool
  | .ListComp _ _ _ _ => false
  | .SetComp _ _ _ _ => false
  | .DictComp _ _ _ _ _ => false
  | _ => true
theorem swaps_not {e : Expr} {tg : Option Expr} {n : Nat} {env : Env} (h : notComp e = true) : swapsWith e tg n env = pure false := by
  cases e <;> first | rfl | cases h
def notName : Expr → Bool
  | .Name _ _ => false
  | _ => true
theorem swaps_tg {e tg : Expr} {n : Nat} {env : Env} (h : notName tg = true) : swapsWith e (some tg) n env = pure false := by
  by_cases c : notComp e = true
  · exact swaps_not c
  · cases tg <;> first | (cases e <;> first | rfl | exact absurd rfl c) | cases h
theorem ms_expr {e : Expr} {m : E} {pos : Pos} (he : ME X T C W e m) (hc : notComp e = true) : MS X T C xt wl W (.Expr e pos) (.expr m) :=
  weakS (ps_expr he (swaps_not hc)) fun D σ H ⟨ρ, lo, h, R, l, p⟩ => ⟨ρ, lo, h, R, l, (SPost.then_ l p).then fun ρ1 H1 h1 v r1 g1 R1 p1 x rx => p1.here R1 σ (l.le r1 g1)⟩
theorem ms_if {t : Expr} {a b : List Stmt} {mt : E} {ma mb : List S} {pos : Pos} (ht : MT X T C W t mt) (ha : MSs X T C xt wl W a ma) (hb : MSs X T C xt wl W b mb) : MS X T C xt wl W (.If t a b pos) (.if_ mt ma mb) :=
  weakS (ps_if ht ha hb) fun D σ H ⟨ρ, lo, h, R, l, p⟩ => ⟨ρ, lo, h, R, l, (SPost.then_ l p).then fun ρ1 H1 h1 z r1 g1 R1 p1 => by
    cases z with
    | true => rw [if_pos rfl]; exact ⟨ρ1, lo, h1, R1, l.le r1 g1, p1⟩
    | false => rw [if_neg Bool.false_ne_true]; exact ⟨ρ1, lo, h1, R1, l.le r1 g1, p1⟩⟩
/-! ### assignments -/
theorem ms_asgN {i : Nat} {x : Str} {e : Expr} {m : E} {pos' pos : Pos} (hN : X.N.Nodup) (hi : X.N[i]? = some x) (hx : MayStore X x) (he : ME X T C W e m) (hs : swapsWith e (some (.Name x pos')) pos.line X.env = pure false) :
    MS X T C xt wl W (.Assign [.Name x pos'] e pos) (.asg (.n i) m) :=
  weakS (ps_set hN hi hx.1 he hs hx.2) fun D σ H ⟨ρ, lo, h, R, l, p⟩ => ⟨ρ, lo, h, R, l, (SPost.then_ l p).then fun ρ1 H1 h1 v r1 g1 R1 p1 y ry => p1.here R1 _ ((l.le r1 g1).set ry i)⟩
def notTup : Expr → Bool
  | .Tuple _ _ _ => false
  | _ => true
theorem ms_asgT {is : List Nat} {es : List Expr} {kk : Nat} {e : Expr} {m : E} {pos' pos : Pos} (hN : X.N.Nodup) (hc : X.calm = true) (hn : Names_ X es is) (he : ME X T C W e m) (ht : notTup e = true) : MS X T C xt wl W (.Assign [.Tuple es kk pos'] e pos) (.asg (.t is) m) := by
  have h1 : swappedStores [.Tuple es kk pos'] e X.env = pure none := by cases e <;> first | rfl | cases ht
  refine weakS (ps_asg he (mg_t (T := T) hN hc hn) (swaps_tg (tg := .Tuple es kk pos') (e := e) (n := pos.line) (env := X.env) rfl) h1 rfl) fun D σ H ⟨ρ, lo, h, R, l, p⟩ => ⟨ρ, lo, h, R, l, (SPost.then_ l p).then fun ρ1 H1 h1 v r1 g1 R1 p1 y ry => ?_⟩
  cases v with
  | tup vs =>
    have p2 : SPost T X.K ρ1 H1 (match storeAll lo is vs with
      | some lo' => .ok (.nx lo') h1
      | none => .no) D W := p1
    cases e1 : storeAll lo is vs with
    | none => simp only [e1] at p2; exact p2.elim
    | some lo' =>
      simp only [e1] at p2
      exact ⟨ρ1, lo, h1, .tup vs, lo', R1, l.le r1 g1, ry, e1, fun σ' l' _ => p2.here R1 σ' l'⟩
  | _ => exact (show SPost T X.K ρ1 H1 .no D W from p1).elim
/-- an attribute is stored -/
theorem setAttr_rep (c : XC X T Pr M k W) {ρ : List Addr} {H : Hp} {h h' : MH} {C : CB} (hC : C.cls = Pr.cls) (R : HRel T X.K ρ H h) {r f : Nat} {a : Addr} {nm : Str} {v : PV} {y : V} (hn : T.an[f]? = some nm) (hp : ρ[r]? = some a) (ry : Rep X.K ρ H y v) (e : setAttrS C r f v h = some h') :
    ∃ D dx gs, H a = some (.ins D dx gs) ∧ Cls X.K D ∧ NoAttr X.K D nm ∧ gs.length < 1000 ∧ HLe H (upd H a (.ins D dx (putF nm y gs))) ∧ HRel T X.K ρ (upd H a (.ins D dx (putF nm y gs))) h' := by
  unfold setAttrS at e
  split at e
  · rename_i cc fs e1
    split at e
    · rename_i e2
      cases e
      obtain ⟨D, dx, gs, h1, h2, h3⟩ := R.addr e1 hp
      have e3 := e2.1
      unfold hasAttr at e3
      rw [hC] at e3
      split at e3
      · rename_i kd e4
        obtain ⟨D', x', g1, g2, g3, g4⟩ := c.at_ cc kd f e4 e3
        rw [h1] at g1; cases g1
        rw [hn] at g2; cases g2
        have gw : HLe H (upd H a (.ins D dx (putF nm y gs))) := HLe.write h2 trivial
        exact ⟨D, dx, gs, h2, g3, g4, by rw [h3.length]; omega, gw, R.write (o' := .ins cc (putN f v fs)) e1 rfl rfl hp ⟨D, dx, _, h1, upd_same, (h3.put hn ry).le RLe.refl gw⟩⟩
      · cases e3
    · cases e
  · cases e
theorem ms_asgA (c : XC X T Pr M k W) (hC : C.cls = Pr.cls) {o e : Expr} {mo m : E} {f : Nat} {nm : Str} {pos' pos : Pos} (ho : ME X T C W o mo) (he : ME X T C W e m) (hn : T.an[f]? = some nm) : MS X T C xt wl W (.Assign [.Attribute o nm pos'] e pos) (.asg (.attr mo f) m) :=
  weakS (ps_fld ho he (swaps_tg rfl)) fun D σ H ⟨ρ, lo, h, R, l, p⟩ => ⟨ρ, lo, h, R, l, (SPost.then_ l p).then fun ρ1 H1 h1 v r1 g1 R1 p1 y ry =>
    ⟨ρ1, lo, h1, R1, l.le r1 g1, (SPost.then_ (l.le r1 g1) (show SPost T X.K ρ1 H1 ((evalE C mo lo h1).then_ lo fun x h => match x with
      | .ref r => match setAttrS C r f v h with
        | some h' => .ok (.nx lo) h'
        | none => .no
      | _ => .no) D W from p1)).then fun ρ2 H2 h2 w r2 g2 R2 p2 z rz => by
        cases rz with
        | @ref a r hp =>
          cases e1 : setAttrS C r f v h2 with
          | none => simp only [e1] at p2; exact p2.elim
          | some h3 =>
            simp only [e1] at p2
            obtain ⟨E, dx, gs, o1, o2, o3, o4, o5, o6⟩ := setAttr_rep c hC R2 hn hp (ry.le r2 g2) e1
            exact ⟨a, E, dx, gs, rfl, o1, o2, o3, o4, p2 _ _ RLe.refl o5 o6 _ (((l.le r1 g1).le r2 g2).le RLe.refl o5)⟩
        | _ => exact p2.elim⟩⟩
theorem ms_asgS {o i e : Expr} {mo mi m : E} {pos' pos : Pos} (ho : ME X T C W o mo) (hi : ME X T C W i mi) (he : ME X T C W e m) (hs : notSlice i = true) : MS X T C xt wl W (.Assign [.Subscript o i pos'] e pos) (.asg (.sub mo mi) m) := by
  have ha : ∀ v, assign (.Subscript o i pos') X.env v = (do
      let ov ← holding [v] (eval o X.env)
      let iv ← holding [v, ov] (eval i X.env)
      standAt pos'
      holding [v, ov, iv] (setItem ov iv v)
      release [v, ov, iv] []) := by
    intro v
    cases i <;> first | rfl | cases hs
  have h1 : swappedStores [.Subscript o i pos'] e X.env = pure none := by cases e <;> rfl
  refine weakS (ps_asg he (pg_sub ho hi set_list ha) (swaps_tg (tg := .Subscript o i pos') (e := e) (n := pos.line) (env := X.env) rfl) h1 rfl) fun D σ H ⟨ρ, lo, h, R, l, p⟩ => ⟨ρ, lo, h, R, l, (SPost.then_ l p).then fun ρ1 H1 h1 v r1 g1 R1 p1 y ry => ?_⟩
  refine ⟨ρ1, lo, h1, R1, l.le r1 g1, (SPost.then_ (l.le r1 g1) (show SPost T X.K ρ1 H1 ((evalE C mo lo h1).then_ lo fun x h => (evalE C mi lo h).then_ lo fun y h => match setItemS x y v h with
    | some h' => .ok (.nx lo) h'
    | none => .no) D W from p1)).then fun ρ2 H2 h2 w r2 g2 R2 p2 z rz => ⟨ρ2, lo, h2, R2, (l.le r1 g1).le r2 g2, (SPost.then_ ((l.le r1 g1).le r2 g2) p2).then fun ρ3 H3 h3 u r3 g3 R3 p3 q rq => ?_⟩⟩
  cases e1 : setItemS w u v h3 with
  | none => simp only [e1] at p3; exact p3.elim
  | some h4 =>
    simp only [e1] at p3
    cases (rz.le r3 g3) with
    | @ref a r hp =>
      cases rq with
      | int kk =>
        simp only [setItemS] at e1
        split at e1
        · rename_i xs e2
          cases e3 : ixN xs.length kk with
          | none => rw [e3] at e1; cases e1
          | some j =>
            rw [e3] at e1
            cases e1
            obtain ⟨as, o1, o2⟩ := R3.addr e2 hp
            have gw : HLe H3 (upd H3 a (.lst (as.set j y))) := HLe.write o1 trivial
            refine ⟨a, as, kk, j, rfl, rfl, o1, by rw [o2.length]; exact e3, p3 _ _ RLe.refl gw (R3.write (o' := .lst (xs.set j v)) e2 rfl rfl hp ⟨_, upd_same, (Reps.set ((ry.le r2 g2).le r3 g3) j o2).le RLe.refl gw⟩) _ ((((l.le r1 g1).le r2 g2).le r3 g3).le RLe.refl gw)⟩
        · cases e1
      | _ => simp only [setItemS] at e1; cases e1
    | _ => cases rq <;> simp only [setItemS] at e1 <;> cases e1
def augOk : BOp → Bool
  | .add => true
  | .sub => true
  | .mul => true
  | _ => false
def rAug (op : BOp) : R2 := fun x y H Q => ∃ i j k, x = .int i ∧ y = .int j ∧ augS op (.int i) (.int j) = some (.int k) ∧ Q (.int k) H
theorem iop_aug {op : BOp} : OpR X (inplaceOp (pyB op)) (rAug op) := by
  intro pins s σ H x y v u Q I rx ry q
  obtain ⟨i, j, z, rfl, rfl, e, q⟩ := q
  cases op with
  | add => simp only [augS] at e; cases e; exact iop_add pins s σ H _ _ v u Q I rx ry ⟨i, j, rfl, rfl, q⟩
  | sub => simp only [augS] at e; cases e; exact iop_sub pins s σ H _ _ v u Q I rx ry ⟨i, j, rfl, rfl, q⟩
  | mul =>
    simp only [augS] at e
    split at e
    · rename_i c; cases e; exact iop_mul pins s σ H _ _ v u Q I rx ry ⟨i, j, rfl, rfl, c.imp big64_ok big64_ok, q⟩
    · cases e
  | _ => simp only [augS] at e; cases e
theorem augS_ints {op : BOp} {a b z : PV} (e : augS op a b = some z) : ∃ i j k, a = .int i ∧ b = .int j ∧ z = .int k := by
  cases op <;> cases a <;> cases b <;> simp only [augS] at e <;> first | (cases e; exact ⟨_, _, _, rfl, rfl, rfl⟩) | (split at e <;> first | (cases e; exact ⟨_, _, _, rfl, rfl, rfl⟩) | cases e) | cases e
theorem ms_augN {i : Nat} {x : Str} {op : BOp} {e : Expr} {m : E} {pos' pos : Pos} (hN : X.N.Nodup) (hi : X.N[i]? = some x) (hx : MayStore X x) (he : ME X T C W e m) : MS X T C xt wl W (.AugAssign (.Name x pos') (pyB op) e pos) (.augN i op m) :=
  weakS (ps_aug (ti := rAug op) hN hi hx.1 he (fun pins s σ H x y v u Q I rx ry q => iop_aug pins s σ H x y v u Q I rx ry q) hx.2) fun D σ H ⟨ρ, lo, h, R, l, p⟩ => by
    have p1 : SPost T X.K ρ H (match getLo lo i with
      | some v => (evalE C m lo h).then_ lo fun y h => match augS op v y with
        | some z => .ok (.nx (lo.set i (some z))) h
        | none => .no
      | none => .no) D W := p
    cases e1 : getLo lo i with
    | none => rw [e1] at p1; exact p1.elim
    | some v =>
      rw [e1] at p1
      obtain ⟨vx, h1, h2⟩ := l.get i v (getLo_some e1)
      refine ⟨vx, h1, ρ, lo, h, R, l, (SPost.then_ l p1).then fun ρ1 H1 h1 y r1 g1 R1 p2 z rz => ?_⟩
      cases e2 : augS op v y with
      | none => simp only [e2] at p2; exact p2.elim
      | some w =>
        simp only [e2] at p2
        obtain ⟨a, b, d, rfl, rfl, rfl⟩ := augS_ints e2
        cases h2
        cases rz
        exact ⟨a, b, d, rfl, rfl, e2, p2.here R1 _ ((l.le r1 g1).set (.int d) i)⟩
theorem ms_augA (c : XC X T Pr M k W) (hC : C.cls = Pr.cls) {o e : Expr} {mo m : E} {f : Nat} {nm : Str} {op : BOp} {pos' pos : Pos} (ho : ME X T C W o mo) (he : ME X T C W e m) (hn : T.an[f]? = some nm) : MS X T C xt wl W (.AugAssign (.Attribute o nm pos') (pyB op) e pos) (.augA mo f op m) :=
  weakS (ps_fldaug (rd := rAug op) ho he (fun pins s σ H x y u v Q I rx ry q => iop_aug pins s σ H x y u v Q I rx ry q)) fun D σ H ⟨ρ, lo, h, R, l, p⟩ => ⟨ρ, lo, h, R, l, (SPost.then_ l p).then fun ρ1 H1 h1 x r1 g1 R1 p1 vx rx => by
    cases e1 : attrS C h1 f x with
    | none => simp only [e1] at p1; exact p1.elim
    | some v =>
      obtain ⟨a, E, dx, gs, n, cc, fs, rfl, rfl, hp, e2, o1, _, o2, o3, o4, o5, w, o6, o7⟩ := attr_rep c hC R1 hn rx e1
      simp only [e1] at p1
      refine ⟨a, E, dx, gs, w, rfl, o2, o3, o4, o6, ρ1, lo, h1, R1, l.le r1 g1, (SPost.then_ (l.le r1 g1) p1).then fun ρ2 H2 h2 y r2 g2 R2 p2 z rz => ?_⟩
      cases e3 : augS op v y with
      | none => simp only [e3] at p2; exact p2.elim
      | some u =>
        simp only [e3, e2] at p2
        obtain ⟨i, j, d, rfl, rfl, rfl⟩ := augS_ints e3
        cases o7
        cases rz
        refine ⟨i, j, d, rfl, rfl, e3, ?_⟩
        split at p2
        · rename_i c1 fs1 c2 fs2 e4 e5
          cases e4
          obtain ⟨⟨rfl, hlen⟩, p3⟩ := sif_post p2
          have hp2 := r2 _ _ hp
          obtain ⟨E2, dx2, gs2, q1, q2, q3⟩ := R2.addr e5 hp2
          rw [o1] at q1; cases q1
          have gw : HLe H2 (upd H2 a (.ins E dx2 (putF nm (.int d) gs2))) := HLe.write q2 trivial
          exact ⟨dx2, gs2, q2, by rw [q3.length]; omega, p3 _ _ RLe.refl gw (R2.write (o' := .ins _ (putN f (.int d) fs2)) e5 rfl rfl hp2 ⟨E, dx2, _, o1, upd_same, (q3.put hn (.int d)).le RLe.refl gw⟩) _ (((l.le r1 g1).le r2 g2).le RLe.refl gw)⟩
        · exact p2.elim⟩
end
end Vb

set_option Elab.async false
set_option linter.all false
set_option maxRecDepth 100000
set_option maxHeartbeats 2000000
/-! Comprehensions, loops. -/
namespace Vb
open PySem L2 PySem.Spec PyProof.Rows
section
variable {X : Cx} {T : LT} {Pr : Prog} {M : Nm} {k : Nat} {W : WX} {C : CB} {xt : XT} {wl : Nat}
/-- the facts within a block -/
theorem XC.blk (c : XC X T Pr M k W) (s : Shared) (H : Hp) (scope : Scope) (ce : Env) (fp : List Addr) : XC (X.blk s H scope ce fp) T Pr M k W0 :=
  ⟨c.nd, c.calm, c.room, c.gds, fun _ _ ⟨_, _, _, _, _, _, _, _, _, _, _, _, _, _, _, _, w⟩ => w.elim, c.isk, c.bi, c.ty, c.ifn, c.rng, c.enm, c.fn, c.me, c.at_, c.made⟩
def notSet : Expr → Bool
  | .Set _ _ _ => false
  | _ => true
theorem no_fold {e : Expr} {env : Env} (h : notSet e = true) : ∀ x, foldedSetIterable e env x = pure x := by
  intro x
  cases e <;> first | rfl | cases h
theorem me_lc (c : XC X T Pr M k W) {elt tg iter : Expr} {ifs : List Expr} {scope : Scope} {own : List (Str × Nat)} {pos : Pos} {g : Tg} {mi : IX} {mt : Option E} {me : E} (hi : MI X T C W tg iter mi) (ok : BlkOk X.N X.env.scope scope own)
    (hg : ∀ (s : Shared) (H : Hp) (L : Addr) (cl : List (Str × Addr)) (fp : List Addr), MG (X.blk s H scope (compEnvC scope cl L X.env) fp) T tg g) (ht : ∀ (s : Shared) (H : Hp) (L : Addr) (cl : List (Str × Addr)) (fp : List Addr), PTs (X.blk s H scope (compEnvC scope cl L X.env) fp) ifs (tOT T X.K C W0 mt))
    (he : ∀ (s : Shared) (H : Hp) (L : Addr) (cl : List (Str × Addr)) (fp : List Addr), ME (X.blk s H scope (compEnvC scope cl L X.env) fp) T C W0 elt me) (hs : notSet iter = true) (hown : ∀ i ∈ g.ix, i ∈ own.map (·.2)) :
    ME X T C W (.ListComp elt [⟨tg, iter, ifs, 0⟩] scope pos) (.lc g (own.map (·.2)) mi mt me) :=
  weakE (pe_lc c.calm c.nd hi ok hg ht he (no_fold hs)) fun σ H Q q => lc_read hown q
theorem ms_asgLc (c : XC X T Pr M k W) {i : Nat} {y : Str} {py spos : Pos} {elt tg iter : Expr} {ifs : List Expr} {scope : Scope} {own : List (Str × Nat)} {pos : Pos} {g : Tg} {mi : IX} {mt : Option E} {me : E} (hi : MI X T C W tg iter mi) (ok : BlkOk X.N X.env.scope scope own)
    (hg : ∀ (s : Shared) (H : Hp) (L : Addr) (cl : List (Str × Addr)) (fp : List Addr), MG (X.blk s H scope (compEnvC scope cl L X.env) fp) T tg g) (ht : ∀ (s : Shared) (H : Hp) (L : Addr) (cl : List (Str × Addr)) (fp : List Addr), PTs (X.blk s H scope (compEnvC scope cl L X.env) fp) ifs (tOT T X.K C W0 mt))
    (he : ∀ (s : Shared) (H : Hp) (L : Addr) (cl : List (Str × Addr)) (fp : List Addr), ME (X.blk s H scope (compEnvC scope cl L X.env) fp) T C W0 elt me) (hs : notSet iter = true) (hown : ∀ i ∈ g.ix, i ∈ own.map (·.2))
    (hk : X.env.scope.kind = .function) (hy : X.N[i]? = some y) (hyl : X.env.scope.names.lookup y = some .local) (hl : (py.line == pos.line) = true) (ha : (scope.names.any fun (n, k) => n == y && (k == .local || k == .cell)) = false) :
    MS X T C xt wl W (.Assign [.Name y py] (.ListComp elt [⟨tg, iter, ifs, 0⟩] scope pos) spos) (.asg (.n i) (.lc g (own.map (·.2)) mi mt me)) :=
  weakS (ps_setLc c.calm c.nd hy hyl (sw_true hk hyl hl ha) hi ok hg ht he (no_fold hs)) fun D σ H ⟨ρ, lo, h, R, l, p⟩ =>
    lc_read hown ⟨ρ, lo, h, R, l, (SPost.then_ l p).then fun ρ1 H1 h1 v r1 g1 R1 p1 x rx => p1.here R1 _ ((l.le r1 g1).set rx i)⟩
/-! ### loops -/
theorem FlPost.same {K : PySem.W.Frag} {ρ : List Addr} {H : Hp} {f : Fl} {D D' : Ends} (p : FlPost T K ρ H f D W) (h1 : ∀ lo, f ≠ .nx lo) (h2 : ∀ lo, f ≠ .bk lo) (h3 : ∀ lo, f ≠ .ct lo) (h4 : D'.rt = D.rt) : FlPost T K ρ H f D' W := by
  cases f with
  | nx lo => exact absurd rfl (h1 lo)
  | bk lo => exact absurd rfl (h2 lo)
  | ct lo => exact absurd rfl (h3 lo)
  | rt v => intro x r; rw [h4]; exact p x r
  | th e lo => exact p
/-- a turn's end -/
theorem turn_end {K : PySem.W.Frag} {ρ : List Addr} {H : Hp} {r : SR} {D : Ends} {go : Lo → MH → SR} {N : L2.St → Hp → Prop} (hN : ∀ ρ' H' lo' h' σ', RLe ρ ρ' → HLe H H' → HRel T K ρ' H' h' → LRel K ρ' H' σ' lo' → SPost T K ρ' H' (go lo' h') D W → N σ' H')
    (p : SPost T K ρ H (match r with
      | .ok (.nx lo') h' => go lo' h'
      | .ok (.ct lo') h' => go lo' h'
      | .ok (.bk lo') h' => .ok (.nx lo') h'
      | r => r) D W) : SPost T K ρ H r { D with nx := N, ct := N, bk := D.nx } W := by
  cases r with
  | no => exact p
  | ok f h1 =>
    intro ρ1 H1 r1 g1 R1
    cases f with
    | nx lo1 => exact fun σ1 l1 => hN ρ1 H1 lo1 h1 σ1 r1 g1 R1 l1 (SPost.move (r := go lo1 h1) p r1 g1)
    | ct lo1 => exact fun σ1 l1 => hN ρ1 H1 lo1 h1 σ1 r1 g1 R1 l1 (SPost.move (r := go lo1 h1) p r1 g1)
    | bk lo1 => exact fun σ1 l1 => SPost.here (f := .nx lo1) R1 (SPost.move p r1 g1) σ1 l1
    | rt v => exact fun x rx => p ρ1 H1 r1 g1 R1 x rx
    | th e lo1 => exact p ρ1 H1 r1 g1 R1
theorem ms_while (hp : PassesOwn (model X.prog X.w) X.A X.env X.xe) {t : Expr} {b : List Stmt} {mt : E} {mb : List S} {pos : Pos} (ht : MT X T C W t mt) (hb : MSs X T C xt wl W b mb) : MS X T C xt wl W (.While t b [] pos) (.while_ mt mb) :=
  weakS (ps_while hp ht hb) fun D σ H ⟨ρ, lo, h, R, l, p⟩ => by
    refine ⟨fun m σ H => ∃ ρ lo h, HRel T X.K ρ H h ∧ LRel X.K ρ H σ lo ∧ SPost T X.K ρ H (whileLoop (evalT C mt) (execs C xt wl mb) m lo h) D W, ⟨wl, ρ, lo, h, R, l, p⟩, ?_⟩
    rintro m σ1 H1 ⟨ρ1, lo1, h1, R1, l1, p1⟩
    cases m with
    | zero => exact p1.elim
    | succ m =>
      refine ⟨ρ1, lo1, h1, R1, l1, (SPost.then_ l1 p1).then fun ρ2 H2 h2 z r2 g2 R2 p2 => ?_⟩
      cases z with
      | false => rw [if_neg Bool.false_ne_true]; exact p2.here R2 _ (l1.le r2 g2)
      | true =>
        rw [if_pos rfl]
        refine ⟨fun σ H => ∃ ρ lo h, HRel T X.K ρ H h ∧ LRel X.K ρ H σ lo ∧ SPost T X.K ρ H (whileLoop (evalT C mt) (execs C xt wl mb) m lo h) D W, fun σ' H' q => ⟨m, Nat.lt_succ_self m, q⟩, ρ2, lo1, h2, R2, l1.le r2 g2, ?_⟩
        exact turn_end (fun ρ' H' lo' h' σ' r g R' l' p' => ⟨ρ', lo', h', R', l', p'⟩) p2
theorem ms_for (c : XC X T Pr M k W) (hp : PassesOwn (model X.prog X.w) X.A X.env X.xe) {tg iter : Expr} {b : List Stmt} {g : Tg} {mi : IX} {mb : List S} {pos : Pos} (hi : MI X T C W tg iter mi) (hg : MG X T tg g) (hb : MSs X T C xt wl W b mb) (hs : notSet iter = true) :
    MS X T C xt wl W (.For tg iter b [] pos) (.for_ g mi mb) :=
  weakS (ps_for hp c.calm hi hg hb (no_fold hs)) fun D σ H ⟨ρ, lo, h, R, l, p⟩ => by
    refine ⟨ρ, lo, h, R, l, (SPost.then_ l p).then fun ρ1 H1 h1 pr r1 g1 R1 p1 J jok => ?_⟩
    obtain ⟨vs, gv⟩ := pr
    generalize hf : (fun v lo h => match storeTg g v lo with
        | some lo' => execs C xt wl mb lo' h
        | none => .no : PV → Lo → MH → SR) = f at p1
    refine ⟨fun i m σ' H' => m = vs.length - i ∧ i ≤ vs.length ∧ ∃ ρ' lo' h', RLe ρ1 ρ' ∧ HLe H1 H' ∧ HRel T X.K ρ' H' h' ∧ LRel X.K ρ' H' σ' lo' ∧ SPost T X.K ρ' H' (forLoop f (sameSeq gv h1) (vs.drop i) lo' h') D W,
      ⟨vs.length, by simp, Nat.zero_le _, ρ1, lo, h1, RLe.refl, HLe.refl, R1, l.le r1 g1, p1⟩, ?_⟩
    rintro i m σ' H' ⟨rfl, hi, ρ', lo', h', r', g', R', l', p'⟩
    have jk := jok ρ' H' h' r' g' R'
    by_cases cc : i = vs.length
    · left
      rw [List.drop_eq_nil_of_le (by omega)] at p'
      obtain ⟨gd, p2⟩ := sif_post (show SPost T X.K ρ' H' (@ite _ (sameSeq gv h1 h') (Classical.propDecidable _) (.ok (.nx lo') h') .no) _ _ from p')
      exact ⟨(jk gd i).1 cc, p2.here R' _ l'⟩
    · right
      have hlt : i < vs.length := by omega
      rw [List.drop_eq_getElem_cons hlt] at p'
      obtain ⟨gd, p2⟩ := sif_post (show SPost T X.K ρ' H' (@ite _ (sameSeq gv h1 h') (Classical.propDecidable _) (match f vs[i] lo' h' with
        | .ok (.nx lo') h' => forLoop f (sameSeq gv h1) (vs.drop (i + 1)) lo' h'
        | .ok (.ct lo') h' => forLoop f (sameSeq gv h1) (vs.drop (i + 1)) lo' h'
        | .ok (.bk lo') h' => .ok (.nx lo') h'
        | r => r) .no) _ _ from p')
      obtain ⟨go, yl⟩ := (jk gd i).2 vs[i] (List.getElem?_eq_getElem hlt)
      refine ⟨go, fun σ'' H'' => ∃ ρ'' lo'' h'', RLe ρ' ρ'' ∧ HLe H' H'' ∧ HRel T X.K ρ'' H'' h'' ∧ LRel X.K ρ'' H'' σ'' lo'' ∧ SPost T X.K ρ'' H'' (forLoop f (sameSeq gv h1) (vs.drop (i + 1)) lo'' h'') D W,
        fun σ'' H'' ⟨ρ'', lo'', h'', a1, a2, a3, a4, a5⟩ => ⟨vs.length - (i + 1), by omega, rfl, by omega, ρ'', lo'', h'', r'.trans a1, g'.trans a2, a3, a4, a5⟩, fun x H2 hy => ?_⟩
      obtain ⟨gy, Ry, rx⟩ := yl x H2 hy
      have hfv : f vs[i] lo' h' = (match storeTg g vs[i] lo' with
        | some lo' => execs C xt wl mb lo' h'
        | none => .no) := by rw [← hf]
      rw [hfv] at p2
      cases es : storeTg g vs[i] lo' with
      | none => simp only [es] at p2; exact p2.elim
      | some lo2 =>
        simp only [es] at p2
        refine ⟨ρ', lo', h', vs[i], lo2, Ry, l'.le RLe.refl gy, rx, es, fun σ2 l2 w2 => ⟨ρ', lo2, h', Ry, l2, ?_⟩⟩
        exact turn_end (go := forLoop f (sameSeq gv h1) (vs.drop (i + 1))) (fun ρ'' H'' lo'' h'' σ'' r g R'' l'' p'' => ⟨ρ'', lo'', h'', r, gy.trans g, R'', l'', p''⟩) (p2.move RLe.refl gy)
end
end Vb

set_option Elab.async false
set_option linter.all false
set_option maxRecDepth 100000
set_option maxHeartbeats 4000000
/-! From the text to the small language, and that what it tells the text does. -/
namespace Vb
open PySem L2 PySem.Spec PyProof.Rows

/-! ### tables -/
structure Sx where
  N : List Str
  sc : Scope
  fn : Str → Bool
structure Tab where
  an : List Str
  mn : List Str
  M : Nm
  gl : List (Str × PV)
def pos? (x : Str) : List Str → Option Nat
  | [] => none
  | y :: ys => if y = x then some 0 else (pos? x ys).map (· + 1)
theorem pos_get {x : Str} : ∀ {l : List Str} {i : Nat}, pos? x l = some i → l[i]? = some x
  | [], i, h => by cases h
  | y :: ys, i, h => by
    unfold pos? at h
    split at h
    · rename_i e; cases h; rw [e]; rfl
    · cases q : pos? x ys with
      | none => rw [q] at h; cases h
      | some j => rw [q] at h; cases h; show ys[j]? = some x; exact pos_get q
def isVis (S : Sx) (x : Str) : Bool := match S.sc.names.lookup x with
  | some .local => true
  | some .cell => true
  | some .free => true
  | _ => false
def isGl (S : Sx) (x : Str) : Bool := match S.sc.names.lookup x with
  | some .globalImplicit => true
  | _ => false
def isSt (S : Sx) (x : Str) : Bool := match S.sc.names.lookup x with
  | some .local => true
  | some .cell => S.fn x
  | _ => false
def dunder (x : Str) : Bool := (x == ("__debug__" : Str)) || (x == ("__classdict__" : Str))
def biAll : List Bi := [.len, .str, .int, .tuple, .list, .max2, .min2, .all, .any, .repr]
def biOf (x : Str) : Option Bi := biAll.find? fun b => decide (biName b = x)
def bmAll : List Bm := [.append, .extend, .pop, .join, .split]
def bmOf (x : Str) : Option Bm := bmAll.find? fun b => decide (bmName b = x)
def tyAll_ : List Ty := [.int, .bool, .str, .tup, .lst]
def tyOf (x : Str) : Option Ty := tyAll_.find? fun b => decide (tyPy b = x)
def bopOf : Operator → Option BOp
  | .Add => some .add
  | .Sub => some .sub
  | .Mult => some .mul
  | .FloorDiv => some .fdiv
  | .Mod => some .mod
  | .Pow => some .pow
  | _ => none
def copAll : List COp := [.eq, .ne, .lt, .le, .gt, .ge, .isn, .notn, .in_, .nin]
def copOf (o : CmpOp) : Option COp := copAll.find? fun b => decide (pyC b = o)
theorem find_dec {α β : Type} [DecidableEq β] {f : α → β} {x : β} {l : List α} {a : α} (h : l.find? (fun b => decide (f b = x)) = some a) : f a = x := by
  have := List.find?_some h
  simpa using this
theorem bop_eq {o : Operator} {b : BOp} (h : bopOf o = some b) : o = pyB b := by
  cases o <;> simp only [bopOf] at h <;> cases h <;> rfl

/-! ### to the small language -/
def andL (f : Expr → E) : List Expr → E
  | [] => .never
  | [a] => f a
  | a :: b :: r => .and (f a) (andL f (b :: r))
def orL (f : Expr → E) : List Expr → E
  | [] => .never
  | [a] => f a
  | a :: b :: r => .or (f a) (orL f (b :: r))
def tgNames (S : Sx) : List Expr → Option (List Nat)
  | [] => some []
  | .Name x _ :: es => if isSt S x = true then match pos? x S.N, tgNames S es with
      | some i, some is => some (i :: is)
      | _, _ => none
    else none
  | _ :: _ => none
def tgOf (S : Sx) : Expr → Option Tg
  | .Name x _ => if isSt S x = true then (pos? x S.N).map .n else none
  | .Tuple es _ _ => (tgNames S es).map .t
  | _ => none
def isTupleE : Expr → Bool
  | .Tuple _ _ _ => true
  | _ => false
def ixOf (f : Expr → E) (S : Sx) (tg : Expr) : Expr → Option IX
  | .Call (.Name g _) [a] [] _ => if isGl S g = true ∧ notStar a = true ∧ g = "range" then some (.rng (f a)) else if isGl S g = true ∧ notStar a = true ∧ g = "enumerate" ∧ isTupleE tg = true then some (.enum (f a)) else none
  | .Call (.Name g _) [a, b] [] _ => if isGl S g = true ∧ notStar a = true ∧ notStar b = true ∧ g = "range" then some (.rng2 (f a) (f b)) else none
  | _ => none
def ixE (f : Expr → E) (S : Sx) (tg it : Expr) : IX := match ixOf f S tg it with
  | some m => m
  | none => .e (f it)
def ownOf (S : Sx) (scope : Scope) : List (Str × Nat) := scope.names.filterMap fun p => match p.2 with
  | .local => (pos? p.1 S.N).map fun i => (p.1, i)
  | .cell => (pos? p.1 S.N).map fun i => (p.1, i)
  | _ => none
def Sx.blk (S : Sx) (scope : Scope) : Sx := ⟨S.N, relS scope S.sc, fun x => scope.names.lookup x == some .cell⟩
def callOf (f : Expr → E) (B : Tab) (S : Sx) (g : Str) (es : List Expr) : E :=
  if isGl S g = true ∧ dunder g = false ∧ es.all notStar = true then match B.M.gf.lookup g with
    | some n => .call n (es.map f)
    | none => match B.M.gc.lookup g with
      | some n => .mk n (es.map f)
      | none => if g = "isinstance" then match es with
          | [e, .Name t _] => match tyOf t with
            | some ty => if isGl S t = true then .isi (f e) ty else .never
            | none => .never
          | _ => .never
        else match biOf g, es with
          | some b, _ :: _ => .bi b (es.map f)
          | _, _ => .never
  else .never
def methOf_ (f : Expr → E) (B : Tab) (o : Expr) (x : Str) (es : List Expr) (apos pos : Pos) : E :=
  if es.all notStar = true ∧ notSuper o = true ∧ es.length < 30 ∧ (apos.endLine == pos.line) = true then match bmOf x with
    | some b => .bm b (f o) (es.map f)
    | none => match pos? x B.mn with
      | some m => .meth m (f o) (es.map f)
      | none => .never
  else .never
def cmpOf_ (f : Expr → E) (a : Expr) : List CmpOp → List Expr → E
  | [o], [b] => match copOf o with
    | some op => if behindInMarks o b = false then .cmp op (f a) (f b) else .never
    | none => .never
  | [o, o'], [b, c] => match copOf o, copOf o' with
    | some op, some op' => if lastMarks [o, o'] [b, c] = false then .chain op op' (f a) (f b) (f c) else .never
    | _, _ => .never
  | _, _ => .never
def nameOf (B : Tab) (S : Sx) (x : Str) : E :=
  if dunder x = false then
    if isVis S x = true then match pos? x S.N with
      | some i => .var i
      | none => .never
    else if isGl S x = true then match B.gl.lookup x with
      | some m => .cst m
      | none => .never
    else .never
  else .never
mutual
def stE (B : Tab) : Nat → Sx → Expr → E
  | 0, _, _ => .never
  | n + 1, S, e => match e with
    | .Name x _ => nameOf B S x
    | .Constant (.int i) _ _ => .cst (.int i)
    | .Constant (.bool b) _ _ => .cst (.bl b)
    | .Constant .none _ _ => .cst .non
    | .Constant (.str x) _ _ => .cst (.str x)
    | .BinOp a op b _ => match bopOf op with
      | some o => .bin o (stE B n S a) (stE B n S b)
      | none => .never
    | .BoolOp .And es _ => andL (stE B n S) es
    | .BoolOp .Or es _ => orL (stE B n S) es
    | .UnaryOp .Not a _ => .not (stE B n S a)
    | .UnaryOp .USub a _ => .neg (stE B n S a)
    | .IfExp t a b _ => .ife (stT B n S t) (stE B n S a) (stE B n S b)
    | .Compare a ops bs _ => cmpOf_ (stE B n S) a ops bs
    | .Call (.Name g _) es [] _ => callOf (stE B n S) B S g es
    | .Call (.Attribute o x apos) es [] pos => methOf_ (stE B n S) B o x es apos pos
    | .Attribute o x _ => if notSuper o = true then match pos? x B.an with
        | some f => .attr (stE B n S o) f
        | none => .never
      else .never
    | .Subscript a (.Slice lo hi none _) _ => .slc (stE B n S a) (lo.map (stE B n S)) (hi.map (stE B n S))
    | .Subscript a b _ => if notSlice b = true then .idx (stE B n S a) (stE B n S b) else .never
    | .Tuple es _ _ => if es.all notStar = true then .tup (es.map (stE B n S)) else .never
    | .List es _ => if es.all notStar = true then .lst (es.map (stE B n S)) else .never
    | .ListComp elt [⟨tg, it, ifs, 0⟩] scope _ => if blkC S.N S.sc scope (ownOf S scope) = true ∧ notSet it = true then match tgOf (S.blk scope) tg with
        | some g => if g.ix.all (fun i => ((ownOf S scope).map (·.2)).contains i) = true then match ifs with
            | [] => .lc g ((ownOf S scope).map (·.2)) (ixE (stE B n S) S tg it) none (stE B n (S.blk scope) elt)
            | [c] => .lc g ((ownOf S scope).map (·.2)) (ixE (stE B n S) S tg it) (some (stT B n (S.blk scope) c)) (stE B n (S.blk scope) elt)
            | _ => .never
          else .never
        | none => .never
      else .never
    | _ => .never
def stT (B : Tab) : Nat → Sx → Expr → E
  | 0, _, _ => .never
  | n + 1, S, e => match e with
    | .BoolOp .And es _ => andL (stT B n S) es
    | .BoolOp .Or es _ => orL (stT B n S) es
    | .UnaryOp .Not a _ => .not (stT B n S a)
    | .Compare a ops bs _ => cmpOf_ (stE B n S) a ops bs
    | e => if plainTest e = true then .val (stE B n S e) else .never
end

/-! ### sound -/
structure GlC (X : Cx) (T : LT) (M : Nm) (B : Tab) : Prop where
  an : B.an = T.an
  mn : B.mn = T.mn
  m : B.M = M
  gl : ∀ x m, B.gl.lookup x = some m → ∃ u v, X.mg x = some u ∧ RelV v u ∧ ∀ ρ H, Rep X.K ρ H v m
structure SxC (X : Cx) (S : Sx) : Prop where
  n : X.N = S.N
  sc : X.env.scope = S.sc
  fn : ∀ x, S.fn x = true → X.fn x = true
section
variable {X : Cx} {T : LT} {Pr : Prog} {M : Nm} {k : Nat} {W : WX} {B : Tab} {S : Sx}
theorem SxC.vis (z : SxC X S) {x : Str} (h : isVis S x = true) : Vis X.env.scope x := by
  unfold isVis at h
  unfold Vis
  rw [z.sc]
  split at h <;> first | exact .inl (by assumption) | exact .inr (.inl (by assumption)) | exact .inr (.inr (by assumption)) | cases h
theorem SxC.gl (z : SxC X S) {x : Str} (h : isGl S x = true) : Gl X x := by
  unfold isGl at h
  show X.env.scope.names.lookup x = some .globalImplicit
  rw [z.sc]
  split at h <;> first | assumption | cases h
theorem SxC.st (z : SxC X S) {x : Str} (h : isSt S x = true) : MayStore X x := by
  unfold isSt at h
  unfold MayStore L2.Loc
  rw [z.sc]
  split at h
  · rename_i e; exact ⟨.inl e, .inr e⟩
  · rename_i e; exact ⟨.inr e, .inl (z.fn x h)⟩
  · cases h
theorem SxC.blk (z : SxC X S) (s : Shared) (H : Hp) (scope : Scope) (cl : List (Str × Addr)) (L : Addr) (fp : List Addr) : SxC (X.blk s H scope (compEnvC scope cl L X.env) fp) (S.blk scope) := by
  refine ⟨z.n, ?_, fun x h => h⟩
  show relabel scope X.env = relS scope S.sc
  rw [← z.sc]
  rfl
theorem dun {x : Str} (h : dunder x = false) : (x == ("__debug__" : Str)) = false ∧ (x == ("__classdict__" : Str)) = false := by
  unfold dunder at h
  rw [Bool.or_eq_false_iff] at h
  exact h
theorem me_name (g : GlC X T M B) (z : SxC X S) {x : Str} {pos : Pos} {C : CB} : ME X T C W (.Name x pos) (nameOf B S x) := by
  unfold nameOf
  split
  · rename_i hd
    split
    · rename_i hv
      split
      · rename_i i e
        have hi := pos_get e
        rw [← z.n] at hi
        exact me_var hi (z.vis hv) (dun hd).1 (dun hd).2
      · exact me_never
    · split
      · rename_i hg
        split
        · rename_i m e
          obtain ⟨u, v, h1, h2, h3⟩ := g.gl x m e
          exact me_glob (z.gl hg) h1 h2 h3 (dun hd).1
        · exact me_never
      · exact me_never
  · exact me_never
theorem mes_map {C : CB} {f : Expr → E} (hf : ∀ e, ME X T C W e (f e)) : ∀ {es : List Expr}, es.all notStar = true → MEs X T C W es (es.map f)
  | [], _ => mes_nil
  | e :: es, h => by
    rw [List.all_cons, Bool.and_eq_true] at h
    exact mes_cons (hf e) (mes_map hf h.2) h.1
theorem me_and1 {C : CB} {a : Expr} {m : E} {pos : Pos} (h : ME X T C W a m) : ME X T C W (.BoolOp .And [a] pos) m := ⟨fun pins s σ H Q I q => h.run pins s σ H Q I q⟩
theorem me_or1 {C : CB} {a : Expr} {m : E} {pos : Pos} (h : ME X T C W a m) : ME X T C W (.BoolOp .Or [a] pos) m := ⟨fun pins s σ H Q I q => h.run pins s σ H Q I q⟩

theorem me_andL {C : CB} {f : Expr → E} (hf : ∀ e, ME X T C W e (f e)) {pos : Pos} : ∀ {es : List Expr}, ME X T C W (.BoolOp .And es pos) (andL f es)
  | [] => me_never
  | [a] => me_and1 (hf a)
  | a :: b :: r => me_and (hf a) (me_andL hf (es := b :: r))
theorem me_orL {C : CB} {f : Expr → E} (hf : ∀ e, ME X T C W e (f e)) {pos : Pos} : ∀ {es : List Expr}, ME X T C W (.BoolOp .Or es pos) (orL f es)
  | [] => me_never
  | [a] => me_or1 (hf a)
  | a :: b :: r => me_or (hf a) (me_orL hf (es := b :: r))
theorem mw_andL {C : CB} {f : Expr → E} (hf : ∀ e, MT X T C W e (f e)) {pos : Pos} : ∀ {es : List Expr}, PW X (.BoolOp .And es pos) (tT T X.K C W (andL f es))
  | [] => ⟨fun wh pins s σ H Q I q => by
      obtain ⟨ρ, lo, h, _, _, p⟩ := q
      exact p.elim⟩
  | [a] => pw_and1 (hf a)
  | a :: b :: r => mw_and (hf a) (mw_andL hf (es := b :: r))
theorem mw_orL {C : CB} {f : Expr → E} (hf : ∀ e, MT X T C W e (f e)) {pos : Pos} : ∀ {es : List Expr}, PW X (.BoolOp .Or es pos) (tT T X.K C W (orL f es))
  | [] => ⟨fun wh pins s σ H Q I q => by
      obtain ⟨ρ, lo, h, _, _, p⟩ := q
      exact p.elim⟩
  | [a] => pw_or1 (hf a)
  | a :: b :: r => mw_or (hf a) (mw_orL hf (es := b :: r))
theorem names_ok (z : SxC X S) : ∀ {es : List Expr} {is : List Nat}, tgNames S es = some is → Names_ X es is
  | [], is, h => by cases h; exact .nil
  | e :: es, is, h => by
    cases e with
    | Name x p =>
      unfold tgNames at h
      split at h
      · rename_i hs
        split at h
        · rename_i i js e1 e2
          cases h
          have hi := pos_get e1
          rw [← z.n] at hi
          exact .cons hi (z.st hs) (names_ok z e2)
        · cases h
      · cases h
    | _ => cases h
theorem tg_ok (hN : X.N.Nodup) (hc : X.calm = true) (z : SxC X S) {tg : Expr} {g : Tg} (h : tgOf S tg = some g) : MG X T tg g := by
  cases tg with
  | Name x p =>
    have h' : (if isSt S x = true then (pos? x S.N).map Tg.n else none) = some g := h
    by_cases hs : isSt S x = true
    · rw [if_pos hs] at h'
      cases e : pos? x S.N with
      | none => rw [e] at h'; cases h'
      | some i =>
        rw [e] at h'
        cases h'
        have hi := pos_get e
        rw [← z.n] at hi
        exact mg_n hN hi (z.st hs)
    · rw [if_neg hs] at h'
      cases h'
  | Tuple es kk p =>
    simp only [tgOf] at h
    cases e : tgNames S es with
    | none => rw [e] at h; cases h
    | some is => rw [e] at h; cases h; exact mg_t hN hc (names_ok z e)
  | _ => cases h
theorem few_ok {pos : Pos} {env : Env} {es : List Expr} (h : es.all notStar = true) (hl : es.length < 30) : methodCallForm es.length (backTo pos (starEach es env)) [] = true := by
  have h1 := star_any (pos := pos) (env := env) h
  have h2 : (backTo pos (starEach es env)).all (!·.1) = true := by
    rw [List.all_eq_true]
    intro x hx
    rw [List.any_eq_false] at h1
    have := h1 x hx
    simpa using this
  unfold methodCallForm
  rw [h2]
  simp [hl]
theorem few_ok2 {pos : Pos} {env : Env} {es : List Expr} (h : es.all notStar = true) (hl : es.length < 30) :
    ((backTo pos (starEach es env)).all (fun x => !x.1) && (backToKw pos (keywordEach [] env)).all (fun x => x.1.isSome) && decide (es.length + ([] : List Keyword).length + (if ([] : List Keyword).isEmpty then 0 else 1) < 30)) = true := by
  have h1 := star_any (pos := pos) (env := env) h
  have h2 : (backTo pos (starEach es env)).all (!·.1) = true := by
    rw [List.all_eq_true]
    intro x hx
    rw [List.any_eq_false] at h1
    have := h1 x hx
    simpa using this
  have h3 : (backToKw pos (keywordEach [] env)).all (fun x => x.1.isSome) = true := rfl
  rw [h2, h3]
  simp [hl]
theorem call_ok (c : XC X T Pr M k W) (g : GlC X T M B) (z : SxC X S) {f : Expr → E} (hf : ∀ e, ME X T (cbK Pr k) W e (f e)) {x : Str} {es : List Expr} {p pos : Pos} : ME X T (cbK Pr k) W (.Call (.Name x p) es [] pos) (callOf f B S x es) := by
  unfold callOf
  split
  · rename_i h
    obtain ⟨h1, h2, h3⟩ := h
    have hg := z.gl h1
    rw [g.m]
    split
    · rename_i n e
      exact me_call c e hg (dun h2).1 (mes_map hf h3) (by simp) h3
    · split
      · rename_i n e
        exact me_mk c e hg (dun h2).1 (mes_map hf h3) (by simp) h3
      · split
        · rename_i e
          subst e
          split
          · split
            · rename_i t p2 _ ty e2
              split
              · rename_i h4
                have e3 := find_dec (f := tyPy) e2
                subst e3
                simp only [List.all_cons, Bool.and_eq_true] at h3
                exact me_isi c hg (z.gl h4) (hf _) h3.1
              · exact me_never
            · exact me_never
          · exact me_never
        · split
          · rename_i b e es' e2
            have e3 : biName b = x := find_dec e2
            subst e3
            exact me_bi c hg (mes_map hf h3) h3
          · exact me_never
  · exact me_never
theorem meth_ok (c : XC X T Pr M k W) (g : GlC X T M B) {f : Expr → E} (hf : ∀ e, ME X T (cbK Pr k) W e (f e)) {o : Expr} {x : Str} {es : List Expr} {apos pos : Pos} : ME X T (cbK Pr k) W (.Call (.Attribute o x apos) es [] pos) (methOf_ f B o x es apos pos) := by
  unfold methOf_
  split
  · rename_i h
    obtain ⟨h1, h2, h3, h4⟩ := h
    split
    · rename_i b e
      have e3 : bmName b = x := find_dec e
      subst e3
      exact me_bm (hf o) h2 (mes_map hf h1) (by simp) h1 (few_ok2 h1 h3) h4
    · split
      · rename_i m e
        have hm := pos_get e
        rw [g.mn] at hm
        exact me_meth c hm (hf o) h2 (mes_map hf h1) (by simp) h1 (few_ok h1 h3) h4
      · exact me_never
  · exact me_never
theorem cmp_ok_ (c : XC X T Pr M k W) {C : CB} {f : Expr → E} (hf : ∀ e, ME X T C W e (f e)) {a : Expr} {ops : List CmpOp} {bs : List Expr} {pos : Pos} : ME X T C W (.Compare a ops bs pos) (cmpOf_ f a ops bs) ∧ MT X T C W (.Compare a ops bs pos) (cmpOf_ f a ops bs) := by
  unfold cmpOf_
  split
  · split
    · rename_i op e
      have e2 := find_dec e
      subst e2
      split
      · rename_i h; exact ⟨me_cmp c (hf _) (hf _) h, mt_cmp c (hf _) (hf _) h⟩
      · exact ⟨me_never, mt_never⟩
    · exact ⟨me_never, mt_never⟩
  · split
    · rename_i op op' e e'
      have e2 := find_dec e
      have e3 := find_dec e'
      subst e2 e3
      split
      · rename_i h; exact ⟨me_chain c (hf _) (hf _) (hf _) h, mt_chain c (hf _) (hf _) (hf _) h⟩
      · exact ⟨me_never, mt_never⟩
    · exact ⟨me_never, mt_never⟩
  · exact ⟨me_never, mt_never⟩
theorem ix_of (c : XC X T Pr M k W) (z : SxC X S) {C : CB} {f : Expr → E} (hf : ∀ e, ME X T C W e (f e)) {tg it : Expr} {m : IX} (h : ixOf f S tg it = some m) : MI X T C W tg it m := by
  unfold ixOf at h
  split at h
  · split at h
    · rename_i h1
      obtain ⟨h1, h2, rfl⟩ := h1
      cases h
      exact mi_rng c (z.gl h1) (hf _) h2
    · split at h
      · rename_i h1
        obtain ⟨h1, h2, rfl, h3⟩ := h1
        cases h
        cases tg with
        | Tuple es kk p => exact mi_enum c (z.gl h1) (hf _) h2
        | _ => cases h3
      · cases h
  · split at h
    · rename_i h1
      obtain ⟨h1, h2, h3, rfl⟩ := h1
      cases h
      exact mi_rng2 c (z.gl h1) (hf _) (hf _) h2 h3
    · cases h
  · cases h
theorem ix_ok (c : XC X T Pr M k W) (z : SxC X S) {C : CB} {f : Expr → E} (hf : ∀ e, ME X T C W e (f e)) {tg it : Expr} : MI X T C W tg it (ixE f S tg it) := by
  unfold ixE
  split
  · rename_i m e; exact ix_of c z hf e
  · exact mi_e (hf it)
end
end Vb

set_option Elab.async false
set_option linter.all false
set_option maxRecDepth 100000
set_option maxHeartbeats 4000000
/-! What the small language tells, the text does: expressions, then statements. -/
namespace Vb
open PySem L2 PySem.Spec PyProof.Rows
section
variable {T : LT} {Pr : Prog} {M : Nm} {k : Nat} {B : Tab}
def AllE (T : LT) (Pr : Prog) (M : Nm) (k : Nat) (B : Tab) (n : Nat) : Prop := ∀ (X : Cx) (W : WX) (S : Sx), XC X T Pr M k W → GlC X T M B → SxC X S → ∀ e, ME X T (cbK Pr k) W e (stE B n S e)
def AllT (T : LT) (Pr : Prog) (M : Nm) (k : Nat) (B : Tab) (n : Nat) : Prop := ∀ (X : Cx) (W : WX) (S : Sx), XC X T Pr M k W → GlC X T M B → SxC X S → ∀ e, MT X T (cbK Pr k) W e (stT B n S e)
theorem GlC.blk {X : Cx} (g : GlC X T M B) (s : Shared) (H : Hp) (scope : Scope) (ce : Env) (fp : List Addr) : GlC (X.blk s H scope ce fp) T M B := ⟨g.an, g.mn, g.m, g.gl⟩
theorem stE_lc {X : Cx} {W : WX} {S : Sx} {n : Nat} (hE : AllE T Pr M k B n) (hT : AllT T Pr M k B n) (c : XC X T Pr M k W) (g : GlC X T M B) (z : SxC X S) {elt tg it : Expr} {ifs : List Expr} {scope : Scope} {pos : Pos} {gg : Tg} {mt : Option E}
    (hb : blkC S.N S.sc scope (ownOf S scope) = true) (hs : notSet it = true) (ht : tgOf (S.blk scope) tg = some gg) (hi : gg.ix.all (fun i => ((ownOf S scope).map (·.2)).contains i) = true)
    (hmt : (ifs = [] ∧ mt = none) ∨ ∃ d, ifs = [d] ∧ mt = some (stT B n (S.blk scope) d)) :
    ME X T (cbK Pr k) W (.ListComp elt [⟨tg, it, ifs, 0⟩] scope pos) (.lc gg ((ownOf S scope).map (·.2)) (ixE (stE B n S) S tg it) mt (stE B n (S.blk scope) elt)) ∧
    ∀ {i : Nat} {y : Str} {py spos : Pos} {xt : XT} {wl : Nat}, X.env.scope.kind = .function → X.N[i]? = some y → X.env.scope.names.lookup y = some .local → (py.line == pos.line) = true → (scope.names.any fun (n, k) => n == y && (k == .local || k == .cell)) = false →
    MS X T (cbK Pr k) xt wl W (.Assign [.Name y py] (.ListComp elt [⟨tg, it, ifs, 0⟩] scope pos) spos) (.asg (.n i) (.lc gg ((ownOf S scope).map (·.2)) (ixE (stE B n S) S tg it) mt (stE B n (S.blk scope) elt))) := by
  have ok : BlkOk X.N X.env.scope scope (ownOf S scope) := by
    rw [z.n, z.sc]; exact blkOk_by hb
  have hix := ix_ok c z (hE X W S c g z) (tg := tg) (it := it)
  have hg : ∀ (s : Shared) (H : Hp) (L : Addr) (cl : List (Str × Addr)) (fp : List Addr), MG (X.blk s H scope (compEnvC scope cl L X.env) fp) T tg gg := fun s H L cl fp => tg_ok (X := X.blk s H scope (compEnvC scope cl L X.env) fp) c.nd c.calm (z.blk s H scope cl L fp) ht
  have he : ∀ (s : Shared) (H : Hp) (L : Addr) (cl : List (Str × Addr)) (fp : List Addr), ME (X.blk s H scope (compEnvC scope cl L X.env) fp) T (cbK Pr k) W0 elt (stE B n (S.blk scope) elt) :=
    fun s H L cl fp => hE _ _ _ (c.blk s H scope _ fp) (g.blk s H scope _ fp) (z.blk s H scope cl L fp) elt
  have htt : ∀ (s : Shared) (H : Hp) (L : Addr) (cl : List (Str × Addr)) (fp : List Addr), PTs (X.blk s H scope (compEnvC scope cl L X.env) fp) ifs (tOT T X.K (cbK Pr k) W0 mt) := fun s H L cl fp => by
    rcases hmt with ⟨rfl, rfl⟩ | ⟨d, rfl, rfl⟩
    · exact mts_none
    · exact mts_one (hT _ _ _ (c.blk s H scope _ fp) (g.blk s H scope _ fp) (z.blk s H scope cl L fp) d)
  have hown : ∀ i ∈ gg.ix, i ∈ (ownOf S scope).map (·.2) := fun i hh => by
    have := List.all_eq_true.mp hi i hh
    simpa using this
  exact ⟨me_lc c hix ok hg htt he hs hown, fun hk hy hyl hl ha => ms_asgLc c hix ok hg htt he hs hown hk hy hyl hl ha⟩
theorem stT_step {n : Nat} (hE : AllE T Pr M k B n) (hT : AllT T Pr M k B n) : AllT T Pr M k B (n + 1) := by
  intro X W S c g z e
  have hE := hE X W S c g z
  have hT := hT X W S c g z
  unfold stT
  split
  · exact (mw_andL hT).pt
  · exact (mw_orL hT).pt
  · exact mt_not (hT _)
  · exact (cmp_ok_ c hE).2
  · split
    · rename_i h; exact mt_val (hE _) h
    · exact mt_never
theorem stE_step {n : Nat} (hE : AllE T Pr M k B n) (hT : AllT T Pr M k B n) : AllE T Pr M k B (n + 1) := by
  intro X W S c g z e
  have hE' := hE X W S c g z
  have hT' := hT X W S c g z
  unfold stE
  split
  · exact me_name g z
  · exact me_int
  · exact me_bl
  · exact me_non
  · exact me_str
  · split
    · rename_i o e1; rw [bop_eq e1]; exact me_bin (hE' _) (hE' _)
    · exact me_never
  · exact me_andL hE'
  · exact me_orL hE'
  · exact me_not (hE' _)
  · exact me_neg (hE' _)
  · exact me_ife (hT' _) (hE' _) (hE' _)
  · exact (cmp_ok_ c hE').1
  · exact call_ok c g z hE'
  · exact meth_ok c g hE'
  · split
    · rename_i h
      split
      · rename_i f e1
        have hf := pos_get e1
        rw [g.an] at hf
        exact me_attr c rfl (hE' _) hf h
      · exact me_never
    · exact me_never
  · rename_i a lo hi p2 pos
    refine me_slc (hE' _) ?_ ?_
    · cases lo with
      | none => exact mo_none
      | some x => exact mo_some (hE' x)
    · cases hi with
      | none => exact mo_none
      | some x => exact mo_some (hE' x)
  · split
    · rename_i h; exact me_idx (hE' _) (hE' _) h
    · exact me_never
  · split
    · rename_i h; exact me_tup (mes_map hE' h)
    · exact me_never
  · split
    · rename_i h; exact me_lst (mes_map hE' h)
    · exact me_never
  · split
    · rename_i h
      split
      · rename_i gg e1
        split
        · rename_i h2
          split
          · exact (stE_lc hE hT c g z h.1 h.2 e1 h2 (.inl ⟨rfl, rfl⟩)).1
          · exact (stE_lc hE hT c g z h.1 h.2 e1 h2 (.inr ⟨_, rfl, rfl⟩)).1
          · exact me_never
        · exact me_never
      · exact me_never
    · exact me_never
  · exact me_never
theorem st_all : ∀ n, AllE T Pr M k B n ∧ AllT T Pr M k B n
  | 0 => ⟨fun X W S c g z e => by unfold stE; exact me_never, fun X W S c g z e => by unfold stT; exact mt_never⟩
  | n + 1 => ⟨stE_step (st_all n).1 (st_all n).2, stT_step (st_all n).1 (st_all n).2⟩
end
end Vb

set_option Elab.async false
set_option linter.all false
set_option maxRecDepth 100000
set_option maxHeartbeats 4000000
/-! Statements: to the small language, and sound; then defs. -/
namespace Vb
open PySem L2 PySem.Spec PyProof.Rows
def sameLine (S : Sx) (x : Str) (p : Pos) : Expr → Bool
  | .ListComp _ _ scope pos => (match S.sc.kind with | .function => true | _ => false) && (match S.sc.names.lookup x with | some .local => true | _ => false) && (p.line == pos.line) && !(scope.names.any fun (n, k) => n == x && (k == .local || k == .cell))
  | _ => false
def asgOf (f : Expr → E) (B : Tab) (S : Sx) (t e : Expr) : Vb.S := match t with
  | .Name x p => if isSt S x = true ∧ (notComp e = true ∨ sameLine S x p e = true) then match pos? x S.N with
      | some i => .asg (.n i) (f e)
      | none => .never
    else .never
  | .Tuple es _ _ => if notTup e = true then match tgNames S es with
      | some is => .asg (.t is) (f e)
      | none => .never
    else .never
  | .Attribute o x _ => match pos? x B.an with
      | some a => .asg (.attr (f o) a) (f e)
      | none => .never
  | .Subscript o i _ => if notSlice i = true then .asg (.sub (f o) (f i)) (f e) else .never
  | _ => .never
def augOf (f : Expr → E) (B : Tab) (S : Sx) (t : Expr) (op : Operator) (e : Expr) : Vb.S := match bopOf op with
  | some o => match t with
    | .Name x _ => if isSt S x = true then match pos? x S.N with
        | some i => .augN i o (f e)
        | none => .never
      else .never
    | .Attribute ob x _ => match pos? x B.an with
      | some a => .augA (f ob) a o (f e)
      | none => .never
    | _ => .never
  | none => .never
def stS (B : Tab) : Nat → Sx → Stmt → S
  | 0, _, _ => .never
  | n + 1, S, s => match s with
    | .Pass _ => .pass
    | .Break _ => .brk
    | .Continue _ => .cnt
    | .Return none _ => .retN
    | .Return (some e) _ => .ret (stE B n S e)
    | .Expr e _ => if notComp e = true then .expr (stE B n S e) else .never
    | .Assign [t] e _ => asgOf (stE B n S) B S t e
    | .AugAssign t op e _ => augOf (stE B n S) B S t op e
    | .If t a b _ => .if_ (stT B n S t) (a.map (stS B n S)) (b.map (stS B n S))
    | .For tg it b [] _ => if notSet it = true then match tgOf S tg with
        | some g => .for_ g (ixE (stE B n S) S tg it) (b.map (stS B n S))
        | none => .never
      else .never
    | .While t b [] _ => .while_ (stT B n S t) (b.map (stS B n S))
    | _ => .never
section
variable {T : LT} {Pr : Prog} {M : Nm} {k : Nat} {B : Tab} {xt : XT} {wl : Nat}
theorem ms_asg0 {X : Cx} {W : WX} {C : CB} {s : Stmt} {t : AT} : MS X T C xt wl W s (.asg t .never) := weakS ps_never fun D σ H ⟨ρ, lo, h, R, l, p⟩ => p.elim
theorem asgLc_ok {X : Cx} {W : WX} {S : Sx} (c : XC X T Pr M k W) (g : GlC X T M B) (z : SxC X S) {x : Str} {p pos : Pos} {e : Expr} {i : Nat} (hi : X.N[i]? = some x) (hs : sameLine S x p e = true) :
    ∀ n, MS X T (cbK Pr k) xt wl W (.Assign [.Name x p] e pos) (.asg (.n i) (stE B n S e))
  | 0 => by unfold stE; exact ms_asg0
  | n + 1 => by
    cases e with
    | ListComp elt gs scope lpos =>
      simp only [sameLine, Bool.and_eq_true, Bool.not_eq_true'] at hs
      obtain ⟨⟨⟨h1, h2⟩, h3⟩, h4⟩ := hs
      have k1 : X.env.scope.kind = .function := by
        rw [z.sc]
        split at h1 <;> first | assumption | cases h1
      have k2 : X.env.scope.names.lookup x = some .local := by
        rw [z.sc]
        split at h2 <;> first | assumption | cases h2
      unfold stE
      split <;> first | exact ms_asg0 | skip
      all_goals first | (rename_i e0; cases e0; done) | skip
      rename_i e0
      split
      · rename_i h
        split
        · rename_i gg e1
          split
          · rename_i h5
            split
            · cases e0
              exact (stE_lc (st_all n).1 (st_all n).2 c g z h.1 h.2 e1 h5 (.inl ⟨rfl, rfl⟩)).2 k1 hi k2 h3 h4
            · cases e0
              exact (stE_lc (st_all n).1 (st_all n).2 c g z h.1 h.2 e1 h5 (.inr ⟨_, rfl, rfl⟩)).2 k1 hi k2 h3 h4
            · exact ms_asg0
          · exact ms_asg0
        · exact ms_asg0
      · exact ms_asg0
    | _ => cases hs
theorem asg_ok {X : Cx} {W : WX} {S : Sx} {n : Nat} (c : XC X T Pr M k W) (g : GlC X T M B) (z : SxC X S) {t e : Expr} {pos : Pos} : MS X T (cbK Pr k) xt wl W (.Assign [t] e pos) (asgOf (stE B n S) B S t e) := by
  have hE := (st_all (T := T) (Pr := Pr) (M := M) (k := k) (B := B) n).1 X W S c g z
  unfold asgOf
  split
  · split
    · rename_i h
      split
      · rename_i i e1
        have hi := pos_get e1
        rw [← z.n] at hi
        rcases h.2 with h2 | h2
        · exact ms_asgN c.nd hi (z.st h.1) (hE _) (swaps_not h2)
        · exact asgLc_ok c g z hi h2 n
      · exact ms_never
    · exact ms_never
  · split
    · rename_i h
      split
      · rename_i is e1
        exact ms_asgT c.nd c.calm (names_ok z e1) (hE _) h
      · exact ms_never
    · exact ms_never
  · split
    · rename_i a e1
      have hf := pos_get e1
      rw [g.an] at hf
      exact ms_asgA c rfl (hE _) (hE _) hf
    · exact ms_never
  · split
    · rename_i h; exact ms_asgS (hE _) (hE _) (hE _) h
    · exact ms_never
  · exact ms_never
theorem aug_ok {X : Cx} {W : WX} {S : Sx} {n : Nat} (c : XC X T Pr M k W) (g : GlC X T M B) (z : SxC X S) {t e : Expr} {op : Operator} {pos : Pos} : MS X T (cbK Pr k) xt wl W (.AugAssign t op e pos) (augOf (stE B n S) B S t op e) := by
  have hE := (st_all (T := T) (Pr := Pr) (M := M) (k := k) (B := B) n).1 X W S c g z
  unfold augOf
  split
  · rename_i o e0
    rw [bop_eq e0]
    split
    · split
      · rename_i h
        split
        · rename_i i e1
          have hi := pos_get e1
          rw [← z.n] at hi
          exact ms_augN c.nd hi (z.st h) (hE _)
        · exact ms_never
      · exact ms_never
    · split
      · rename_i a e1
        have hf := pos_get e1
        rw [g.an] at hf
        exact ms_augA c rfl (hE _) (hE _) hf
      · exact ms_never
    · exact ms_never
  · exact ms_never
theorem mss_map {X : Cx} {W : WX} {C : CB} {f : Stmt → S} (hf : ∀ s, MS X T C xt wl W s (f s)) : ∀ {ss : List Stmt}, MSs X T C xt wl W ss (ss.map f)
  | [] => mss_nil
  | s :: ss => mss_cons (hf s) (mss_map hf)
theorem stS_all : ∀ n (X : Cx) (W : WX) (S : Sx), XC X T Pr M k W → GlC X T M B → SxC X S → PassesOwn (model X.prog X.w) X.A X.env X.xe → ∀ s, MS X T (cbK Pr k) xt wl W s (stS B n S s)
  | 0, X, W, S, c, g, z, hp, s => by unfold stS; exact ms_never
  | n + 1, X, W, S, c, g, z, hp, s => by
    have hE := (st_all (T := T) (Pr := Pr) (M := M) (k := k) (B := B) n).1 X W S c g z
    have hT := (st_all (T := T) (Pr := Pr) (M := M) (k := k) (B := B) n).2 X W S c g z
    have hS := stS_all n X W S c g z hp
    unfold stS
    split
    · exact ms_pass
    · exact ms_brk
    · exact ms_cnt
    · exact ms_retN
    · exact ms_ret (hE _)
    · split
      · rename_i h; exact ms_expr (hE _) h
      · exact ms_never
    · exact asg_ok c g z
    · exact aug_ok c g z
    · exact ms_if (hT _) (mss_map hS) (mss_map hS)
    · split
      · rename_i h
        split
        · rename_i gg e1
          exact ms_for c hp (ix_ok c z hE) (tg_ok c.nd c.calm z e1) (mss_map hS) h
        · exact ms_never
      · exact ms_never
    · exact ms_while hp (hT _) (mss_map hS)
    · exact ms_never
end
end Vb

set_option Elab.async false
set_option linter.all false
set_option maxRecDepth 100000
set_option maxHeartbeats 4000000
/-! Defs by their bodies in the small language, at every level; the law called. -/
namespace Vb
open PySem L2 PySem.Spec PyProof.Rows
/-- a def's text, the names of its places, its parameters -/
structure FT where
  name : Str
  qual : Str
  params : Arguments
  body : List Stmt
  scope : Scope
  N : List Str
  ps : List Str
def fdOf (B : Tab) (n : Nat) (t : FT) : FD := ⟨t.ps.length, t.N.length, t.body.map (stS B n ⟨t.N, t.scope, fun _ => true⟩)⟩
/-- the program's facts -/
structure PFacts (P : Program) (w : World) (K : PySem.W.Frag) (mg : Str → Option Value) (T : LT) (Pr : Prog) (B : Tab) (n : Nat) (ts : List FT) (ad : Nat → Addr) : Prop where
  fns : Pr.fns = ts.map (fdOf B n)
  ok : ∀ f t, ts[f]? = some t → C8.scC t.N t.ps t.scope = true ∧ ∃ fd, FunD K t.name t.qual t.params t.body t.scope [] [] (ad f) fd ∧ Binds K fd t.ps []
  isk : IsK K
  bi : ∀ b : Bi, mg (biName b) = none
  ty : ∀ t : Ty, mg (tyPy t) = none
  ifn : mg "isinstance" = none
  rng : mg "range" = none
  enm : mg "enumerate" = none
  fn : ∀ x f, B.M.gf.lookup x = some f → mg x = some (.ref (ad f)) ∧ PySem.W.keepIn K (.ref (ad f)) = true ∧ f < ts.length
  me : ∀ (c : Nat) (kd : KD) (m f : Nat), Pr.cls[c]? = some kd → kd.meths.lookup m = some f → ∃ C x, T.ca[c]? = some C ∧ T.mn[m]? = some x ∧ Cls K C ∧ Meth K C x (ad f) ∧ f < ts.length
  at_ : ∀ (c : Nat) (kd : KD) (f : Nat), Pr.cls[c]? = some kd → kd.attrs.contains f = true → ∃ C x, T.ca[c]? = some C ∧ T.an[f]? = some x ∧ Cls K C ∧ NoAttr K C x
  made : ∀ x c, B.M.gc.lookup x = some c → ∃ D kd f, T.ca[c]? = some D ∧ mg x = some (.ref D) ∧ PySem.W.keepIn K (.ref D) = true ∧ Pr.cls[c]? = some kd ∧ kd.init = some f ∧ Mk K D (ad f) ∧ f < ts.length
  an : B.an = T.an
  mn : B.mn = T.mn
  gl : ∀ x m, B.gl.lookup x = some m → ∃ u v, mg x = some u ∧ RelV v u ∧ ∀ ρ H, Rep K ρ H v m
section
variable {P : Program} {w : World} {K : PySem.W.Frag} {mg : Str → Option Value} {base : Heap} {T : LT} {Pr : Prog} {B : Tab} {n : Nat} {ts : List FT} {ad : Nat → Addr}
theorem callF_succ (Pr : Prog) (k f : Nat) (vs : List PV) (h : MH) : callF Pr (k + 1) f vs h = (match Pr.fns[f]? with
    | none => .no
    | some d => if vs.length = d.ps then finF (execs (cbK Pr k) Pr.xt Pr.wl d.body (vs.map some ++ List.replicate (d.nl - d.ps) none) h) else .no) := by cases k <;> (unfold callF; rfl)
theorem callF_len {k f : Nat} {d : FD} {ms : List PV} {h : MH} (e : Pr.fns[f]? = some d) : ms.length = d.ps ∨ callF Pr k f ms h = .no := by
  cases k with
  | zero => exact .inr rfl
  | succ k =>
    by_cases c : ms.length = d.ps
    · exact .inl c
    · right
      rw [callF_succ]
      simp only [e]
      rw [if_neg c]
theorem fa_zero (p : PFacts P w K mg T Pr B n ts ad) {f : Nat} (h : f < ts.length) : FA P w K mg base T Pr 0 f (ad f) := by
  obtain ⟨_, fd, F, b⟩ := p.ok f ts[f] (List.getElem?_eq_getElem h)
  exact ⟨fd, _, ⟨fun vs H Q E ⟨ρ, ms, h, R, r, q⟩ => q.elim, fun A outer s H args us vs Q E _ _ _ _ _ ⟨ρ, ms, h, R, r, q⟩ => q.elim⟩, b⟩
theorem fg_succ (p : PFacts P w K mg T Pr B n ts ad) {k : Nat} (ih : ∀ j ≤ k, ∀ f < ts.length, FA P w K mg base T Pr j f (ad f)) {f : Nat} {t : FT} (ht : ts[f]? = some t) {fd : FuncData} (F : FunD K t.name t.qual t.params t.body t.scope [] [] (ad f) fd) :
    FnG P w K mg base (k + 1) (ad f) fd t.ps (spF T K Pr (k + 1) f) := by
  obtain ⟨sc, _⟩ := p.ok f t ht
  have S := C8.fnScope_by sc
  have e : Pr.fns[f]? = some (fdOf B n t) := by
    rw [p.fns, List.getElem?_map, ht]; rfl
  refine fng_of F S (fun vs H Q E ⟨ρ, ms, h, R, r, q⟩ => ?_) (fun cdv A outer s H vs Q E room gds ⟨ρ, ms, hh, R, r, q⟩ => ?_)
  · rcases callF_len (k := k + 1) (ms := ms) (h := h) e with c | c
    · rw [r.length, c]; rfl
    · rw [c] at q; exact q.elim
  · have c : ms.length = t.ps.length := by
      rcases callF_len (k := k + 1) (ms := ms) (h := hh) e with c | c
      · exact c
      · rw [c] at q; exact q.elim
    have xc : XC (cxOf (L2.CX P w) P w K mg base t.N t.qual t.scope (ad f) cdv A outer s H E) T Pr B.M k (fun cls d _ H' => E cls d H') := by
      refine ⟨S.nd, rfl, room, gds, takes_of rfl rfl rfl rfl, p.isk, p.bi, p.ty, p.ifn, p.rng, p.enm, fun x g hg => ?_, fun c kd m g h1 h2 => ?_, p.at_, fun x c hc => ?_⟩
      · obtain ⟨h1, h2, h3⟩ := p.fn x g hg
        exact ⟨_, h1, h2, ih k (Nat.le_refl k) g h3⟩
      · obtain ⟨C, x, z1, z2, z3, z4, z5⟩ := p.me c kd m g h1 h2
        exact ⟨C, _, x, z1, z2, z3, z4, ih k (Nat.le_refl k) g z5⟩
      · obtain ⟨D, kd, g, z1, z2, z3, z4, z5, z6, z7⟩ := p.made x c hc
        exact ⟨D, kd, g, z1, z2, z3, z4, z5, fun j hj => ⟨_, z6, ih j (by omega) g z7⟩⟩
    have gc : GlC (cxOf (L2.CX P w) P w K mg base t.N t.qual t.scope (ad f) cdv A outer s H E) T B.M B := ⟨p.an, p.mn, rfl, p.gl⟩
    have zc : SxC (cxOf (L2.CX P w) P w K mg base t.N t.qual t.scope (ad f) cdv A outer s H E) ⟨t.N, t.scope, fun _ => true⟩ := ⟨rfl, rfl, fun _ _ => rfl⟩
    have body := mss_map (ss := t.body) (stS_all (xt := Pr.xt) (wl := Pr.wl) n _ _ _ xc gc zc (passes_of (X := cxOf (L2.CX P w) P w K mg base t.N t.qual t.scope (ad f) cdv A outer s H E) rfl))
    refine ⟨_, body, ρ, ms.map some ++ List.replicate (t.N.length - ms.length) none, hh, R, LRel.start r t.N, ?_⟩
    rw [callF_succ] at q
    simp only [e] at q
    have c' : ms.length = (fdOf B n t).ps := c
    rw [if_pos c', ← c'] at q
    have q' : Post T K ρ H (finF (execs (cbK Pr k) Pr.xt Pr.wl (t.body.map (stS B n ⟨t.N, t.scope, fun _ => true⟩)) (ms.map some ++ List.replicate (t.N.length - ms.length) none) hh)) (fun ρ' H' _ m => ∀ x, Rep K ρ' H' x m → Q x H') E := q
    cases e1 : execs (cbK Pr k) Pr.xt Pr.wl (t.body.map (stS B n ⟨t.N, t.scope, fun _ => true⟩)) (ms.map some ++ List.replicate (t.N.length - ms.length) none) hh with
    | no => rw [e1] at q'; exact q'.elim
    | ok fl h1 =>
      rw [e1] at q'
      intro ρ1 H1 r1 g1 R1
      cases fl with
      | nx lo => exact fun σ' _ => q' ρ1 H1 r1 g1 R1 _ .non
      | rt v => exact fun x rx => q' ρ1 H1 r1 g1 R1 x rx
      | th e lo => exact fun cls d σ' er _ => q' ρ1 H1 cls d r1 g1 R1 er
      | bk lo => exact q'.elim
      | ct lo => exact q'.elim
theorem fa_succ (p : PFacts P w K mg T Pr B n ts ad) {k : Nat} (ih : ∀ j ≤ k, ∀ f < ts.length, FA P w K mg base T Pr j f (ad f)) {f : Nat} (h : f < ts.length) : FA P w K mg base T Pr (k + 1) f (ad f) := by
  obtain ⟨_, fd, F, b⟩ := p.ok f ts[f] (List.getElem?_eq_getElem h)
  exact ⟨fd, _, fg_succ p ih (List.getElem?_eq_getElem h) F, b⟩
theorem fa_all (p : PFacts P w K mg T Pr B n ts ad) : ∀ k, ∀ j ≤ k, ∀ f < ts.length, FA P w K mg base T Pr j f (ad f)
  | 0, j, hj, f, h => by
    obtain rfl : j = 0 := by omega
    exact fa_zero p h
  | k + 1, j, hj, f, h => by
    by_cases c : j ≤ k
    · exact fa_all p k j c f h
    · obtain rfl : j = k + 1 := by omega
      exact fa_succ p (fa_all p k) h
end
end Vb

set_option Elab.async false
set_option linter.all false
set_option maxRecDepth 100000
set_option maxHeartbeats 4000000
/-! The law's def called from outside, by what the small language tells. -/
namespace Vb
open PySem L2 PySem.Spec PyProof.Rows
section
variable {P : Program} {w : World} {K : PySem.W.Frag} {mg nb : Str → Option Value} {T : LT} {Pr : Prog} {k f : Nat} {fa a : Addr} {fd : FuncData} {x : Str} {st : Shared} {us : List Value} {ns : List Int}
/-- the heap's relation at the start -/
theorem rel_start {H : Hp} (sq : SqL K H a (ns.map V.int)) (only : L2.Only H) : HRel T K [a] H [.ro (ns.map .int)] := by
  refine ⟨rfl, fun n o e => ?_, fun n m o u b e1 e2 w1 _ _ _ => ?_⟩
  · cases n with
    | zero =>
      cases e
      refine ⟨a, rfl, ns.map V.int, ?_, Reps.ints ns⟩
      rcases sq with (q | ⟨o, q⟩) | q
      · rcases only a with z | ⟨o, zs, z⟩
        · rw [q] at z; cases z
        · rw [q] at z; cases z
      · exact .inl ⟨o, q⟩
      · exact .inr q
    | succ n => cases e
  · cases n with
    | zero => cases e1; cases w1
    | succ n => cases e1
theorem start_at (H : Hp) (only : L2.Only H) (sq : SqL K H a (ns.map V.int)) (ok : HOk P w H st.heap) (al : ∀ b, H b ≠ none → b = a) (ak : H a ≠ none → K.lookup a = none)
    (hobj : st.heap.get? a = some { cls := .type "list", data := .seq us.toArray }) (hK : K.In st.heap) (hG : st.heap.Ns mainGlobals mg) (hB : st.heap.Ns builtinsNs nb) (hBB : ∀ y : Str, y ≠ "__name__" → nb y = bootBuiltins y) (hL : st.heap.NoLimit) (hgen : st.gens = #[])
    (room : Room k callerA) (good : ∃ h', callF Pr k f [.ref 0] [.ro (ns.map .int)] = .ok (.bl true) h') (bnd : ∀ (s : Shared) (u : Value), BindsTo s fd ⟨[u], []⟩ [(x, u)])
    (F : ∀ base : Heap, K.In base → base.Ns mainGlobals mg → FnG P w K mg base k fa fd [x] (spF T K Pr k f)) :
    codeAny (model P w) callerA (.call (.ref fa) ⟨[.ref a], []⟩) (fun r s' => r = .ok (.ret (.bool true)) ∧ OldK st.heap s'.heap ∧ s'.os = st.os ∧ AllBare s'.gens) st := by
  have unseen : ∀ {b : Addr} {ob : Obj}, st.heap.get? b = some ob → b ≠ a → (hidT st.heap H).get? b = some ob := fun {b ob} e ne => hidT_get e (by
    by_cases c : H b = none
    · exact c
    · exact absurd (al b c) ne)
  have spaces : ∀ {b : Addr} {m : Str → Option Value}, st.heap.Ns b m → (hidT st.heap H).Ns b m := fun {b m} ⟨ob, es, ep, e, d, r⟩ => by
    refine ⟨ob, es, ep, unseen e ?_, d, r⟩
    intro z
    subst z
    rw [hobj] at e
    cases e
    cases d
  have inK : K.In (hidT st.heap H) := fun b ob e => by
    by_cases c : H b = none
    · exact hidT_get (hK b ob e) c
    · obtain rfl := al b c
      rw [ak c] at e
      cases e
  obtain ⟨nl, l1, l2⟩ := hL
  have env : Env0 P w K mg (hidT st.heap H) callerA [] st H :=
    ⟨rfl, ⟨inK, spaces hG, ⟨nb, spaces hB, hBB⟩, nl, spaces l1, l2⟩, fun b ob e => of_hidT e, Nat.le_of_eq (hidT_size _ _), trivial, fun b m => absurd (show b ∈ ([] : List Addr) from m) (by simp), ok, .of_eq hgen⟩
  obtain ⟨hend, ev⟩ := good
  have prom : spF T K Pr k f [V.ref a] H (fun v _ => v = .bl true) fun _ _ _ => False := by
    refine ⟨[a], [.ref 0], [.ro (ns.map .int)], rel_start sq only, .cons (.ref rfl) .nil, ?_⟩
    rw [ev]
    intro ρ' H' r g R y ry
    cases ry
    rfl
  refine codeAny_mono ((F _ inK (spaces hG)).run callerA [] st H ⟨[.ref a], []⟩ [Value.ref a] [V.ref a] _ _ room rfl env (bnd st (Value.ref a)) (.cons rfl .nil) prom) fun res s2 post => ?_
  cases res with
  | error e =>
    obtain ⟨_, _, _, _, _, _, _, _, _, _, _, _, no⟩ := post
    exact no.elim
  | ok fl =>
    cases fl with
    | ret u =>
      obtain ⟨v, G, os, bare, base, hok2, rv, ev2⟩ := post
      have ev3 : v = .bl true := ev2
      subst ev3
      obtain rfl : u = Value.bool true := rv
      refine ⟨rfl, OldK.of_keep fun b ob e => ?_, os, bare⟩
      rcases only b with z | ⟨o2, zs, z⟩
      · exact base.keep b ob e z (fun m => absurd (show b ∈ ([] : List Addr) from m) (by simp)) (by simp)
      · have z2 := base.frzs b o2 _ z
        have p1 := (ok b _ z).1
        have p2 := (hok2 b _ z2).1
        rw [e] at p1
        cases p1
        exact p2
    | next => exact False.elim post
    | brk => exact False.elim post
    | cont => exact False.elim post
theorem start_law (hobj : st.heap.get? a = some { cls := .type "list", data := .seq us.toArray }) (hi : IntsAre us ns) (hlen : ns.length ≤ sizeLine) (hK : K.In st.heap) (hG : st.heap.Ns mainGlobals mg) (hB : st.heap.Ns builtinsNs nb) (hBB : ∀ y : Str, y ≠ "__name__" → nb y = bootBuiltins y) (hL : st.heap.NoLimit) (hgen : st.gens = #[])
    (room : Room k callerA) (good : ∃ h', callF Pr k f [.ref 0] [.ro (ns.map .int)] = .ok (.bl true) h') (bnd : ∀ (s : Shared) (u : Value), BindsTo s fd ⟨[u], []⟩ [(x, u)])
    (F : ∀ base : Heap, K.In base → base.Ns mainGlobals mg → FnG P w K mg base k fa fd [x] (spF T K Pr k f)) :
    codeAny (model P w) callerA (.call (.ref fa) ⟨[.ref a], []⟩) (fun r s' => r = .ok (.ret (.bool true)) ∧ OldK st.heap s'.heap ∧ s'.os = st.os ∧ AllBare s'.gens) st := by
  have rel := vals_ints hi
  have same := hi.length
  cases own : K.lookup a with
  | some ob =>
    have e := hK a ob own
    rw [hobj] at e
    cases e
    exact start_at (fun _ => none) (fun _ => .inl rfl) (.inr ⟨_, us.toArray, _, own, rfl, rfl, rfl, by rw [List.size_toArray, same]; exact hlen, by simpa using rel⟩) (fun b u z => nomatch (show (none : Option HO) = some u from z)) (fun b z => absurd rfl z) (fun z => absurd rfl z) hobj hK hG hB hBB hL hgen room good bnd F
  | none =>
    have at1 : ∀ b u, (if b = a then some (HO.frz { cls := .type "list", data := .seq us.toArray } (.lst (ns.map V.int))) else none) = some u → b = a ∧ u = .frz { cls := .type "list", data := .seq us.toArray } (.lst (ns.map V.int)) := fun b u z => by
      by_cases c : b = a
      · rw [if_pos c] at z; cases z; exact ⟨c, rfl⟩
      · rw [if_neg c] at z; cases z
    refine start_at (fun b => if b = a then some (.frz { cls := .type "list", data := .seq us.toArray } (.lst (ns.map V.int))) else none) (fun b => ?_) (.inl (.inr ⟨_, if_pos rfl⟩)) (fun b u z => ?_) (fun b z => ?_) (fun _ => own) hobj hK hG hB hBB hL hgen room good bnd F
    · by_cases c : b = a
      · exact .inr ⟨_, _, if_pos c⟩
      · exact .inl (if_neg c)
    · obtain ⟨rfl, rfl⟩ := at1 b u z
      exact ⟨hobj, by rw [List.length_map]; exact hlen, us, _, rel, hobj⟩
    · cases e : (if b = a then some (HO.frz { cls := .type "list", data := .seq us.toArray } (.lst (ns.map V.int))) else none) with
      | none => exact absurd e z
      | some u => exact (at1 b u e).1
end
/-- the law, walked: F tells the text's facts, the law's def, that it tells True -/
theorem walk_vb {l : PySem.W.OpenLaw} {m k : Nat} {q : Program} {loose : List Str} {XP : (Str → Option Value) → Heap → Prop} {YP : World → Heap → Prop} {d : DefRec} {x : Str}
    (most : l.most = some m) (few : m ≤ sizeLine) (plain : d.params.defaults = []) (room : Room k callerA)
    (F : ∀ (w : World) (mg : Str → Option Value) (fa : Addr) (h : Heap), YP w h → h.Ns mainGlobals mg → mg d.name = some (.ref fa) →
      ∃ (K : PySem.W.Frag) (fd : FuncData) (T : LT) (Pr : Prog) (f : Nat), K.In h ∧ (∀ (s : Shared) (u : Value), BindsTo s fd ⟨[u], []⟩ [(x, u)]) ∧ (∀ ns : List Int, ns.length ≤ m → ∃ h', callF Pr k f [.ref 0] [.ro (ns.map .int)] = .ok (.bl true) h') ∧
        ∀ base : Heap, K.In base → base.Ns mainGlobals mg → FnG l.prog w K mg base k fa fd [x] (spF T K Pr k f)) :
    PySem.W.WalkO q loose XP YP l.row.toRowW d [] (fun f vs => PySem.call f vs) := by
  refine Att.attach_call most plain fun w s0 st mg nb fa o pm cd doc a us ns G Y ho hd hcd hmg hobj hi hlen hgen => ?_
  obtain ⟨K, fd, T, Pr, f, hK, bnd, good, FG⟩ := F w mg fa _ Y G.T.g hmg
  exact start_law hobj hi (Nat.le_trans hlen few) hK G.T.g G.T.b G.T.builtins G.T.nolimit hgen room (good ns hlen) bnd FG
end Vb

set_option Elab.async false
set_option linter.all false
set_option maxRecDepth 100000
set_option maxHeartbeats 4000000
/-! The program's facts off the head. -/
namespace Vb
open PySem L2 PySem.Spec PyProof.Rows
theorem is_kit (K : PySem.W.Frag) : IsK K := ⟨fun a ha t => by
  simp only [tyAll, List.mem_cons, List.not_mem_nil, or_false] at ha
  rcases ha with rfl | rfl | rfl | rfl | rfl | rfl <;> cases t <;> rfl⟩
/-! ### what a program's tables hold -/
structure PT where
  ds : List (He.DefD × List Str × List Str)
  gf : List (Str × Nat)
  cs : List (Str × KD)
  gc : List (Str × Nat)
  an : List Str
  mn : List Str
  gl : List (Str × PV)
  n : Nat
def PT.B (p : PT) : Tab := ⟨p.an, p.mn, ⟨p.gf, p.gc⟩, p.gl⟩
def PT.ts (p : PT) : List FT := p.ds.map fun d => ⟨d.1.name, d.1.qual, d.1.params, d.1.body, d.1.scope, d.2.1, d.2.2⟩
def PT.defs (p : PT) : List He.DefD := p.ds.map (·.1)
def PT.ad (p : PT) (K : PySem.W.Frag) (f : Nat) : Addr := match p.ds[f]? with
  | some d => He.fAd K d.1.at_
  | none => 0
def dvOf : PV → Option He.Dv
  | .non => some .non
  | .bl b => some (.bl b)
  | .int i => some (.int i)
  | .str x => some (.str x)
  | _ => none
def frees : List Str := biAll.map biName ++ (tyAll_.map tyPy ++ ([("isinstance" : Str), ("range" : Str), ("enumerate" : Str)] : List Str))
def glFa : Str × PV → List He.Fa
  | (x, .int i) => [.int x i]
  | (x, .str z) => [.str x z]
  | (x, _) => [.glo x]
def clFa (p : PT) (c : Str × KD) : List He.Fa := [.glo c.1, .cls c.1] ++ ((c.2.attrs.map fun f => .noat c.1 (p.an.getD f "")) ++ ((c.2.meths.map fun m => .meth c.1 (p.mn.getD m.1 "")) ++ (match c.2.init with
  | some _ => [.mkr c.1]
  | none => [])))
def PT.fa (p : PT) : List He.Fa := frees.map He.Fa.free ++ (p.gf.map (fun q => He.Fa.glo q.1) ++ (p.cs.flatMap (clFa p) ++ p.gl.flatMap glFa))
/-- constants that are tuples -/
def PT.tb (p : PT) : List (Str × List He.Dv) := p.gl.filterMap fun q => match q.2 with
  | .tup ms => (optAll dvOf ms).map fun vs => (q.1, vs)
  | _ => none
def PT.ok (p : PT) : Bool :=
  p.ds.all (fun d => d.1.dfl.isEmpty && (d.1.kwd.isEmpty && C8.scC d.2.1 d.2.2 d.1.scope)) &&
  (p.gf.all (fun q => match p.ds[q.2]? with
    | some d => decide (d.1.at_ = (q.1, none))
    | none => false) &&
  (p.cs.all (fun c => c.2.attrs.all (fun f => decide (f < p.an.length)) && (c.2.meths.all (fun m => match p.ds[m.2]?, p.mn[m.1]? with
      | some d, some y => decide (d.1.at_ = (c.1, some y))
      | _, _ => false) && (match c.2.init with
      | some f => match p.ds[f]? with
        | some d => decide (d.1.at_ = (c.1, some ("__init__" : Str)))
        | none => false
      | none => true))) &&
  (p.gc.all (fun q => match p.cs[q.2]? with
    | some c => decide (c.1 = q.1) && c.2.init.isSome
    | none => false) &&
  (p.gl.all (fun q => match q.2 with
    | .int _ => true
    | .str _ => true
    | .tup ms => (optAll dvOf ms).isSome
    | _ => false) &&
  (decide p.an.Nodup && p.mn.all fun x => !(p.an.contains x))))))
def BindsP (d : He.DefD × List Str × List Str) : Prop := ∀ (kV doc pm : Value) (an : Option Addr) (cdv ct : Value) (us : List Value), us.length = d.2.2.length → bindArgs (PySem.W.fnOf d.1.name d.1.qual d.1.params d.1.body d.1.scope .none kV doc pm an cdv ct) ⟨us, []⟩ = pure (d.2.2.zip us)
def AllBinds : List (He.DefD × List Str × List Str) → Prop
  | [] => True
  | d :: r => BindsP d ∧ AllBinds r
theorem AllBinds.at_ : ∀ {l : List (He.DefD × List Str × List Str)} {i : Nat} {d}, AllBinds l → l[i]? = some d → BindsP d
  | d :: r, 0, _, ⟨h, _⟩, e => by cases e; exact h
  | d :: r, i + 1, _, ⟨_, h⟩, e => AllBinds.at_ (l := r) (i := i) h e
/-! ### the Hook -/
def SaysV (fa : List He.Fa) (fn : List He.DefD) (tb : List (Str × List He.Dv)) (K : PySem.W.Frag) : Prop := (He.obsD fa fn K, tb.all fun p => He.tupB K p.1 p.2) = (He.valD fn, true)
def obsVG (n : Nat) (fa : List He.Fa) (fn : List He.DefD) (tb : List (Str × List He.Dv)) (g : Addr → Option Obj) : He.AlD × Bool :=
  (fun K => (He.obsD fa fn K, tb.all fun p => He.tupB K p.1 p.2)) (He.frG g (He.asD g n))
def hookV (n : Nat) (fa : List He.Fa) (fn : List He.DefD) (tb : List (Str × List He.Dv)) : PySem.W.Hook where
  α := He.AlD × Bool
  obs := fun s => obsVG n fa fn tb s.heap.get?
  val := fun _ => (He.valD fn, true)
  says := fun _ h => ∃ K : PySem.W.Frag, K.In h ∧ SaysV fa fn tb K
  of := fun _ _ e => ⟨_, He.frG_in, e⟩
  keeps := fun _ _ _ ⟨K, inK, c⟩ kp => ⟨K, PySem.W.Frag.In.keeps inK kp, c⟩
theorem obsV_eq {n : Nat} {fa : List He.Fa} {fn : List He.DefD} {tb : List (Str × List He.Dv)} {g : Addr → Option Obj} {s : Shared} (h : ∀ a, g a = s.heap.get? a) : obsVG n fa fn tb g = (hookV n fa fn tb).obs s := by
  have e : g = s.heap.get? := funext h
  subst e
  rfl
theorem look_mem {α : Type} {x : Str} {v : α} : ∀ {l : List (Str × α)}, l.lookup x = some v → (x, v) ∈ l
  | [], h => by cases h
  | (y, w) :: r, h => by
    rw [List.lookup_cons] at h
    split at h
    · rename_i e
      cases h
      rw [beq_iff_eq.mp e]
      exact List.mem_cons_self
    · exact List.mem_cons_of_mem _ (look_mem h)
theorem look_memN {α : Type} {x : Nat} {v : α} : ∀ {l : List (Nat × α)}, l.lookup x = some v → (x, v) ∈ l
  | [], h => by cases h
  | (y, w) :: r, h => by
    rw [List.lookup_cons] at h
    split at h
    · rename_i e
      cases h
      rw [beq_iff_eq.mp e]
      exact List.mem_cons_self
    · exact List.mem_cons_of_mem _ (look_memN h)
section
variable {K : PySem.W.Frag} {h : Heap} {mg : Str → Option Value} {p : PT}
theorem dv_rep : ∀ {ms : List PV} {vs : List He.Dv}, optAll dvOf ms = some vs → ∀ ρ H, Reps K ρ H (vs.map (He.Dv.v K)) ms
  | [], vs, e, ρ, H => by cases optAll_nil e; exact .nil
  | m :: ms, vs, e, ρ, H => by
    obtain ⟨y, zs, e1, e2, rfl⟩ := optAll_cons e
    refine .cons ?_ (dv_rep e2 ρ H)
    cases m <;> simp only [dvOf] at e1 <;> cases e1
    · exact .non
    · exact .bl _
    · exact .int _
    · exact .str _
theorem facts_of {P : Program} {w : World} {Pr : Prog} {T : LT} (ok : p.ok = true) (bs : AllBinds p.ds) (c : SaysV p.fa p.defs p.tb K) (X : K.In h) (G : h.Ns mainGlobals mg)
    (ef : Pr.fns = p.ts.map (fdOf p.B p.n)) (ec : Pr.cls = p.cs.map (·.2)) (ea : T.an = p.an) (em : T.mn = p.mn) (eca : T.ca = p.cs.map fun q => He.ga K q.1) :
    PFacts P w K mg T Pr p.B p.n p.ts (p.ad K) := by
  have c1 : He.obsD p.fa p.defs K = He.valD p.defs := congrArg Prod.fst c
  have c2 : (p.tb.all fun q => He.tupB K q.1 q.2) = true := congrArg Prod.snd c
  have c3 : ∀ f ∈ p.fa, f.ok K = true := fun f hf => by
    have := (He.ba (show ((p.fa.all fun f => f.ok K) && p.defs.all fun d => d.ok K) = true from congrArg (fun z : He.AlD => z.1) c1)).1
    exact List.all_eq_true.mp this f hf
  have free : ∀ x ∈ frees, mg x = none := fun x hx => He.free_ok X G (c3 (.free x) (List.mem_append_left _ (List.mem_map.mpr ⟨x, hx, rfl⟩)))
  have clf : ∀ q ∈ p.cs, ∀ f ∈ clFa p q, f.ok K = true := fun q hq f hf => c3 f (List.mem_append_right _ (List.mem_append_right _ (List.mem_append_left _ (List.mem_flatMap.mpr ⟨q, hq, hf⟩))))
  unfold PT.ok at ok
  simp only [Bool.and_eq_true] at ok
  obtain ⟨o1, o2, o3, o4, o5, o6, o7⟩ := ok
  have def_ : ∀ {f : Nat} {d : He.DefD × List Str × List Str}, p.ds[f]? = some d → ∃ fd, FunD K d.1.name d.1.qual d.1.params d.1.body d.1.scope [] [] (He.fAd K d.1.at_) fd := fun {f d} e => by
    have e2 : p.defs[f]? = some d.1 := by unfold PT.defs; rw [List.getElem?_map, e]; rfl
    obtain ⟨fd, F⟩ := He.SaysD.def_ c1 f e2
    have z := List.all_eq_true.mp o1 d (List.mem_of_getElem? e)
    simp only [Bool.and_eq_true, List.isEmpty_iff] at z
    unfold He.DefD.dvs He.DefD.kws at F
    rw [z.1, z.2.1] at F
    exact ⟨fd, F⟩
  have ad_ : ∀ {f : Nat} {d : He.DefD × List Str × List Str}, p.ds[f]? = some d → p.ad K f = He.fAd K d.1.at_ := fun {f d} e => by unfold PT.ad; rw [e]
  have lt_ : ∀ {f : Nat} {d : He.DefD × List Str × List Str}, p.ds[f]? = some d → f < p.ts.length := fun {f d} e => by
    unfold PT.ts
    rw [List.length_map]
    exact (List.getElem?_eq_some_iff.mp e).1
  have cls_ : ∀ {c : Nat} {kd : KD}, Pr.cls[c]? = some kd → ∃ x, p.cs[c]? = some (x, kd) ∧ T.ca[c]? = some (He.ga K x) := fun {c kd} e => by
    rw [ec, List.getElem?_map] at e
    cases q : p.cs[c]? with
    | none => rw [q] at e; cases e
    | some y =>
      rw [q] at e
      cases e
      exact ⟨y.1, rfl, by rw [eca, List.getElem?_map, q]; rfl⟩
  refine ⟨ef, fun f t e => ?_, is_kit K, fun b => free _ (by cases b <;> decide), fun b => free _ (by cases b <;> decide), free _ (by decide), free _ (by decide), free _ (by decide), fun x f e => ?_, fun cn kd m f e1 e2 => ?_, fun cn kd f e1 e2 => ?_, fun x cn e => ?_, ea.symm, em.symm, fun x m e => ?_⟩
  · unfold PT.ts at e
    rw [List.getElem?_map] at e
    cases q : p.ds[f]? with
    | none => rw [q] at e; cases e
    | some d =>
      rw [q] at e
      cases e
      have z := List.all_eq_true.mp o1 d (List.mem_of_getElem? q)
      simp only [Bool.and_eq_true] at z
      obtain ⟨fd, F⟩ := def_ q
      rw [ad_ q]
      exact ⟨z.2.2, fd, F, F.bindsN (bs.at_ q)⟩
  · have z := List.all_eq_true.mp o2 (x, f) (look_mem e)
    cases q : p.ds[f]? with
    | none => simp only [q] at z; cases z
    | some d =>
      simp only [q, decide_eq_true_eq] at z
      obtain ⟨fd, F⟩ := def_ q
      have ek : p.ad K f = He.ga K x := by rw [ad_ q, z]; rfl
      have kp := F.kp
      rw [z] at kp
      rw [ek]
      exact ⟨He.glo_ok X G (c3 (.glo x) (List.mem_append_right _ (List.mem_append_left _ (List.mem_map.mpr ⟨(x, f), look_mem e, rfl⟩)))), kp, lt_ q⟩
  · obtain ⟨x, h1, h2⟩ := cls_ e1
    have z := List.all_eq_true.mp o3 _ (List.mem_of_getElem? h1)
    simp only [Bool.and_eq_true] at z
    have z2 := List.all_eq_true.mp z.2.1 _ (look_memN e2)
    have fs := clf _ (List.mem_of_getElem? h1)
    cases q : p.ds[f]? with
    | none => simp only [q] at z2; cases z2
    | some d =>
      cases q2 : p.mn[m]? with
      | none => simp only [q, q2] at z2; cases z2
      | some y =>
        simp only [q, q2, decide_eq_true_eq] at z2
        have ek : p.ad K f = He.ma K (He.ga K x) y := by rw [ad_ q, z2]; rfl
        have mem : He.Fa.meth x y ∈ clFa p (x, kd) := by
          refine List.mem_append_right _ (List.mem_append_right _ (List.mem_append_left _ (List.mem_map.mpr ⟨(m, f), look_memN e2, ?_⟩)))
          show He.Fa.meth x (p.mn.getD m "") = _
          rw [List.getD_eq_getElem?_getD, q2]; rfl
        rw [ek]
        exact ⟨_, y, h2, by rw [em]; exact q2, He.cls_ok (fs (.cls x) (List.mem_append_left _ (by simp))), He.meth_ok (fs _ mem), lt_ q⟩
  · obtain ⟨x, h1, h2⟩ := cls_ e1
    have z := List.all_eq_true.mp o3 _ (List.mem_of_getElem? h1)
    simp only [Bool.and_eq_true] at z
    have hf : f ∈ kd.attrs := by simpa using e2
    have z2 := List.all_eq_true.mp z.1 _ hf
    have lf : f < p.an.length := of_decide_eq_true z2
    have fs := clf _ (List.mem_of_getElem? h1)
    have mem : He.Fa.noat x p.an[f] ∈ clFa p (x, kd) := by
      refine List.mem_append_right _ (List.mem_append_left _ (List.mem_map.mpr ⟨f, hf, ?_⟩))
      show He.Fa.noat x (p.an.getD f "") = _
      rw [List.getD_eq_getElem?_getD, List.getElem?_eq_getElem lf]; rfl
    exact ⟨_, _, h2, by rw [ea]; exact List.getElem?_eq_getElem lf, He.cls_ok (fs (.cls x) (List.mem_append_left _ (by simp))), He.noat_ok (fs _ mem)⟩
  · have z := List.all_eq_true.mp o4 (x, cn) (look_mem e)
    cases q : p.cs[cn]? with
    | none => simp only [q] at z; cases z
    | some y =>
      obtain ⟨x', kd⟩ := y
      simp only [q, Bool.and_eq_true, decide_eq_true_eq] at z
      obtain ⟨rfl, hi⟩ := z
      cases hin : kd.init with
      | none => rw [hin] at hi; cases hi
      | some f =>
        have z3 := List.all_eq_true.mp o3 _ (List.mem_of_getElem? q)
        simp only [Bool.and_eq_true, hin] at z3
        have z4 := z3.2.2
        cases q2 : p.ds[f]? with
        | none => simp only [q2] at z4; cases z4
        | some d =>
          simp only [q2, decide_eq_true_eq] at z4
          have fs := clf _ (List.mem_of_getElem? q)
          have mem : He.Fa.mkr x' ∈ clFa p (x', kd) := by
            refine List.mem_append_right _ (List.mem_append_right _ (List.mem_append_right _ ?_))
            show He.Fa.mkr x' ∈ (match kd.init with | some _ => [He.Fa.mkr x'] | none => [])
            rw [hin]; exact List.mem_cons_self
          have mk := He.mkr_ok (fs _ mem)
          have ek : p.ad K f = He.ma K (He.ga K x') "__init__" := by rw [ad_ q2, z4]; rfl
          have kp : PySem.W.keepIn K (.ref (He.ga K x')) = true := by
            have c4 := fs _ mem
            obtain ⟨_, c4⟩ := He.ba c4
            obtain ⟨_, c4⟩ := He.ba c4
            exact (He.ba c4).2
          rw [← ek] at mk
          exact ⟨_, kd, f, by rw [eca, List.getElem?_map, q]; rfl, He.glo_ok X G (fs (.glo x') (List.mem_append_left _ (by simp))), kp, by rw [ec, List.getElem?_map, q]; rfl, hin, mk, lt_ q2⟩
  · have hm := look_mem e
    have z := List.all_eq_true.mp o5 _ hm
    have fs : ∀ f ∈ glFa (x, m), f.ok K = true := fun f hf => c3 f (List.mem_append_right _ (List.mem_append_right _ (List.mem_append_right _ (List.mem_flatMap.mpr ⟨_, hm, hf⟩))))
    cases m with
    | int i =>
      obtain ⟨t, e1⟩ := He.int_ok X G (fs (.int x i) List.mem_cons_self)
      exact ⟨_, .int i, e1, ⟨t, rfl⟩, fun ρ H => .int i⟩
    | str i =>
      obtain ⟨t, e1⟩ := He.str_ok X G (fs (.str x i) List.mem_cons_self)
      exact ⟨_, .str i, e1, ⟨t, rfl⟩, fun ρ H => .str i⟩
    | tup ms =>
      have e1 := He.glo_ok X G (fs (.glo x) List.mem_cons_self)
      cases q : optAll dvOf ms with
      | none => simp only [q] at z; cases z
      | some vs =>
        have tm : (x, vs) ∈ p.tb := List.mem_filterMap.mpr ⟨_, hm, by simp only [q]; rfl⟩
        have t1 := List.all_eq_true.mp c2 _ tm
        exact ⟨_, .ref (He.ga K x), e1, rfl, fun ρ H => .tup (He.tupB_ok t1 H) (dv_rep q ρ H)⟩
    | _ => cases z
/-- the law's def, off the facts -/
theorem law_of {P : Program} {w : World} {Pr : Prog} {T : LT} {k f : Nat} {d : He.DefD × List Str × List Str} {x : Str} {fa : Addr} {h : Heap} (ok : p.ok = true) (bs : AllBinds p.ds) (c : SaysV p.fa p.defs p.tb K) (X : K.In h) (G : h.Ns mainGlobals mg)
    (ef : Pr.fns = p.ts.map (fdOf p.B p.n)) (ec : Pr.cls = p.cs.map (·.2)) (ea : T.an = p.an) (em : T.mn = p.mn) (eca : T.ca = p.cs.map fun q => He.ga K q.1)
    (hd : p.ds[f]? = some d) (hg : p.gf.lookup ("law" : Str) = some f) (hp : d.2.2 = [x]) (hm : mg ("law" : Str) = some (.ref fa)) :
    ∃ fd : FuncData, (∀ (s : Shared) (u : Value), BindsTo s fd ⟨[u], []⟩ [(x, u)]) ∧ ∀ base : Heap, FnG P w K mg base (k + 1) fa fd [x] (spF T K Pr (k + 1) f) := by
  have pf := facts_of (P := P) (w := w) ok bs c X G ef ec ea em eca
  obtain ⟨h1, h2, h3⟩ := pf.fn ("law" : Str) f hg
  have ea : p.ad K f = fa := by
    have z := hm.symm.trans h1
    cases z
    rfl
  have et : p.ts[f]? = some ⟨d.1.name, d.1.qual, d.1.params, d.1.body, d.1.scope, d.2.1, d.2.2⟩ := by
    unfold PT.ts
    rw [List.getElem?_map, hd]
    rfl
  obtain ⟨sc, fd, F, b⟩ := pf.ok f _ et
  have hb := bs.at_ hd
  refine ⟨fd, fun s u => ?_, fun base => ?_⟩
  · have z := F.bindsA hb s [u] (by rw [hp]; rfl)
    rw [hp] at z
    exact z
  · have z := fg_succ (base := base) pf (fa_all pf k) et F
    rw [ea] at z
    have hp2 : (FT.mk d.1.name d.1.qual d.1.params d.1.body d.1.scope d.2.1 d.2.2).ps = [x] := hp
    rw [hp2] at z
    exact z
end
end Vb

set_option Elab.async false
set_option linter.all false
set_option maxRecDepth 100000
set_option maxHeartbeats 2000000
/-! Walking over what the small language tells: no program in sight, no exception wanted. -/
namespace Vb
open PySem
def Ok {α : Type} (r : Res α) (Q : α → MH → Prop) : Prop := ∃ a h, r = .ok a h ∧ Q a h
def SOk (r : SR) (Q : Fl → MH → Prop) : Prop := ∃ f h, r = .ok f h ∧ Q f h
section
variable {α β : Type} {C : CB} {xt : XT} {wl : Nat} {lo : Lo} {h : MH}
theorem Ok.ret {a : α} {Q : α → MH → Prop} (q : Q a h) : Ok (.ok a h) Q := ⟨a, h, rfl, q⟩
theorem Ok.mono {r : Res α} {Q Q' : α → MH → Prop} (p : Ok r Q) (k : ∀ a h, Q a h → Q' a h) : Ok r Q' := let ⟨a, h, e, q⟩ := p; ⟨a, h, e, k a h q⟩
theorem Ok.bind {r : Res α} {f : α → MH → Res β} {P : α → MH → Prop} {Q : β → MH → Prop} (p : Ok r P) (k : ∀ a h, P a h → Ok (f a h) Q) : Ok (r.bind f) Q := by
  obtain ⟨a, h, e, q⟩ := p
  rw [e]
  exact k a h q
theorem SOk.ret {f : Fl} {Q : Fl → MH → Prop} (q : Q f h) : SOk (.ok f h) Q := ⟨f, h, rfl, q⟩
theorem SOk.mono {r : SR} {Q Q' : Fl → MH → Prop} (p : SOk r Q) (k : ∀ a h, Q a h → Q' a h) : SOk r Q' := let ⟨a, h, e, q⟩ := p; ⟨a, h, e, k a h q⟩
theorem SOk.then_ {r : Res α} {f : α → MH → SR} {P : α → MH → Prop} {Q : Fl → MH → Prop} (p : Ok r P) (k : ∀ a h, P a h → SOk (f a h) Q) : SOk (r.then_ lo f) Q := by
  obtain ⟨a, h, e, q⟩ := p
  rw [e]
  exact k a h q
theorem SOk.next {r : SR} {f : Lo → MH → SR} {P : Fl → MH → Prop} {Q : Fl → MH → Prop} (p : SOk r P) (k : ∀ a h, P a h → SOk ((SR.ok a h).next f) Q) : SOk (r.next f) Q := by
  obtain ⟨a, h, e, q⟩ := p
  rw [e]
  exact k a h q
theorem SOk.fin {r : SR} {P : Fl → MH → Prop} {Q : PV → MH → Prop} (p : SOk r P) (k : ∀ a h, P a h → Ok (finF (SR.ok a h)) Q) : Ok (finF r) Q := by
  obtain ⟨a, h, e, q⟩ := p
  rw [e]
  exact k a h q
theorem SOk.finN {r : SR} {f : Lo → MH → SR} {P : Fl → MH → Prop} {Q : PV → MH → Prop} (p : SOk r P) (k : ∀ a h, P a h → Ok (finF ((SR.ok a h).next f)) Q) : Ok (finF (r.next f)) Q := by
  obtain ⟨a, h, e, q⟩ := p
  rw [e]
  exact k a h q
/-! ### joints -/
theorem bind_ok {a : α} {f : α → MH → Res β} : (Res.ok a h).bind f = f a h := rfl
theorem bind_assoc {γ : Type} {r : Res α} {f : α → MH → Res β} {g : β → MH → Res γ} : (r.bind f).bind g = r.bind fun a h => (f a h).bind g := by cases r <;> rfl
theorem then_ok {a : α} {f : α → MH → SR} : (Res.ok a h).then_ lo f = f a h := rfl
theorem then_bind {r : Res α} {f : α → MH → Res β} {g : β → MH → SR} : (r.bind f).then_ lo g = r.then_ lo fun a h => (f a h).then_ lo g := by cases r <;> rfl
theorem next_then {r : Res α} {f : α → MH → SR} {g : Lo → MH → SR} : (r.then_ lo f).next g = r.then_ lo fun a h => (f a h).next g := by cases r <;> rfl
theorem next_next {r : SR} {f g : Lo → MH → SR} : (r.next f).next g = r.next fun lo h => (f lo h).next g := by
  cases r with
  | no => rfl
  | ok fl h => cases fl <;> rfl
theorem fin_then {r : Res α} {f : α → MH → SR} : finF (r.then_ lo f) = r.bind fun a h => finF (f a h) := by cases r <;> rfl
theorem next_nx {g : Lo → MH → SR} : (SR.ok (.nx lo) h).next g = g lo h := rfl
theorem next_rt {v : PV} {g : Lo → MH → SR} : (SR.ok (.rt v) h).next g = .ok (.rt v) h := rfl
theorem next_bk {g : Lo → MH → SR} : (SR.ok (.bk lo) h).next g = .ok (.bk lo) h := rfl
theorem next_ct {g : Lo → MH → SR} : (SR.ok (.ct lo) h).next g = .ok (.ct lo) h := rfl
theorem fin_rt {v : PV} : finF (.ok (.rt v) h) = .ok v h := rfl
theorem fin_nx : finF (.ok (.nx lo) h) = .ok .non h := rfl
theorem opt_some {a : α} : ofOpt h (some a) = .ok a h := rfl
theorem cb_fn (Pr : Prog) (k : Nat) : (cbK Pr k).fn = callF Pr k := rfl
theorem cb_cls (Pr : Prog) (k : Nat) : (cbK Pr k).cls = Pr.cls := rfl
theorem cb_fnI (Pr : Prog) (k : Nat) : (cbK Pr (k + 1)).fnI = callF Pr k := rfl
theorem exs_cons {s : S} {ss : List S} : execs C xt wl (s :: ss) lo h = (exec C xt wl s lo h).next fun lo h => execs C xt wl ss lo h := by rw [execs]
theorem exs_nil : execs C xt wl [] lo h = .ok (.nx lo) h := by rw [execs]
theorem ex_asg {t : AT} {e : E} : exec C xt wl (.asg t e) lo h = (evalE C e lo h).then_ lo fun v h => asgS C t v lo h := by rw [exec]
theorem sif {c : Prop} {d : Decidable c} {a b : SR} (hc : c) : @ite _ c d a b = a := if_pos hc
theorem callF_at {Pr : Prog} {k f : Nat} {vs : List PV} {d : FD} (e : Pr.fns[f]? = some d) (c : vs.length = d.ps) : callF Pr (k + 1) f vs h = finF (execs (cbK Pr k) Pr.xt Pr.wl d.body (vs.map some ++ List.replicate (d.nl - d.ps) none) h) := by
  rw [callF_succ]
  simp only [e]
  rw [if_pos c]
theorem ln0 : (0 ≤ sizeLine) = True := eq_true (by decide)
theorem ln1 : (1 ≤ sizeLine) = True := eq_true (by decide)
theorem ln2 : (2 ≤ sizeLine) = True := eq_true (by decide)
theorem ln3 : (3 ≤ sizeLine) = True := eq_true (by decide)
theorem ln4 : (4 ≤ sizeLine) = True := eq_true (by decide)
theorem ln5 : (5 ≤ sizeLine) = True := eq_true (by decide)
theorem ln6 : (6 ≤ sizeLine) = True := eq_true (by decide)
theorem line_ok {n : Nat} (h : n ≤ 10000000) : n ≤ sizeLine := Nat.le_trans h (by decide)
theorem isi_int_non : isiS h .int .non = some false := rfl
theorem isi_int_bl {b : Bool} : isiS h .int (.bl b) = some true := rfl
theorem isi_int_int {i : Int} : isiS h .int (.int i) = some true := rfl
theorem isi_int_str {x : Str} : isiS h .int (.str x) = some false := rfl
theorem isi_int_tup {xs : List PV} : isiS h .int (.tup xs) = some false := rfl
theorem isi_int_ref {r : Nat} : isiS h .int (.ref r) = (seqAt h r).map fun _ => false := rfl
theorem isi_bool_non : isiS h .bool .non = some false := rfl
theorem isi_bool_bl {b : Bool} : isiS h .bool (.bl b) = some true := rfl
theorem isi_bool_int {i : Int} : isiS h .bool (.int i) = some false := rfl
theorem isi_bool_str {x : Str} : isiS h .bool (.str x) = some false := rfl
theorem isi_bool_tup {xs : List PV} : isiS h .bool (.tup xs) = some false := rfl
theorem isi_bool_ref {r : Nat} : isiS h .bool (.ref r) = (seqAt h r).map fun _ => false := rfl
theorem isi_str_non : isiS h .str .non = some false := rfl
theorem isi_str_bl {b : Bool} : isiS h .str (.bl b) = some false := rfl
theorem isi_str_int {i : Int} : isiS h .str (.int i) = some false := rfl
theorem isi_str_str {x : Str} : isiS h .str (.str x) = some true := rfl
theorem isi_str_tup {xs : List PV} : isiS h .str (.tup xs) = some false := rfl
theorem isi_str_ref {r : Nat} : isiS h .str (.ref r) = (seqAt h r).map fun _ => false := rfl
theorem isi_tup_non : isiS h .tup .non = some false := rfl
theorem isi_tup_bl {b : Bool} : isiS h .tup (.bl b) = some false := rfl
theorem isi_tup_int {i : Int} : isiS h .tup (.int i) = some false := rfl
theorem isi_tup_str {x : Str} : isiS h .tup (.str x) = some false := rfl
theorem isi_tup_tup {xs : List PV} : isiS h .tup (.tup xs) = some true := rfl
theorem isi_tup_ref {r : Nat} : isiS h .tup (.ref r) = (seqAt h r).map fun _ => false := rfl
theorem isi_lst_non : isiS h .lst .non = some false := rfl
theorem isi_lst_bl {b : Bool} : isiS h .lst (.bl b) = some false := rfl
theorem isi_lst_int {i : Int} : isiS h .lst (.int i) = some false := rfl
theorem isi_lst_str {x : Str} : isiS h .lst (.str x) = some false := rfl
theorem isi_lst_tup {xs : List PV} : isiS h .lst (.tup xs) = some false := rfl
theorem isi_lst_ref {r : Nat} : isiS h .lst (.ref r) = (seqAt h r).map fun _ => true := rfl
theorem gl0 {v : PV} {l : Lo} : getLo (some v :: l) 0 = some v := rfl
theorem gls {x : Option PV} {l : Lo} {i : Nat} : getLo (x :: l) (i + 1) = getLo l i := by
  unfold getLo
  rw [List.getElem?_cons_succ]
theorem tr_bl {b : Bool} : truS h (.bl b) = some b := rfl
theorem ty_join {x : Str} : bmTy .join (.str x) h = true := rfl
theorem ty_split {x : Str} : bmTy .split (.str x) h = true := rfl
theorem ty_append {r : Nat} : bmTy .append (.ref r) h = (seqAt h r).isSome := rfl
theorem ty_extend {r : Nat} : bmTy .extend (.ref r) h = (seqAt h r).isSome := rfl
theorem ty_pop {r : Nat} : bmTy .pop (.ref r) h = (seqAt h r).isSome := rfl
theorem it_tup {xs : List PV} : iterOf h (.tup xs) = some xs := rfl
theorem it_ref {r : Nat} : iterOf h (.ref r) = seqAt h r := rfl
theorem it_str {x : Str} : iterOf h (.str x) = some (x.cps.toList.map fun c => .str ⟨#[c]⟩) := rfl
theorem seq_of {r : Nat} {xs : List PV} (e : h[r]? = some (.lst xs)) : seqAt h r = some xs := by unfold seqAt; rw [e]
theorem seq_ro {r : Nat} {xs : List PV} (e : h[r]? = some (.ro xs)) : seqAt h r = some xs := by unfold seqAt; rw [e]
theorem items_tup {xs : List PV} : itemsOf h (.tup xs) = some xs := rfl
theorem items_ref {r : Nat} : itemsOf h (.ref r) = seqAt h r := rfl
theorem bm_append {r : Nat} {v : PV} {xs : List PV} (e : h[r]? = some (.lst xs)) (z : xs.length < sizeLine) : bmS .append (.ref r) [v] h = .ok .non (h.set r (.lst (xs ++ [v]))) := by
  simp only [bmS, e]
  exact if_pos z
theorem bm_extend {r q : Nat} {xs ys : List PV} (e : h[r]? = some (.lst xs)) (e2 : h[q]? = some (.lst ys)) (z : xs.length + ys.length ≤ sizeLine) : bmS .extend (.ref r) [.ref q] h = .ok .non (h.set r (.lst (xs ++ ys))) := by
  simp only [bmS, e, e2]
  exact if_pos z
theorem bm_pop {r : Nat} {v : PV} {xs : List PV} (e : h[r]? = some (.lst (xs ++ [v]))) : bmS .pop (.ref r) [] h = .ok v (h.set r (.lst xs)) := by
  simp only [bmS, e]
  simp
theorem bin_lists {r q : Nat} {xs ys : List PV} (e : h[r]? = some (.lst xs)) (e2 : h[q]? = some (.lst ys)) (z : xs.length + ys.length ≤ sizeLine) : binS .add (.ref r) (.ref q) h = .ok (.ref h.length) (h ++ [.lst (xs ++ ys)]) := by
  simp only [binS, e, e2]
  exact if_pos z
theorem texts_map : ∀ (ws : List Str), texts (ws.map .str) = some ws
  | [] => rfl
  | w :: ws => by
    have ih := texts_map ws
    unfold texts at ih ⊢
    simp only [List.map_cons, optAll, ih]
theorem bm_join {x : Str} {r : Nat} {ws : List Str} (e : h[r]? = some (.lst (ws.map .str))) (z : (ws.map (·.length)).sum + ws.length * x.length ≤ 16777216) : bmS .join (.str x) [.ref r] h = .ok (.str (Txt.join x ws)) h := by
  simp only [bmS, itemsOf, seq_of e, Option.bind_some, texts_map]
  exact if_pos z
theorem bm_split {x y : Str} (a : (y.length == 0) = false) (b : x.length + 2 ≤ sizeLine) : bmS .split (.str x) [.str y] h = .ok (.ref h.length) (h ++ [.lst ((Txt.split x y).map .str)]) := if_pos ⟨a, b⟩
theorem b_add {i j : Int} : binS .add (.int i) (.int j) h = .ok (.int (i + j)) h := rfl
theorem b_sub {i j : Int} : binS .sub (.int i) (.int j) h = .ok (.int (i - j)) h := rfl
theorem b_mulL {i j : Int} (z : big64 i = true) : binS .mul (.int i) (.int j) h = .ok (.int (i * j)) h := if_pos (.inl z)
theorem b_mulR {i j : Int} (z : big64 j = true) : binS .mul (.int i) (.int j) h = .ok (.int (i * j)) h := if_pos (.inr z)
theorem b_fdiv {i j : Int} (a : 0 < j) (b : j < 2 ^ 63) : binS .fdiv (.int i) (.int j) h = .ok (.int (i / j)) h := if_pos ⟨a, b⟩
theorem b_mod {i j : Int} (a : 0 < j) : binS .mod (.int i) (.int j) h = .ok (.int (i % j)) h := if_pos a
theorem b_cat {x y : Str} (z : x.length + y.length ≤ sizeLine) : binS .add (.str x) (.str y) h = .ok (.str (x ++ y)) h := if_pos z
theorem b_tup {xs ys : List PV} (z : xs.length + ys.length ≤ sizeLine) : binS .add (.tup xs) (.tup ys) h = .ok (.tup (xs ++ ys)) h := if_pos z
theorem big_of {i : Int} (a : -(2 ^ 64) < i) (b : i < 2 ^ 64) : big64 i = true := by
  unfold big64
  rw [Bool.and_eq_true, decide_eq_true_eq, decide_eq_true_eq]
  exact ⟨a, b⟩
theorem c_lt {i j : Int} : cmpS .lt (.int i) (.int j) h = some (decide (i < j)) := rfl
theorem c_le {i j : Int} : cmpS .le (.int i) (.int j) h = some (decide (i ≤ j)) := rfl
theorem c_gt {i j : Int} : cmpS .gt (.int i) (.int j) h = some (decide (j < i)) := rfl
theorem c_ge {i j : Int} : cmpS .ge (.int i) (.int j) h = some (decide (j ≤ i)) := rfl
theorem d_int {i : Int} : cmpData h (.int i) = some (.int i) := rfl
theorem d_non : cmpData h .non = some .none := rfl
theorem d_str {x : Str} (z : PyData.strOk x = true) : cmpData h (.str x) = some (.str x) := by
  have e : cmpData h (.str x) = if PyData.canLay0 (.str x) = true then some (.str x) else none := rfl
  rw [e, if_pos (by simpa [PyData.canLay0] using z)]
theorem beq_dec {α : Type} [BEq α] [LawfulBEq α] [DecidableEq α] (x y : α) : (x == y) = decide (x = y) := by
  by_cases e : x = y
  · subst e; simp
  · rw [decide_eq_false e]; exact beq_eq_false_iff_ne.mpr e
theorem eqv_int {i j : Int} : PyData.eqv (.int i) (.int j) = decide (i = j) := by simp only [PyData.eqv]; exact beq_dec i j
theorem eqv_str {x y : Str} : PyData.eqv (.str x) (.str y) = decide (x = y) := by simp only [PyData.eqv]; exact beq_dec x y
theorem c_eq_int {i j : Int} : cmpS .eq (.int i) (.int j) h = some (decide (i = j)) := by
  simp only [cmpS, d_int, eqv_int]
theorem c_ne_int {i j : Int} : cmpS .ne (.int i) (.int j) h = some (!decide (i = j)) := by
  simp only [cmpS, d_int, eqv_int]
theorem c_eq_str {x y : Str} (a : PyData.strOk x = true) (b : PyData.strOk y = true) : cmpS .eq (.str x) (.str y) h = some (decide (x = y)) := by
  simp only [cmpS, d_str a, d_str b, eqv_str]
theorem c_ne_str {x y : Str} (a : PyData.strOk x = true) (b : PyData.strOk y = true) : cmpS .ne (.str x) (.str y) h = some (!decide (x = y)) := by
  simp only [cmpS, d_str a, d_str b, eqv_str]
theorem c_isn_non : cmpS .isn .non .non h = some true := rfl
theorem c_isn_int {i : Int} : cmpS .isn (.int i) .non h = some false := rfl
theorem c_isn_tup {i : List PV} : cmpS .isn (.tup i) .non h = some false := rfl
theorem c_notn_non : cmpS .notn .non .non h = some false := rfl
theorem c_notn_int {i : Int} : cmpS .notn (.int i) .non h = some true := rfl
theorem c_notn_tup {i : List PV} : cmpS .notn (.tup i) .non h = some true := rfl
theorem ix_ref {r : Nat} {xs : List PV} {i : Int} (e : h[r]? = some (.lst xs)) : idxS (.ref r) (.int i) h = L2.atI xs i := by
  simp only [idxS, seq_of e, Option.bind_some]
theorem ix_ro {r : Nat} {xs : List PV} {i : Int} (e : h[r]? = some (.ro xs)) : idxS (.ref r) (.int i) h = L2.atI xs i := by
  simp only [idxS, seq_ro e, Option.bind_some]
theorem ix_tup {xs : List PV} {i : Int} : idxS (.tup xs) (.int i) h = L2.atI xs i := rfl
theorem set_at {r : Nat} {xs : List PV} {i : Int} {j : Nat} {v : PV} (e : h[r]? = some (.lst xs)) (z : L2.ixN xs.length i = some j) : setItemS (.ref r) (.int i) v h = some (h.set r (.lst (xs.set j v))) := by
  simp only [setItemS, e, z, Option.map_some]
theorem bi_tuple {r : Nat} {xs : List PV} (e : h[r]? = some (.lst xs)) : biS .tuple [.ref r] h = .ok (.tup xs) h := by
  simp only [biS, items_ref, seq_of e, Option.map_some, opt_some]
theorem bi_list_tup {xs : List PV} : biS .list [.tup xs] h = .ok (.ref h.length) (h ++ [.lst xs]) := rfl
theorem bi_list_ref {r : Nat} {xs : List PV} (e : h[r]? = some (.lst xs)) : biS .list [.ref r] h = .ok (.ref h.length) (h ++ [.lst xs]) := by
  simp only [biS, items_ref, seq_of e]
  rfl
theorem bi_len_ref {r : Nat} {xs : List PV} (e : h[r]? = some (.lst xs)) : biS .len [.ref r] h = .ok (.int xs.length) h := by
  simp only [biS, items_ref, seq_of e, Option.map_some, opt_some]
theorem bi_len_ro {r : Nat} {xs : List PV} (e : h[r]? = some (.ro xs)) : biS .len [.ref r] h = .ok (.int xs.length) h := by
  simp only [biS, items_ref, seq_ro e, Option.map_some, opt_some]
theorem rngL_len {m n : Int} : (rangeL m n).length = (n - m).toNat := by unfold rangeL; simp
theorem rngL_mem {m n : Int} {v : PV} (z : v ∈ rangeL m n) : ∃ i : Int, v = .int i ∧ m ≤ i ∧ i < n := by
  unfold rangeL at z
  rw [List.mem_map] at z
  obtain ⟨j, hj, rfl⟩ := z
  rw [List.mem_range] at hj
  exact ⟨m + j, rfl, by omega, by omega⟩
theorem sm62 {n : Int} (a : -(2 ^ 62) ≤ n) (b : n < 2 ^ 62) : small62 n = true := by
  unfold small62
  rw [Bool.and_eq_true, decide_eq_true_eq, decide_eq_true_eq]
  exact ⟨a, b⟩
/-! ### loops -/
theorem for_nil {f : PV → Lo → MH → SR} {good : MH → Prop} (g : good h) : forLoop f good [] lo h = .ok (.nx lo) h := if_pos g
theorem for_cons {f : PV → Lo → MH → SR} {good : MH → Prop} {v : PV} {vs : List PV} (g : good h) : forLoop f good (v :: vs) lo h = (match f v lo h with
      | .ok (.nx lo') h' => forLoop f good vs lo' h'
      | .ok (.ct lo') h' => forLoop f good vs lo' h'
      | .ok (.bk lo') h' => .ok (.nx lo') h'
      | r => r) := if_pos g
/-- by an invariant I over what is left; it may also leave by a value -/
theorem for_inv {f : PV → Lo → MH → SR} {good : MH → Prop} (I : List PV → Lo → MH → Prop) (R : PV → MH → Prop) (gd : ∀ vs lo h, I vs lo h → good h)
    (step : ∀ v vs lo h, I (v :: vs) lo h → SOk (f v lo h) fun fl h' => match fl with
      | .nx lo' => I vs lo' h'
      | .ct lo' => I vs lo' h'
      | .bk lo' => I [] lo' h'
      | .rt r => R r h'
      | .th _ _ => False) : ∀ vs lo h, I vs lo h → SOk (forLoop f good vs lo h) fun fl h' => match fl with
      | .nx lo' => I [] lo' h'
      | .rt r => R r h'
      | _ => False
  | [], lo, h, i => by
    rw [for_nil (gd _ _ _ i)]
    exact .ret i
  | v :: vs, lo, h, i => by
    rw [for_cons (gd _ _ _ i)]
    obtain ⟨fl, h', e, q⟩ := step v vs lo h i
    rw [e]
    cases fl with
    | nx lo' => exact for_inv I R gd step vs lo' h' q
    | ct lo' => exact for_inv I R gd step vs lo' h' q
    | bk lo' => exact .ret q
    | rt r => exact .ret q
    | th _ _ => exact q.elim
theorem while_inv {t : Lo → MH → Res Bool} {f : Lo → MH → SR} (I : Nat → Lo → MH → Prop) (D : Lo → MH → Prop) (R : PV → MH → Prop)
    (step : ∀ n lo h, I n lo h → Ok (t lo h) fun c h1 => if c = true then (0 < n ∧ SOk (f lo h1) fun fl h' => match fl with
      | .nx lo' => ∃ m, m < n ∧ I m lo' h'
      | .ct lo' => ∃ m, m < n ∧ I m lo' h'
      | .bk lo' => D lo' h'
      | .rt r => R r h'
      | .th _ _ => False) else D lo h1) : ∀ N n, n < N → ∀ lo h, I n lo h → SOk (whileLoop t f N lo h) fun fl h' => match fl with
      | .nx lo' => D lo' h'
      | .rt r => R r h'
      | _ => False
  | 0, n, hn, _, _, _ => by omega
  | N + 1, n, hn, lo, h, i => by
    obtain ⟨c, h1, e, q⟩ := step n lo h i
    unfold whileLoop
    rw [e, then_ok]
    cases c with
    | false => exact .ret q
    | true =>
      rw [if_pos rfl] at q
      obtain ⟨h0, fl, h', e', q'⟩ := q
      simp only [e']
      cases fl with
      | nx lo' => obtain ⟨m, hm, im⟩ := q'; exact while_inv I D R step N m (by omega) lo' h' im
      | ct lo' => obtain ⟨m, hm, im⟩ := q'; exact while_inv I D R step N m (by omega) lo' h' im
      | bk lo' => exact .ret q'
      | rt r => exact .ret q'
      | th _ _ => exact q'.elim
/-- a comprehension: G what is given so far -/
theorem lc_inv {f : PV → MH → Res (Option PV)} {good : MH → Prop} {D : Nat} (I : List PV → List PV → MH → Prop) (gd : ∀ vs acc h, I vs acc h → good h) (at_ : ∀ vs acc h, I vs acc h → h[D]? = some (.lst acc))
    (step : ∀ v vs acc h, I (v :: vs) acc h → Ok (f v h) fun o h1 => match o with
      | none => I vs acc h1
      | some y => acc.length < sizeLine ∧ h1[D]? = some (.lst acc) ∧ I vs (acc ++ [y]) (h1.set D (.lst (acc ++ [y])))) : ∀ vs acc h, I vs acc h → Ok (lcLoop f good D vs h) fun r h' => r = .ref D ∧ ∃ acc', I [] acc' h'
  | [], acc, h, i => by
    have e : lcLoop f good D [] h = .ok (.ref D) h := if_pos (gd _ _ _ i)
    rw [e]
    exact .ret ⟨rfl, acc, i⟩
  | v :: vs, acc, h, i => by
    have e : lcLoop f good D (v :: vs) h = (match f v h with
      | .ok none h1 => lcLoop f good D vs h1
      | .ok (some y) h1 => match h1[D]? with
        | some (.lst acc) => if acc.length < sizeLine then lcLoop f good D vs (h1.set D (.lst (acc ++ [y]))) else .no
        | _ => .no
      | _ => .no) := if_pos (gd _ _ _ i)
    rw [e]
    obtain ⟨o, h1, e1, q⟩ := step v vs acc h i
    rw [e1]
    cases o with
    | none => exact lc_inv I gd at_ step vs acc h1 q
    | some y =>
      obtain ⟨q1, q2, q3⟩ := q
      simp only [q2]
      rw [if_pos q1]
      exact lc_inv I gd at_ step vs _ _ q3
end
/-! ### heaps -/
/-- all that stood before stands, but at S -/
structure Keep (S : List Nat) (h h' : MH) : Prop where
  len : h.length ≤ h'.length
  at_ : ∀ q, q < h.length → q ∉ S → h'[q]? = h[q]?
section
variable {S : List Nat} {h h' h'' : MH}
theorem Keep.refl : Keep S h h := ⟨Nat.le_refl _, fun _ _ _ => rfl⟩
theorem Keep.trans (a : Keep S h h') (b : Keep S h' h'') : Keep S h h'' := ⟨Nat.le_trans a.len b.len, fun q hq hs => (b.at_ q (Nat.lt_of_lt_of_le hq a.len) hs).trans (a.at_ q hq hs)⟩
theorem Keep.weak {S' : List Nat} (a : Keep S h h') (k : ∀ q ∈ S, q ∈ S' ∨ h.length ≤ q) : Keep S' h h' := ⟨a.len, fun q hq hs => a.at_ q hq fun z => (k q z).elim hs fun w => by omega⟩
theorem Keep.push (o : MO) : Keep S h (h ++ [o]) := ⟨by simp, fun q hq _ => List.getElem?_append_left hq⟩
theorem Keep.app (g : MH) : Keep S h (h ++ g) := ⟨by simp, fun q hq _ => List.getElem?_append_left hq⟩
theorem Keep.set {q : Nat} (hq : q ∈ S ∨ h.length ≤ q) (o : MO) : Keep S h (h.set q o) := ⟨by simp, fun j hj hs => List.getElem?_set_ne (by
  rintro rfl
  rcases hq with z | z
  · exact hs z
  · omega)⟩
theorem Keep.put (a : Keep S h h') {q : Nat} (hq : q ∈ S ∨ h.length ≤ q) (o : MO) : Keep S h (h'.set q o) := ⟨by rw [List.length_set]; exact a.len, fun j hj hs => by
  rw [List.getElem?_set_ne (by
    rintro rfl
    rcases hq with z | z
    · exact hs z
    · omega)]
  exact a.at_ j hj hs⟩
theorem Keep.get (a : Keep S h h') {q : Nat} {o : MO} (e : h[q]? = some o) (hs : q ∉ S) : h'[q]? = some o := by
  rw [a.at_ q (List.getElem?_eq_some_iff.mp e).1 hs]; exact e
theorem Keep.go {S2 : List Nat} (a : Keep S h h') (b : Keep S2 h' h'') (z : ∀ x ∈ S2, x ∈ S ∨ h.length ≤ x) : Keep S h h'' := ⟨Nat.le_trans a.len b.len, fun q hq hs => (b.at_ q (Nat.lt_of_lt_of_le hq a.len) fun w => (z q w).elim hs fun w => by omega).trans (a.at_ q hq hs)⟩
theorem get_put {q r : Nat} {o u : MO} (e : h[q]? = some o) (hne : q ≠ r) : (h.set r u)[q]? = some o := by
  rw [List.getElem?_set_ne (Ne.symm hne)]; exact e
theorem lt_of_get {q : Nat} {o : MO} (e : h[q]? = some o) : q < h.length := (List.getElem?_eq_some_iff.mp e).1
theorem get_new {o : MO} : (h ++ [o])[h.length]? = some o := by simp
theorem get_set {q : Nat} {o u : MO} (e : h[q]? = some u) : (h.set q o)[q]? = some o := List.getElem?_set_self (lt_of_get e)
/-- a comprehension that changes nothing -/
theorem lc_pure {f : PV → MH → Res (Option PV)} {good : MH → Prop} {vs : List PV} {h0 : MH} (F : PV → PV) (gd : ∀ h1, Keep [] h0 h1 → good h1) (small : vs.length ≤ sizeLine)
    (step : ∀ v ∈ vs, ∀ h1, Keep [] h0 h1 → Ok (f v h1) fun o h2 => o = some (F v) ∧ Keep [] h1 h2) : Ok (lcLoop f good h0.length vs (h0 ++ [.lst []])) fun r h' => r = .ref h0.length ∧ h'[h0.length]? = some (.lst (vs.map F)) ∧ Keep [] h0 h' := by
  refine Ok.mono (lc_inv (fun rest acc h1 => ∃ don, vs = don ++ rest ∧ acc = don.map F ∧ h1[h0.length]? = some (.lst acc) ∧ Keep [] h0 h1) (fun _ _ h1 ⟨_, _, _, _, k⟩ => gd h1 k) (fun _ _ _ ⟨_, _, _, e, _⟩ => e) ?_ vs [] _ ⟨[], rfl, rfl, get_new, .push _⟩) ?_
  · rintro v rest acc h1 ⟨don, e, rfl, e1, k⟩
    refine (step v (by rw [e]; simp) h1 k).mono ?_
    rintro o h2 ⟨rfl, k2⟩
    have e2 := k2.get e1 (by simp)
    refine ⟨?_, e2, don ++ [v], by rw [e]; simp, by simp, get_set e2, (k.trans k2).put (.inr (Nat.le_refl _)) _⟩
    have := congrArg List.length e
    simp only [List.length_append, List.length_cons] at this
    rw [List.length_map]; omega
  · rintro r h' ⟨rfl, acc, don, e, rfl, e1, k⟩
    rw [List.append_nil] at e
    subst e
    exact ⟨rfl, e1, k⟩
/-- a comprehension whose items all have P; J by how many are done -/
theorem lc_all {f : PV → MH → Res (Option PV)} {good : MH → Prop} {vs : List PV} {h0 : MH} (P : PV → Prop) (J : Nat → MH → Prop) (gd : ∀ n h1, J n h1 → good h1) (small : vs.length ≤ sizeLine) (j0 : J 0 (h0 ++ [.lst []])) (jset : ∀ n h1 o, J n h1 → J n (h1.set h0.length o))
    (step : ∀ n, n < vs.length → ∀ v ∈ vs, ∀ h1, J n h1 → h0.length < h1.length → Ok (f v h1) fun o h2 => ∃ y, o = some y ∧ P y ∧ J (n + 1) h2 ∧ h2[h0.length]? = h1[h0.length]?) : Ok (lcLoop f good h0.length vs (h0 ++ [.lst []])) fun r h' => r = .ref h0.length ∧ ∃ ys : List PV, ys.length = vs.length ∧ (∀ y ∈ ys, P y) ∧ h'[h0.length]? = some (.lst ys) ∧ J vs.length h' := by
  refine Ok.mono (lc_inv (fun rest acc h1 => ∃ don, vs = don ++ rest ∧ acc.length = don.length ∧ (∀ y ∈ acc, P y) ∧ h1[h0.length]? = some (.lst acc) ∧ J don.length h1) (fun _ _ h1 ⟨_, _, _, _, _, k⟩ => gd _ h1 k) (fun _ _ _ ⟨_, _, _, _, e, _⟩ => e) ?_ vs [] _ ⟨[], rfl, rfl, (fun _ hy => by cases hy), get_new, j0⟩) ?_
  · rintro v rest acc h1 ⟨don, e, el, ep, e1, k⟩
    have el2 := congrArg List.length e
    simp only [List.length_append, List.length_cons] at el2
    refine (step don.length (by omega) v (by rw [e]; simp) h1 k (lt_of_get e1)).mono ?_
    rintro o h2 ⟨y, rfl, py, k2, e2⟩
    rw [e1] at e2
    refine ⟨by omega, e2, don ++ [v], by rw [e]; simp, by simp [el], fun z hz => ?_, get_set e2, ?_⟩
    · rcases List.mem_append.mp hz with hz | hz
      · exact ep z hz
      · rw [List.mem_singleton.mp hz]; exact py
    · rw [List.length_append]
      exact jset _ _ _ k2
  · rintro r h' ⟨rfl, acc, don, e, el, ep, e1, k⟩
    rw [List.append_nil] at e
    subst e
    exact ⟨rfl, acc, el, ep, e1, k⟩
end
end Vb

set_option Elab.async false
set_option linter.all false
set_option maxRecDepth 100000
set_option maxHeartbeats 0
namespace V87
open PySem PySem.Spec PyProof.Rows L2 Vb
abbrev R : PySem.W.OpenRow := PySem.W.OpenLaw.row PySem.Challenge.rw_vowblocks_k87_papers_and_runs_as_texts
def top (i : Nat) : Stmt := PySem.Challenge.pw_vowblocks_k87_papers_and_runs_as_texts.main.body.getD i (.Pass ⟨0, 0, 0, 0⟩)
/-! ### the bodies -/
/-- is_whole: thing -/
def b0 : List Vb.S := [.ret (.and (.isi (.var 0) .int) (.not (.isi (.var 0) .bool)))]
def d0 : FD := ⟨1, 1, b0⟩
def t0 : He.DefD × List Str × List Str := (⟨("is_whole", none), "is_whole", "is_whole", C8.fnArgs (top 4), C8.fnBody (top 4), C8.fnScope (top 4), [], []⟩, ["thing"], ["thing"])
/-- thing_words: thing found part -/
def b1 : List Vb.S := [.if_ (.val (.call 0 [.var 0])) [.ret (.lst [.bi .str [.var 0]])] [],
  .asg (.n 1) (.lst [.cst (.str "(")]),
  .for_ (.n 2) (.e (.var 0)) [.expr (.bm .extend (.var 1) [.call 1 [.var 2]])],
  .ret (.bin .add (.var 1) (.lst [.cst (.str ")")]))]
def d1 : FD := ⟨1, 3, b1⟩
def t1 : He.DefD × List Str × List Str := (⟨("thing_words", none), "thing_words", "thing_words", C8.fnArgs (top 11), C8.fnBody (top 11), C8.fnScope (top 11), [], []⟩, ["thing", "found", "part"], ["thing"])
/-- thing_text: thing -/
def b2 : List Vb.S := [.ret (.bm .join (.cst (.str " ")) [.call 1 [.var 0]])]
def d2 : FD := ⟨1, 1, b2⟩
def t2 : He.DefD × List Str × List Str := (⟨("thing_text", none), "thing_text", "thing_text", C8.fnArgs (top 12), C8.fnBody (top 12), C8.fnScope (top 12), [], []⟩, ["thing"], ["thing"])
/-- number_in: word sign -/
def b3 : List Vb.S := [.if_ (.or (.not (.chain .le .le (.cst (.int 1)) (.bi .len [.var 0]) (.cst (.int 4)))) (.not (.val (.bi .all [.lc (.n 1) [1] (.e (.var 0)) none (.cmp .in_ (.var 1) (.cst (.str "0123456789")))])))) [.ret (.cst (.non))] [],
  .ret (.ife (.and (.cmp .eq (.idx (.var 0) (.cst (.int 0))) (.cst (.str "0"))) (.cmp .ne (.var 0) (.cst (.str "0")))) (.cst (.non)) (.bi .int [.var 0]))]
def d3 : FD := ⟨1, 2, b3⟩
def t3 : He.DefD × List Str × List Str := (⟨("number_in", none), "number_in", "number_in", C8.fnArgs (top 13), C8.fnBody (top 13), C8.fnScope (top 13), [], []⟩, ["word", "sign"], ["word"])
/-- thing_in: row layers word done -/
def b4 : List Vb.S := [.asg (.n 1) (.lst [.lst []]),
  .for_ (.n 2) (.e (.bm .split (.var 0) [.cst (.str " ")])) [.if_ (.cmp .eq (.var 2) (.cst (.str "("))) [.expr (.bm .append (.var 1) [.lst []])] [.if_ (.and (.cmp .eq (.var 2) (.cst (.str ")"))) (.cmp .gt (.bi .len [.var 1]) (.cst (.int 1)))) [.asg (.n 3) (.bi .tuple [.bm .pop (.var 1) []]),
     .expr (.bm .append (.idx (.var 1) (.neg (.cst (.int 1)))) [.var 3])] [.expr (.bm .append (.idx (.var 1) (.neg (.cst (.int 1)))) [.call 3 [.var 2]])]],
   .if_ (.or (.cmp .gt (.bi .len [.var 1]) (.bin .add (.cst (.int 1)) (.cst (.int 8)))) (.cmp .in_ (.cst (.non)) (.idx (.var 1) (.neg (.cst (.int 1)))))) [.ret (.cst (.non))] []],
  .ret (.ife (.and (.cmp .eq (.bi .len [.var 1]) (.cst (.int 1))) (.cmp .eq (.bi .len [.idx (.var 1) (.cst (.int 0))]) (.cst (.int 1)))) (.idx (.idx (.var 1) (.cst (.int 0))) (.cst (.int 0))) (.cst (.non)))]
def d4 : FD := ⟨1, 4, b4⟩
def t4 : He.DefD × List Str × List Str := (⟨("thing_in", none), "thing_in", "thing_in", C8.fnArgs (top 14), C8.fnBody (top 14), C8.fnScope (top 14), [], []⟩, ["row", "layers", "word", "done"], ["row"])
/-- thing_of: text found; LEFT OUT: Raise l.46; Raise l.49 -/
def b5 : List Vb.S := [.if_ (.not (.val (.isi (.var 0) .str))) [.never] [],
  .asg (.n 1) (.call 4 [.var 0]),
  .if_ (.cmp .isn (.var 1) (.cst (.non))) [.never] [],
  .ret (.var 1)]
def d5 : FD := ⟨1, 2, b5⟩
def t5 : He.DefD × List Str × List Str := (⟨("thing_of", none), "thing_of", "thing_of", C8.fnArgs (top 15), C8.fnBody (top 15), C8.fnScope (top 15), [], []⟩, ["text", "found"], ["text"])
/-- owner_word: owner -/
def b6 : List Vb.S := [.ret (.ife (.cmp .eq (.var 0) (.cst (.int (-1)))) (.cst (.str "-")) (.bi .str [.var 0]))]
def d6 : FD := ⟨1, 1, b6⟩
def t6 : He.DefD × List Str × List Str := (⟨("owner_word", none), "owner_word", "owner_word", C8.fnArgs (top 16), C8.fnBody (top 16), C8.fnScope (top 16), [], []⟩, ["owner"], ["owner"])
/-- owner_in: word -/
def b7 : List Vb.S := [.ret (.ife (.cmp .eq (.var 0) (.cst (.str "-"))) (.cst (.int (-1))) (.call 3 [.var 0]))]
def d7 : FD := ⟨1, 1, b7⟩
def t7 : He.DefD × List Str × List Str := (⟨("owner_in", none), "owner_in", "owner_in", C8.fnArgs (top 17), C8.fnBody (top 17), C8.fnScope (top 17), [], []⟩, ["word"], ["word"])
/-- paper_rows: paper found part head state -/
def b8 : List Vb.S := [.if_ (.cmp .eq (.idx (.var 0) (.cst (.int 0))) (.cst (.str "parts"))) [.asg (.n 1) (.lst [.cst (.str "parts")]),
   .for_ (.n 2) (.e (.bin .add (.idx (.var 0) (.cst (.int 1))) (.idx (.var 0) (.cst (.int 2))))) [.expr (.bm .extend (.var 1) [.call 8 [.var 2]])],
   .ret (.var 1)] [],
  .asg (.n 3) (.idx (.var 0) (.cst (.int 0))),
  .if_ (.cmp .eq (.var 3) (.cst (.str "follows"))) [.asg (.n 3) (.bm .join (.cst (.str " ")) [.lst [.var 3, .call 6 [.idx (.idx (.var 0) (.cst (.int 1))) (.cst (.int 0))], .bi .str [.idx (.idx (.var 0) (.cst (.int 1))) (.cst (.int 1))]]])] [],
  .ret (.bin .add (.lst [.var 3]) (.lc (.n 4) [4] (.e (.idx (.var 0) (.neg (.cst (.int 1))))) none (.call 2 [.var 4])))]
def d8 : FD := ⟨1, 5, b8⟩
def t8 : He.DefD × List Str × List Str := (⟨("paper_rows", none), "paper_rows", "paper_rows", C8.fnArgs (top 18), C8.fnBody (top 18), C8.fnScope (top 18), [], []⟩, ["paper", "found", "part", "head", "state"], ["paper"])
/-- paper_text: paper -/
def b9 : List Vb.S := [.ret (.bm .join (.cst (.str "\n")) [.call 8 [.var 0]])]
def d9 : FD := ⟨1, 1, b9⟩
def t9 : He.DefD × List Str × List Str := (⟨("paper_text", none), "paper_text", "paper_text", C8.fnArgs (top 19), C8.fnBody (top 19), C8.fnScope (top 19), [], []⟩, ["paper"], ["paper"])
/-- head_in: row words goal -/
def b10 : List Vb.S := [.asg (.n 1) (.bm .split (.var 0) [.cst (.str " ")]),
  .if_ (.cmp .in_ (.idx (.var 1) (.cst (.int 0))) (.tup [.cst (.str "alone"), .cst (.str "whole")])) [.ret (.ife (.cmp .eq (.bi .len [.var 1]) (.cst (.int 1))) (.tup [.idx (.var 1) (.cst (.int 0))]) (.cst (.non)))] [],
  .if_ (.or (.cmp .ne (.idx (.var 1) (.cst (.int 0))) (.cst (.str "follows"))) (.cmp .ne (.bi .len [.var 1]) (.cst (.int 3)))) [.ret (.cst (.non))] [],
  .asg (.n 2) (.tup [.call 7 [.idx (.var 1) (.cst (.int 1))], .call 3 [.idx (.var 1) (.cst (.int 2))]]),
  .ret (.ife (.cmp .in_ (.cst (.non)) (.var 2)) (.cst (.non)) (.tup [.cst (.str "follows"), .var 2]))]
def d10 : FD := ⟨1, 3, b10⟩
def t10 : He.DefD × List Str × List Str := (⟨("head_in", none), "head_in", "head_in", C8.fnArgs (top 20), C8.fnBody (top 20), C8.fnScope (top 20), [], []⟩, ["row", "words", "goal"], ["row"])
/-- break_in: row words found -/
def b11 : List Vb.S := [.asg (.n 1) (.bm .split (.var 0) [.cst (.str " ")]),
  .if_ (.or (.cmp .ne (.idx (.var 1) (.cst (.int 0))) (.cst (.str "break"))) (.or (.cmp .ne (.bi .len [.var 1]) (.cst (.int 5))) (.cmp .nin (.idx (.var 1) (.cst (.int 3))) (.cst (.tup [.str "need", .str "promise"]))))) [.ret (.cst (.non))] [],
  .asg (.n 2) (.tup [.call 3 [.idx (.var 1) (.cst (.int 1))], .call 7 [.idx (.var 1) (.cst (.int 2))], .idx (.var 1) (.cst (.int 3)), .call 3 [.idx (.var 1) (.cst (.int 4))]]),
  .ret (.ife (.cmp .in_ (.cst (.non)) (.var 2)) (.cst (.non)) (.var 2))]
def d11 : FD := ⟨1, 3, b11⟩
def t11 : He.DefD × List Str × List Str := (⟨("break_in", none), "break_in", "break_in", C8.fnArgs (top 21), C8.fnBody (top 21), C8.fnScope (top 21), [], []⟩, ["row", "words", "found"], ["row"])
/-- Reading.__init__: self text; LEFT OUT: Raise l.85 -/
def b12 : List Vb.S := [.if_ (.not (.val (.isi (.var 1) .str))) [.never] [],
  .asg (.attr (.var 0) 0) (.bm .split (.var 1) [.cst (.str "\n")]),
  .asg (.attr (.var 0) 1) (.cst (.int 0))]
def d12 : FD := ⟨2, 2, b12⟩
def t12 : He.DefD × List Str × List Str := (⟨("Reading", some ("__init__" : Str)), "__init__", "Reading.__init__", C8.fnArgs ((C8.clsBody (top 22)).getD 0 (.Pass ⟨0, 0, 0, 0⟩)), C8.fnBody ((C8.clsBody (top 22)).getD 0 (.Pass ⟨0, 0, 0, 0⟩)), C8.fnScope ((C8.clsBody (top 22)).getD 0 (.Pass ⟨0, 0, 0, 0⟩)), [], []⟩, ["self", "text"], ["self", "text"])
/-- Reading.is_over: self -/
def b13 : List Vb.S := [.ret (.cmp .eq (.attr (.var 0) 1) (.bi .len [.attr (.var 0) 0]))]
def d13 : FD := ⟨1, 1, b13⟩
def t13 : He.DefD × List Str × List Str := (⟨("Reading", some ("is_over" : Str)), "is_over", "Reading.is_over", C8.fnArgs ((C8.clsBody (top 22)).getD 1 (.Pass ⟨0, 0, 0, 0⟩)), C8.fnBody ((C8.clsBody (top 22)).getD 1 (.Pass ⟨0, 0, 0, 0⟩)), C8.fnScope ((C8.clsBody (top 22)).getD 1 (.Pass ⟨0, 0, 0, 0⟩)), [], []⟩, ["self"], ["self"])
/-- Reading.need: self good; LEFT OUT: Raise l.94 -/
def b14 : List Vb.S := [.if_ (.not (.val (.var 1))) [.never] []]
def d14 : FD := ⟨2, 2, b14⟩
def t14 : He.DefD × List Str × List Str := (⟨("Reading", some ("need" : Str)), "need", "Reading.need", C8.fnArgs ((C8.clsBody (top 22)).getD 2 (.Pass ⟨0, 0, 0, 0⟩)), C8.fnBody ((C8.clsBody (top 22)).getD 2 (.Pass ⟨0, 0, 0, 0⟩)), C8.fnScope ((C8.clsBody (top 22)).getD 2 (.Pass ⟨0, 0, 0, 0⟩)), [], []⟩, ["self", "good"], ["self", "good"])
/-- Reading.tuples: self found thing -/
def b15 : List Vb.S := [.asg (.n 1) (.lst []),
  .while_ (.not (.val (.meth 0 (.var 0) []))) [.asg (.n 2) (.call 4 [.idx (.attr (.var 0) 0) (.attr (.var 0) 1)]),
   .if_ (.not (.val (.isi (.var 2) .tup))) [.brk] [],
   .expr (.bm .append (.var 1) [.var 2]),
   .augA (.var 0) 1 .add (.cst (.int 1))],
  .ret (.bi .tuple [.var 1])]
def d15 : FD := ⟨1, 3, b15⟩
def t15 : He.DefD × List Str × List Str := (⟨("Reading", some ("tuples" : Str)), "tuples", "Reading.tuples", C8.fnArgs ((C8.clsBody (top 22)).getD 3 (.Pass ⟨0, 0, 0, 0⟩)), C8.fnBody ((C8.clsBody (top 22)).getD 3 (.Pass ⟨0, 0, 0, 0⟩)), C8.fnScope ((C8.clsBody (top 22)).getD 3 (.Pass ⟨0, 0, 0, 0⟩)), [], []⟩, ["self", "found", "thing"], ["self"])
/-- Reading.one_paper: self head -/
def b16 : List Vb.S := [.asg (.n 1) (.call 10 [.idx (.attr (.var 0) 0) (.attr (.var 0) 1)]),
  .expr (.meth 1 (.var 0) [.cmp .notn (.var 1) (.cst (.non))]),
  .augA (.var 0) 1 .add (.cst (.int 1)),
  .ret (.bin .add (.var 1) (.tup [.meth 2 (.var 0) []]))]
def d16 : FD := ⟨1, 2, b16⟩
def t16 : He.DefD × List Str × List Str := (⟨("Reading", some ("one_paper" : Str)), "one_paper", "Reading.one_paper", C8.fnArgs ((C8.clsBody (top 22)).getD 4 (.Pass ⟨0, 0, 0, 0⟩)), C8.fnBody ((C8.clsBody (top 22)).getD 4 (.Pass ⟨0, 0, 0, 0⟩)), C8.fnScope ((C8.clsBody (top 22)).getD 4 (.Pass ⟨0, 0, 0, 0⟩)), [], []⟩, ["self", "head"], ["self"])
/-- Reading.all_papers: self word found -/
def b17 : List Vb.S := [.asg (.n 2) (.lst []),
  .while_ (.and (.not (.val (.meth 0 (.var 0) []))) (.cmp .eq (.idx (.bm .split (.idx (.attr (.var 0) 0) (.attr (.var 0) 1)) [.cst (.str " ")]) (.cst (.int 0))) (.var 1))) [.expr (.bm .append (.var 2) [.meth 3 (.var 0) []])],
  .ret (.bi .tuple [.var 2])]
def d17 : FD := ⟨2, 3, b17⟩
def t17 : He.DefD × List Str × List Str := (⟨("Reading", some ("all_papers" : Str)), "all_papers", "Reading.all_papers", C8.fnArgs ((C8.clsBody (top 22)).getD 5 (.Pass ⟨0, 0, 0, 0⟩)), C8.fnBody ((C8.clsBody (top 22)).getD 5 (.Pass ⟨0, 0, 0, 0⟩)), C8.fnScope ((C8.clsBody (top 22)).getD 5 (.Pass ⟨0, 0, 0, 0⟩)), [], []⟩, ["self", "word", "found"], ["self", "word"])
/-- paper_of: text reading blocks found -/
def b18 : List Vb.S := [.asg (.n 1) (.mk 0 [.var 0]),
  .if_ (.cmp .eq (.idx (.attr (.var 1) 0) (.cst (.int 0))) (.cst (.str "parts"))) [.asg (.attr (.var 1) 1) (.cst (.int 1)),
   .asg (.n 2) (.meth 4 (.var 1) [.cst (.str "alone")]),
   .asg (.n 3) (.tup [.cst (.str "parts"), .var 2, .meth 4 (.var 1) [.cst (.str "follows")]])] [.asg (.n 3) (.meth 3 (.var 1) [])],
  .expr (.meth 1 (.var 1) [.meth 0 (.var 1) []]),
  .ret (.var 3)]
def d18 : FD := ⟨1, 4, b18⟩
def t18 : He.DefD × List Str × List Str := (⟨("paper_of", none), "paper_of", "paper_of", C8.fnArgs (top 23), C8.fnBody (top 23), C8.fnScope (top 23), [], []⟩, ["text", "reading", "blocks", "found"], ["text"])
/-- run_text: run found rows beat owner kind vow -/
def b19 : List Vb.S := [.asg (.n 2) (.bin .add (.lst [.cst (.str "run")]) (.lc (.n 3) [3] (.e (.var 0)) none (.call 2 [.var 3]))),
  .if_ (.cmp .notn (.var 1) (.cst (.non))) [.asg (.t [3, 4, 5, 6]) (.var 1),
   .expr (.bm .append (.var 2) [.bm .join (.cst (.str " ")) [.lst [.cst (.str "break"), .bi .str [.var 3], .call 6 [.var 4], .var 5, .bi .str [.var 6]]]])] [],
  .ret (.bm .join (.cst (.str "\n")) [.var 2])]
def d19 : FD := ⟨2, 7, b19⟩
def t19 : He.DefD × List Str × List Str := (⟨("run_text", none), "run_text", "run_text", C8.fnArgs (top 24), C8.fnBody (top 24), C8.fnScope (top 24), [], []⟩, ["run", "found", "rows", "beat", "owner", "kind", "vow"], ["run", "found"])
/-- run_of: text reading run found -/
def b20 : List Vb.S := [.asg (.n 1) (.mk 0 [.var 0]),
  .expr (.meth 1 (.var 1) [.cmp .eq (.idx (.attr (.var 1) 0) (.cst (.int 0))) (.cst (.str "run"))]),
  .asg (.attr (.var 1) 1) (.cst (.int 1)),
  .asg (.n 2) (.bi .list [.meth 2 (.var 1) []]),
  .asg (.n 3) (.cst (.non)),
  .if_ (.not (.val (.meth 0 (.var 1) []))) [.asg (.n 3) (.call 11 [.idx (.attr (.var 1) 0) (.attr (.var 1) 1)]),
   .expr (.meth 1 (.var 1) [.cmp .notn (.var 3) (.cst (.non))]),
   .augA (.var 1) 1 .add (.cst (.int 1))] [],
  .expr (.meth 1 (.var 1) [.meth 0 (.var 1) []]),
  .ret (.tup [.var 2, .var 3])]
def d20 : FD := ⟨1, 4, b20⟩
def t20 : He.DefD × List Str × List Str := (⟨("run_of", none), "run_of", "run_of", C8.fnArgs (top 25), C8.fnBody (top 25), C8.fnScope (top 25), [], []⟩, ["text", "reading", "run", "found"], ["text"])
/-- _law_mixed: _law_cell _law_k _law_number_here -/
def b21 : List Vb.S := [.asg (.n 2) (.bin .mod (.bin .mul (.bin .add (.bin .add (.bin .mod (.var 0) (.cst (.int 1000000007))) (.bin .mul (.bin .mul (.cst (.int 31)) (.var 1)) (.var 1))) (.cst (.int 7))) (.cst (.int 48271))) (.cst (.int 2147483647))),
  .ret (.bin .mod (.bin .mul (.var 2) (.bin .add (.cst (.int 16807)) (.bin .mul (.cst (.int 7919)) (.var 1)))) (.cst (.int 2147483629)))]
def d21 : FD := ⟨2, 3, b21⟩
def t21 : He.DefD × List Str × List Str := (⟨("_law_mixed", none), "_law_mixed", "_law_mixed", C8.fnArgs (top 27), C8.fnBody (top 27), C8.fnScope (top 27), [], []⟩, ["_law_cell", "_law_k", "_law_number_here"], ["_law_cell", "_law_k"])
/-- _law_draw: _law_script _law_k _law_cell _law_own _law_turn -/
def b22 : List Vb.S := [.asg (.n 2) (.ife (.cmp .ne (.var 0) (.lst [])) (.idx (.var 0) (.bin .mod (.var 1) (.bi .len [.var 0]))) (.cst (.int 0))),
  .asg (.n 3) (.ife (.cmp .ge (.var 2) (.bin .pow (.cst (.int 10)) (.cst (.int 18)))) (.var 2) (.cst (.int 0))),
  .for_ (.n 4) (.rng (.bin .fdiv (.var 1) (.bi .max2 [.cst (.int 1), .bi .len [.var 0]]))) [.asg (.n 3) (.bin .fdiv (.var 3) (.bin .pow (.cst (.int 10)) (.cst (.int 18))))],
  .ret (.lst [.var 2, .bin .mul (.cst (.int 64)) (.var 1), .var 3])]
def d22 : FD := ⟨2, 5, b22⟩
def t22 : He.DefD × List Str × List Str := (⟨("_law_draw", none), "_law_draw", "_law_draw", C8.fnArgs (top 28), C8.fnBody (top 28), C8.fnScope (top 28), [], []⟩, ["_law_script", "_law_k", "_law_cell", "_law_own", "_law_turn"], ["_law_script", "_law_k"])
/-- _law_next: _law_draw_here _law_many _law_found _law_number_here -/
def b23 : List Vb.S := [.if_ (.cmp .gt (.idx (.var 0) (.cst (.int 2))) (.cst (.int 0))) [.asg (.n 2) (.bin .mod (.idx (.var 0) (.cst (.int 2))) (.var 1)),
   .asg (.sub (.var 0) (.cst (.int 2))) (.bin .fdiv (.idx (.var 0) (.cst (.int 2))) (.var 1)),
   .ret (.var 2)] [],
  .asg (.sub (.var 0) (.cst (.int 1))) (.bin .add (.idx (.var 0) (.cst (.int 1))) (.cst (.int 1))),
  .asg (.n 3) (.bin .add (.bin .mul (.call 21 [.idx (.var 0) (.cst (.int 0)), .idx (.var 0) (.cst (.int 1))]) (.cst (.int 2147483629))) (.call 21 [.idx (.var 0) (.cst (.int 0)), .bin .add (.idx (.var 0) (.cst (.int 1))) (.cst (.int 9001))])),
  .ret (.bin .mod (.bin .fdiv (.var 3) (.cst (.int 11))) (.var 1))]
def d23 : FD := ⟨2, 4, b23⟩
def t23 : He.DefD × List Str × List Str := (⟨("_law_next", none), "_law_next", "_law_next", C8.fnArgs (top 29), C8.fnBody (top 29), C8.fnScope (top 29), [], []⟩, ["_law_draw_here", "_law_many", "_law_found", "_law_number_here"], ["_law_draw_here", "_law_many"])
/-- _law_thing: _law_draw_here _law_deep _law_left _law_k -/
def b24 : List Vb.S := [.asg (.sub (.var 2) (.cst (.int 0))) (.bin .sub (.idx (.var 2) (.cst (.int 0))) (.cst (.int 1))),
  .if_ (.or (.cmp .eq (.var 1) (.cst (.int 0))) (.or (.cmp .lt (.idx (.var 2) (.cst (.int 0))) (.cst (.int 1))) (.cmp .eq (.call 23 [.var 0, .cst (.int 3)]) (.cst (.int 0))))) [.ret (.idx (.lst [.call 23 [.var 0, .cst (.int 10)], .call 23 [.var 0, .cst (.int 10000)], .cst (.int 0), .cst (.int 9999)]) (.call 23 [.var 0, .cst (.int 4)]))] [],
  .ret (.bi .tuple [.lc (.n 3) [3] (.rng (.idx (.lst [.cst (.int 0), .cst (.int 1), .cst (.int 2), .cst (.int 2), .cst (.int 3)]) (.call 23 [.var 0, .cst (.int 5)]))) none (.call 24 [.var 0, .bin .sub (.var 1) (.cst (.int 1)), .var 2])])]
def d24 : FD := ⟨3, 4, b24⟩
def t24 : He.DefD × List Str × List Str := (⟨("_law_thing", none), "_law_thing", "_law_thing", C8.fnArgs (top 30), C8.fnBody (top 30), C8.fnScope (top 30), [], []⟩, ["_law_draw_here", "_law_deep", "_law_left", "_law_k"], ["_law_draw_here", "_law_deep", "_law_left"])
/-- _law_tuple: _law_draw_here _law_found _law_k _law_left -/
def b25 : List Vb.S := [.if_ (.cmp .eq (.call 23 [.var 0, .cst (.int 9)]) (.cst (.int 0))) [.asg (.n 1) (.tup []),
   .for_ (.n 2) (.rng (.cst (.int 7))) [.asg (.n 1) (.idx (.lst [.tup [.var 1], .tup [.var 2, .var 1], .tup [.var 1, .cst (.int 0)]]) (.call 23 [.var 0, .cst (.int 3)]))],
   .ret (.var 1)] [],
  .asg (.n 3) (.lst [.cst (.int 20)]),
  .ret (.bi .tuple [.lc (.n 2) [2] (.rng (.idx (.lst [.cst (.int 0), .cst (.int 1), .cst (.int 2), .cst (.int 3), .cst (.int 6)]) (.call 23 [.var 0, .cst (.int 5)]))) none (.call 24 [.var 0, .cst (.int 7), .var 3])])]
def d25 : FD := ⟨1, 4, b25⟩
def t25 : He.DefD × List Str × List Str := (⟨("_law_tuple", none), "_law_tuple", "_law_tuple", C8.fnArgs (top 31), C8.fnBody (top 31), C8.fnScope (top 31), [], []⟩, ["_law_draw_here", "_law_found", "_law_k", "_law_left"], ["_law_draw_here"])
/-- _law_states: _law_draw_here _law_k -/
def b26 : List Vb.S := [.ret (.bi .tuple [.lc (.n 1) [1] (.rng (.idx (.lst [.cst (.int 0), .cst (.int 1), .cst (.int 2), .cst (.int 3), .cst (.int 6)]) (.call 23 [.var 0, .cst (.int 5)]))) none (.call 25 [.var 0])])]
def d26 : FD := ⟨1, 2, b26⟩
def t26 : He.DefD × List Str × List Str := (⟨("_law_states", none), "_law_states", "_law_states", C8.fnArgs (top 32), C8.fnBody (top 32), C8.fnScope (top 32), [], []⟩, ["_law_draw_here", "_law_k"], ["_law_draw_here"])
/-- _law_number: _law_draw_here -/
def b27 : List Vb.S := [.ret (.idx (.lst [.cst (.int 0), .call 23 [.var 0, .cst (.int 5)], .call 23 [.var 0, .cst (.int 10000)], .cst (.int 9999)]) (.call 23 [.var 0, .cst (.int 4)]))]
def d27 : FD := ⟨1, 1, b27⟩
def t27 : He.DefD × List Str × List Str := (⟨("_law_number", none), "_law_number", "_law_number", C8.fnArgs (top 33), C8.fnBody (top 33), C8.fnScope (top 33), [], []⟩, ["_law_draw_here"], ["_law_draw_here"])
/-- _law_goal_paper: _law_draw_here _law_owner_here -/
def b28 : List Vb.S := [.asg (.n 1) (.ife (.cmp .eq (.call 23 [.var 0, .cst (.int 3)]) (.cst (.int 0))) (.neg (.cst (.int 1))) (.call 27 [.var 0])),
  .ret (.tup [.cst (.str "follows"), .tup [.var 1, .call 27 [.var 0]], .call 26 [.var 0]])]
def d28 : FD := ⟨1, 2, b28⟩
def t28 : He.DefD × List Str × List Str := (⟨("_law_goal_paper", none), "_law_goal_paper", "_law_goal_paper", C8.fnArgs (top 34), C8.fnBody (top 34), C8.fnScope (top 34), [], []⟩, ["_law_draw_here", "_law_owner_here"], ["_law_draw_here"])
/-- _law_paper: _law_draw_here _law_way _law_blocks _law_k -/
def b29 : List Vb.S := [.asg (.n 1) (.call 23 [.var 0, .cst (.int 4)]),
  .if_ (.cmp .eq (.var 1) (.cst (.int 0))) [.ret (.tup [.cst (.str "alone"), .call 26 [.var 0]])] [],
  .if_ (.cmp .eq (.var 1) (.cst (.int 1))) [.ret (.tup [.cst (.str "whole"), .call 26 [.var 0]])] [],
  .if_ (.cmp .eq (.var 1) (.cst (.int 2))) [.ret (.call 28 [.var 0])] [],
  .asg (.n 2) (.bi .tuple [.lc (.n 3) [3] (.rng (.call 23 [.var 0, .cst (.int 4)])) none (.tup [.cst (.str "alone"), .call 26 [.var 0]])]),
  .ret (.tup [.cst (.str "parts"), .var 2, .bi .tuple [.lc (.n 3) [3] (.rng (.call 23 [.var 0, .cst (.int 4)])) none (.call 28 [.var 0])]])]
def d29 : FD := ⟨1, 4, b29⟩
def t29 : He.DefD × List Str × List Str := (⟨("_law_paper", none), "_law_paper", "_law_paper", C8.fnArgs (top 35), C8.fnBody (top 35), C8.fnScope (top 35), [], []⟩, ["_law_draw_here", "_law_way", "_law_blocks", "_law_k"], ["_law_draw_here"])
/-- _law_run: _law_draw_here _law_run_here _law_owner_here -/
def b30 : List Vb.S := [.asg (.n 1) (.bi .list [.call 26 [.var 0]]),
  .if_ (.cmp .eq (.call 23 [.var 0, .cst (.int 2)]) (.cst (.int 0))) [.ret (.tup [.var 1, .cst (.non)])] [],
  .asg (.n 2) (.ife (.cmp .eq (.call 23 [.var 0, .cst (.int 3)]) (.cst (.int 0))) (.neg (.cst (.int 1))) (.call 27 [.var 0])),
  .ret (.tup [.var 1, .tup [.call 27 [.var 0], .var 2, .idx (.lst [.cst (.str "need"), .cst (.str "promise")]) (.call 23 [.var 0, .cst (.int 2)]), .call 27 [.var 0]]])]
def d30 : FD := ⟨1, 3, b30⟩
def t30 : He.DefD × List Str × List Str := (⟨("_law_run", none), "_law_run", "_law_run", C8.fnArgs (top 36), C8.fnBody (top 36), C8.fnScope (top 36), [], []⟩, ["_law_draw_here", "_law_run_here", "_law_owner_here"], ["_law_draw_here"])
/-- _law_thing_text: _law_thing_here _law_part -/
def b31 : List Vb.S := [.if_ (.val (.isi (.var 0) .int)) [.ret (.bi .str [.var 0])] [],
  .ret (.bm .join (.cst (.str " ")) [.bin .add (.bin .add (.lst [.cst (.str "(")]) (.lc (.n 1) [1] (.e (.var 0)) none (.call 31 [.var 1]))) (.lst [.cst (.str ")")])])]
def d31 : FD := ⟨1, 2, b31⟩
def t31 : He.DefD × List Str × List Str := (⟨("_law_thing_text", none), "_law_thing_text", "_law_thing_text", C8.fnArgs (top 37), C8.fnBody (top 37), C8.fnScope (top 37), [], []⟩, ["_law_thing_here", "_law_part"], ["_law_thing_here"])
/-- _law_owner: _law_owner_here -/
def b32 : List Vb.S := [.ret (.ife (.cmp .ge (.var 0) (.cst (.int 0))) (.bi .str [.var 0]) (.cst (.str "-")))]
def d32 : FD := ⟨1, 1, b32⟩
def t32 : He.DefD × List Str × List Str := (⟨("_law_owner", none), "_law_owner", "_law_owner", C8.fnArgs (top 38), C8.fnBody (top 38), C8.fnScope (top 38), [], []⟩, ["_law_owner_here"], ["_law_owner_here"])
/-- _law_paper_rows: _law_paper_here _law_found _law_part _law_head _law_state -/
def b33 : List Vb.S := [.if_ (.cmp .eq (.idx (.var 0) (.cst (.int 0))) (.cst (.str "parts"))) [.asg (.n 1) (.lst [.cst (.str "parts")]),
   .for_ (.n 2) (.e (.bin .add (.bi .list [.idx (.var 0) (.cst (.int 1))]) (.bi .list [.idx (.var 0) (.cst (.int 2))]))) [.asg (.n 1) (.bin .add (.var 1) (.call 33 [.var 2]))],
   .ret (.var 1)] [],
  .asg (.n 3) (.idx (.var 0) (.cst (.int 0))),
  .if_ (.cmp .eq (.var 3) (.cst (.str "follows"))) [.asg (.n 3) (.bin .add (.bin .add (.bin .add (.cst (.str "follows ")) (.call 32 [.idx (.idx (.var 0) (.cst (.int 1))) (.cst (.int 0))])) (.cst (.str " "))) (.bi .str [.idx (.idx (.var 0) (.cst (.int 1))) (.cst (.int 1))]))] [],
  .ret (.bin .add (.lst [.var 3]) (.lc (.n 4) [4] (.e (.idx (.var 0) (.neg (.cst (.int 1))))) none (.call 31 [.var 4])))]
def d33 : FD := ⟨1, 5, b33⟩
def t33 : He.DefD × List Str × List Str := (⟨("_law_paper_rows", none), "_law_paper_rows", "_law_paper_rows", C8.fnArgs (top 39), C8.fnBody (top 39), C8.fnScope (top 39), [], []⟩, ["_law_paper_here", "_law_found", "_law_part", "_law_head", "_law_state"], ["_law_paper_here"])
/-- _law_run_rows: _law_run_here _law_found _law_rows _law_beat -/
def b34 : List Vb.S := [.asg (.n 2) (.bin .add (.lst [.cst (.str "run")]) (.lc (.n 3) [3] (.e (.var 0)) none (.call 31 [.var 3]))),
  .if_ (.cmp .isn (.var 1) (.cst (.non))) [.ret (.var 2)] [],
  .ret (.bin .add (.var 2) (.lst [.bm .join (.cst (.str " ")) [.lst [.cst (.str "break"), .bi .str [.idx (.var 1) (.cst (.int 0))], .call 32 [.idx (.var 1) (.cst (.int 1))], .idx (.var 1) (.cst (.int 2)), .bi .str [.idx (.var 1) (.cst (.int 3))]]]]))]
def d34 : FD := ⟨2, 4, b34⟩
def t34 : He.DefD × List Str × List Str := (⟨("_law_run_rows", none), "_law_run_rows", "_law_run_rows", C8.fnArgs (top 40), C8.fnBody (top 40), C8.fnScope (top 40), [], []⟩, ["_law_run_here", "_law_found", "_law_rows", "_law_beat"], ["_law_run_here", "_law_found"])
/-- _law_run_right: _law_run_here _law_found _law_handed _law_text _law_turn _law_told -/
def b35 : List Vb.S := [.asg (.n 2) (.bi .list [.var 0]),
  .asg (.n 3) (.bm .join (.cst (.str "\n")) [.call 34 [.var 0, .var 1]]),
  .if_ (.or (.cmp .ne (.call 19 [.var 2, .var 1]) (.var 3)) (.cmp .ne (.var 2) (.var 0))) [.ret (.cst (.bl false))] [],
  .for_ (.n 4) (.rng (.cst (.int 2))) [.asg (.n 5) (.call 20 [.var 3]),
   .if_ (.cmp .ne (.bi .repr [.var 5]) (.bi .repr [.tup [.var 0, .var 1]])) [.ret (.cst (.bl false))] [],
   .expr (.bm .append (.idx (.var 5) (.cst (.int 0))) [.cst (.non)])],
  .ret (.cst (.bl true))]
def d35 : FD := ⟨2, 6, b35⟩
def t35 : He.DefD × List Str × List Str := (⟨("_law_run_right", none), "_law_run_right", "_law_run_right", C8.fnArgs (top 41), C8.fnBody (top 41), C8.fnScope (top 41), [], []⟩, ["_law_run_here", "_law_found", "_law_handed", "_law_text", "_law_turn", "_law_told"], ["_law_run_here", "_law_found"])
/-- law: _law_script _law_k _law_draw_here _law_thing_here _law_text _law_paper_here _law_run_here _law_found -/
def b36 : List Vb.S := [.for_ (.n 1) (.rng (.bi .max2 [.cst (.int 1), .bi .min2 [.cst (.int 63), .bi .len [.var 0]]])) [.asg (.n 2) (.call 22 [.var 0, .var 1]),
   .for_ (.n 3) (.e (.tup [.call 25 [.var 2], .call 27 [.var 2]])) [.asg (.n 4) (.call 31 [.var 3]),
    .if_ (.or (.cmp .ne (.call 2 [.var 3]) (.var 4)) (.cmp .ne (.bi .repr [.call 5 [.var 4]]) (.bi .repr [.var 3]))) [.ret (.cst (.bl false))] []],
   .asg (.n 5) (.call 29 [.var 2]),
   .asg (.n 4) (.bm .join (.cst (.str "\n")) [.call 33 [.var 5]]),
   .if_ (.or (.cmp .ne (.call 9 [.var 5]) (.var 4)) (.cmp .ne (.bi .repr [.call 18 [.var 4]]) (.bi .repr [.var 5]))) [.ret (.cst (.bl false))] [],
   .asg (.t [6, 7]) (.call 30 [.var 2]),
   .if_ (.not (.val (.call 35 [.var 6, .var 7]))) [.ret (.cst (.bl false))] []],
  .ret (.cst (.bl true))]
def d36 : FD := ⟨1, 8, b36⟩
def t36 : He.DefD × List Str × List Str := (⟨("law", none), "law", "law", C8.fnArgs (top 42), C8.fnBody (top 42), C8.fnScope (top 42), [], []⟩, ["_law_script", "_law_k", "_law_draw_here", "_law_thing_here", "_law_text", "_law_paper_here", "_law_run_here", "_law_found"], ["_law_script"])
/-! ### the tables -/
def classes : List (Str × KD) := [("Reading", ⟨some 12, [(0, 13), (1, 14), (2, 15), (3, 16), (4, 17)], [0, 1]⟩)]
def pt : PT where
  ds := [t0, t1, t2, t3, t4, t5, t6, t7, t8, t9, t10, t11, t12, t13, t14, t15, t16, t17, t18, t19, t20, t21, t22, t23, t24, t25, t26, t27, t28, t29, t30, t31, t32, t33, t34, t35, t36]
  gf := [("is_whole", 0), ("thing_words", 1), ("thing_text", 2), ("number_in", 3), ("thing_in", 4), ("thing_of", 5), ("owner_word", 6), ("owner_in", 7), ("paper_rows", 8), ("paper_text", 9), ("head_in", 10), ("break_in", 11), ("paper_of", 18), ("run_text", 19), ("run_of", 20), ("_law_mixed", 21), ("_law_draw", 22), ("_law_next", 23), ("_law_thing", 24), ("_law_tuple", 25), ("_law_states", 26), ("_law_number", 27), ("_law_goal_paper", 28), ("_law_paper", 29), ("_law_run", 30), ("_law_thing_text", 31), ("_law_owner", 32), ("_law_paper_rows", 33), ("_law_run_rows", 34), ("_law_run_right", 35), ("law", 36)]
  cs := classes
  gc := [("Reading", 0)]
  an := ["rows", "at"]
  mn := ["is_over", "need", "tuples", "one_paper", "all_papers"]
  gl := [("OUTSIDE", .int (-1)), ("FIGURES", .str "0123456789"), ("MOST_FIGURES", .int 4), ("MOST_DEEP", .int 8), ("KINDS", .tup [.str "need", .str "promise"])]
  n := 40
def Pr : Prog := ⟨[d0, d1, d2, d3, d4, d5, d6, d7, d8, d9, d10, d11, d12, d13, d14, d15, d16, d17, d18, d19, d20, d21, d22, d23, d24, d25, d26, d27, d28, d29, d30, d31, d32, d33, d34, d35, d36], classes.map (·.2), ⟨fun _ _ => false, fun _ => none⟩, 1000000⟩
def loose : List Str := (["VowError", "BadText", "is_whole", "OUTSIDE", "FIGURES", "MOST_FIGURES", "MOST_DEEP", "KINDS", "thing_words", "thing_text", "number_in", "thing_in", "thing_of", "owner_word", "owner_in", "paper_rows", "paper_text", "head_in", "break_in", "Reading", "paper_of", "run_text", "run_of", "_law_mixed", "_law_draw", "_law_next", "_law_thing", "_law_tuple", "_law_states", "_law_number"] : List Str) ++ (["_law_goal_paper", "_law_paper", "_law_run", "_law_thing_text", "_law_owner", "_law_paper_rows", "_law_run_rows", "_law_run_right"] : List Str)
end V87
namespace V87
open PySem PySem.Spec PyProof.Rows L2 Vb
theorem pt_ok : pt.ok = true := by decide +kernel
theorem fns_ok : Pr.fns = pt.ts.map (fdOf pt.B pt.n) := by rfl
end V87

set_option Elab.async false
set_option linter.all false
set_option maxRecDepth 100000
set_option maxHeartbeats 0
namespace V87
open PySem PySem.Spec PyProof.Rows L2 Vb
abbrev hk : PySem.W.Hook := hookV 5 pt.fa pt.defs pt.tb
def ob (s : PySem.W.SharedT) : He.AlD × Bool := obsVG 5 pt.fa pt.defs pt.tb (HandSHeadRun.getT s)
theorem ob_eq (s : PySem.W.SharedT) : ob s = hk.obs s.abs := obsV_eq (HandSHeadRun.getT_eq s)
theorem run (w : World) : HandSHeadRun.RunEq R (PySem.W.view R.prog [42]) hk ob 4000 loose w := by
  intro os
  kernel_rfl
end V87

set_option Elab.async false
set_option linter.all false
set_option maxRecDepth 100000
set_option maxHeartbeats 2000000
namespace V87
open PySem Vb
/-! ### things, their words -/
def numS (i : Int) : Str := Str.ofString (toString i)
def wT : Nat → PV → List Str
  | _, .int i => [numS i]
  | d + 1, .tup xs => ("(" : Str) :: (xs.flatMap (wT d) ++ [(")" : Str)])
  | _, _ => []
def isT : Nat → PV → Prop
  | _, .int i => 0 ≤ i ∧ i ≤ 9999
  | d + 1, .tup xs => ∀ x ∈ xs, isT d x
  | _, _ => False
def wt : Nat → PV → Nat
  | d + 1, .tup xs => 1 + (xs.map (wt d)).sum
  | _, _ => 1
theorem isT_cases {d : Nat} {v : PV} (h : isT d v) : (∃ i, v = .int i ∧ 0 ≤ i ∧ i ≤ 9999) ∨ ∃ e xs, d = e + 1 ∧ v = .tup xs ∧ ∀ x ∈ xs, isT e x := by
  cases v with
  | int i => cases d <;> exact .inl ⟨i, rfl, h⟩
  | tup xs => cases d with
    | zero => exact False.elim h
    | succ e => exact .inr ⟨e, xs, rfl, rfl, h⟩
  | _ => cases d <;> exact False.elim h
theorem wt_pos (d : Nat) (v : PV) : 0 < wt d v := by
  cases d <;> cases v <;> simp only [wt] <;> omega
theorem wT_int (d : Nat) (i : Int) : wT d (.int i) = [numS i] := by cases d <;> rfl
theorem wt_int (d : Nat) (i : Int) : wt d (.int i) = 1 := by cases d <;> rfl
theorem sum_le {α : Type} {f g : α → Nat} : ∀ {l : List α}, (∀ x ∈ l, f x ≤ g x) → (l.map f).sum ≤ (l.map g).sum
  | [], _ => Nat.le_refl _
  | x :: l, h => by
    have a := h x List.mem_cons_self
    have b := sum_le (l := l) fun y hy => h y (List.mem_cons_of_mem _ hy)
    simp only [List.map_cons, List.sum_cons]
    omega
theorem sum_mul {α : Type} {f : α → Nat} {c : Nat} : ∀ {l : List α}, (l.map fun x => c * f x).sum = c * (l.map f).sum
  | [] => rfl
  | x :: l => by
    simp only [List.map_cons, List.sum_cons, sum_mul (l := l), Nat.mul_add]
theorem sum_at {α : Type} {f : α → Nat} {a b : List α} {x : α} : ((a ++ x :: b).map f).sum = (a.map f).sum + f x + (b.map f).sum := by
  simp only [List.map_append, List.map_cons, List.sum_append, List.sum_cons]
  omega
theorem sum_ones {α : Type} : ∀ {l : List α}, (l.map fun _ => 1).sum = l.length
  | [] => rfl
  | x :: l => by simp only [List.map_cons, List.sum_cons, sum_ones (l := l), List.length_cons]; omega
theorem wT_len : ∀ (d : Nat) (v : PV), (wT d v).length ≤ 2 * wt d v
  | d, .int i => by rw [wT_int, wt_int]; simp
  | d + 1, .tup xs => by
    simp only [wT, wt, List.length_cons, List.length_append, List.length_flatMap, List.length_nil]
    have := sum_le (l := xs) (f := fun x => (wT d x).length) (g := fun x => 2 * wt d x) fun x _ => wT_len d x
    rw [sum_mul] at this
    omega
  | 0, .tup _ => by simp [wT]
  | 0, .non => by simp [wT]
  | 0, .bl _ => by simp [wT]
  | 0, .str _ => by simp [wT]
  | 0, .ref _ => by simp [wT]
  | d + 1, .non => by simp [wT]
  | d + 1, .bl _ => by simp [wT]
  | d + 1, .str _ => by simp [wT]
  | d + 1, .ref _ => by simp [wT]
theorem numS_eq {i : Int} (h : 0 ≤ i) : numS i = Str.ofString (toString ((i.toNat : Nat) : Int)) := by
  unfold numS; rw [Int.toNat_of_nonneg h]
theorem tl_numS {i : Int} (h : 0 ≤ i) : TL.tl (numS i) = TL.numL i.toNat := by rw [numS_eq h]; exact TL.tl_num _
theorem numS_len {i : Int} (h : 0 ≤ i) (h2 : i ≤ 9999) : (numS i).length ≤ 4 := by
  rw [TL.len_tl, tl_numS h]
  exact TL.numL_len (by decide) (by omega)
theorem wT_mem : ∀ (d : Nat) (v : PV), isT d v → ∀ w ∈ wT d v, w = "(" ∨ w = ")" ∨ ∃ i : Int, w = numS i ∧ 0 ≤ i ∧ i ≤ 9999 := by
  intro d
  induction d with
  | zero =>
    intro v h w hw
    rcases isT_cases h with ⟨i, rfl, h1⟩ | ⟨e, xs, h0, _⟩
    · rw [wT_int] at hw
      exact .inr (.inr ⟨i, List.mem_singleton.mp hw, h1⟩)
    · cases h0
  | succ d ih =>
    intro v h w hw
    rcases isT_cases h with ⟨i, rfl, h1⟩ | ⟨e, xs, h0, rfl, h1⟩
    · rw [wT_int] at hw
      exact .inr (.inr ⟨i, List.mem_singleton.mp hw, h1⟩)
    · cases h0
      simp only [wT, List.mem_cons, List.mem_append, List.mem_flatMap, List.not_mem_nil, or_false] at hw
      rcases hw with rfl | ⟨x, hx, hw⟩ | rfl
      · exact .inl rfl
      · exact ih x (h1 x hx) w hw
      · exact .inr (.inl rfl)
theorem word_len {w : Str} (h : w = "(" ∨ w = ")" ∨ ∃ i : Int, w = numS i ∧ 0 ≤ i ∧ i ≤ 9999) : w.length ≤ 4 := by
  rcases h with rfl | rfl | ⟨i, rfl, h1, h2⟩
  · decide
  · decide
  · exact numS_len h1 h2
theorem sum_le_mul {l : List Nat} {c : Nat} (h : ∀ x ∈ l, x ≤ c) : l.sum ≤ c * l.length := by
  induction l with
  | nil => simp
  | cons x l ih =>
    have a := h x List.mem_cons_self
    have b := ih fun y hy => h y (List.mem_cons_of_mem _ hy)
    simp only [List.sum_cons, List.length_cons, Nat.mul_add]
    omega
theorem wT_sum {d : Nat} {v : PV} (h : isT d v) : ((wT d v).map (·.length)).sum + (wT d v).length * 1 ≤ 10 * wt d v := by
  have a := sum_le_mul (l := (wT d v).map (·.length)) (c := 4) fun x hx => by
    obtain ⟨w, hw, rfl⟩ := List.mem_map.mp hx
    exact word_len (wT_mem d v h w hw)
  have b := wT_len d v
  rw [List.length_map] at a
  omega
theorem wT_ne {d : Nat} {v : PV} (h : isT d v) : wT d v ≠ [] := by
  rcases isT_cases h with ⟨i, rfl, _⟩ | ⟨e, xs, rfl, rfl, _⟩
  · rw [wT_int]; simp
  · simp [wT]
/-! ### the program's words -/
theorem sp0 (n : Nat) (i : Int) (h : MH) : callF Pr (n + 1) 0 [.int i] h = .ok (.bl true) h := by
  rw [callF_at (d := d0) rfl rfl]
  show finF (execs (cbK Pr n) Pr.xt Pr.wl b0 [some (.int i)] h) = _
  unfold b0
  try simp only [Vb.execs, Vb.exec, Vb.evalE, Vb.evalEs, Vb.evalT, Vb.evalI, Vb.evalO, Vb.evalOT, Vb.asgS, Vb.bind_ok, Vb.bind_assoc, Vb.then_ok, Vb.then_bind, Vb.next_then, Vb.next_next, Vb.next_nx, Vb.next_rt, Vb.next_bk, Vb.next_ct, Vb.fin_then, Vb.fin_rt, Vb.fin_nx, Vb.opt_some, Vb.cb_fn, Vb.cb_cls, Vb.gl0, Vb.gls, List.getElem?_cons_zero, List.getElem?_cons_succ, List.set_cons_zero, List.set_cons_succ, Vb.storeTg, Vb.storeAll, Option.map_some, List.length_cons, List.length_nil, Nat.zero_add, Nat.reduceAdd, Vb.ln0, Vb.ln1, Vb.ln2, Vb.ln3, Vb.ln4, Vb.ln5, Vb.ln6, if_true, Vb.newObj, Vb.it_tup, Vb.it_ref, Vb.it_str, Vb.ty_join, Vb.ty_split, Vb.ty_append, Vb.ty_extend, Vb.ty_pop, Option.isSome_some, List.map_cons, List.map_nil, Bool.false_eq_true, if_false, Vb.tr_bl, Vb.wipeL, decide_true, decide_false, Bool.not_true, Bool.not_false, Vb.b_add, Vb.b_sub, Vb.c_lt, Vb.c_le, Vb.c_gt, Vb.c_ge, Vb.c_eq_int, Vb.c_ne_int, Vb.c_isn_non, Vb.c_isn_int, Vb.c_isn_tup, Vb.c_notn_non, Vb.c_notn_int, Vb.c_notn_tup, Vb.ix_tup, Vb.bi_list_tup, Vb.isi_int_non, Vb.isi_int_bl, Vb.isi_int_int, Vb.isi_int_str, Vb.isi_int_tup, Vb.isi_int_ref, Vb.isi_bool_non, Vb.isi_bool_bl, Vb.isi_bool_int, Vb.isi_bool_str, Vb.isi_bool_tup, Vb.isi_bool_ref, Vb.isi_str_non, Vb.isi_str_bl, Vb.isi_str_int, Vb.isi_str_str, Vb.isi_str_tup, Vb.isi_str_ref, Vb.isi_tup_non, Vb.isi_tup_bl, Vb.isi_tup_int, Vb.isi_tup_str, Vb.isi_tup_tup, Vb.isi_tup_ref, Vb.isi_lst_non, Vb.isi_lst_bl, Vb.isi_lst_int, Vb.isi_lst_str, Vb.isi_lst_tup, Vb.isi_lst_ref, isiS]
  rfl
theorem sp0t (n : Nat) (i : List PV) (h : MH) : callF Pr (n + 1) 0 [.tup i] h = .ok (.bl false) h := by
  rw [callF_at (d := d0) rfl rfl]
  show finF (execs (cbK Pr n) Pr.xt Pr.wl b0 [some (.tup i)] h) = _
  unfold b0
  try simp only [Vb.execs, Vb.exec, Vb.evalE, Vb.evalEs, Vb.evalT, Vb.evalI, Vb.evalO, Vb.evalOT, Vb.asgS, Vb.bind_ok, Vb.bind_assoc, Vb.then_ok, Vb.then_bind, Vb.next_then, Vb.next_next, Vb.next_nx, Vb.next_rt, Vb.next_bk, Vb.next_ct, Vb.fin_then, Vb.fin_rt, Vb.fin_nx, Vb.opt_some, Vb.cb_fn, Vb.cb_cls, Vb.gl0, Vb.gls, List.getElem?_cons_zero, List.getElem?_cons_succ, List.set_cons_zero, List.set_cons_succ, Vb.storeTg, Vb.storeAll, Option.map_some, List.length_cons, List.length_nil, Nat.zero_add, Nat.reduceAdd, Vb.ln0, Vb.ln1, Vb.ln2, Vb.ln3, Vb.ln4, Vb.ln5, Vb.ln6, if_true, Vb.newObj, Vb.it_tup, Vb.it_ref, Vb.it_str, Vb.ty_join, Vb.ty_split, Vb.ty_append, Vb.ty_extend, Vb.ty_pop, Option.isSome_some, List.map_cons, List.map_nil, Bool.false_eq_true, if_false, Vb.tr_bl, Vb.wipeL, decide_true, decide_false, Bool.not_true, Bool.not_false, Vb.b_add, Vb.b_sub, Vb.c_lt, Vb.c_le, Vb.c_gt, Vb.c_ge, Vb.c_eq_int, Vb.c_ne_int, Vb.c_isn_non, Vb.c_isn_int, Vb.c_isn_tup, Vb.c_notn_non, Vb.c_notn_int, Vb.c_notn_tup, Vb.ix_tup, Vb.bi_list_tup, Vb.isi_int_non, Vb.isi_int_bl, Vb.isi_int_int, Vb.isi_int_str, Vb.isi_int_tup, Vb.isi_int_ref, Vb.isi_bool_non, Vb.isi_bool_bl, Vb.isi_bool_int, Vb.isi_bool_str, Vb.isi_bool_tup, Vb.isi_bool_ref, Vb.isi_str_non, Vb.isi_str_bl, Vb.isi_str_int, Vb.isi_str_str, Vb.isi_str_tup, Vb.isi_str_ref, Vb.isi_tup_non, Vb.isi_tup_bl, Vb.isi_tup_int, Vb.isi_tup_str, Vb.isi_tup_tup, Vb.isi_tup_ref, Vb.isi_lst_non, Vb.isi_lst_bl, Vb.isi_lst_int, Vb.isi_lst_str, Vb.isi_lst_tup, Vb.isi_lst_ref, isiS]
  rfl
theorem small_log {i : Int} (h : 0 ≤ i) (h2 : i ≤ 9999) : i.natAbs.log2 < 1920 := by
  have : i.natAbs < 2 ^ 14 := by omega
  exact Nat.lt_of_lt_of_le (PySem.Flt.log2_lt_of (by omega) this) (by decide)
theorem str_num {i : Int} {h : MH} (h1 : 0 ≤ i) (h2 : i ≤ 9999) : biS .str [.int i] h = .ok (.str (numS i)) h := if_pos (small_log h1 h2)
def LIM : Nat := 100000
theorem hL : LIM = 100000 := rfl
theorem mem_sum {α : Type} {f : α → Nat} : ∀ {l : List α} {x : α}, x ∈ l → f x ≤ (l.map f).sum
  | y :: l, x, h => by
    simp only [List.map_cons, List.sum_cons]
    rcases List.mem_cons.mp h with rfl | h
    · omega
    · have := mem_sum (f := f) h; omega
theorem sp1 : ∀ (d : Nat) (v : PV) (k : Nat) (h : MH), isT d v → wt d v ≤ LIM → d + 2 ≤ k →
    Ok (callF Pr k 1 [v] h) fun r h' => ∃ q, r = .ref q ∧ h.length ≤ q ∧ h'[q]? = some (.lst ((wT d v).map .str)) ∧ Keep [] h h' := by
  intro d
  induction d with
  | zero =>
    intro v k h hv hw hk
    rcases isT_cases hv with ⟨i, rfl, h1, h2⟩ | ⟨e, xs, h0, _⟩
    · obtain ⟨n, rfl⟩ : ∃ n, k = n + 2 := ⟨k - 2, by omega⟩
      rw [callF_at (d := d1) rfl rfl]
      show Ok (finF (execs (cbK Pr (n + 1)) Pr.xt Pr.wl b1 [some (.int i), none, none] h)) _
      unfold b1
      try simp only [Vb.execs, Vb.exec, Vb.evalE, Vb.evalEs, Vb.evalT, Vb.evalI, Vb.evalO, Vb.evalOT, Vb.asgS, Vb.bind_ok, Vb.bind_assoc, Vb.then_ok, Vb.then_bind, Vb.next_then, Vb.next_next, Vb.next_nx, Vb.next_rt, Vb.next_bk, Vb.next_ct, Vb.fin_then, Vb.fin_rt, Vb.fin_nx, Vb.opt_some, Vb.cb_fn, Vb.cb_cls, Vb.gl0, Vb.gls, List.getElem?_cons_zero, List.getElem?_cons_succ, List.set_cons_zero, List.set_cons_succ, Vb.storeTg, Vb.storeAll, Option.map_some, List.length_cons, List.length_nil, Nat.zero_add, Nat.reduceAdd, Vb.ln0, Vb.ln1, Vb.ln2, Vb.ln3, Vb.ln4, Vb.ln5, Vb.ln6, if_true, Vb.newObj, Vb.it_tup, Vb.it_ref, Vb.it_str, Vb.ty_join, Vb.ty_split, Vb.ty_append, Vb.ty_extend, Vb.ty_pop, Option.isSome_some, List.map_cons, List.map_nil, Bool.false_eq_true, if_false, Vb.tr_bl, Vb.wipeL, decide_true, decide_false, Bool.not_true, Bool.not_false, Vb.b_add, Vb.b_sub, Vb.c_lt, Vb.c_le, Vb.c_gt, Vb.c_ge, Vb.c_eq_int, Vb.c_ne_int, Vb.c_isn_non, Vb.c_isn_int, Vb.c_isn_tup, Vb.c_notn_non, Vb.c_notn_int, Vb.c_notn_tup, Vb.ix_tup, Vb.bi_list_tup, Vb.isi_int_non, Vb.isi_int_bl, Vb.isi_int_int, Vb.isi_int_str, Vb.isi_int_tup, Vb.isi_int_ref, Vb.isi_bool_non, Vb.isi_bool_bl, Vb.isi_bool_int, Vb.isi_bool_str, Vb.isi_bool_tup, Vb.isi_bool_ref, Vb.isi_str_non, Vb.isi_str_bl, Vb.isi_str_int, Vb.isi_str_str, Vb.isi_str_tup, Vb.isi_str_ref, Vb.isi_tup_non, Vb.isi_tup_bl, Vb.isi_tup_int, Vb.isi_tup_str, Vb.isi_tup_tup, Vb.isi_tup_ref, Vb.isi_lst_non, Vb.isi_lst_bl, Vb.isi_lst_int, Vb.isi_lst_str, Vb.isi_lst_tup, Vb.isi_lst_ref, sp0, str_num h1 h2]
      exact .ret ⟨_, rfl, Nat.le_refl _, by rw [wT_int]; exact get_new, .push _⟩
    · cases h0
  | succ d ih =>
    intro v k h hv hw hk
    obtain ⟨n, rfl⟩ : ∃ n, k = n + 2 := ⟨k - 2, by omega⟩
    rw [callF_at (d := d1) rfl rfl]
    show Ok (finF (execs (cbK Pr (n + 1)) Pr.xt Pr.wl b1 [some v, none, none] h)) _
    unfold b1
    rcases isT_cases hv with ⟨i, rfl, h1, h2⟩ | ⟨e, xs, h0, rfl, h1⟩
    · try simp only [Vb.execs, Vb.exec, Vb.evalE, Vb.evalEs, Vb.evalT, Vb.evalI, Vb.evalO, Vb.evalOT, Vb.asgS, Vb.bind_ok, Vb.bind_assoc, Vb.then_ok, Vb.then_bind, Vb.next_then, Vb.next_next, Vb.next_nx, Vb.next_rt, Vb.next_bk, Vb.next_ct, Vb.fin_then, Vb.fin_rt, Vb.fin_nx, Vb.opt_some, Vb.cb_fn, Vb.cb_cls, Vb.gl0, Vb.gls, List.getElem?_cons_zero, List.getElem?_cons_succ, List.set_cons_zero, List.set_cons_succ, Vb.storeTg, Vb.storeAll, Option.map_some, List.length_cons, List.length_nil, Nat.zero_add, Nat.reduceAdd, Vb.ln0, Vb.ln1, Vb.ln2, Vb.ln3, Vb.ln4, Vb.ln5, Vb.ln6, if_true, Vb.newObj, Vb.it_tup, Vb.it_ref, Vb.it_str, Vb.ty_join, Vb.ty_split, Vb.ty_append, Vb.ty_extend, Vb.ty_pop, Option.isSome_some, List.map_cons, List.map_nil, Bool.false_eq_true, if_false, Vb.tr_bl, Vb.wipeL, decide_true, decide_false, Bool.not_true, Bool.not_false, Vb.b_add, Vb.b_sub, Vb.c_lt, Vb.c_le, Vb.c_gt, Vb.c_ge, Vb.c_eq_int, Vb.c_ne_int, Vb.c_isn_non, Vb.c_isn_int, Vb.c_isn_tup, Vb.c_notn_non, Vb.c_notn_int, Vb.c_notn_tup, Vb.ix_tup, Vb.bi_list_tup, Vb.isi_int_non, Vb.isi_int_bl, Vb.isi_int_int, Vb.isi_int_str, Vb.isi_int_tup, Vb.isi_int_ref, Vb.isi_bool_non, Vb.isi_bool_bl, Vb.isi_bool_int, Vb.isi_bool_str, Vb.isi_bool_tup, Vb.isi_bool_ref, Vb.isi_str_non, Vb.isi_str_bl, Vb.isi_str_int, Vb.isi_str_str, Vb.isi_str_tup, Vb.isi_str_ref, Vb.isi_tup_non, Vb.isi_tup_bl, Vb.isi_tup_int, Vb.isi_tup_str, Vb.isi_tup_tup, Vb.isi_tup_ref, Vb.isi_lst_non, Vb.isi_lst_bl, Vb.isi_lst_int, Vb.isi_lst_str, Vb.isi_lst_tup, Vb.isi_lst_ref, sp0, str_num h1 h2]
      exact .ret ⟨_, rfl, Nat.le_refl _, by rw [wT_int]; exact get_new, .push _⟩
    · cases h0
      try simp only [Vb.execs, Vb.exec, Vb.evalE, Vb.evalEs, Vb.evalT, Vb.evalI, Vb.evalO, Vb.evalOT, Vb.asgS, Vb.bind_ok, Vb.bind_assoc, Vb.then_ok, Vb.then_bind, Vb.next_then, Vb.next_next, Vb.next_nx, Vb.next_rt, Vb.next_bk, Vb.next_ct, Vb.fin_then, Vb.fin_rt, Vb.fin_nx, Vb.opt_some, Vb.cb_fn, Vb.cb_cls, Vb.gl0, Vb.gls, List.getElem?_cons_zero, List.getElem?_cons_succ, List.set_cons_zero, List.set_cons_succ, Vb.storeTg, Vb.storeAll, Option.map_some, List.length_cons, List.length_nil, Nat.zero_add, Nat.reduceAdd, Vb.ln0, Vb.ln1, Vb.ln2, Vb.ln3, Vb.ln4, Vb.ln5, Vb.ln6, if_true, Vb.newObj, Vb.it_tup, Vb.it_ref, Vb.it_str, Vb.ty_join, Vb.ty_split, Vb.ty_append, Vb.ty_extend, Vb.ty_pop, Option.isSome_some, List.map_cons, List.map_nil, Bool.false_eq_true, if_false, Vb.tr_bl, Vb.wipeL, decide_true, decide_false, Bool.not_true, Bool.not_false, Vb.b_add, Vb.b_sub, Vb.c_lt, Vb.c_le, Vb.c_gt, Vb.c_ge, Vb.c_eq_int, Vb.c_ne_int, Vb.c_isn_non, Vb.c_isn_int, Vb.c_isn_tup, Vb.c_notn_non, Vb.c_notn_int, Vb.c_notn_tup, Vb.ix_tup, Vb.bi_list_tup, Vb.isi_int_non, Vb.isi_int_bl, Vb.isi_int_int, Vb.isi_int_str, Vb.isi_int_tup, Vb.isi_int_ref, Vb.isi_bool_non, Vb.isi_bool_bl, Vb.isi_bool_int, Vb.isi_bool_str, Vb.isi_bool_tup, Vb.isi_bool_ref, Vb.isi_str_non, Vb.isi_str_bl, Vb.isi_str_int, Vb.isi_str_str, Vb.isi_str_tup, Vb.isi_str_ref, Vb.isi_tup_non, Vb.isi_tup_bl, Vb.isi_tup_int, Vb.isi_tup_str, Vb.isi_tup_tup, Vb.isi_tup_ref, Vb.isi_lst_non, Vb.isi_lst_bl, Vb.isi_lst_int, Vb.isi_lst_str, Vb.isi_lst_tup, Vb.isi_lst_ref, sp0t]
      have tot : (xs.map (wt d)).sum ≤ LIM := by simp only [wt] at hw; omega
      refine SOk.finN (for_inv (fun rest lo h1 => ∃ don z, xs = don ++ rest ∧ lo = [some (.tup xs), some (.ref h.length), z] ∧ h1[h.length]? = some (.lst ((("(" : Str) :: don.flatMap (wT d)).map .str)) ∧ Keep [] h h1) (fun _ _ => False)
        (fun _ _ _ _ => trivial) ?_ _ _ _ ⟨[], none, rfl, rfl, get_new, .push _⟩) ?_
      · rintro x rest lo h1' ⟨don, z, e, rfl, e2, kp⟩
        have hx : isT d x := h1 x (by rw [e]; simp)
        have mono : ∀ y ∈ xs, wt d y ≤ LIM := fun y hy => Nat.le_trans (mem_sum hy) tot
        try simp only [Vb.execs, Vb.exec, Vb.evalE, Vb.evalEs, Vb.evalT, Vb.evalI, Vb.evalO, Vb.evalOT, Vb.asgS, Vb.bind_ok, Vb.bind_assoc, Vb.then_ok, Vb.then_bind, Vb.next_then, Vb.next_next, Vb.next_nx, Vb.next_rt, Vb.next_bk, Vb.next_ct, Vb.fin_then, Vb.fin_rt, Vb.fin_nx, Vb.opt_some, Vb.cb_fn, Vb.cb_cls, Vb.gl0, Vb.gls, List.getElem?_cons_zero, List.getElem?_cons_succ, List.set_cons_zero, List.set_cons_succ, Vb.storeTg, Vb.storeAll, Option.map_some, List.length_cons, List.length_nil, Nat.zero_add, Nat.reduceAdd, Vb.ln0, Vb.ln1, Vb.ln2, Vb.ln3, Vb.ln4, Vb.ln5, Vb.ln6, if_true, Vb.newObj, Vb.it_tup, Vb.it_ref, Vb.it_str, Vb.ty_join, Vb.ty_split, Vb.ty_append, Vb.ty_extend, Vb.ty_pop, Option.isSome_some, List.map_cons, List.map_nil, Bool.false_eq_true, if_false, Vb.tr_bl, Vb.wipeL, decide_true, decide_false, Bool.not_true, Bool.not_false, Vb.b_add, Vb.b_sub, Vb.c_lt, Vb.c_le, Vb.c_gt, Vb.c_ge, Vb.c_eq_int, Vb.c_ne_int, Vb.c_isn_non, Vb.c_isn_int, Vb.c_isn_tup, Vb.c_notn_non, Vb.c_notn_int, Vb.c_notn_tup, Vb.ix_tup, Vb.bi_list_tup, Vb.isi_int_non, Vb.isi_int_bl, Vb.isi_int_int, Vb.isi_int_str, Vb.isi_int_tup, Vb.isi_int_ref, Vb.isi_bool_non, Vb.isi_bool_bl, Vb.isi_bool_int, Vb.isi_bool_str, Vb.isi_bool_tup, Vb.isi_bool_ref, Vb.isi_str_non, Vb.isi_str_bl, Vb.isi_str_int, Vb.isi_str_str, Vb.isi_str_tup, Vb.isi_str_ref, Vb.isi_tup_non, Vb.isi_tup_bl, Vb.isi_tup_int, Vb.isi_tup_str, Vb.isi_tup_tup, Vb.isi_tup_ref, Vb.isi_lst_non, Vb.isi_lst_bl, Vb.isi_lst_int, Vb.isi_lst_str, Vb.isi_lst_tup, Vb.isi_lst_ref, seq_of e2]
        refine SOk.then_ (ih x (n + 1) h1' hx (mono x (by rw [e]; simp)) (by omega)) ?_
        rintro a h2 ⟨q, rfl, hq, e3, k2⟩
        have e4 := k2.get e2 (by simp)
        rw [bm_extend e4 e3 (line_ok (by
          have hl := hL
          have s1 := sum_at (f := wt d) (a := don) (b := rest) (x := x)
          rw [← e] at s1
          have s2 := sum_le (l := don) (f := fun x => (wT d x).length) (g := fun x => 2 * wt d x) fun x _ => wT_len d x
          rw [sum_mul] at s2
          have s3 := wT_len d x
          simp only [List.length_map, List.length_cons, List.length_flatMap]
          omega))]
        try simp only [Vb.execs, Vb.exec, Vb.evalE, Vb.evalEs, Vb.evalT, Vb.evalI, Vb.evalO, Vb.evalOT, Vb.asgS, Vb.bind_ok, Vb.bind_assoc, Vb.then_ok, Vb.then_bind, Vb.next_then, Vb.next_next, Vb.next_nx, Vb.next_rt, Vb.next_bk, Vb.next_ct, Vb.fin_then, Vb.fin_rt, Vb.fin_nx, Vb.opt_some, Vb.cb_fn, Vb.cb_cls, Vb.gl0, Vb.gls, List.getElem?_cons_zero, List.getElem?_cons_succ, List.set_cons_zero, List.set_cons_succ, Vb.storeTg, Vb.storeAll, Option.map_some, List.length_cons, List.length_nil, Nat.zero_add, Nat.reduceAdd, Vb.ln0, Vb.ln1, Vb.ln2, Vb.ln3, Vb.ln4, Vb.ln5, Vb.ln6, if_true, Vb.newObj, Vb.it_tup, Vb.it_ref, Vb.it_str, Vb.ty_join, Vb.ty_split, Vb.ty_append, Vb.ty_extend, Vb.ty_pop, Option.isSome_some, List.map_cons, List.map_nil, Bool.false_eq_true, if_false, Vb.tr_bl, Vb.wipeL, decide_true, decide_false, Bool.not_true, Bool.not_false, Vb.b_add, Vb.b_sub, Vb.c_lt, Vb.c_le, Vb.c_gt, Vb.c_ge, Vb.c_eq_int, Vb.c_ne_int, Vb.c_isn_non, Vb.c_isn_int, Vb.c_isn_tup, Vb.c_notn_non, Vb.c_notn_int, Vb.c_notn_tup, Vb.ix_tup, Vb.bi_list_tup, Vb.isi_int_non, Vb.isi_int_bl, Vb.isi_int_int, Vb.isi_int_str, Vb.isi_int_tup, Vb.isi_int_ref, Vb.isi_bool_non, Vb.isi_bool_bl, Vb.isi_bool_int, Vb.isi_bool_str, Vb.isi_bool_tup, Vb.isi_bool_ref, Vb.isi_str_non, Vb.isi_str_bl, Vb.isi_str_int, Vb.isi_str_str, Vb.isi_str_tup, Vb.isi_str_ref, Vb.isi_tup_non, Vb.isi_tup_bl, Vb.isi_tup_int, Vb.isi_tup_str, Vb.isi_tup_tup, Vb.isi_tup_ref, Vb.isi_lst_non, Vb.isi_lst_bl, Vb.isi_lst_int, Vb.isi_lst_str, Vb.isi_lst_tup, Vb.isi_lst_ref]
        refine .ret ⟨don ++ [x], some x, by rw [e]; simp, rfl, ?_, (kp.trans k2).put (.inr (Nat.le_refl _)) _⟩
        rw [get_set e4]
        simp
      · rintro fl h2 q
        cases fl with
        | nx lo =>
          obtain ⟨don, z, e, rfl, e2, kp⟩ := q
          rw [List.append_nil] at e
          subst e
          try simp only [Vb.execs, Vb.exec, Vb.evalE, Vb.evalEs, Vb.evalT, Vb.evalI, Vb.evalO, Vb.evalOT, Vb.asgS, Vb.bind_ok, Vb.bind_assoc, Vb.then_ok, Vb.then_bind, Vb.next_then, Vb.next_next, Vb.next_nx, Vb.next_rt, Vb.next_bk, Vb.next_ct, Vb.fin_then, Vb.fin_rt, Vb.fin_nx, Vb.opt_some, Vb.cb_fn, Vb.cb_cls, Vb.gl0, Vb.gls, List.getElem?_cons_zero, List.getElem?_cons_succ, List.set_cons_zero, List.set_cons_succ, Vb.storeTg, Vb.storeAll, Option.map_some, List.length_cons, List.length_nil, Nat.zero_add, Nat.reduceAdd, Vb.ln0, Vb.ln1, Vb.ln2, Vb.ln3, Vb.ln4, Vb.ln5, Vb.ln6, if_true, Vb.newObj, Vb.it_tup, Vb.it_ref, Vb.it_str, Vb.ty_join, Vb.ty_split, Vb.ty_append, Vb.ty_extend, Vb.ty_pop, Option.isSome_some, List.map_cons, List.map_nil, Bool.false_eq_true, if_false, Vb.tr_bl, Vb.wipeL, decide_true, decide_false, Bool.not_true, Bool.not_false, Vb.b_add, Vb.b_sub, Vb.c_lt, Vb.c_le, Vb.c_gt, Vb.c_ge, Vb.c_eq_int, Vb.c_ne_int, Vb.c_isn_non, Vb.c_isn_int, Vb.c_isn_tup, Vb.c_notn_non, Vb.c_notn_int, Vb.c_notn_tup, Vb.ix_tup, Vb.bi_list_tup, Vb.isi_int_non, Vb.isi_int_bl, Vb.isi_int_int, Vb.isi_int_str, Vb.isi_int_tup, Vb.isi_int_ref, Vb.isi_bool_non, Vb.isi_bool_bl, Vb.isi_bool_int, Vb.isi_bool_str, Vb.isi_bool_tup, Vb.isi_bool_ref, Vb.isi_str_non, Vb.isi_str_bl, Vb.isi_str_int, Vb.isi_str_str, Vb.isi_str_tup, Vb.isi_str_ref, Vb.isi_tup_non, Vb.isi_tup_bl, Vb.isi_tup_int, Vb.isi_tup_str, Vb.isi_tup_tup, Vb.isi_tup_ref, Vb.isi_lst_non, Vb.isi_lst_bl, Vb.isi_lst_int, Vb.isi_lst_str, Vb.isi_lst_tup, Vb.isi_lst_ref]
          rw [bin_lists (Keep.get (S := []) (.push _) e2 (by simp)) get_new (line_ok (by
            have hl := hL
            have s2 := sum_le (l := xs) (f := fun x => (wT d x).length) (g := fun x => 2 * wt d x) fun x _ => wT_len d x
            rw [sum_mul] at s2
            simp only [List.length_map, List.length_cons, List.length_flatMap, List.length_nil]
            omega))]
          try simp only [Vb.execs, Vb.exec, Vb.evalE, Vb.evalEs, Vb.evalT, Vb.evalI, Vb.evalO, Vb.evalOT, Vb.asgS, Vb.bind_ok, Vb.bind_assoc, Vb.then_ok, Vb.then_bind, Vb.next_then, Vb.next_next, Vb.next_nx, Vb.next_rt, Vb.next_bk, Vb.next_ct, Vb.fin_then, Vb.fin_rt, Vb.fin_nx, Vb.opt_some, Vb.cb_fn, Vb.cb_cls, Vb.gl0, Vb.gls, List.getElem?_cons_zero, List.getElem?_cons_succ, List.set_cons_zero, List.set_cons_succ, Vb.storeTg, Vb.storeAll, Option.map_some, List.length_cons, List.length_nil, Nat.zero_add, Nat.reduceAdd, Vb.ln0, Vb.ln1, Vb.ln2, Vb.ln3, Vb.ln4, Vb.ln5, Vb.ln6, if_true, Vb.newObj, Vb.it_tup, Vb.it_ref, Vb.it_str, Vb.ty_join, Vb.ty_split, Vb.ty_append, Vb.ty_extend, Vb.ty_pop, Option.isSome_some, List.map_cons, List.map_nil, Bool.false_eq_true, if_false, Vb.tr_bl, Vb.wipeL, decide_true, decide_false, Bool.not_true, Bool.not_false, Vb.b_add, Vb.b_sub, Vb.c_lt, Vb.c_le, Vb.c_gt, Vb.c_ge, Vb.c_eq_int, Vb.c_ne_int, Vb.c_isn_non, Vb.c_isn_int, Vb.c_isn_tup, Vb.c_notn_non, Vb.c_notn_int, Vb.c_notn_tup, Vb.ix_tup, Vb.bi_list_tup, Vb.isi_int_non, Vb.isi_int_bl, Vb.isi_int_int, Vb.isi_int_str, Vb.isi_int_tup, Vb.isi_int_ref, Vb.isi_bool_non, Vb.isi_bool_bl, Vb.isi_bool_int, Vb.isi_bool_str, Vb.isi_bool_tup, Vb.isi_bool_ref, Vb.isi_str_non, Vb.isi_str_bl, Vb.isi_str_int, Vb.isi_str_str, Vb.isi_str_tup, Vb.isi_str_ref, Vb.isi_tup_non, Vb.isi_tup_bl, Vb.isi_tup_int, Vb.isi_tup_str, Vb.isi_tup_tup, Vb.isi_tup_ref, Vb.isi_lst_non, Vb.isi_lst_bl, Vb.isi_lst_int, Vb.isi_lst_str, Vb.isi_lst_tup, Vb.isi_lst_ref]
          refine .ret ⟨_, rfl, ?_, ?_, kp.trans ((Keep.push _).trans (.push _))⟩
          · have := kp.len; simp; omega
          · rw [get_new]; simp [wT]
        | _ => exact q.elim
/-- thing_text -/
theorem sp2 {d : Nat} {v : PV} {k : Nat} (h : MH) (hv : isT d v) (hw : wt d v ≤ LIM) (hk : d + 3 ≤ k) : Ok (callF Pr k 2 [v] h) fun r h' => r = .str (Txt.join " " (wT d v)) ∧ Keep [] h h' := by
  obtain ⟨n, rfl⟩ : ∃ n, k = n + 1 := ⟨k - 1, by omega⟩
  rw [callF_at (d := d2) rfl rfl]
  show Ok (finF (execs (cbK Pr n) Pr.xt Pr.wl b2 [some v] h)) _
  unfold b2
  try simp only [Vb.execs, Vb.exec, Vb.evalE, Vb.evalEs, Vb.evalT, Vb.evalI, Vb.evalO, Vb.evalOT, Vb.asgS, Vb.bind_ok, Vb.bind_assoc, Vb.then_ok, Vb.then_bind, Vb.next_then, Vb.next_next, Vb.next_nx, Vb.next_rt, Vb.next_bk, Vb.next_ct, Vb.fin_then, Vb.fin_rt, Vb.fin_nx, Vb.opt_some, Vb.cb_fn, Vb.cb_cls, Vb.gl0, Vb.gls, List.getElem?_cons_zero, List.getElem?_cons_succ, List.set_cons_zero, List.set_cons_succ, Vb.storeTg, Vb.storeAll, Option.map_some, List.length_cons, List.length_nil, Nat.zero_add, Nat.reduceAdd, Vb.ln0, Vb.ln1, Vb.ln2, Vb.ln3, Vb.ln4, Vb.ln5, Vb.ln6, if_true, Vb.newObj, Vb.it_tup, Vb.it_ref, Vb.it_str, Vb.ty_join, Vb.ty_split, Vb.ty_append, Vb.ty_extend, Vb.ty_pop, Option.isSome_some, List.map_cons, List.map_nil, Bool.false_eq_true, if_false, Vb.tr_bl, Vb.wipeL, decide_true, decide_false, Bool.not_true, Bool.not_false, Vb.b_add, Vb.b_sub, Vb.c_lt, Vb.c_le, Vb.c_gt, Vb.c_ge, Vb.c_eq_int, Vb.c_ne_int, Vb.c_isn_non, Vb.c_isn_int, Vb.c_isn_tup, Vb.c_notn_non, Vb.c_notn_int, Vb.c_notn_tup, Vb.ix_tup, Vb.bi_list_tup, Vb.isi_int_non, Vb.isi_int_bl, Vb.isi_int_int, Vb.isi_int_str, Vb.isi_int_tup, Vb.isi_int_ref, Vb.isi_bool_non, Vb.isi_bool_bl, Vb.isi_bool_int, Vb.isi_bool_str, Vb.isi_bool_tup, Vb.isi_bool_ref, Vb.isi_str_non, Vb.isi_str_bl, Vb.isi_str_int, Vb.isi_str_str, Vb.isi_str_tup, Vb.isi_str_ref, Vb.isi_tup_non, Vb.isi_tup_bl, Vb.isi_tup_int, Vb.isi_tup_str, Vb.isi_tup_tup, Vb.isi_tup_ref, Vb.isi_lst_non, Vb.isi_lst_bl, Vb.isi_lst_int, Vb.isi_lst_str, Vb.isi_lst_tup, Vb.isi_lst_ref]
  refine Ok.bind (sp1 d v n h hv hw (by omega)) ?_
  rintro a h2 ⟨q, rfl, hq, e3, k2⟩
  rw [bm_join e3 (by have := wT_sum hv; have := hL; show _ + _ * 1 ≤ _; omega)]
  exact .ret ⟨rfl, k2⟩
end V87

set_option Elab.async false
set_option linter.all false
set_option maxRecDepth 100000
set_option maxHeartbeats 2000000
namespace V87
open PySem Vb
/-! ### joined texts -/
theorem joinL_app (S : List Nat) : ∀ {a b : List (List Nat)}, a ≠ [] → b ≠ [] → TL.joinL S (a ++ b) = TL.joinL S a ++ (S ++ TL.joinL S b)
  | [], _, h, _ => absurd rfl h
  | [p], [], _, h => absurd rfl h
  | [p], q :: r, _, _ => rfl
  | p :: p2 :: a, b, _, hb => by
    have ih := joinL_app S (a := p2 :: a) (b := b) (by simp) hb
    show p ++ (S ++ TL.joinL S ((p2 :: a) ++ b)) = p ++ (S ++ TL.joinL S (p2 :: a)) ++ (S ++ TL.joinL S b)
    rw [ih]
    simp only [List.append_assoc]
theorem joinL_cons (S : List Nat) {p : List Nat} {b : List (List Nat)} (h : b ≠ []) : TL.joinL S (p :: b) = p ++ (S ++ TL.joinL S b) := joinL_app S (a := [p]) (by simp) h
theorem joinL_flat (S : List Nat) {α : Type} {ws : α → List (List Nat)} : ∀ {xs : List α}, (∀ x ∈ xs, ws x ≠ []) → TL.joinL S (xs.map fun x => TL.joinL S (ws x)) = TL.joinL S (xs.flatMap ws)
  | [], _ => rfl
  | [x], h => by simp [TL.joinL]
  | x :: y :: r, h => by
    have ih := joinL_flat S (xs := y :: r) fun z hz => h z (List.mem_cons_of_mem _ hz)
    have n1 : (y :: r).flatMap ws ≠ [] := by
      have := h y (by simp)
      simp [this]
    rw [List.map_cons, joinL_cons S (by simp), ih, List.flatMap_cons (xs := y :: r), joinL_app S (h x (by simp)) n1]
theorem join_nest (s : Str) {α : Type} {xs : List α} {ws : α → List Str} (h : ∀ x ∈ xs, ws x ≠ []) (a b : Str) : Txt.join s ([a] ++ (xs.map fun x => Txt.join s (ws x)) ++ [b]) = Txt.join s (a :: (xs.flatMap ws ++ [b])) := by
  apply TL.ext_tl
  rw [TL.join_eq, TL.join_eq, TL.tl_join, TL.tl_join]
  have e : (xs.map fun x => Txt.join s (ws x)).map TL.tl = xs.map fun x => TL.joinL (TL.tl s) ((ws x).map TL.tl) := by
    rw [List.map_map]
    apply List.map_congr_left
    intro x _
    show TL.tl (Txt.join s (ws x)) = _
    rw [TL.join_eq, TL.tl_join]
  rw [List.map_append, List.map_append, e, List.map_cons (l := xs.flatMap ws ++ [b]), List.map_append (l₁ := xs.flatMap ws), List.map_flatMap]
  show TL.joinL _ (TL.tl a :: ([] ++ (xs.map fun x => TL.joinL (TL.tl s) ((ws x).map TL.tl)) ++ [TL.tl b])) = _
  have f := joinL_flat (TL.tl s) (ws := fun x => (ws x).map TL.tl) (xs := xs) fun x hx => by
    have := h x hx
    simp [this]
  rw [List.nil_append]
  cases xs with
  | nil => rfl
  | cons x xs =>
    have n1 : (x :: xs).flatMap (fun x => (ws x).map TL.tl) ≠ [] := by
      have := h x (by simp)
      simp [this]
    rw [joinL_cons _ (by simp), joinL_cons _ (by simp), joinL_app _ (by simp) (by simp), f, joinL_app _ n1 (by simp)]
    rfl
theorem join_len {s : Str} {ws : List Str} : (Txt.join s ws).length ≤ (ws.map (·.length)).sum + ws.length * s.length := by
  rw [TL.join_eq]
  exact StrLaws.join_length_le s ws
theorem txt_len {d : Nat} {v : PV} (h : isT d v) : (Txt.join " " (wT d v)).length ≤ 10 * wt d v := by
  have a := wT_sum h
  have b := join_len (s := " ") (ws := wT d v)
  have e : (" " : Str).length = 1 := by decide
  rw [e] at b
  omega
/-! ### the law's own words -/
theorem sp31 : ∀ (d : Nat) (v : PV) (k : Nat) (h : MH), isT d v → wt d v ≤ LIM → d + 1 ≤ k →
    Ok (callF Pr k 31 [v] h) fun r h' => r = .str (Txt.join " " (wT d v)) ∧ Keep [] h h' := by
  have leaf : ∀ (d : Nat) (i : Int) (n : Nat) (h : MH), 0 ≤ i → i ≤ 9999 → Ok (callF Pr (n + 1) 31 [.int i] h) fun r h' => r = .str (Txt.join " " (wT d (.int i))) ∧ Keep [] h h' := by
    intro d i n h h1 h2
    rw [callF_at (d := d31) rfl rfl]
    show Ok (finF (execs (cbK Pr n) Pr.xt Pr.wl b31 [some (.int i), none] h)) _
    unfold b31
    try simp only [Vb.execs, Vb.exec, Vb.evalE, Vb.evalEs, Vb.evalT, Vb.evalI, Vb.evalO, Vb.evalOT, Vb.asgS, Vb.bind_ok, Vb.bind_assoc, Vb.then_ok, Vb.then_bind, Vb.next_then, Vb.next_next, Vb.next_nx, Vb.next_rt, Vb.next_bk, Vb.next_ct, Vb.fin_then, Vb.fin_rt, Vb.fin_nx, Vb.opt_some, Vb.cb_fn, Vb.cb_cls, Vb.gl0, Vb.gls, List.getElem?_cons_zero, List.getElem?_cons_succ, List.set_cons_zero, List.set_cons_succ, Vb.storeTg, Vb.storeAll, Option.map_some, List.length_cons, List.length_nil, Nat.zero_add, Nat.reduceAdd, Vb.ln0, Vb.ln1, Vb.ln2, Vb.ln3, Vb.ln4, Vb.ln5, Vb.ln6, if_true, Vb.newObj, Vb.it_tup, Vb.it_ref, Vb.it_str, Vb.ty_join, Vb.ty_split, Vb.ty_append, Vb.ty_extend, Vb.ty_pop, Option.isSome_some, List.map_cons, List.map_nil, Bool.false_eq_true, if_false, Vb.tr_bl, Vb.wipeL, decide_true, decide_false, Bool.not_true, Bool.not_false, Vb.b_add, Vb.b_sub, Vb.c_lt, Vb.c_le, Vb.c_gt, Vb.c_ge, Vb.c_eq_int, Vb.c_ne_int, Vb.c_isn_non, Vb.c_isn_int, Vb.c_isn_tup, Vb.c_notn_non, Vb.c_notn_int, Vb.c_notn_tup, Vb.ix_tup, Vb.bi_list_tup, Vb.isi_int_non, Vb.isi_int_bl, Vb.isi_int_int, Vb.isi_int_str, Vb.isi_int_tup, Vb.isi_int_ref, Vb.isi_bool_non, Vb.isi_bool_bl, Vb.isi_bool_int, Vb.isi_bool_str, Vb.isi_bool_tup, Vb.isi_bool_ref, Vb.isi_str_non, Vb.isi_str_bl, Vb.isi_str_int, Vb.isi_str_str, Vb.isi_str_tup, Vb.isi_str_ref, Vb.isi_tup_non, Vb.isi_tup_bl, Vb.isi_tup_int, Vb.isi_tup_str, Vb.isi_tup_tup, Vb.isi_tup_ref, Vb.isi_lst_non, Vb.isi_lst_bl, Vb.isi_lst_int, Vb.isi_lst_str, Vb.isi_lst_tup, Vb.isi_lst_ref, str_num h1 h2]
    exact .ret ⟨by rw [wT_int, TL.join_eq]; rfl, .refl⟩
  intro d
  induction d with
  | zero =>
    intro v k h hv hw hk
    obtain ⟨n, rfl⟩ : ∃ n, k = n + 1 := ⟨k - 1, by omega⟩
    rcases isT_cases hv with ⟨i, rfl, h1, h2⟩ | ⟨e, xs, h0, _⟩
    · exact leaf 0 i n h h1 h2
    · cases h0
  | succ d ih =>
    intro v k h hv hw hk
    obtain ⟨n, rfl⟩ : ∃ n, k = n + 1 := ⟨k - 1, by omega⟩
    rcases isT_cases hv with ⟨i, rfl, h1, h2⟩ | ⟨e, xs, h0, rfl, h1⟩
    · exact leaf _ i n h h1 h2
    · cases h0
      rw [callF_at (d := d31) rfl rfl]
      show Ok (finF (execs (cbK Pr n) Pr.xt Pr.wl b31 [some (.tup xs), none] h)) _
      unfold b31
      try simp only [Vb.execs, Vb.exec, Vb.evalE, Vb.evalEs, Vb.evalT, Vb.evalI, Vb.evalO, Vb.evalOT, Vb.asgS, Vb.bind_ok, Vb.bind_assoc, Vb.then_ok, Vb.then_bind, Vb.next_then, Vb.next_next, Vb.next_nx, Vb.next_rt, Vb.next_bk, Vb.next_ct, Vb.fin_then, Vb.fin_rt, Vb.fin_nx, Vb.opt_some, Vb.cb_fn, Vb.cb_cls, Vb.gl0, Vb.gls, List.getElem?_cons_zero, List.getElem?_cons_succ, List.set_cons_zero, List.set_cons_succ, Vb.storeTg, Vb.storeAll, Option.map_some, List.length_cons, List.length_nil, Nat.zero_add, Nat.reduceAdd, Vb.ln0, Vb.ln1, Vb.ln2, Vb.ln3, Vb.ln4, Vb.ln5, Vb.ln6, if_true, Vb.newObj, Vb.it_tup, Vb.it_ref, Vb.it_str, Vb.ty_join, Vb.ty_split, Vb.ty_append, Vb.ty_extend, Vb.ty_pop, Option.isSome_some, List.map_cons, List.map_nil, Bool.false_eq_true, if_false, Vb.tr_bl, Vb.wipeL, decide_true, decide_false, Bool.not_true, Bool.not_false, Vb.b_add, Vb.b_sub, Vb.c_lt, Vb.c_le, Vb.c_gt, Vb.c_ge, Vb.c_eq_int, Vb.c_ne_int, Vb.c_isn_non, Vb.c_isn_int, Vb.c_isn_tup, Vb.c_notn_non, Vb.c_notn_int, Vb.c_notn_tup, Vb.ix_tup, Vb.bi_list_tup, Vb.isi_int_non, Vb.isi_int_bl, Vb.isi_int_int, Vb.isi_int_str, Vb.isi_int_tup, Vb.isi_int_ref, Vb.isi_bool_non, Vb.isi_bool_bl, Vb.isi_bool_int, Vb.isi_bool_str, Vb.isi_bool_tup, Vb.isi_bool_ref, Vb.isi_str_non, Vb.isi_str_bl, Vb.isi_str_int, Vb.isi_str_str, Vb.isi_str_tup, Vb.isi_str_ref, Vb.isi_tup_non, Vb.isi_tup_bl, Vb.isi_tup_int, Vb.isi_tup_str, Vb.isi_tup_tup, Vb.isi_tup_ref, Vb.isi_lst_non, Vb.isi_lst_bl, Vb.isi_lst_int, Vb.isi_lst_str, Vb.isi_lst_tup, Vb.isi_lst_ref]
      have hl := hL
      have tot : (xs.map (wt d)).sum ≤ LIM := by simp only [wt] at hw; omega
      have cnt : xs.length ≤ (xs.map (wt d)).sum := by
        have := sum_le (l := xs) (f := fun _ => 1) (g := wt d) fun x _ => wt_pos d x
        rwa [sum_ones] at this
      refine Ok.bind (lc_pure (F := fun x => .str (Txt.join " " (wT d x))) (fun _ _ => trivial) (line_ok (by omega)) ?_) ?_
      · intro x hx h1' k1
        refine Ok.bind (ih x n h1' (h1 x hx) (Nat.le_trans (mem_sum hx) tot) (by omega)) ?_
        rintro a h2 ⟨rfl, k2⟩
        exact .ret ⟨rfl, k2⟩
      · rintro a h2 ⟨rfl, e1, k1⟩
        have e0 : h2[h.length]? = some (.lst [.str "("]) := k1.get get_new (by simp)
        have em : (xs.map fun x => PV.str (Txt.join " " (wT d x))) = (xs.map fun x => Txt.join " " (wT d x)).map .str := by rw [List.map_map]; rfl
        rw [em] at e1
        rw [bin_lists e0 e1 (line_ok (by simp; omega))]
        try simp only [Vb.execs, Vb.exec, Vb.evalE, Vb.evalEs, Vb.evalT, Vb.evalI, Vb.evalO, Vb.evalOT, Vb.asgS, Vb.bind_ok, Vb.bind_assoc, Vb.then_ok, Vb.then_bind, Vb.next_then, Vb.next_next, Vb.next_nx, Vb.next_rt, Vb.next_bk, Vb.next_ct, Vb.fin_then, Vb.fin_rt, Vb.fin_nx, Vb.opt_some, Vb.cb_fn, Vb.cb_cls, Vb.gl0, Vb.gls, List.getElem?_cons_zero, List.getElem?_cons_succ, List.set_cons_zero, List.set_cons_succ, Vb.storeTg, Vb.storeAll, Option.map_some, List.length_cons, List.length_nil, Nat.zero_add, Nat.reduceAdd, Vb.ln0, Vb.ln1, Vb.ln2, Vb.ln3, Vb.ln4, Vb.ln5, Vb.ln6, if_true, Vb.newObj, Vb.it_tup, Vb.it_ref, Vb.it_str, Vb.ty_join, Vb.ty_split, Vb.ty_append, Vb.ty_extend, Vb.ty_pop, Option.isSome_some, List.map_cons, List.map_nil, Bool.false_eq_true, if_false, Vb.tr_bl, Vb.wipeL, decide_true, decide_false, Bool.not_true, Bool.not_false, Vb.b_add, Vb.b_sub, Vb.c_lt, Vb.c_le, Vb.c_gt, Vb.c_ge, Vb.c_eq_int, Vb.c_ne_int, Vb.c_isn_non, Vb.c_isn_int, Vb.c_isn_tup, Vb.c_notn_non, Vb.c_notn_int, Vb.c_notn_tup, Vb.ix_tup, Vb.bi_list_tup, Vb.isi_int_non, Vb.isi_int_bl, Vb.isi_int_int, Vb.isi_int_str, Vb.isi_int_tup, Vb.isi_int_ref, Vb.isi_bool_non, Vb.isi_bool_bl, Vb.isi_bool_int, Vb.isi_bool_str, Vb.isi_bool_tup, Vb.isi_bool_ref, Vb.isi_str_non, Vb.isi_str_bl, Vb.isi_str_int, Vb.isi_str_str, Vb.isi_str_tup, Vb.isi_str_ref, Vb.isi_tup_non, Vb.isi_tup_bl, Vb.isi_tup_int, Vb.isi_tup_str, Vb.isi_tup_tup, Vb.isi_tup_ref, Vb.isi_lst_non, Vb.isi_lst_bl, Vb.isi_lst_int, Vb.isi_lst_str, Vb.isi_lst_tup, Vb.isi_lst_ref]
        rw [bin_lists (Keep.get (S := []) (.push _) get_new (by simp)) get_new (line_ok (by simp; omega))]
        try simp only [Vb.execs, Vb.exec, Vb.evalE, Vb.evalEs, Vb.evalT, Vb.evalI, Vb.evalO, Vb.evalOT, Vb.asgS, Vb.bind_ok, Vb.bind_assoc, Vb.then_ok, Vb.then_bind, Vb.next_then, Vb.next_next, Vb.next_nx, Vb.next_rt, Vb.next_bk, Vb.next_ct, Vb.fin_then, Vb.fin_rt, Vb.fin_nx, Vb.opt_some, Vb.cb_fn, Vb.cb_cls, Vb.gl0, Vb.gls, List.getElem?_cons_zero, List.getElem?_cons_succ, List.set_cons_zero, List.set_cons_succ, Vb.storeTg, Vb.storeAll, Option.map_some, List.length_cons, List.length_nil, Nat.zero_add, Nat.reduceAdd, Vb.ln0, Vb.ln1, Vb.ln2, Vb.ln3, Vb.ln4, Vb.ln5, Vb.ln6, if_true, Vb.newObj, Vb.it_tup, Vb.it_ref, Vb.it_str, Vb.ty_join, Vb.ty_split, Vb.ty_append, Vb.ty_extend, Vb.ty_pop, Option.isSome_some, List.map_cons, List.map_nil, Bool.false_eq_true, if_false, Vb.tr_bl, Vb.wipeL, decide_true, decide_false, Bool.not_true, Bool.not_false, Vb.b_add, Vb.b_sub, Vb.c_lt, Vb.c_le, Vb.c_gt, Vb.c_ge, Vb.c_eq_int, Vb.c_ne_int, Vb.c_isn_non, Vb.c_isn_int, Vb.c_isn_tup, Vb.c_notn_non, Vb.c_notn_int, Vb.c_notn_tup, Vb.ix_tup, Vb.bi_list_tup, Vb.isi_int_non, Vb.isi_int_bl, Vb.isi_int_int, Vb.isi_int_str, Vb.isi_int_tup, Vb.isi_int_ref, Vb.isi_bool_non, Vb.isi_bool_bl, Vb.isi_bool_int, Vb.isi_bool_str, Vb.isi_bool_tup, Vb.isi_bool_ref, Vb.isi_str_non, Vb.isi_str_bl, Vb.isi_str_int, Vb.isi_str_str, Vb.isi_str_tup, Vb.isi_str_ref, Vb.isi_tup_non, Vb.isi_tup_bl, Vb.isi_tup_int, Vb.isi_tup_str, Vb.isi_tup_tup, Vb.isi_tup_ref, Vb.isi_lst_non, Vb.isi_lst_bl, Vb.isi_lst_int, Vb.isi_lst_str, Vb.isi_lst_tup, Vb.isi_lst_ref]
        have ev : (([PV.str "("] ++ ((xs.map fun x => Txt.join " " (wT d x)).map PV.str) ++ [PV.str ")"])) = (([("(" : Str)] ++ (xs.map fun x => Txt.join " " (wT d x)) ++ [(")" : Str)]).map .str) := by simp
        have lens : ((([("(" : Str)] ++ (xs.map fun x => Txt.join " " (wT d x)) ++ [(")" : Str)]).map (·.length)).sum) ≤ 10 * (xs.map (wt d)).sum + 2 := by
          have a1 := sum_le (l := xs) (f := fun x => (Txt.join " " (wT d x)).length) (g := fun x => 10 * wt d x) fun x hx => txt_len (h1 x hx)
          rw [sum_mul] at a1
          have l1 : ("(" : Str).length = 1 := by decide
          have l2 : (")" : Str).length = 1 := by decide
          simp only [List.map_append, List.map_cons, List.map_nil, List.map_map, List.sum_append, List.sum_cons, List.sum_nil, l1, l2]
          show _ + ((xs.map fun x => (Txt.join " " (wT d x)).length).sum) + _ ≤ _
          omega
        rw [bm_join (by rw [get_new, ev]) (by
          have l3 : (" " : Str).length = 1 := by decide
          rw [l3]
          simp only [List.length_append, List.length_cons, List.length_nil, List.length_map]
          omega)]
        try simp only [Vb.execs, Vb.exec, Vb.evalE, Vb.evalEs, Vb.evalT, Vb.evalI, Vb.evalO, Vb.evalOT, Vb.asgS, Vb.bind_ok, Vb.bind_assoc, Vb.then_ok, Vb.then_bind, Vb.next_then, Vb.next_next, Vb.next_nx, Vb.next_rt, Vb.next_bk, Vb.next_ct, Vb.fin_then, Vb.fin_rt, Vb.fin_nx, Vb.opt_some, Vb.cb_fn, Vb.cb_cls, Vb.gl0, Vb.gls, List.getElem?_cons_zero, List.getElem?_cons_succ, List.set_cons_zero, List.set_cons_succ, Vb.storeTg, Vb.storeAll, Option.map_some, List.length_cons, List.length_nil, Nat.zero_add, Nat.reduceAdd, Vb.ln0, Vb.ln1, Vb.ln2, Vb.ln3, Vb.ln4, Vb.ln5, Vb.ln6, if_true, Vb.newObj, Vb.it_tup, Vb.it_ref, Vb.it_str, Vb.ty_join, Vb.ty_split, Vb.ty_append, Vb.ty_extend, Vb.ty_pop, Option.isSome_some, List.map_cons, List.map_nil, Bool.false_eq_true, if_false, Vb.tr_bl, Vb.wipeL, decide_true, decide_false, Bool.not_true, Bool.not_false, Vb.b_add, Vb.b_sub, Vb.c_lt, Vb.c_le, Vb.c_gt, Vb.c_ge, Vb.c_eq_int, Vb.c_ne_int, Vb.c_isn_non, Vb.c_isn_int, Vb.c_isn_tup, Vb.c_notn_non, Vb.c_notn_int, Vb.c_notn_tup, Vb.ix_tup, Vb.bi_list_tup, Vb.isi_int_non, Vb.isi_int_bl, Vb.isi_int_int, Vb.isi_int_str, Vb.isi_int_tup, Vb.isi_int_ref, Vb.isi_bool_non, Vb.isi_bool_bl, Vb.isi_bool_int, Vb.isi_bool_str, Vb.isi_bool_tup, Vb.isi_bool_ref, Vb.isi_str_non, Vb.isi_str_bl, Vb.isi_str_int, Vb.isi_str_str, Vb.isi_str_tup, Vb.isi_str_ref, Vb.isi_tup_non, Vb.isi_tup_bl, Vb.isi_tup_int, Vb.isi_tup_str, Vb.isi_tup_tup, Vb.isi_tup_ref, Vb.isi_lst_non, Vb.isi_lst_bl, Vb.isi_lst_int, Vb.isi_lst_str, Vb.isi_lst_tup, Vb.isi_lst_ref]
        refine .ret ⟨?_, (Keep.push _).trans (((k1.trans (.push _)).trans (.push _)).trans (.push _))⟩
        rw [join_nest " " (fun x hx => wT_ne (h1 x hx))]
        rfl
end V87

set_option Elab.async false
set_option linter.all false
set_option maxRecDepth 100000
set_option maxHeartbeats 2000000
namespace V87
open PySem Vb
/-! ### what the law draws -/
def Dr (r : Nat) (B : Int) (h : MH) : Prop := ∃ a b c : Int, h[r]? = some (.lst [.int a, .int b, .int c]) ∧ 0 ≤ b ∧ b ≤ B
theorem Dr.weak {r : Nat} {B B' : Int} {h : MH} (d : Dr r B h) (z : B ≤ B') : Dr r B' h := let ⟨a, b, c, e, h0, h1⟩ := d; ⟨a, b, c, e, h0, by omega⟩
theorem Dr.keep {r : Nat} {B : Int} {h h' : MH} {S : List Nat} (d : Dr r B h) (k : Keep S h h') (z : r ∉ S) : Dr r B h' := let ⟨a, b, c, e, h0, h1⟩ := d; ⟨a, b, c, k.get e z, h0, h1⟩
theorem Dr.lt {r : Nat} {B : Int} {h : MH} (d : Dr r B h) : r < h.length := let ⟨a, b, c, e, h0, h1⟩ := d; lt_of_get e
def TOP : Int := 2 ^ 60
theorem hT : TOP = 1152921504606846976 := by decide
theorem sp21 (n : Nat) (h : MH) (a k : Int) (h0 : 0 ≤ k) (h1 : k ≤ 2 ^ 62) : Ok (callF Pr (n + 1) 21 [.int a, .int k] h) fun r h' => (∃ i : Int, r = .int i ∧ 0 ≤ i ∧ i < 2147483629) ∧ h' = h := by
  rw [callF_at (d := d21) rfl rfl]
  show Ok (finF (execs (cbK Pr n) Pr.xt Pr.wl b21 [some (.int a), some (.int k), none] h)) _
  unfold b21
  try simp only [Vb.execs, Vb.exec, Vb.evalE, Vb.evalEs, Vb.evalT, Vb.evalI, Vb.evalO, Vb.evalOT, Vb.asgS, Vb.bind_ok, Vb.bind_assoc, Vb.then_ok, Vb.then_bind, Vb.next_then, Vb.next_next, Vb.next_nx, Vb.next_rt, Vb.next_bk, Vb.next_ct, Vb.fin_then, Vb.fin_rt, Vb.fin_nx, Vb.opt_some, Vb.cb_fn, Vb.cb_cls, Vb.gl0, Vb.gls, List.getElem?_cons_zero, List.getElem?_cons_succ, List.set_cons_zero, List.set_cons_succ, Vb.storeTg, Vb.storeAll, Option.map_some, List.length_cons, List.length_nil, Nat.zero_add, Nat.reduceAdd, Vb.ln0, Vb.ln1, Vb.ln2, Vb.ln3, Vb.ln4, Vb.ln5, Vb.ln6, if_true, Vb.newObj, Vb.it_tup, Vb.it_ref, Vb.it_str, Vb.ty_join, Vb.ty_split, Vb.ty_append, Vb.ty_extend, Vb.ty_pop, Option.isSome_some, List.map_cons, List.map_nil, Bool.false_eq_true, if_false, Vb.tr_bl, Vb.wipeL, decide_true, decide_false, Bool.not_true, Bool.not_false, Vb.b_add, Vb.b_sub, Vb.c_lt, Vb.c_le, Vb.c_gt, Vb.c_ge, Vb.c_eq_int, Vb.c_ne_int, Vb.c_isn_non, Vb.c_isn_int, Vb.c_isn_tup, Vb.c_notn_non, Vb.c_notn_int, Vb.c_notn_tup, Vb.ix_tup, Vb.bi_list_tup, Vb.isi_int_non, Vb.isi_int_bl, Vb.isi_int_int, Vb.isi_int_str, Vb.isi_int_tup, Vb.isi_int_ref, Vb.isi_bool_non, Vb.isi_bool_bl, Vb.isi_bool_int, Vb.isi_bool_str, Vb.isi_bool_tup, Vb.isi_bool_ref, Vb.isi_str_non, Vb.isi_str_bl, Vb.isi_str_int, Vb.isi_str_str, Vb.isi_str_tup, Vb.isi_str_ref, Vb.isi_tup_non, Vb.isi_tup_bl, Vb.isi_tup_int, Vb.isi_tup_str, Vb.isi_tup_tup, Vb.isi_tup_ref, Vb.isi_lst_non, Vb.isi_lst_bl, Vb.isi_lst_int, Vb.isi_lst_str, Vb.isi_lst_tup, Vb.isi_lst_ref, b_mod (show (0 : Int) < 1000000007 by decide), b_mod (show (0 : Int) < 2147483647 by decide), b_mod (show (0 : Int) < 2147483629 by decide), b_mulL (show big64 31 = true by decide), b_mulR (big_of (i := k) (by omega) (by omega)), b_mulR (show big64 48271 = true by decide), b_mulL (show big64 7919 = true by decide)]
  rw [b_mulL (big_of (by
    have := Int.emod_nonneg ((a % 1000000007 + 31 * k * k + 7) * 48271) (show (2147483647 : Int) ≠ 0 by decide)
    omega) (by
    have := Int.emod_lt_of_pos ((a % 1000000007 + 31 * k * k + 7) * 48271) (show (0 : Int) < 2147483647 by decide)
    omega))]
  try simp only [Vb.execs, Vb.exec, Vb.evalE, Vb.evalEs, Vb.evalT, Vb.evalI, Vb.evalO, Vb.evalOT, Vb.asgS, Vb.bind_ok, Vb.bind_assoc, Vb.then_ok, Vb.then_bind, Vb.next_then, Vb.next_next, Vb.next_nx, Vb.next_rt, Vb.next_bk, Vb.next_ct, Vb.fin_then, Vb.fin_rt, Vb.fin_nx, Vb.opt_some, Vb.cb_fn, Vb.cb_cls, Vb.gl0, Vb.gls, List.getElem?_cons_zero, List.getElem?_cons_succ, List.set_cons_zero, List.set_cons_succ, Vb.storeTg, Vb.storeAll, Option.map_some, List.length_cons, List.length_nil, Nat.zero_add, Nat.reduceAdd, Vb.ln0, Vb.ln1, Vb.ln2, Vb.ln3, Vb.ln4, Vb.ln5, Vb.ln6, if_true, Vb.newObj, Vb.it_tup, Vb.it_ref, Vb.it_str, Vb.ty_join, Vb.ty_split, Vb.ty_append, Vb.ty_extend, Vb.ty_pop, Option.isSome_some, List.map_cons, List.map_nil, Bool.false_eq_true, if_false, Vb.tr_bl, Vb.wipeL, decide_true, decide_false, Bool.not_true, Bool.not_false, Vb.b_add, Vb.b_sub, Vb.c_lt, Vb.c_le, Vb.c_gt, Vb.c_ge, Vb.c_eq_int, Vb.c_ne_int, Vb.c_isn_non, Vb.c_isn_int, Vb.c_isn_tup, Vb.c_notn_non, Vb.c_notn_int, Vb.c_notn_tup, Vb.ix_tup, Vb.bi_list_tup, Vb.isi_int_non, Vb.isi_int_bl, Vb.isi_int_int, Vb.isi_int_str, Vb.isi_int_tup, Vb.isi_int_ref, Vb.isi_bool_non, Vb.isi_bool_bl, Vb.isi_bool_int, Vb.isi_bool_str, Vb.isi_bool_tup, Vb.isi_bool_ref, Vb.isi_str_non, Vb.isi_str_bl, Vb.isi_str_int, Vb.isi_str_str, Vb.isi_str_tup, Vb.isi_str_ref, Vb.isi_tup_non, Vb.isi_tup_bl, Vb.isi_tup_int, Vb.isi_tup_str, Vb.isi_tup_tup, Vb.isi_tup_ref, Vb.isi_lst_non, Vb.isi_lst_bl, Vb.isi_lst_int, Vb.isi_lst_str, Vb.isi_lst_tup, Vb.isi_lst_ref, b_mod (show (0 : Int) < 2147483629 by decide)]
  exact .ret ⟨⟨_, rfl, Int.emod_nonneg _ (by decide), Int.emod_lt_of_pos _ (by decide)⟩, rfl⟩
theorem at0 {α : Type} {a b c : α} : L2.atI [a, b, c] 0 = some a := rfl
theorem at1 {α : Type} {a b c : α} : L2.atI [a, b, c] 1 = some b := rfl
theorem at2 {α : Type} {a b c : α} : L2.atI [a, b, c] 2 = some c := rfl
theorem sp23 (n : Nat) (h : MH) (r : Nat) (m B : Int) (d : Dr r B h) (hB : B ≤ TOP) (h0 : 0 < m) (h1 : m ≤ 100000) : Ok (callF Pr (n + 2) 23 [.ref r, .int m] h) fun v h' => (∃ i : Int, v = .int i ∧ 0 ≤ i ∧ i < m) ∧ Keep [r] h h' ∧ Dr r (B + 1) h' := by
  have ht := hT
  obtain ⟨a, b, c, e, hb0, hb1⟩ := d
  rw [callF_at (d := d23) rfl rfl]
  show Ok (finF (execs (cbK Pr (n + 1)) Pr.xt Pr.wl b23 [some (.ref r), some (.int m), none, none] h)) _
  unfold b23
  try simp only [Vb.execs, Vb.exec, Vb.evalE, Vb.evalEs, Vb.evalT, Vb.evalI, Vb.evalO, Vb.evalOT, Vb.asgS, Vb.bind_ok, Vb.bind_assoc, Vb.then_ok, Vb.then_bind, Vb.next_then, Vb.next_next, Vb.next_nx, Vb.next_rt, Vb.next_bk, Vb.next_ct, Vb.fin_then, Vb.fin_rt, Vb.fin_nx, Vb.opt_some, Vb.cb_fn, Vb.cb_cls, Vb.gl0, Vb.gls, List.getElem?_cons_zero, List.getElem?_cons_succ, List.set_cons_zero, List.set_cons_succ, Vb.storeTg, Vb.storeAll, Option.map_some, List.length_cons, List.length_nil, Nat.zero_add, Nat.reduceAdd, Vb.ln0, Vb.ln1, Vb.ln2, Vb.ln3, Vb.ln4, Vb.ln5, Vb.ln6, if_true, Vb.newObj, Vb.it_tup, Vb.it_ref, Vb.it_str, Vb.ty_join, Vb.ty_split, Vb.ty_append, Vb.ty_extend, Vb.ty_pop, Option.isSome_some, List.map_cons, List.map_nil, Bool.false_eq_true, if_false, Vb.tr_bl, Vb.wipeL, decide_true, decide_false, Bool.not_true, Bool.not_false, Vb.b_add, Vb.b_sub, Vb.c_lt, Vb.c_le, Vb.c_gt, Vb.c_ge, Vb.c_eq_int, Vb.c_ne_int, Vb.c_isn_non, Vb.c_isn_int, Vb.c_isn_tup, Vb.c_notn_non, Vb.c_notn_int, Vb.c_notn_tup, Vb.ix_tup, Vb.bi_list_tup, Vb.isi_int_non, Vb.isi_int_bl, Vb.isi_int_int, Vb.isi_int_str, Vb.isi_int_tup, Vb.isi_int_ref, Vb.isi_bool_non, Vb.isi_bool_bl, Vb.isi_bool_int, Vb.isi_bool_str, Vb.isi_bool_tup, Vb.isi_bool_ref, Vb.isi_str_non, Vb.isi_str_bl, Vb.isi_str_int, Vb.isi_str_str, Vb.isi_str_tup, Vb.isi_str_ref, Vb.isi_tup_non, Vb.isi_tup_bl, Vb.isi_tup_int, Vb.isi_tup_str, Vb.isi_tup_tup, Vb.isi_tup_ref, Vb.isi_lst_non, Vb.isi_lst_bl, Vb.isi_lst_int, Vb.isi_lst_str, Vb.isi_lst_tup, Vb.isi_lst_ref, ix_ref e, at2]
  by_cases hc : 0 < c
  · simp only [decide_eq_true hc]
    try simp only [Vb.execs, Vb.exec, Vb.evalE, Vb.evalEs, Vb.evalT, Vb.evalI, Vb.evalO, Vb.evalOT, Vb.asgS, Vb.bind_ok, Vb.bind_assoc, Vb.then_ok, Vb.then_bind, Vb.next_then, Vb.next_next, Vb.next_nx, Vb.next_rt, Vb.next_bk, Vb.next_ct, Vb.fin_then, Vb.fin_rt, Vb.fin_nx, Vb.opt_some, Vb.cb_fn, Vb.cb_cls, Vb.gl0, Vb.gls, List.getElem?_cons_zero, List.getElem?_cons_succ, List.set_cons_zero, List.set_cons_succ, Vb.storeTg, Vb.storeAll, Option.map_some, List.length_cons, List.length_nil, Nat.zero_add, Nat.reduceAdd, Vb.ln0, Vb.ln1, Vb.ln2, Vb.ln3, Vb.ln4, Vb.ln5, Vb.ln6, if_true, Vb.newObj, Vb.it_tup, Vb.it_ref, Vb.it_str, Vb.ty_join, Vb.ty_split, Vb.ty_append, Vb.ty_extend, Vb.ty_pop, Option.isSome_some, List.map_cons, List.map_nil, Bool.false_eq_true, if_false, Vb.tr_bl, Vb.wipeL, decide_true, decide_false, Bool.not_true, Bool.not_false, Vb.b_add, Vb.b_sub, Vb.c_lt, Vb.c_le, Vb.c_gt, Vb.c_ge, Vb.c_eq_int, Vb.c_ne_int, Vb.c_isn_non, Vb.c_isn_int, Vb.c_isn_tup, Vb.c_notn_non, Vb.c_notn_int, Vb.c_notn_tup, Vb.ix_tup, Vb.bi_list_tup, Vb.isi_int_non, Vb.isi_int_bl, Vb.isi_int_int, Vb.isi_int_str, Vb.isi_int_tup, Vb.isi_int_ref, Vb.isi_bool_non, Vb.isi_bool_bl, Vb.isi_bool_int, Vb.isi_bool_str, Vb.isi_bool_tup, Vb.isi_bool_ref, Vb.isi_str_non, Vb.isi_str_bl, Vb.isi_str_int, Vb.isi_str_str, Vb.isi_str_tup, Vb.isi_str_ref, Vb.isi_tup_non, Vb.isi_tup_bl, Vb.isi_tup_int, Vb.isi_tup_str, Vb.isi_tup_tup, Vb.isi_tup_ref, Vb.isi_lst_non, Vb.isi_lst_bl, Vb.isi_lst_int, Vb.isi_lst_str, Vb.isi_lst_tup, Vb.isi_lst_ref, ix_ref e, at2, b_mod h0, b_fdiv h0 (show m < 2 ^ 63 by omega)]
    rw [set_at (j := 2) e rfl]
    try simp only [Vb.execs, Vb.exec, Vb.evalE, Vb.evalEs, Vb.evalT, Vb.evalI, Vb.evalO, Vb.evalOT, Vb.asgS, Vb.bind_ok, Vb.bind_assoc, Vb.then_ok, Vb.then_bind, Vb.next_then, Vb.next_next, Vb.next_nx, Vb.next_rt, Vb.next_bk, Vb.next_ct, Vb.fin_then, Vb.fin_rt, Vb.fin_nx, Vb.opt_some, Vb.cb_fn, Vb.cb_cls, Vb.gl0, Vb.gls, List.getElem?_cons_zero, List.getElem?_cons_succ, List.set_cons_zero, List.set_cons_succ, Vb.storeTg, Vb.storeAll, Option.map_some, List.length_cons, List.length_nil, Nat.zero_add, Nat.reduceAdd, Vb.ln0, Vb.ln1, Vb.ln2, Vb.ln3, Vb.ln4, Vb.ln5, Vb.ln6, if_true, Vb.newObj, Vb.it_tup, Vb.it_ref, Vb.it_str, Vb.ty_join, Vb.ty_split, Vb.ty_append, Vb.ty_extend, Vb.ty_pop, Option.isSome_some, List.map_cons, List.map_nil, Bool.false_eq_true, if_false, Vb.tr_bl, Vb.wipeL, decide_true, decide_false, Bool.not_true, Bool.not_false, Vb.b_add, Vb.b_sub, Vb.c_lt, Vb.c_le, Vb.c_gt, Vb.c_ge, Vb.c_eq_int, Vb.c_ne_int, Vb.c_isn_non, Vb.c_isn_int, Vb.c_isn_tup, Vb.c_notn_non, Vb.c_notn_int, Vb.c_notn_tup, Vb.ix_tup, Vb.bi_list_tup, Vb.isi_int_non, Vb.isi_int_bl, Vb.isi_int_int, Vb.isi_int_str, Vb.isi_int_tup, Vb.isi_int_ref, Vb.isi_bool_non, Vb.isi_bool_bl, Vb.isi_bool_int, Vb.isi_bool_str, Vb.isi_bool_tup, Vb.isi_bool_ref, Vb.isi_str_non, Vb.isi_str_bl, Vb.isi_str_int, Vb.isi_str_str, Vb.isi_str_tup, Vb.isi_str_ref, Vb.isi_tup_non, Vb.isi_tup_bl, Vb.isi_tup_int, Vb.isi_tup_str, Vb.isi_tup_tup, Vb.isi_tup_ref, Vb.isi_lst_non, Vb.isi_lst_bl, Vb.isi_lst_int, Vb.isi_lst_str, Vb.isi_lst_tup, Vb.isi_lst_ref]
    refine .ret ⟨⟨_, rfl, Int.emod_nonneg _ (by omega), Int.emod_lt_of_pos _ h0⟩, .set (.inl (by simp)) _, a, b, c / m, get_set e, hb0, by omega⟩
  · simp only [decide_eq_false hc]
    try simp only [Vb.execs, Vb.exec, Vb.evalE, Vb.evalEs, Vb.evalT, Vb.evalI, Vb.evalO, Vb.evalOT, Vb.asgS, Vb.bind_ok, Vb.bind_assoc, Vb.then_ok, Vb.then_bind, Vb.next_then, Vb.next_next, Vb.next_nx, Vb.next_rt, Vb.next_bk, Vb.next_ct, Vb.fin_then, Vb.fin_rt, Vb.fin_nx, Vb.opt_some, Vb.cb_fn, Vb.cb_cls, Vb.gl0, Vb.gls, List.getElem?_cons_zero, List.getElem?_cons_succ, List.set_cons_zero, List.set_cons_succ, Vb.storeTg, Vb.storeAll, Option.map_some, List.length_cons, List.length_nil, Nat.zero_add, Nat.reduceAdd, Vb.ln0, Vb.ln1, Vb.ln2, Vb.ln3, Vb.ln4, Vb.ln5, Vb.ln6, if_true, Vb.newObj, Vb.it_tup, Vb.it_ref, Vb.it_str, Vb.ty_join, Vb.ty_split, Vb.ty_append, Vb.ty_extend, Vb.ty_pop, Option.isSome_some, List.map_cons, List.map_nil, Bool.false_eq_true, if_false, Vb.tr_bl, Vb.wipeL, decide_true, decide_false, Bool.not_true, Bool.not_false, Vb.b_add, Vb.b_sub, Vb.c_lt, Vb.c_le, Vb.c_gt, Vb.c_ge, Vb.c_eq_int, Vb.c_ne_int, Vb.c_isn_non, Vb.c_isn_int, Vb.c_isn_tup, Vb.c_notn_non, Vb.c_notn_int, Vb.c_notn_tup, Vb.ix_tup, Vb.bi_list_tup, Vb.isi_int_non, Vb.isi_int_bl, Vb.isi_int_int, Vb.isi_int_str, Vb.isi_int_tup, Vb.isi_int_ref, Vb.isi_bool_non, Vb.isi_bool_bl, Vb.isi_bool_int, Vb.isi_bool_str, Vb.isi_bool_tup, Vb.isi_bool_ref, Vb.isi_str_non, Vb.isi_str_bl, Vb.isi_str_int, Vb.isi_str_str, Vb.isi_str_tup, Vb.isi_str_ref, Vb.isi_tup_non, Vb.isi_tup_bl, Vb.isi_tup_int, Vb.isi_tup_str, Vb.isi_tup_tup, Vb.isi_tup_ref, Vb.isi_lst_non, Vb.isi_lst_bl, Vb.isi_lst_int, Vb.isi_lst_str, Vb.isi_lst_tup, Vb.isi_lst_ref, ix_ref e, at1]
    rw [set_at (j := 1) e rfl]
    try simp only [Vb.execs, Vb.exec, Vb.evalE, Vb.evalEs, Vb.evalT, Vb.evalI, Vb.evalO, Vb.evalOT, Vb.asgS, Vb.bind_ok, Vb.bind_assoc, Vb.then_ok, Vb.then_bind, Vb.next_then, Vb.next_next, Vb.next_nx, Vb.next_rt, Vb.next_bk, Vb.next_ct, Vb.fin_then, Vb.fin_rt, Vb.fin_nx, Vb.opt_some, Vb.cb_fn, Vb.cb_cls, Vb.gl0, Vb.gls, List.getElem?_cons_zero, List.getElem?_cons_succ, List.set_cons_zero, List.set_cons_succ, Vb.storeTg, Vb.storeAll, Option.map_some, List.length_cons, List.length_nil, Nat.zero_add, Nat.reduceAdd, Vb.ln0, Vb.ln1, Vb.ln2, Vb.ln3, Vb.ln4, Vb.ln5, Vb.ln6, if_true, Vb.newObj, Vb.it_tup, Vb.it_ref, Vb.it_str, Vb.ty_join, Vb.ty_split, Vb.ty_append, Vb.ty_extend, Vb.ty_pop, Option.isSome_some, List.map_cons, List.map_nil, Bool.false_eq_true, if_false, Vb.tr_bl, Vb.wipeL, decide_true, decide_false, Bool.not_true, Bool.not_false, Vb.b_add, Vb.b_sub, Vb.c_lt, Vb.c_le, Vb.c_gt, Vb.c_ge, Vb.c_eq_int, Vb.c_ne_int, Vb.c_isn_non, Vb.c_isn_int, Vb.c_isn_tup, Vb.c_notn_non, Vb.c_notn_int, Vb.c_notn_tup, Vb.ix_tup, Vb.bi_list_tup, Vb.isi_int_non, Vb.isi_int_bl, Vb.isi_int_int, Vb.isi_int_str, Vb.isi_int_tup, Vb.isi_int_ref, Vb.isi_bool_non, Vb.isi_bool_bl, Vb.isi_bool_int, Vb.isi_bool_str, Vb.isi_bool_tup, Vb.isi_bool_ref, Vb.isi_str_non, Vb.isi_str_bl, Vb.isi_str_int, Vb.isi_str_str, Vb.isi_str_tup, Vb.isi_str_ref, Vb.isi_tup_non, Vb.isi_tup_bl, Vb.isi_tup_int, Vb.isi_tup_str, Vb.isi_tup_tup, Vb.isi_tup_ref, Vb.isi_lst_non, Vb.isi_lst_bl, Vb.isi_lst_int, Vb.isi_lst_str, Vb.isi_lst_tup, Vb.isi_lst_ref, ix_ref (get_set e), at0, at1]
    refine Ok.bind (sp21 n _ a (b + 1) (by omega) (by omega)) ?_
    rintro _ h2 ⟨⟨i, rfl, i0, i1⟩, rfl⟩
    try simp only [Vb.execs, Vb.exec, Vb.evalE, Vb.evalEs, Vb.evalT, Vb.evalI, Vb.evalO, Vb.evalOT, Vb.asgS, Vb.bind_ok, Vb.bind_assoc, Vb.then_ok, Vb.then_bind, Vb.next_then, Vb.next_next, Vb.next_nx, Vb.next_rt, Vb.next_bk, Vb.next_ct, Vb.fin_then, Vb.fin_rt, Vb.fin_nx, Vb.opt_some, Vb.cb_fn, Vb.cb_cls, Vb.gl0, Vb.gls, List.getElem?_cons_zero, List.getElem?_cons_succ, List.set_cons_zero, List.set_cons_succ, Vb.storeTg, Vb.storeAll, Option.map_some, List.length_cons, List.length_nil, Nat.zero_add, Nat.reduceAdd, Vb.ln0, Vb.ln1, Vb.ln2, Vb.ln3, Vb.ln4, Vb.ln5, Vb.ln6, if_true, Vb.newObj, Vb.it_tup, Vb.it_ref, Vb.it_str, Vb.ty_join, Vb.ty_split, Vb.ty_append, Vb.ty_extend, Vb.ty_pop, Option.isSome_some, List.map_cons, List.map_nil, Bool.false_eq_true, if_false, Vb.tr_bl, Vb.wipeL, decide_true, decide_false, Bool.not_true, Bool.not_false, Vb.b_add, Vb.b_sub, Vb.c_lt, Vb.c_le, Vb.c_gt, Vb.c_ge, Vb.c_eq_int, Vb.c_ne_int, Vb.c_isn_non, Vb.c_isn_int, Vb.c_isn_tup, Vb.c_notn_non, Vb.c_notn_int, Vb.c_notn_tup, Vb.ix_tup, Vb.bi_list_tup, Vb.isi_int_non, Vb.isi_int_bl, Vb.isi_int_int, Vb.isi_int_str, Vb.isi_int_tup, Vb.isi_int_ref, Vb.isi_bool_non, Vb.isi_bool_bl, Vb.isi_bool_int, Vb.isi_bool_str, Vb.isi_bool_tup, Vb.isi_bool_ref, Vb.isi_str_non, Vb.isi_str_bl, Vb.isi_str_int, Vb.isi_str_str, Vb.isi_str_tup, Vb.isi_str_ref, Vb.isi_tup_non, Vb.isi_tup_bl, Vb.isi_tup_int, Vb.isi_tup_str, Vb.isi_tup_tup, Vb.isi_tup_ref, Vb.isi_lst_non, Vb.isi_lst_bl, Vb.isi_lst_int, Vb.isi_lst_str, Vb.isi_lst_tup, Vb.isi_lst_ref, ix_ref (get_set e), at0, at1, b_mulR (show big64 2147483629 = true by decide)]
    refine Ok.bind (sp21 n _ a (b + 1 + 9001) (by omega) (by omega)) ?_
    rintro _ h3 ⟨⟨j, rfl, j0, j1⟩, rfl⟩
    try simp only [Vb.execs, Vb.exec, Vb.evalE, Vb.evalEs, Vb.evalT, Vb.evalI, Vb.evalO, Vb.evalOT, Vb.asgS, Vb.bind_ok, Vb.bind_assoc, Vb.then_ok, Vb.then_bind, Vb.next_then, Vb.next_next, Vb.next_nx, Vb.next_rt, Vb.next_bk, Vb.next_ct, Vb.fin_then, Vb.fin_rt, Vb.fin_nx, Vb.opt_some, Vb.cb_fn, Vb.cb_cls, Vb.gl0, Vb.gls, List.getElem?_cons_zero, List.getElem?_cons_succ, List.set_cons_zero, List.set_cons_succ, Vb.storeTg, Vb.storeAll, Option.map_some, List.length_cons, List.length_nil, Nat.zero_add, Nat.reduceAdd, Vb.ln0, Vb.ln1, Vb.ln2, Vb.ln3, Vb.ln4, Vb.ln5, Vb.ln6, if_true, Vb.newObj, Vb.it_tup, Vb.it_ref, Vb.it_str, Vb.ty_join, Vb.ty_split, Vb.ty_append, Vb.ty_extend, Vb.ty_pop, Option.isSome_some, List.map_cons, List.map_nil, Bool.false_eq_true, if_false, Vb.tr_bl, Vb.wipeL, decide_true, decide_false, Bool.not_true, Bool.not_false, Vb.b_add, Vb.b_sub, Vb.c_lt, Vb.c_le, Vb.c_gt, Vb.c_ge, Vb.c_eq_int, Vb.c_ne_int, Vb.c_isn_non, Vb.c_isn_int, Vb.c_isn_tup, Vb.c_notn_non, Vb.c_notn_int, Vb.c_notn_tup, Vb.ix_tup, Vb.bi_list_tup, Vb.isi_int_non, Vb.isi_int_bl, Vb.isi_int_int, Vb.isi_int_str, Vb.isi_int_tup, Vb.isi_int_ref, Vb.isi_bool_non, Vb.isi_bool_bl, Vb.isi_bool_int, Vb.isi_bool_str, Vb.isi_bool_tup, Vb.isi_bool_ref, Vb.isi_str_non, Vb.isi_str_bl, Vb.isi_str_int, Vb.isi_str_str, Vb.isi_str_tup, Vb.isi_str_ref, Vb.isi_tup_non, Vb.isi_tup_bl, Vb.isi_tup_int, Vb.isi_tup_str, Vb.isi_tup_tup, Vb.isi_tup_ref, Vb.isi_lst_non, Vb.isi_lst_bl, Vb.isi_lst_int, Vb.isi_lst_str, Vb.isi_lst_tup, Vb.isi_lst_ref, b_fdiv (show (0 : Int) < 11 by decide) (show (11 : Int) < 2 ^ 63 by decide), b_mod h0]
    exact .ret ⟨⟨_, rfl, Int.emod_nonneg _ (by omega), Int.emod_lt_of_pos _ h0⟩, .set (.inl (by simp)) _, a, b + 1, c, get_set e, by omega, by omega⟩
/-- a list of four: one of them -/
theorem pick4 {h : MH} {q : Nat} {a b c d : PV} {i : Int} (e : h[q]? = some (.lst [a, b, c, d])) (h0 : 0 ≤ i) (h1 : i < 4) : ∃ v, idxS (.ref q) (.int i) h = some v ∧ (v = a ∨ v = b ∨ v = c ∨ v = d) := by
  rw [ix_ref e]
  have z : i = 0 ∨ i = 1 ∨ i = 2 ∨ i = 3 := by omega
  rcases z with rfl | rfl | rfl | rfl
  · exact ⟨a, rfl, .inl rfl⟩
  · exact ⟨b, rfl, .inr (.inl rfl)⟩
  · exact ⟨c, rfl, .inr (.inr (.inl rfl))⟩
  · exact ⟨d, rfl, .inr (.inr (.inr rfl))⟩
theorem pick5 {h : MH} {q : Nat} {a b c d f : PV} {i : Int} (e : h[q]? = some (.lst [a, b, c, d, f])) (h0 : 0 ≤ i) (h1 : i < 5) : ∃ v, idxS (.ref q) (.int i) h = some v ∧ (v = a ∨ v = b ∨ v = c ∨ v = d ∨ v = f) := by
  rw [ix_ref e]
  have z : i = 0 ∨ i = 1 ∨ i = 2 ∨ i = 3 ∨ i = 4 := by omega
  rcases z with rfl | rfl | rfl | rfl | rfl
  · exact ⟨a, rfl, .inl rfl⟩
  · exact ⟨b, rfl, .inr (.inl rfl)⟩
  · exact ⟨c, rfl, .inr (.inr (.inl rfl))⟩
  · exact ⟨d, rfl, .inr (.inr (.inr (.inl rfl)))⟩
  · exact ⟨f, rfl, .inr (.inr (.inr (.inr rfl)))⟩
theorem pick3 {h : MH} {q : Nat} {a b c : PV} {i : Int} (e : h[q]? = some (.lst [a, b, c])) (h0 : 0 ≤ i) (h1 : i < 3) : ∃ v, idxS (.ref q) (.int i) h = some v ∧ (v = a ∨ v = b ∨ v = c) := by
  rw [ix_ref e]
  have z : i = 0 ∨ i = 1 ∨ i = 2 := by omega
  rcases z with rfl | rfl | rfl
  · exact ⟨a, rfl, .inl rfl⟩
  · exact ⟨b, rfl, .inr (.inl rfl)⟩
  · exact ⟨c, rfl, .inr (.inr rfl)⟩
theorem pick2 {h : MH} {q : Nat} {a b : PV} {i : Int} (e : h[q]? = some (.lst [a, b])) (h0 : 0 ≤ i) (h1 : i < 2) : ∃ v, idxS (.ref q) (.int i) h = some v ∧ (v = a ∨ v = b) := by
  rw [ix_ref e]
  have z : i = 0 ∨ i = 1 := by omega
  rcases z with rfl | rfl
  · exact ⟨a, rfl, .inl rfl⟩
  · exact ⟨b, rfl, .inr rfl⟩
theorem Dr.put {r q : Nat} {B : Int} {h : MH} {o : MO} (d : Dr r B h) (z : r ≠ q) : Dr r B (h.set q o) := let ⟨a, b, c, e, h0, h1⟩ := d; ⟨a, b, c, get_put e z, h0, h1⟩
def Small (v : PV) : Prop := ∃ i : Int, v = .int i ∧ 0 ≤ i ∧ i ≤ 9999
/-- _law_number -/
theorem sp27 (n : Nat) (h : MH) (r : Nat) (B : Int) (d : Dr r B h) (hB : B + 10 ≤ TOP) : Ok (callF Pr (n + 3) 27 [.ref r] h) fun v h' => Small v ∧ Keep [r] h h' ∧ Dr r (B + 3) h' := by
  rw [callF_at (d := d27) rfl rfl]
  show Ok (finF (execs (cbK Pr (n + 2)) Pr.xt Pr.wl b27 [some (.ref r)] h)) _
  unfold b27
  try simp only [Vb.execs, Vb.exec, Vb.evalE, Vb.evalEs, Vb.evalT, Vb.evalI, Vb.evalO, Vb.evalOT, Vb.asgS, Vb.bind_ok, Vb.bind_assoc, Vb.then_ok, Vb.then_bind, Vb.next_then, Vb.next_next, Vb.next_nx, Vb.next_rt, Vb.next_bk, Vb.next_ct, Vb.fin_then, Vb.fin_rt, Vb.fin_nx, Vb.opt_some, Vb.cb_fn, Vb.cb_cls, Vb.gl0, Vb.gls, List.getElem?_cons_zero, List.getElem?_cons_succ, List.set_cons_zero, List.set_cons_succ, Vb.storeTg, Vb.storeAll, Option.map_some, List.length_cons, List.length_nil, Nat.zero_add, Nat.reduceAdd, Vb.ln0, Vb.ln1, Vb.ln2, Vb.ln3, Vb.ln4, Vb.ln5, Vb.ln6, if_true, Vb.newObj, Vb.it_tup, Vb.it_ref, Vb.it_str, Vb.ty_join, Vb.ty_split, Vb.ty_append, Vb.ty_extend, Vb.ty_pop, Option.isSome_some, List.map_cons, List.map_nil, Bool.false_eq_true, if_false, Vb.tr_bl, Vb.wipeL, decide_true, decide_false, Bool.not_true, Bool.not_false, Vb.b_add, Vb.b_sub, Vb.c_lt, Vb.c_le, Vb.c_gt, Vb.c_ge, Vb.c_eq_int, Vb.c_ne_int, Vb.c_isn_non, Vb.c_isn_int, Vb.c_isn_tup, Vb.c_notn_non, Vb.c_notn_int, Vb.c_notn_tup, Vb.ix_tup, Vb.bi_list_tup, Vb.isi_int_non, Vb.isi_int_bl, Vb.isi_int_int, Vb.isi_int_str, Vb.isi_int_tup, Vb.isi_int_ref, Vb.isi_bool_non, Vb.isi_bool_bl, Vb.isi_bool_int, Vb.isi_bool_str, Vb.isi_bool_tup, Vb.isi_bool_ref, Vb.isi_str_non, Vb.isi_str_bl, Vb.isi_str_int, Vb.isi_str_str, Vb.isi_str_tup, Vb.isi_str_ref, Vb.isi_tup_non, Vb.isi_tup_bl, Vb.isi_tup_int, Vb.isi_tup_str, Vb.isi_tup_tup, Vb.isi_tup_ref, Vb.isi_lst_non, Vb.isi_lst_bl, Vb.isi_lst_int, Vb.isi_lst_str, Vb.isi_lst_tup, Vb.isi_lst_ref]
  refine Ok.bind (sp23 n h r 5 B d (by omega) (by decide) (by decide)) ?_
  rintro _ h1 ⟨⟨i, rfl, i0, i1⟩, k1, d1⟩
  refine Ok.bind (sp23 n h1 r 10000 _ d1 (by omega) (by decide) (by decide)) ?_
  rintro _ h2 ⟨⟨j, rfl, j0, j1⟩, k2, d2⟩
  have d3 := d2.keep (S := []) (.push (MO.lst [.int 0, .int i, .int j, .int 9999])) (by simp)
  refine Ok.bind (sp23 n _ r 4 _ d3 (by omega) (by decide) (by decide)) ?_
  rintro _ h3 ⟨⟨l, rfl, l0, l1⟩, k3, d4⟩
  have e := k3.get get_new (by have := d2.lt; simp; omega)
  obtain ⟨v, ev, hv⟩ := pick4 e l0 l1
  rw [ev]
  try simp only [Vb.execs, Vb.exec, Vb.evalE, Vb.evalEs, Vb.evalT, Vb.evalI, Vb.evalO, Vb.evalOT, Vb.asgS, Vb.bind_ok, Vb.bind_assoc, Vb.then_ok, Vb.then_bind, Vb.next_then, Vb.next_next, Vb.next_nx, Vb.next_rt, Vb.next_bk, Vb.next_ct, Vb.fin_then, Vb.fin_rt, Vb.fin_nx, Vb.opt_some, Vb.cb_fn, Vb.cb_cls, Vb.gl0, Vb.gls, List.getElem?_cons_zero, List.getElem?_cons_succ, List.set_cons_zero, List.set_cons_succ, Vb.storeTg, Vb.storeAll, Option.map_some, List.length_cons, List.length_nil, Nat.zero_add, Nat.reduceAdd, Vb.ln0, Vb.ln1, Vb.ln2, Vb.ln3, Vb.ln4, Vb.ln5, Vb.ln6, if_true, Vb.newObj, Vb.it_tup, Vb.it_ref, Vb.it_str, Vb.ty_join, Vb.ty_split, Vb.ty_append, Vb.ty_extend, Vb.ty_pop, Option.isSome_some, List.map_cons, List.map_nil, Bool.false_eq_true, if_false, Vb.tr_bl, Vb.wipeL, decide_true, decide_false, Bool.not_true, Bool.not_false, Vb.b_add, Vb.b_sub, Vb.c_lt, Vb.c_le, Vb.c_gt, Vb.c_ge, Vb.c_eq_int, Vb.c_ne_int, Vb.c_isn_non, Vb.c_isn_int, Vb.c_isn_tup, Vb.c_notn_non, Vb.c_notn_int, Vb.c_notn_tup, Vb.ix_tup, Vb.bi_list_tup, Vb.isi_int_non, Vb.isi_int_bl, Vb.isi_int_int, Vb.isi_int_str, Vb.isi_int_tup, Vb.isi_int_ref, Vb.isi_bool_non, Vb.isi_bool_bl, Vb.isi_bool_int, Vb.isi_bool_str, Vb.isi_bool_tup, Vb.isi_bool_ref, Vb.isi_str_non, Vb.isi_str_bl, Vb.isi_str_int, Vb.isi_str_str, Vb.isi_str_tup, Vb.isi_str_ref, Vb.isi_tup_non, Vb.isi_tup_bl, Vb.isi_tup_int, Vb.isi_tup_str, Vb.isi_tup_tup, Vb.isi_tup_ref, Vb.isi_lst_non, Vb.isi_lst_bl, Vb.isi_lst_int, Vb.isi_lst_str, Vb.isi_lst_tup, Vb.isi_lst_ref]
  refine .ret ⟨?_, (k1.trans k2).trans ((Keep.push _).trans k3), d4.weak (by omega)⟩
  rcases hv with rfl | rfl | rfl | rfl
  · exact ⟨0, rfl, by decide, by decide⟩
  · exact ⟨i, rfl, i0, by omega⟩
  · exact ⟨j, rfl, j0, by omega⟩
  · exact ⟨9999, rfl, by decide, by decide⟩
def Wd : Nat → Nat
  | 0 => 1
  | d + 1 => 1 + 3 * Wd d
def Cd : Nat → Int
  | 0 => 5
  | d + 1 => 5 + 3 * Cd d
theorem Wd_pos : ∀ d, 1 ≤ Wd d
  | 0 => Nat.le_refl _
  | d + 1 => by simp only [Wd]; omega
theorem Cd_pos : ∀ d, 5 ≤ Cd d
  | 0 => by decide
  | d + 1 => by have := Cd_pos d; simp only [Cd]; omega
theorem small_T {v : PV} (d : Nat) (h : Small v) : isT d v ∧ wt d v ≤ Wd d := by
  obtain ⟨i, rfl, h0, h1⟩ := h
  refine ⟨?_, by rw [wt_int]; exact Wd_pos d⟩
  cases d <;> exact ⟨h0, h1⟩
def Lf (q : Nat) (h : MH) : Prop := ∃ z : Int, h[q]? = some (.lst [.int z])
theorem Lf.keep {q : Nat} {h h' : MH} {S : List Nat} (d : Lf q h) (k : Keep S h h') (z : q ∉ S) : Lf q h' := let ⟨a, e⟩ := d; ⟨a, k.get e z⟩
theorem Lf.put {q p : Nat} {h : MH} {o : MO} (d : Lf q h) (z : q ≠ p) : Lf q (h.set p o) := let ⟨a, e⟩ := d; ⟨a, get_put e z⟩
theorem Lf.lt {q : Nat} {h : MH} (d : Lf q h) : q < h.length := let ⟨a, e⟩ := d; lt_of_get e
theorem wt_tup {d c : Nat} {xs : List PV} {m : Nat} (hl : xs.length ≤ m) (h : ∀ x ∈ xs, wt d x ≤ c) : wt (d + 1) (.tup xs) ≤ 1 + m * c := by
  simp only [wt]
  have a := sum_le_mul (l := xs.map (wt d)) (c := c) fun x hx => by
    obtain ⟨y, hy, rfl⟩ := List.mem_map.mp hx
    exact h y hy
  rw [List.length_map] at a
  have b : c * xs.length ≤ m * c := by rw [Nat.mul_comm]; exact Nat.mul_le_mul_right c hl
  omega
/-- _law_thing -/
theorem sp24 : ∀ (d : Nat) (k : Nat) (h : MH) (r q : Nat) (B : Int), r ≠ q → Dr r B h → Lf q h → B + Cd d ≤ TOP → d + 3 ≤ k →
    Ok (callF Pr k 24 [.ref r, .int d, .ref q] h) fun v h' => (isT d v ∧ wt d v ≤ Wd d) ∧ Keep [r, q] h h' ∧ Dr r (B + Cd d) h' ∧ Lf q h' := by
  -- a number
  have leaf : ∀ (d n : Nat) (h : MH) (r q : Nat) (B : Int), r ≠ q → Dr r B h → Lf q h → B + 4 ≤ TOP →
      Ok (((callF Pr (n + 2) 23 [.ref r, .int 10] h).bind fun a h => (callF Pr (n + 2) 23 [.ref r, .int 10000] h).bind fun b h => (callF Pr (n + 2) 23 [.ref r, .int 4] (h ++ [.lst [a, b, .int 0, .int 9999]])).bind fun i h1 => (ofOpt h1 (idxS (.ref h.length) i h1)).bind fun v h => .ok v h)) fun v h' => (isT d v ∧ wt d v ≤ Wd d) ∧ Keep [r, q] h h' ∧ Dr r (B + 3) h' ∧ Lf q h' := by
    intro d n h r q B hne dr lf hB
    refine Ok.bind (sp23 n h r 10 B dr (by omega) (by decide) (by decide)) ?_
    rintro _ h1 ⟨⟨i, rfl, i0, i1⟩, k1, d1⟩
    refine Ok.bind (sp23 n h1 r 10000 _ d1 (by omega) (by decide) (by decide)) ?_
    rintro _ h2 ⟨⟨j, rfl, j0, j1⟩, k2, d2⟩
    have d3 := d2.keep (S := []) (.push (MO.lst [.int i, .int j, .int 0, .int 9999])) (by simp)
    refine Ok.bind (sp23 n _ r 4 _ d3 (by omega) (by decide) (by decide)) ?_
    rintro _ h3 ⟨⟨l, rfl, l0, l1⟩, k3, d4⟩
    have e := k3.get get_new (by have := d2.lt; simp; omega)
    obtain ⟨v, ev, hv⟩ := pick4 e l0 l1
    rw [ev]
    try simp only [Vb.execs, Vb.exec, Vb.evalE, Vb.evalEs, Vb.evalT, Vb.evalI, Vb.evalO, Vb.evalOT, Vb.asgS, Vb.bind_ok, Vb.bind_assoc, Vb.then_ok, Vb.then_bind, Vb.next_then, Vb.next_next, Vb.next_nx, Vb.next_rt, Vb.next_bk, Vb.next_ct, Vb.fin_then, Vb.fin_rt, Vb.fin_nx, Vb.opt_some, Vb.cb_fn, Vb.cb_cls, Vb.gl0, Vb.gls, List.getElem?_cons_zero, List.getElem?_cons_succ, List.set_cons_zero, List.set_cons_succ, Vb.storeTg, Vb.storeAll, Option.map_some, List.length_cons, List.length_nil, Nat.zero_add, Nat.reduceAdd, Vb.ln0, Vb.ln1, Vb.ln2, Vb.ln3, Vb.ln4, Vb.ln5, Vb.ln6, if_true, Vb.newObj, Vb.it_tup, Vb.it_ref, Vb.it_str, Vb.ty_join, Vb.ty_split, Vb.ty_append, Vb.ty_extend, Vb.ty_pop, Option.isSome_some, List.map_cons, List.map_nil, Bool.false_eq_true, if_false, Vb.tr_bl, Vb.wipeL, decide_true, decide_false, Bool.not_true, Bool.not_false, Vb.b_add, Vb.b_sub, Vb.c_lt, Vb.c_le, Vb.c_gt, Vb.c_ge, Vb.c_eq_int, Vb.c_ne_int, Vb.c_isn_non, Vb.c_isn_int, Vb.c_isn_tup, Vb.c_notn_non, Vb.c_notn_int, Vb.c_notn_tup, Vb.ix_tup, Vb.bi_list_tup, Vb.isi_int_non, Vb.isi_int_bl, Vb.isi_int_int, Vb.isi_int_str, Vb.isi_int_tup, Vb.isi_int_ref, Vb.isi_bool_non, Vb.isi_bool_bl, Vb.isi_bool_int, Vb.isi_bool_str, Vb.isi_bool_tup, Vb.isi_bool_ref, Vb.isi_str_non, Vb.isi_str_bl, Vb.isi_str_int, Vb.isi_str_str, Vb.isi_str_tup, Vb.isi_str_ref, Vb.isi_tup_non, Vb.isi_tup_bl, Vb.isi_tup_int, Vb.isi_tup_str, Vb.isi_tup_tup, Vb.isi_tup_ref, Vb.isi_lst_non, Vb.isi_lst_bl, Vb.isi_lst_int, Vb.isi_lst_str, Vb.isi_lst_tup, Vb.isi_lst_ref]
    have kk : Keep [r] h h3 := (k1.trans k2).trans ((Keep.push _).trans k3)
    refine .ret ⟨small_T d ?_, kk.weak (fun x hx => .inl (by simp at hx; simp [hx])), d4.weak (by omega), lf.keep kk (by simp; exact fun z => hne z.symm)⟩
    rcases hv with rfl | rfl | rfl | rfl
    · exact ⟨i, rfl, i0, by omega⟩
    · exact ⟨j, rfl, j0, by omega⟩
    · exact ⟨0, rfl, by decide, by decide⟩
    · exact ⟨9999, rfl, by decide, by decide⟩
  intro d
  induction d with
  | zero =>
    intro k h r q B hne dr lf hB hk
    obtain ⟨n, rfl⟩ : ∃ n, k = n + 3 := ⟨k - 3, by omega⟩
    obtain ⟨z, ez⟩ := lf
    rw [callF_at (d := d24) rfl rfl]
    show Ok (finF (execs (cbK Pr (n + 2)) Pr.xt Pr.wl b24 [some (.ref r), some (.int 0), some (.ref q), none] h)) _
    unfold b24
    try simp only [Vb.execs, Vb.exec, Vb.evalE, Vb.evalEs, Vb.evalT, Vb.evalI, Vb.evalO, Vb.evalOT, Vb.asgS, Vb.bind_ok, Vb.bind_assoc, Vb.then_ok, Vb.then_bind, Vb.next_then, Vb.next_next, Vb.next_nx, Vb.next_rt, Vb.next_bk, Vb.next_ct, Vb.fin_then, Vb.fin_rt, Vb.fin_nx, Vb.opt_some, Vb.cb_fn, Vb.cb_cls, Vb.gl0, Vb.gls, List.getElem?_cons_zero, List.getElem?_cons_succ, List.set_cons_zero, List.set_cons_succ, Vb.storeTg, Vb.storeAll, Option.map_some, List.length_cons, List.length_nil, Nat.zero_add, Nat.reduceAdd, Vb.ln0, Vb.ln1, Vb.ln2, Vb.ln3, Vb.ln4, Vb.ln5, Vb.ln6, if_true, Vb.newObj, Vb.it_tup, Vb.it_ref, Vb.it_str, Vb.ty_join, Vb.ty_split, Vb.ty_append, Vb.ty_extend, Vb.ty_pop, Option.isSome_some, List.map_cons, List.map_nil, Bool.false_eq_true, if_false, Vb.tr_bl, Vb.wipeL, decide_true, decide_false, Bool.not_true, Bool.not_false, Vb.b_add, Vb.b_sub, Vb.c_lt, Vb.c_le, Vb.c_gt, Vb.c_ge, Vb.c_eq_int, Vb.c_ne_int, Vb.c_isn_non, Vb.c_isn_int, Vb.c_isn_tup, Vb.c_notn_non, Vb.c_notn_int, Vb.c_notn_tup, Vb.ix_tup, Vb.bi_list_tup, Vb.isi_int_non, Vb.isi_int_bl, Vb.isi_int_int, Vb.isi_int_str, Vb.isi_int_tup, Vb.isi_int_ref, Vb.isi_bool_non, Vb.isi_bool_bl, Vb.isi_bool_int, Vb.isi_bool_str, Vb.isi_bool_tup, Vb.isi_bool_ref, Vb.isi_str_non, Vb.isi_str_bl, Vb.isi_str_int, Vb.isi_str_str, Vb.isi_str_tup, Vb.isi_str_ref, Vb.isi_tup_non, Vb.isi_tup_bl, Vb.isi_tup_int, Vb.isi_tup_str, Vb.isi_tup_tup, Vb.isi_tup_ref, Vb.isi_lst_non, Vb.isi_lst_bl, Vb.isi_lst_int, Vb.isi_lst_str, Vb.isi_lst_tup, Vb.isi_lst_ref, ix_ref ez, show L2.atI [PV.int z] 0 = some (.int z) from rfl]
    rw [set_at (j := 0) ez rfl]
    try simp only [Vb.execs, Vb.exec, Vb.evalE, Vb.evalEs, Vb.evalT, Vb.evalI, Vb.evalO, Vb.evalOT, Vb.asgS, Vb.bind_ok, Vb.bind_assoc, Vb.then_ok, Vb.then_bind, Vb.next_then, Vb.next_next, Vb.next_nx, Vb.next_rt, Vb.next_bk, Vb.next_ct, Vb.fin_then, Vb.fin_rt, Vb.fin_nx, Vb.opt_some, Vb.cb_fn, Vb.cb_cls, Vb.gl0, Vb.gls, List.getElem?_cons_zero, List.getElem?_cons_succ, List.set_cons_zero, List.set_cons_succ, Vb.storeTg, Vb.storeAll, Option.map_some, List.length_cons, List.length_nil, Nat.zero_add, Nat.reduceAdd, Vb.ln0, Vb.ln1, Vb.ln2, Vb.ln3, Vb.ln4, Vb.ln5, Vb.ln6, if_true, Vb.newObj, Vb.it_tup, Vb.it_ref, Vb.it_str, Vb.ty_join, Vb.ty_split, Vb.ty_append, Vb.ty_extend, Vb.ty_pop, Option.isSome_some, List.map_cons, List.map_nil, Bool.false_eq_true, if_false, Vb.tr_bl, Vb.wipeL, decide_true, decide_false, Bool.not_true, Bool.not_false, Vb.b_add, Vb.b_sub, Vb.c_lt, Vb.c_le, Vb.c_gt, Vb.c_ge, Vb.c_eq_int, Vb.c_ne_int, Vb.c_isn_non, Vb.c_isn_int, Vb.c_isn_tup, Vb.c_notn_non, Vb.c_notn_int, Vb.c_notn_tup, Vb.ix_tup, Vb.bi_list_tup, Vb.isi_int_non, Vb.isi_int_bl, Vb.isi_int_int, Vb.isi_int_str, Vb.isi_int_tup, Vb.isi_int_ref, Vb.isi_bool_non, Vb.isi_bool_bl, Vb.isi_bool_int, Vb.isi_bool_str, Vb.isi_bool_tup, Vb.isi_bool_ref, Vb.isi_str_non, Vb.isi_str_bl, Vb.isi_str_int, Vb.isi_str_str, Vb.isi_str_tup, Vb.isi_str_ref, Vb.isi_tup_non, Vb.isi_tup_bl, Vb.isi_tup_int, Vb.isi_tup_str, Vb.isi_tup_tup, Vb.isi_tup_ref, Vb.isi_lst_non, Vb.isi_lst_bl, Vb.isi_lst_int, Vb.isi_lst_str, Vb.isi_lst_tup, Vb.isi_lst_ref, decide_eq_true (rfl : (0 : Int) = 0)]
    have kq : Keep [q] h (h.set q (.lst [.int (z - 1)])) := .set (.inl (by simp)) _
    simp only [Cd] at hB ⊢
    refine (leaf 0 n _ r q B hne (dr.keep kq (by simp; exact hne)) ⟨z - 1, get_set ez⟩ (by omega)).mono ?_
    rintro v h' ⟨g1, g2, g3, g4⟩
    exact ⟨g1, (kq.weak (by simp)).trans g2, g3.weak (by omega), g4⟩
  | succ d ih =>
    intro k h r q B hne dr lf hB hk
    obtain ⟨n, rfl⟩ : ∃ n, k = n + 3 := ⟨k - 3, by omega⟩
    obtain ⟨z, ez⟩ := lf
    have cp := Cd_pos d
    simp only [Cd] at hB ⊢
    rw [callF_at (d := d24) rfl rfl]
    show Ok (finF (execs (cbK Pr (n + 2)) Pr.xt Pr.wl b24 [some (.ref r), some (.int (d + 1 : Nat)), some (.ref q), none] h)) _
    unfold b24
    try simp only [Vb.execs, Vb.exec, Vb.evalE, Vb.evalEs, Vb.evalT, Vb.evalI, Vb.evalO, Vb.evalOT, Vb.asgS, Vb.bind_ok, Vb.bind_assoc, Vb.then_ok, Vb.then_bind, Vb.next_then, Vb.next_next, Vb.next_nx, Vb.next_rt, Vb.next_bk, Vb.next_ct, Vb.fin_then, Vb.fin_rt, Vb.fin_nx, Vb.opt_some, Vb.cb_fn, Vb.cb_cls, Vb.gl0, Vb.gls, List.getElem?_cons_zero, List.getElem?_cons_succ, List.set_cons_zero, List.set_cons_succ, Vb.storeTg, Vb.storeAll, Option.map_some, List.length_cons, List.length_nil, Nat.zero_add, Nat.reduceAdd, Vb.ln0, Vb.ln1, Vb.ln2, Vb.ln3, Vb.ln4, Vb.ln5, Vb.ln6, if_true, Vb.newObj, Vb.it_tup, Vb.it_ref, Vb.it_str, Vb.ty_join, Vb.ty_split, Vb.ty_append, Vb.ty_extend, Vb.ty_pop, Option.isSome_some, List.map_cons, List.map_nil, Bool.false_eq_true, if_false, Vb.tr_bl, Vb.wipeL, decide_true, decide_false, Bool.not_true, Bool.not_false, Vb.b_add, Vb.b_sub, Vb.c_lt, Vb.c_le, Vb.c_gt, Vb.c_ge, Vb.c_eq_int, Vb.c_ne_int, Vb.c_isn_non, Vb.c_isn_int, Vb.c_isn_tup, Vb.c_notn_non, Vb.c_notn_int, Vb.c_notn_tup, Vb.ix_tup, Vb.bi_list_tup, Vb.isi_int_non, Vb.isi_int_bl, Vb.isi_int_int, Vb.isi_int_str, Vb.isi_int_tup, Vb.isi_int_ref, Vb.isi_bool_non, Vb.isi_bool_bl, Vb.isi_bool_int, Vb.isi_bool_str, Vb.isi_bool_tup, Vb.isi_bool_ref, Vb.isi_str_non, Vb.isi_str_bl, Vb.isi_str_int, Vb.isi_str_str, Vb.isi_str_tup, Vb.isi_str_ref, Vb.isi_tup_non, Vb.isi_tup_bl, Vb.isi_tup_int, Vb.isi_tup_str, Vb.isi_tup_tup, Vb.isi_tup_ref, Vb.isi_lst_non, Vb.isi_lst_bl, Vb.isi_lst_int, Vb.isi_lst_str, Vb.isi_lst_tup, Vb.isi_lst_ref, ix_ref ez, show L2.atI [PV.int z] 0 = some (.int z) from rfl]
    rw [set_at (j := 0) ez rfl]
    try simp only [Vb.execs, Vb.exec, Vb.evalE, Vb.evalEs, Vb.evalT, Vb.evalI, Vb.evalO, Vb.evalOT, Vb.asgS, Vb.bind_ok, Vb.bind_assoc, Vb.then_ok, Vb.then_bind, Vb.next_then, Vb.next_next, Vb.next_nx, Vb.next_rt, Vb.next_bk, Vb.next_ct, Vb.fin_then, Vb.fin_rt, Vb.fin_nx, Vb.opt_some, Vb.cb_fn, Vb.cb_cls, Vb.gl0, Vb.gls, List.getElem?_cons_zero, List.getElem?_cons_succ, List.set_cons_zero, List.set_cons_succ, Vb.storeTg, Vb.storeAll, Option.map_some, List.length_cons, List.length_nil, Nat.zero_add, Nat.reduceAdd, Vb.ln0, Vb.ln1, Vb.ln2, Vb.ln3, Vb.ln4, Vb.ln5, Vb.ln6, if_true, Vb.newObj, Vb.it_tup, Vb.it_ref, Vb.it_str, Vb.ty_join, Vb.ty_split, Vb.ty_append, Vb.ty_extend, Vb.ty_pop, Option.isSome_some, List.map_cons, List.map_nil, Bool.false_eq_true, if_false, Vb.tr_bl, Vb.wipeL, decide_true, decide_false, Bool.not_true, Bool.not_false, Vb.b_add, Vb.b_sub, Vb.c_lt, Vb.c_le, Vb.c_gt, Vb.c_ge, Vb.c_eq_int, Vb.c_ne_int, Vb.c_isn_non, Vb.c_isn_int, Vb.c_isn_tup, Vb.c_notn_non, Vb.c_notn_int, Vb.c_notn_tup, Vb.ix_tup, Vb.bi_list_tup, Vb.isi_int_non, Vb.isi_int_bl, Vb.isi_int_int, Vb.isi_int_str, Vb.isi_int_tup, Vb.isi_int_ref, Vb.isi_bool_non, Vb.isi_bool_bl, Vb.isi_bool_int, Vb.isi_bool_str, Vb.isi_bool_tup, Vb.isi_bool_ref, Vb.isi_str_non, Vb.isi_str_bl, Vb.isi_str_int, Vb.isi_str_str, Vb.isi_str_tup, Vb.isi_str_ref, Vb.isi_tup_non, Vb.isi_tup_bl, Vb.isi_tup_int, Vb.isi_tup_str, Vb.isi_tup_tup, Vb.isi_tup_ref, Vb.isi_lst_non, Vb.isi_lst_bl, Vb.isi_lst_int, Vb.isi_lst_str, Vb.isi_lst_tup, Vb.isi_lst_ref, decide_eq_false (show ¬ ((d + 1 : Nat) : Int) = 0 by omega)]
    have kq : Keep [q] h (h.set q (.lst [.int (z - 1)])) := .set (.inl (by simp)) _
    have d1 : Dr r B (h.set q (.lst [.int (z - 1)])) := dr.keep kq (by simp; exact hne)
    have l1 : Lf q (h.set q (.lst [.int (z - 1)])) := ⟨z - 1, get_set ez⟩
    have e1 : (h.set q (.lst [.int (z - 1)]))[q]? = some (.lst [.int (z - 1)]) := get_set ez
    generalize h.set q (.lst [.int (z - 1)]) = h1 at kq d1 l1 e1
    try simp only [Vb.execs, Vb.exec, Vb.evalE, Vb.evalEs, Vb.evalT, Vb.evalI, Vb.evalO, Vb.evalOT, Vb.asgS, Vb.bind_ok, Vb.bind_assoc, Vb.then_ok, Vb.then_bind, Vb.next_then, Vb.next_next, Vb.next_nx, Vb.next_rt, Vb.next_bk, Vb.next_ct, Vb.fin_then, Vb.fin_rt, Vb.fin_nx, Vb.opt_some, Vb.cb_fn, Vb.cb_cls, Vb.gl0, Vb.gls, List.getElem?_cons_zero, List.getElem?_cons_succ, List.set_cons_zero, List.set_cons_succ, Vb.storeTg, Vb.storeAll, Option.map_some, List.length_cons, List.length_nil, Nat.zero_add, Nat.reduceAdd, Vb.ln0, Vb.ln1, Vb.ln2, Vb.ln3, Vb.ln4, Vb.ln5, Vb.ln6, if_true, Vb.newObj, Vb.it_tup, Vb.it_ref, Vb.it_str, Vb.ty_join, Vb.ty_split, Vb.ty_append, Vb.ty_extend, Vb.ty_pop, Option.isSome_some, List.map_cons, List.map_nil, Bool.false_eq_true, if_false, Vb.tr_bl, Vb.wipeL, decide_true, decide_false, Bool.not_true, Bool.not_false, Vb.b_add, Vb.b_sub, Vb.c_lt, Vb.c_le, Vb.c_gt, Vb.c_ge, Vb.c_eq_int, Vb.c_ne_int, Vb.c_isn_non, Vb.c_isn_int, Vb.c_isn_tup, Vb.c_notn_non, Vb.c_notn_int, Vb.c_notn_tup, Vb.ix_tup, Vb.bi_list_tup, Vb.isi_int_non, Vb.isi_int_bl, Vb.isi_int_int, Vb.isi_int_str, Vb.isi_int_tup, Vb.isi_int_ref, Vb.isi_bool_non, Vb.isi_bool_bl, Vb.isi_bool_int, Vb.isi_bool_str, Vb.isi_bool_tup, Vb.isi_bool_ref, Vb.isi_str_non, Vb.isi_str_bl, Vb.isi_str_int, Vb.isi_str_str, Vb.isi_str_tup, Vb.isi_str_ref, Vb.isi_tup_non, Vb.isi_tup_bl, Vb.isi_tup_int, Vb.isi_tup_str, Vb.isi_tup_tup, Vb.isi_tup_ref, Vb.isi_lst_non, Vb.isi_lst_bl, Vb.isi_lst_int, Vb.isi_lst_str, Vb.isi_lst_tup, Vb.isi_lst_ref, ix_ref e1, show L2.atI [PV.int (z - 1)] 0 = some (.int (z - 1)) from rfl]
    have kq2 : Keep [r, q] h h1 := kq.weak (by simp)
    by_cases hz : z - 1 < 1
    · simp only [decide_eq_true hz]
      try simp only [Vb.execs, Vb.exec, Vb.evalE, Vb.evalEs, Vb.evalT, Vb.evalI, Vb.evalO, Vb.evalOT, Vb.asgS, Vb.bind_ok, Vb.bind_assoc, Vb.then_ok, Vb.then_bind, Vb.next_then, Vb.next_next, Vb.next_nx, Vb.next_rt, Vb.next_bk, Vb.next_ct, Vb.fin_then, Vb.fin_rt, Vb.fin_nx, Vb.opt_some, Vb.cb_fn, Vb.cb_cls, Vb.gl0, Vb.gls, List.getElem?_cons_zero, List.getElem?_cons_succ, List.set_cons_zero, List.set_cons_succ, Vb.storeTg, Vb.storeAll, Option.map_some, List.length_cons, List.length_nil, Nat.zero_add, Nat.reduceAdd, Vb.ln0, Vb.ln1, Vb.ln2, Vb.ln3, Vb.ln4, Vb.ln5, Vb.ln6, if_true, Vb.newObj, Vb.it_tup, Vb.it_ref, Vb.it_str, Vb.ty_join, Vb.ty_split, Vb.ty_append, Vb.ty_extend, Vb.ty_pop, Option.isSome_some, List.map_cons, List.map_nil, Bool.false_eq_true, if_false, Vb.tr_bl, Vb.wipeL, decide_true, decide_false, Bool.not_true, Bool.not_false, Vb.b_add, Vb.b_sub, Vb.c_lt, Vb.c_le, Vb.c_gt, Vb.c_ge, Vb.c_eq_int, Vb.c_ne_int, Vb.c_isn_non, Vb.c_isn_int, Vb.c_isn_tup, Vb.c_notn_non, Vb.c_notn_int, Vb.c_notn_tup, Vb.ix_tup, Vb.bi_list_tup, Vb.isi_int_non, Vb.isi_int_bl, Vb.isi_int_int, Vb.isi_int_str, Vb.isi_int_tup, Vb.isi_int_ref, Vb.isi_bool_non, Vb.isi_bool_bl, Vb.isi_bool_int, Vb.isi_bool_str, Vb.isi_bool_tup, Vb.isi_bool_ref, Vb.isi_str_non, Vb.isi_str_bl, Vb.isi_str_int, Vb.isi_str_str, Vb.isi_str_tup, Vb.isi_str_ref, Vb.isi_tup_non, Vb.isi_tup_bl, Vb.isi_tup_int, Vb.isi_tup_str, Vb.isi_tup_tup, Vb.isi_tup_ref, Vb.isi_lst_non, Vb.isi_lst_bl, Vb.isi_lst_int, Vb.isi_lst_str, Vb.isi_lst_tup, Vb.isi_lst_ref]
      refine (leaf (d + 1) n _ r q B hne d1 l1 (by omega)).mono ?_
      rintro v h' ⟨g1, g2, g3, g4⟩
      exact ⟨g1, kq2.trans g2, g3.weak (by omega), g4⟩
    · simp only [decide_eq_false hz]
      try simp only [Vb.execs, Vb.exec, Vb.evalE, Vb.evalEs, Vb.evalT, Vb.evalI, Vb.evalO, Vb.evalOT, Vb.asgS, Vb.bind_ok, Vb.bind_assoc, Vb.then_ok, Vb.then_bind, Vb.next_then, Vb.next_next, Vb.next_nx, Vb.next_rt, Vb.next_bk, Vb.next_ct, Vb.fin_then, Vb.fin_rt, Vb.fin_nx, Vb.opt_some, Vb.cb_fn, Vb.cb_cls, Vb.gl0, Vb.gls, List.getElem?_cons_zero, List.getElem?_cons_succ, List.set_cons_zero, List.set_cons_succ, Vb.storeTg, Vb.storeAll, Option.map_some, List.length_cons, List.length_nil, Nat.zero_add, Nat.reduceAdd, Vb.ln0, Vb.ln1, Vb.ln2, Vb.ln3, Vb.ln4, Vb.ln5, Vb.ln6, if_true, Vb.newObj, Vb.it_tup, Vb.it_ref, Vb.it_str, Vb.ty_join, Vb.ty_split, Vb.ty_append, Vb.ty_extend, Vb.ty_pop, Option.isSome_some, List.map_cons, List.map_nil, Bool.false_eq_true, if_false, Vb.tr_bl, Vb.wipeL, decide_true, decide_false, Bool.not_true, Bool.not_false, Vb.b_add, Vb.b_sub, Vb.c_lt, Vb.c_le, Vb.c_gt, Vb.c_ge, Vb.c_eq_int, Vb.c_ne_int, Vb.c_isn_non, Vb.c_isn_int, Vb.c_isn_tup, Vb.c_notn_non, Vb.c_notn_int, Vb.c_notn_tup, Vb.ix_tup, Vb.bi_list_tup, Vb.isi_int_non, Vb.isi_int_bl, Vb.isi_int_int, Vb.isi_int_str, Vb.isi_int_tup, Vb.isi_int_ref, Vb.isi_bool_non, Vb.isi_bool_bl, Vb.isi_bool_int, Vb.isi_bool_str, Vb.isi_bool_tup, Vb.isi_bool_ref, Vb.isi_str_non, Vb.isi_str_bl, Vb.isi_str_int, Vb.isi_str_str, Vb.isi_str_tup, Vb.isi_str_ref, Vb.isi_tup_non, Vb.isi_tup_bl, Vb.isi_tup_int, Vb.isi_tup_str, Vb.isi_tup_tup, Vb.isi_tup_ref, Vb.isi_lst_non, Vb.isi_lst_bl, Vb.isi_lst_int, Vb.isi_lst_str, Vb.isi_lst_tup, Vb.isi_lst_ref]
      refine Ok.bind (sp23 n _ r 3 B d1 (by omega) (by decide) (by decide)) ?_
      rintro _ h2 ⟨⟨i, rfl, i0, i1⟩, k2, d2⟩
      have l2 := l1.keep k2 (by simp; exact fun z => hne z.symm)
      have kq3 : Keep [r, q] h h2 := kq2.trans (k2.weak fun x hx => .inl (by simp at hx; simp [hx]))
      try simp only [Vb.execs, Vb.exec, Vb.evalE, Vb.evalEs, Vb.evalT, Vb.evalI, Vb.evalO, Vb.evalOT, Vb.asgS, Vb.bind_ok, Vb.bind_assoc, Vb.then_ok, Vb.then_bind, Vb.next_then, Vb.next_next, Vb.next_nx, Vb.next_rt, Vb.next_bk, Vb.next_ct, Vb.fin_then, Vb.fin_rt, Vb.fin_nx, Vb.opt_some, Vb.cb_fn, Vb.cb_cls, Vb.gl0, Vb.gls, List.getElem?_cons_zero, List.getElem?_cons_succ, List.set_cons_zero, List.set_cons_succ, Vb.storeTg, Vb.storeAll, Option.map_some, List.length_cons, List.length_nil, Nat.zero_add, Nat.reduceAdd, Vb.ln0, Vb.ln1, Vb.ln2, Vb.ln3, Vb.ln4, Vb.ln5, Vb.ln6, if_true, Vb.newObj, Vb.it_tup, Vb.it_ref, Vb.it_str, Vb.ty_join, Vb.ty_split, Vb.ty_append, Vb.ty_extend, Vb.ty_pop, Option.isSome_some, List.map_cons, List.map_nil, Bool.false_eq_true, if_false, Vb.tr_bl, Vb.wipeL, decide_true, decide_false, Bool.not_true, Bool.not_false, Vb.b_add, Vb.b_sub, Vb.c_lt, Vb.c_le, Vb.c_gt, Vb.c_ge, Vb.c_eq_int, Vb.c_ne_int, Vb.c_isn_non, Vb.c_isn_int, Vb.c_isn_tup, Vb.c_notn_non, Vb.c_notn_int, Vb.c_notn_tup, Vb.ix_tup, Vb.bi_list_tup, Vb.isi_int_non, Vb.isi_int_bl, Vb.isi_int_int, Vb.isi_int_str, Vb.isi_int_tup, Vb.isi_int_ref, Vb.isi_bool_non, Vb.isi_bool_bl, Vb.isi_bool_int, Vb.isi_bool_str, Vb.isi_bool_tup, Vb.isi_bool_ref, Vb.isi_str_non, Vb.isi_str_bl, Vb.isi_str_int, Vb.isi_str_str, Vb.isi_str_tup, Vb.isi_str_ref, Vb.isi_tup_non, Vb.isi_tup_bl, Vb.isi_tup_int, Vb.isi_tup_str, Vb.isi_tup_tup, Vb.isi_tup_ref, Vb.isi_lst_non, Vb.isi_lst_bl, Vb.isi_lst_int, Vb.isi_lst_str, Vb.isi_lst_tup, Vb.isi_lst_ref]
      by_cases hi : i = 0
      · simp only [decide_eq_true hi]
        try simp only [Vb.execs, Vb.exec, Vb.evalE, Vb.evalEs, Vb.evalT, Vb.evalI, Vb.evalO, Vb.evalOT, Vb.asgS, Vb.bind_ok, Vb.bind_assoc, Vb.then_ok, Vb.then_bind, Vb.next_then, Vb.next_next, Vb.next_nx, Vb.next_rt, Vb.next_bk, Vb.next_ct, Vb.fin_then, Vb.fin_rt, Vb.fin_nx, Vb.opt_some, Vb.cb_fn, Vb.cb_cls, Vb.gl0, Vb.gls, List.getElem?_cons_zero, List.getElem?_cons_succ, List.set_cons_zero, List.set_cons_succ, Vb.storeTg, Vb.storeAll, Option.map_some, List.length_cons, List.length_nil, Nat.zero_add, Nat.reduceAdd, Vb.ln0, Vb.ln1, Vb.ln2, Vb.ln3, Vb.ln4, Vb.ln5, Vb.ln6, if_true, Vb.newObj, Vb.it_tup, Vb.it_ref, Vb.it_str, Vb.ty_join, Vb.ty_split, Vb.ty_append, Vb.ty_extend, Vb.ty_pop, Option.isSome_some, List.map_cons, List.map_nil, Bool.false_eq_true, if_false, Vb.tr_bl, Vb.wipeL, decide_true, decide_false, Bool.not_true, Bool.not_false, Vb.b_add, Vb.b_sub, Vb.c_lt, Vb.c_le, Vb.c_gt, Vb.c_ge, Vb.c_eq_int, Vb.c_ne_int, Vb.c_isn_non, Vb.c_isn_int, Vb.c_isn_tup, Vb.c_notn_non, Vb.c_notn_int, Vb.c_notn_tup, Vb.ix_tup, Vb.bi_list_tup, Vb.isi_int_non, Vb.isi_int_bl, Vb.isi_int_int, Vb.isi_int_str, Vb.isi_int_tup, Vb.isi_int_ref, Vb.isi_bool_non, Vb.isi_bool_bl, Vb.isi_bool_int, Vb.isi_bool_str, Vb.isi_bool_tup, Vb.isi_bool_ref, Vb.isi_str_non, Vb.isi_str_bl, Vb.isi_str_int, Vb.isi_str_str, Vb.isi_str_tup, Vb.isi_str_ref, Vb.isi_tup_non, Vb.isi_tup_bl, Vb.isi_tup_int, Vb.isi_tup_str, Vb.isi_tup_tup, Vb.isi_tup_ref, Vb.isi_lst_non, Vb.isi_lst_bl, Vb.isi_lst_int, Vb.isi_lst_str, Vb.isi_lst_tup, Vb.isi_lst_ref]
        refine (leaf (d + 1) n _ r q _ hne d2 l2 (by omega)).mono ?_
        rintro v h' ⟨g1, g2, g3, g4⟩
        exact ⟨g1, kq3.trans g2, g3.weak (by omega), g4⟩
      · simp only [decide_eq_false hi]
        try simp only [Vb.execs, Vb.exec, Vb.evalE, Vb.evalEs, Vb.evalT, Vb.evalI, Vb.evalO, Vb.evalOT, Vb.asgS, Vb.bind_ok, Vb.bind_assoc, Vb.then_ok, Vb.then_bind, Vb.next_then, Vb.next_next, Vb.next_nx, Vb.next_rt, Vb.next_bk, Vb.next_ct, Vb.fin_then, Vb.fin_rt, Vb.fin_nx, Vb.opt_some, Vb.cb_fn, Vb.cb_cls, Vb.gl0, Vb.gls, List.getElem?_cons_zero, List.getElem?_cons_succ, List.set_cons_zero, List.set_cons_succ, Vb.storeTg, Vb.storeAll, Option.map_some, List.length_cons, List.length_nil, Nat.zero_add, Nat.reduceAdd, Vb.ln0, Vb.ln1, Vb.ln2, Vb.ln3, Vb.ln4, Vb.ln5, Vb.ln6, if_true, Vb.newObj, Vb.it_tup, Vb.it_ref, Vb.it_str, Vb.ty_join, Vb.ty_split, Vb.ty_append, Vb.ty_extend, Vb.ty_pop, Option.isSome_some, List.map_cons, List.map_nil, Bool.false_eq_true, if_false, Vb.tr_bl, Vb.wipeL, decide_true, decide_false, Bool.not_true, Bool.not_false, Vb.b_add, Vb.b_sub, Vb.c_lt, Vb.c_le, Vb.c_gt, Vb.c_ge, Vb.c_eq_int, Vb.c_ne_int, Vb.c_isn_non, Vb.c_isn_int, Vb.c_isn_tup, Vb.c_notn_non, Vb.c_notn_int, Vb.c_notn_tup, Vb.ix_tup, Vb.bi_list_tup, Vb.isi_int_non, Vb.isi_int_bl, Vb.isi_int_int, Vb.isi_int_str, Vb.isi_int_tup, Vb.isi_int_ref, Vb.isi_bool_non, Vb.isi_bool_bl, Vb.isi_bool_int, Vb.isi_bool_str, Vb.isi_bool_tup, Vb.isi_bool_ref, Vb.isi_str_non, Vb.isi_str_bl, Vb.isi_str_int, Vb.isi_str_str, Vb.isi_str_tup, Vb.isi_str_ref, Vb.isi_tup_non, Vb.isi_tup_bl, Vb.isi_tup_int, Vb.isi_tup_str, Vb.isi_tup_tup, Vb.isi_tup_ref, Vb.isi_lst_non, Vb.isi_lst_bl, Vb.isi_lst_int, Vb.isi_lst_str, Vb.isi_lst_tup, Vb.isi_lst_ref]
        have d3 := d2.keep (S := []) (.push (MO.lst [.int 0, .int 1, .int 2, .int 2, .int 3])) (by simp)
        refine Ok.bind (sp23 n _ r 5 _ d3 (by omega) (by decide) (by decide)) ?_
        rintro _ h3 ⟨⟨l, rfl, j0, j1⟩, k3, d4⟩
        have e := k3.get get_new (by have := d2.lt; simp; omega)
        have l4 := (l2.keep (S := []) (.push (MO.lst [.int 0, .int 1, .int 2, .int 2, .int 3])) (by simp)).keep k3 (by simp; exact fun z => hne z.symm)
        obtain ⟨v, ev, hv⟩ := pick5 e j0 j1
        rw [ev]
        obtain ⟨c, rfl, c0, c1⟩ : ∃ c : Int, v = .int c ∧ 0 ≤ c ∧ c ≤ 3 := by
          rcases hv with rfl | rfl | rfl | rfl | rfl
          · exact ⟨0, rfl, by decide, by decide⟩
          · exact ⟨1, rfl, by decide, by decide⟩
          · exact ⟨2, rfl, by decide, by decide⟩
          · exact ⟨2, rfl, by decide, by decide⟩
          · exact ⟨3, rfl, by decide, by decide⟩
        try simp only [Vb.execs, Vb.exec, Vb.evalE, Vb.evalEs, Vb.evalT, Vb.evalI, Vb.evalO, Vb.evalOT, Vb.asgS, Vb.bind_ok, Vb.bind_assoc, Vb.then_ok, Vb.then_bind, Vb.next_then, Vb.next_next, Vb.next_nx, Vb.next_rt, Vb.next_bk, Vb.next_ct, Vb.fin_then, Vb.fin_rt, Vb.fin_nx, Vb.opt_some, Vb.cb_fn, Vb.cb_cls, Vb.gl0, Vb.gls, List.getElem?_cons_zero, List.getElem?_cons_succ, List.set_cons_zero, List.set_cons_succ, Vb.storeTg, Vb.storeAll, Option.map_some, List.length_cons, List.length_nil, Nat.zero_add, Nat.reduceAdd, Vb.ln0, Vb.ln1, Vb.ln2, Vb.ln3, Vb.ln4, Vb.ln5, Vb.ln6, if_true, Vb.newObj, Vb.it_tup, Vb.it_ref, Vb.it_str, Vb.ty_join, Vb.ty_split, Vb.ty_append, Vb.ty_extend, Vb.ty_pop, Option.isSome_some, List.map_cons, List.map_nil, Bool.false_eq_true, if_false, Vb.tr_bl, Vb.wipeL, decide_true, decide_false, Bool.not_true, Bool.not_false, Vb.b_add, Vb.b_sub, Vb.c_lt, Vb.c_le, Vb.c_gt, Vb.c_ge, Vb.c_eq_int, Vb.c_ne_int, Vb.c_isn_non, Vb.c_isn_int, Vb.c_isn_tup, Vb.c_notn_non, Vb.c_notn_int, Vb.c_notn_tup, Vb.ix_tup, Vb.bi_list_tup, Vb.isi_int_non, Vb.isi_int_bl, Vb.isi_int_int, Vb.isi_int_str, Vb.isi_int_tup, Vb.isi_int_ref, Vb.isi_bool_non, Vb.isi_bool_bl, Vb.isi_bool_int, Vb.isi_bool_str, Vb.isi_bool_tup, Vb.isi_bool_ref, Vb.isi_str_non, Vb.isi_str_bl, Vb.isi_str_int, Vb.isi_str_str, Vb.isi_str_tup, Vb.isi_str_ref, Vb.isi_tup_non, Vb.isi_tup_bl, Vb.isi_tup_int, Vb.isi_tup_str, Vb.isi_tup_tup, Vb.isi_tup_ref, Vb.isi_lst_non, Vb.isi_lst_bl, Vb.isi_lst_int, Vb.isi_lst_str, Vb.isi_lst_tup, Vb.isi_lst_ref, sm62 (n := c) (by omega) (by omega)]
        have len : (rangeL 0 c).length ≤ 3 := by rw [rngL_len]; omega
        have kq4 : Keep [r, q] h h3 := kq3.trans ((Keep.push _).trans (k3.weak fun x hx => .inl (by simp at hx; simp [hx])))
        refine Ok.bind (lc_all (P := fun v => isT d v ∧ wt d v ≤ Wd d) (J := fun j h' => Keep [r, q] h3 h' ∧ Dr r (B + 1 + 1 + j * Cd d) h' ∧ Lf q h') (fun _ _ _ => trivial) (line_ok (by omega)) ⟨.push _, (d4.keep (S := []) (.push _) (by simp)).weak (by omega), l4.keep (S := []) (.push _) (by simp)⟩
          (fun j h' o ⟨a1, a2, a3⟩ => ⟨a1.put (.inr (Nat.le_refl _)) o, a2.put (by have := d4.lt; omega), a3.put (by have := l4.lt; omega)⟩) ?_) ?_
        · rintro j hj v hv h' ⟨a1, a2, a3⟩ hlt
          rw [show ((d + 1 : Nat) : Int) - 1 = (d : Int) by omega]
          have jc : (j : Int) * Cd d ≤ 2 * Cd d := Int.mul_le_mul_of_nonneg_right (by omega) (by omega)
          refine Ok.bind (ih (n + 2) h' r q _ hne a2 a3 (by omega) (by omega)) ?_
          rintro y h'' ⟨g1, g2, g3, g4⟩
          refine .ret ⟨y, rfl, g1, ⟨a1.trans g2, g3.weak ?_, g4⟩, g2.at_ _ hlt (by have := d4.lt; have := l4.lt; simp; omega)⟩
          have : ((j + 1 : Nat) : Int) * Cd d = (j : Int) * Cd d + Cd d := by rw [Int.natCast_add, Int.add_mul]; simp
          omega
        · rintro _ h' ⟨rfl, ys, y1, y2, y3, a1, a2, a3⟩
          rw [bi_tuple y3]
          try simp only [Vb.execs, Vb.exec, Vb.evalE, Vb.evalEs, Vb.evalT, Vb.evalI, Vb.evalO, Vb.evalOT, Vb.asgS, Vb.bind_ok, Vb.bind_assoc, Vb.then_ok, Vb.then_bind, Vb.next_then, Vb.next_next, Vb.next_nx, Vb.next_rt, Vb.next_bk, Vb.next_ct, Vb.fin_then, Vb.fin_rt, Vb.fin_nx, Vb.opt_some, Vb.cb_fn, Vb.cb_cls, Vb.gl0, Vb.gls, List.getElem?_cons_zero, List.getElem?_cons_succ, List.set_cons_zero, List.set_cons_succ, Vb.storeTg, Vb.storeAll, Option.map_some, List.length_cons, List.length_nil, Nat.zero_add, Nat.reduceAdd, Vb.ln0, Vb.ln1, Vb.ln2, Vb.ln3, Vb.ln4, Vb.ln5, Vb.ln6, if_true, Vb.newObj, Vb.it_tup, Vb.it_ref, Vb.it_str, Vb.ty_join, Vb.ty_split, Vb.ty_append, Vb.ty_extend, Vb.ty_pop, Option.isSome_some, List.map_cons, List.map_nil, Bool.false_eq_true, if_false, Vb.tr_bl, Vb.wipeL, decide_true, decide_false, Bool.not_true, Bool.not_false, Vb.b_add, Vb.b_sub, Vb.c_lt, Vb.c_le, Vb.c_gt, Vb.c_ge, Vb.c_eq_int, Vb.c_ne_int, Vb.c_isn_non, Vb.c_isn_int, Vb.c_isn_tup, Vb.c_notn_non, Vb.c_notn_int, Vb.c_notn_tup, Vb.ix_tup, Vb.bi_list_tup, Vb.isi_int_non, Vb.isi_int_bl, Vb.isi_int_int, Vb.isi_int_str, Vb.isi_int_tup, Vb.isi_int_ref, Vb.isi_bool_non, Vb.isi_bool_bl, Vb.isi_bool_int, Vb.isi_bool_str, Vb.isi_bool_tup, Vb.isi_bool_ref, Vb.isi_str_non, Vb.isi_str_bl, Vb.isi_str_int, Vb.isi_str_str, Vb.isi_str_tup, Vb.isi_str_ref, Vb.isi_tup_non, Vb.isi_tup_bl, Vb.isi_tup_int, Vb.isi_tup_str, Vb.isi_tup_tup, Vb.isi_tup_ref, Vb.isi_lst_non, Vb.isi_lst_bl, Vb.isi_lst_int, Vb.isi_lst_str, Vb.isi_lst_tup, Vb.isi_lst_ref]
          have yl : ys.length ≤ 3 := by omega
          have jc : ((rangeL 0 c).length : Int) * Cd d ≤ 3 * Cd d := Int.mul_le_mul_of_nonneg_right (by omega) (by omega)
          exact .ret ⟨⟨fun x hx => (y2 x hx).1, wt_tup yl fun x hx => (y2 x hx).2⟩, kq4.trans a1, a2.weak (by omega), a3⟩
end V87

set_option Elab.async false
set_option linter.all false
set_option maxRecDepth 100000
set_option maxHeartbeats 2000000
namespace V87
open PySem Vb
theorem isT_up : ∀ {d : Nat} {v : PV}, isT d v → isT (d + 1) v := by
  intro d
  induction d with
  | zero =>
    intro v h
    rcases isT_cases h with ⟨i, rfl, h1⟩ | ⟨e, xs, h0, _⟩
    · exact h1
    · cases h0
  | succ d ih =>
    intro v h
    rcases isT_cases h with ⟨i, rfl, h1⟩ | ⟨e, xs, h0, rfl, h1⟩
    · exact h1
    · cases h0
      exact fun x hx => ih (h1 x hx)
/-- a state of a paper -/
def IsSt (v : PV) : Prop := (∃ xs, v = .tup xs) ∧ isT 8 v ∧ wt 8 v ≤ 30000
def CT : Int := 200000
theorem hCT : CT = 200000 := rfl
theorem hC7 : Cd 7 = 16400 := by decide
theorem hW7 : Wd 7 = 3280 := by decide
theorem int7 {v : PV} (h : Small v) (d : Nat) : isT d v := (small_T d h).1
/-- the weight of things within one another -/
theorem wt1 {d : Nat} {a : PV} : wt (d + 1) (.tup [a]) = 1 + wt d a := by simp [wt]
theorem wt2 {d : Nat} {a b : PV} : wt (d + 1) (.tup [a, b]) = 1 + (wt d a + wt d b) := by simp [wt]
theorem sp25 (n : Nat) (h : MH) (r : Nat) (B : Int) (dr : Dr r B h) (hB : B + CT ≤ TOP) : Ok (callF Pr (n + 11) 25 [.ref r] h) fun v h' => IsSt v ∧ Keep [r] h h' ∧ Dr r (B + CT) h' := by
  have ht := hT
  have hct := hCT
  have h7 := hC7
  rw [callF_at (d := d25) rfl rfl]
  show Ok (finF (execs (cbK Pr (n + 10)) Pr.xt Pr.wl b25 [some (.ref r), none, none, none] h)) _
  unfold b25
  try simp only [Vb.execs, Vb.exec, Vb.evalE, Vb.evalEs, Vb.evalT, Vb.evalI, Vb.evalO, Vb.evalOT, Vb.asgS, Vb.bind_ok, Vb.bind_assoc, Vb.then_ok, Vb.then_bind, Vb.next_then, Vb.next_next, Vb.next_nx, Vb.next_rt, Vb.next_bk, Vb.next_ct, Vb.fin_then, Vb.fin_rt, Vb.fin_nx, Vb.opt_some, Vb.cb_fn, Vb.cb_cls, Vb.gl0, Vb.gls, List.getElem?_cons_zero, List.getElem?_cons_succ, List.set_cons_zero, List.set_cons_succ, Vb.storeTg, Vb.storeAll, Option.map_some, List.length_cons, List.length_nil, Nat.zero_add, Nat.reduceAdd, Vb.ln0, Vb.ln1, Vb.ln2, Vb.ln3, Vb.ln4, Vb.ln5, Vb.ln6, if_true, Vb.newObj, Vb.it_tup, Vb.it_ref, Vb.it_str, Vb.ty_join, Vb.ty_split, Vb.ty_append, Vb.ty_extend, Vb.ty_pop, Option.isSome_some, List.map_cons, List.map_nil, Bool.false_eq_true, if_false, Vb.tr_bl, Vb.wipeL, decide_true, decide_false, Bool.not_true, Bool.not_false, Vb.b_add, Vb.b_sub, Vb.c_lt, Vb.c_le, Vb.c_gt, Vb.c_ge, Vb.c_eq_int, Vb.c_ne_int, Vb.c_isn_non, Vb.c_isn_int, Vb.c_isn_tup, Vb.c_notn_non, Vb.c_notn_int, Vb.c_notn_tup, Vb.ix_tup, Vb.bi_list_tup, Vb.isi_int_non, Vb.isi_int_bl, Vb.isi_int_int, Vb.isi_int_str, Vb.isi_int_tup, Vb.isi_int_ref, Vb.isi_bool_non, Vb.isi_bool_bl, Vb.isi_bool_int, Vb.isi_bool_str, Vb.isi_bool_tup, Vb.isi_bool_ref, Vb.isi_str_non, Vb.isi_str_bl, Vb.isi_str_int, Vb.isi_str_str, Vb.isi_str_tup, Vb.isi_str_ref, Vb.isi_tup_non, Vb.isi_tup_bl, Vb.isi_tup_int, Vb.isi_tup_str, Vb.isi_tup_tup, Vb.isi_tup_ref, Vb.isi_lst_non, Vb.isi_lst_bl, Vb.isi_lst_int, Vb.isi_lst_str, Vb.isi_lst_tup, Vb.isi_lst_ref]
  refine Ok.bind (sp23 (n + 8) h r 9 B dr (by omega) (by decide) (by decide)) ?_
  rintro _ h1 ⟨⟨i, rfl, i0, i1⟩, k1, d1⟩
  try simp only [Vb.execs, Vb.exec, Vb.evalE, Vb.evalEs, Vb.evalT, Vb.evalI, Vb.evalO, Vb.evalOT, Vb.asgS, Vb.bind_ok, Vb.bind_assoc, Vb.then_ok, Vb.then_bind, Vb.next_then, Vb.next_next, Vb.next_nx, Vb.next_rt, Vb.next_bk, Vb.next_ct, Vb.fin_then, Vb.fin_rt, Vb.fin_nx, Vb.opt_some, Vb.cb_fn, Vb.cb_cls, Vb.gl0, Vb.gls, List.getElem?_cons_zero, List.getElem?_cons_succ, List.set_cons_zero, List.set_cons_succ, Vb.storeTg, Vb.storeAll, Option.map_some, List.length_cons, List.length_nil, Nat.zero_add, Nat.reduceAdd, Vb.ln0, Vb.ln1, Vb.ln2, Vb.ln3, Vb.ln4, Vb.ln5, Vb.ln6, if_true, Vb.newObj, Vb.it_tup, Vb.it_ref, Vb.it_str, Vb.ty_join, Vb.ty_split, Vb.ty_append, Vb.ty_extend, Vb.ty_pop, Option.isSome_some, List.map_cons, List.map_nil, Bool.false_eq_true, if_false, Vb.tr_bl, Vb.wipeL, decide_true, decide_false, Bool.not_true, Bool.not_false, Vb.b_add, Vb.b_sub, Vb.c_lt, Vb.c_le, Vb.c_gt, Vb.c_ge, Vb.c_eq_int, Vb.c_ne_int, Vb.c_isn_non, Vb.c_isn_int, Vb.c_isn_tup, Vb.c_notn_non, Vb.c_notn_int, Vb.c_notn_tup, Vb.ix_tup, Vb.bi_list_tup, Vb.isi_int_non, Vb.isi_int_bl, Vb.isi_int_int, Vb.isi_int_str, Vb.isi_int_tup, Vb.isi_int_ref, Vb.isi_bool_non, Vb.isi_bool_bl, Vb.isi_bool_int, Vb.isi_bool_str, Vb.isi_bool_tup, Vb.isi_bool_ref, Vb.isi_str_non, Vb.isi_str_bl, Vb.isi_str_int, Vb.isi_str_str, Vb.isi_str_tup, Vb.isi_str_ref, Vb.isi_tup_non, Vb.isi_tup_bl, Vb.isi_tup_int, Vb.isi_tup_str, Vb.isi_tup_tup, Vb.isi_tup_ref, Vb.isi_lst_non, Vb.isi_lst_bl, Vb.isi_lst_int, Vb.isi_lst_str, Vb.isi_lst_tup, Vb.isi_lst_ref]
  by_cases hi : i = 0
  · simp only [decide_eq_true hi]
    try simp only [Vb.execs, Vb.exec, Vb.evalE, Vb.evalEs, Vb.evalT, Vb.evalI, Vb.evalO, Vb.evalOT, Vb.asgS, Vb.bind_ok, Vb.bind_assoc, Vb.then_ok, Vb.then_bind, Vb.next_then, Vb.next_next, Vb.next_nx, Vb.next_rt, Vb.next_bk, Vb.next_ct, Vb.fin_then, Vb.fin_rt, Vb.fin_nx, Vb.opt_some, Vb.cb_fn, Vb.cb_cls, Vb.gl0, Vb.gls, List.getElem?_cons_zero, List.getElem?_cons_succ, List.set_cons_zero, List.set_cons_succ, Vb.storeTg, Vb.storeAll, Option.map_some, List.length_cons, List.length_nil, Nat.zero_add, Nat.reduceAdd, Vb.ln0, Vb.ln1, Vb.ln2, Vb.ln3, Vb.ln4, Vb.ln5, Vb.ln6, if_true, Vb.newObj, Vb.it_tup, Vb.it_ref, Vb.it_str, Vb.ty_join, Vb.ty_split, Vb.ty_append, Vb.ty_extend, Vb.ty_pop, Option.isSome_some, List.map_cons, List.map_nil, Bool.false_eq_true, if_false, Vb.tr_bl, Vb.wipeL, decide_true, decide_false, Bool.not_true, Bool.not_false, Vb.b_add, Vb.b_sub, Vb.c_lt, Vb.c_le, Vb.c_gt, Vb.c_ge, Vb.c_eq_int, Vb.c_ne_int, Vb.c_isn_non, Vb.c_isn_int, Vb.c_isn_tup, Vb.c_notn_non, Vb.c_notn_int, Vb.c_notn_tup, Vb.ix_tup, Vb.bi_list_tup, Vb.isi_int_non, Vb.isi_int_bl, Vb.isi_int_int, Vb.isi_int_str, Vb.isi_int_tup, Vb.isi_int_ref, Vb.isi_bool_non, Vb.isi_bool_bl, Vb.isi_bool_int, Vb.isi_bool_str, Vb.isi_bool_tup, Vb.isi_bool_ref, Vb.isi_str_non, Vb.isi_str_bl, Vb.isi_str_int, Vb.isi_str_str, Vb.isi_str_tup, Vb.isi_str_ref, Vb.isi_tup_non, Vb.isi_tup_bl, Vb.isi_tup_int, Vb.isi_tup_str, Vb.isi_tup_tup, Vb.isi_tup_ref, Vb.isi_lst_non, Vb.isi_lst_bl, Vb.isi_lst_int, Vb.isi_lst_str, Vb.isi_lst_tup, Vb.isi_lst_ref, sm62 (n := 7) (by decide) (by decide)]
    refine SOk.finN (for_inv (fun rest lo h2 => ∃ (j : Nat) (v : PV) (z : Option PV), rest = (rangeL 0 7).drop j ∧ j ≤ 7 ∧ lo = [some (.ref r), some v, z, none] ∧ (∃ xs, v = .tup xs) ∧ isT (j + 1) v ∧ wt (j + 1) v ≤ 1 + 2 * j ∧ Keep [r] h1 h2 ∧ Dr r (B + 1 + j) h2) (fun _ _ => False)
      (fun _ _ _ _ => trivial) ?_ _ _ _ ⟨0, .tup [], none, rfl, by omega, rfl, ⟨[], rfl⟩, (fun x hx => by cases hx), by simp [wt], .refl, d1.weak (by omega)⟩) ?_
    · rintro x rest lo h2 ⟨j, v, z, e, hj, rfl, hv, tv, wv, kk, dd⟩
      have ml : (rangeL 0 7).length = 7 := by decide
      have hj2 : j < 7 := by
        have := congrArg List.length e
        simp only [List.length_cons, List.length_drop, ml] at this
        omega
      have ex : x ∈ rangeL 0 7 := by
        have : x ∈ (rangeL 0 7).drop j := by rw [← e]; simp
        exact List.mem_of_mem_drop this
      have er : rest = (rangeL 0 7).drop (j + 1) := by
        have := congrArg List.tail e
        simpa using this
      obtain ⟨q, rfl, q0, q1⟩ := rngL_mem ex
      try simp only [Vb.execs, Vb.exec, Vb.evalE, Vb.evalEs, Vb.evalT, Vb.evalI, Vb.evalO, Vb.evalOT, Vb.asgS, Vb.bind_ok, Vb.bind_assoc, Vb.then_ok, Vb.then_bind, Vb.next_then, Vb.next_next, Vb.next_nx, Vb.next_rt, Vb.next_bk, Vb.next_ct, Vb.fin_then, Vb.fin_rt, Vb.fin_nx, Vb.opt_some, Vb.cb_fn, Vb.cb_cls, Vb.gl0, Vb.gls, List.getElem?_cons_zero, List.getElem?_cons_succ, List.set_cons_zero, List.set_cons_succ, Vb.storeTg, Vb.storeAll, Option.map_some, List.length_cons, List.length_nil, Nat.zero_add, Nat.reduceAdd, Vb.ln0, Vb.ln1, Vb.ln2, Vb.ln3, Vb.ln4, Vb.ln5, Vb.ln6, if_true, Vb.newObj, Vb.it_tup, Vb.it_ref, Vb.it_str, Vb.ty_join, Vb.ty_split, Vb.ty_append, Vb.ty_extend, Vb.ty_pop, Option.isSome_some, List.map_cons, List.map_nil, Bool.false_eq_true, if_false, Vb.tr_bl, Vb.wipeL, decide_true, decide_false, Bool.not_true, Bool.not_false, Vb.b_add, Vb.b_sub, Vb.c_lt, Vb.c_le, Vb.c_gt, Vb.c_ge, Vb.c_eq_int, Vb.c_ne_int, Vb.c_isn_non, Vb.c_isn_int, Vb.c_isn_tup, Vb.c_notn_non, Vb.c_notn_int, Vb.c_notn_tup, Vb.ix_tup, Vb.bi_list_tup, Vb.isi_int_non, Vb.isi_int_bl, Vb.isi_int_int, Vb.isi_int_str, Vb.isi_int_tup, Vb.isi_int_ref, Vb.isi_bool_non, Vb.isi_bool_bl, Vb.isi_bool_int, Vb.isi_bool_str, Vb.isi_bool_tup, Vb.isi_bool_ref, Vb.isi_str_non, Vb.isi_str_bl, Vb.isi_str_int, Vb.isi_str_str, Vb.isi_str_tup, Vb.isi_str_ref, Vb.isi_tup_non, Vb.isi_tup_bl, Vb.isi_tup_int, Vb.isi_tup_str, Vb.isi_tup_tup, Vb.isi_tup_ref, Vb.isi_lst_non, Vb.isi_lst_bl, Vb.isi_lst_int, Vb.isi_lst_str, Vb.isi_lst_tup, Vb.isi_lst_ref]
      have d2 := dd.keep (S := []) (.push (MO.lst [.tup [v], .tup [.int q, v], .tup [v, .int 0]])) (by simp)
      refine SOk.then_ (sp23 (n + 8) _ r 3 _ d2 (by omega) (by decide) (by decide)) ?_
      rintro _ h3 ⟨⟨l, rfl, l0, l1⟩, k3, d4⟩
      have e2 := k3.get get_new (by have := dd.lt; simp; omega)
      obtain ⟨u, ev, hu⟩ := pick3 e2 l0 l1
      rw [ev]
      try simp only [Vb.execs, Vb.exec, Vb.evalE, Vb.evalEs, Vb.evalT, Vb.evalI, Vb.evalO, Vb.evalOT, Vb.asgS, Vb.bind_ok, Vb.bind_assoc, Vb.then_ok, Vb.then_bind, Vb.next_then, Vb.next_next, Vb.next_nx, Vb.next_rt, Vb.next_bk, Vb.next_ct, Vb.fin_then, Vb.fin_rt, Vb.fin_nx, Vb.opt_some, Vb.cb_fn, Vb.cb_cls, Vb.gl0, Vb.gls, List.getElem?_cons_zero, List.getElem?_cons_succ, List.set_cons_zero, List.set_cons_succ, Vb.storeTg, Vb.storeAll, Option.map_some, List.length_cons, List.length_nil, Nat.zero_add, Nat.reduceAdd, Vb.ln0, Vb.ln1, Vb.ln2, Vb.ln3, Vb.ln4, Vb.ln5, Vb.ln6, if_true, Vb.newObj, Vb.it_tup, Vb.it_ref, Vb.it_str, Vb.ty_join, Vb.ty_split, Vb.ty_append, Vb.ty_extend, Vb.ty_pop, Option.isSome_some, List.map_cons, List.map_nil, Bool.false_eq_true, if_false, Vb.tr_bl, Vb.wipeL, decide_true, decide_false, Bool.not_true, Bool.not_false, Vb.b_add, Vb.b_sub, Vb.c_lt, Vb.c_le, Vb.c_gt, Vb.c_ge, Vb.c_eq_int, Vb.c_ne_int, Vb.c_isn_non, Vb.c_isn_int, Vb.c_isn_tup, Vb.c_notn_non, Vb.c_notn_int, Vb.c_notn_tup, Vb.ix_tup, Vb.bi_list_tup, Vb.isi_int_non, Vb.isi_int_bl, Vb.isi_int_int, Vb.isi_int_str, Vb.isi_int_tup, Vb.isi_int_ref, Vb.isi_bool_non, Vb.isi_bool_bl, Vb.isi_bool_int, Vb.isi_bool_str, Vb.isi_bool_tup, Vb.isi_bool_ref, Vb.isi_str_non, Vb.isi_str_bl, Vb.isi_str_int, Vb.isi_str_str, Vb.isi_str_tup, Vb.isi_str_ref, Vb.isi_tup_non, Vb.isi_tup_bl, Vb.isi_tup_int, Vb.isi_tup_str, Vb.isi_tup_tup, Vb.isi_tup_ref, Vb.isi_lst_non, Vb.isi_lst_bl, Vb.isi_lst_int, Vb.isi_lst_str, Vb.isi_lst_tup, Vb.isi_lst_ref]
      have k4 : Keep [r] h1 h3 := kk.trans ((Keep.push _).trans k3)
      have sq : Small (.int q) := ⟨q, rfl, q0, by omega⟩
      have s0 : Small (.int 0) := ⟨0, rfl, by decide, by decide⟩
      refine .ret ⟨j + 1, u, some (.int q), er, by omega, rfl, ?_, ?_, ?_, k4, d4.weak (by omega)⟩
      · rcases hu with rfl | rfl | rfl <;> exact ⟨_, rfl⟩
      · rcases hu with rfl | rfl | rfl
        · exact fun x hx => by rw [List.mem_singleton.mp hx]; exact tv
        · exact fun x hx => by
            rcases List.mem_cons.mp hx with rfl | hx
            · exact int7 sq _
            · rw [List.mem_singleton.mp hx]; exact tv
        · exact fun x hx => by
            rcases List.mem_cons.mp hx with rfl | hx
            · exact tv
            · rw [List.mem_singleton.mp hx]; exact int7 s0 _
      · rcases hu with rfl | rfl | rfl
        · rw [wt1]; omega
        · rw [wt2, wt_int]; omega
        · rw [wt2, wt_int]; omega
    · rintro fl h2 q
      cases fl with
      | nx lo =>
        obtain ⟨j, v, z, e, hj, rfl, hv, tv, wv, kk, dd⟩ := q
        have ml : (rangeL 0 7).length = 7 := by decide
        have : j = 7 := by
          have := congrArg List.length e
          simp only [List.length_nil, List.length_drop, ml] at this
          omega
        subst this
        try simp only [Vb.execs, Vb.exec, Vb.evalE, Vb.evalEs, Vb.evalT, Vb.evalI, Vb.evalO, Vb.evalOT, Vb.asgS, Vb.bind_ok, Vb.bind_assoc, Vb.then_ok, Vb.then_bind, Vb.next_then, Vb.next_next, Vb.next_nx, Vb.next_rt, Vb.next_bk, Vb.next_ct, Vb.fin_then, Vb.fin_rt, Vb.fin_nx, Vb.opt_some, Vb.cb_fn, Vb.cb_cls, Vb.gl0, Vb.gls, List.getElem?_cons_zero, List.getElem?_cons_succ, List.set_cons_zero, List.set_cons_succ, Vb.storeTg, Vb.storeAll, Option.map_some, List.length_cons, List.length_nil, Nat.zero_add, Nat.reduceAdd, Vb.ln0, Vb.ln1, Vb.ln2, Vb.ln3, Vb.ln4, Vb.ln5, Vb.ln6, if_true, Vb.newObj, Vb.it_tup, Vb.it_ref, Vb.it_str, Vb.ty_join, Vb.ty_split, Vb.ty_append, Vb.ty_extend, Vb.ty_pop, Option.isSome_some, List.map_cons, List.map_nil, Bool.false_eq_true, if_false, Vb.tr_bl, Vb.wipeL, decide_true, decide_false, Bool.not_true, Bool.not_false, Vb.b_add, Vb.b_sub, Vb.c_lt, Vb.c_le, Vb.c_gt, Vb.c_ge, Vb.c_eq_int, Vb.c_ne_int, Vb.c_isn_non, Vb.c_isn_int, Vb.c_isn_tup, Vb.c_notn_non, Vb.c_notn_int, Vb.c_notn_tup, Vb.ix_tup, Vb.bi_list_tup, Vb.isi_int_non, Vb.isi_int_bl, Vb.isi_int_int, Vb.isi_int_str, Vb.isi_int_tup, Vb.isi_int_ref, Vb.isi_bool_non, Vb.isi_bool_bl, Vb.isi_bool_int, Vb.isi_bool_str, Vb.isi_bool_tup, Vb.isi_bool_ref, Vb.isi_str_non, Vb.isi_str_bl, Vb.isi_str_int, Vb.isi_str_str, Vb.isi_str_tup, Vb.isi_str_ref, Vb.isi_tup_non, Vb.isi_tup_bl, Vb.isi_tup_int, Vb.isi_tup_str, Vb.isi_tup_tup, Vb.isi_tup_ref, Vb.isi_lst_non, Vb.isi_lst_bl, Vb.isi_lst_int, Vb.isi_lst_str, Vb.isi_lst_tup, Vb.isi_lst_ref]
        exact .ret ⟨⟨hv, tv, by have : wt 8 v ≤ _ := wv; omega⟩, k1.trans kk, dd.weak (by omega)⟩
      | _ => exact q.elim
  · simp only [decide_eq_false hi]
    try simp only [Vb.execs, Vb.exec, Vb.evalE, Vb.evalEs, Vb.evalT, Vb.evalI, Vb.evalO, Vb.evalOT, Vb.asgS, Vb.bind_ok, Vb.bind_assoc, Vb.then_ok, Vb.then_bind, Vb.next_then, Vb.next_next, Vb.next_nx, Vb.next_rt, Vb.next_bk, Vb.next_ct, Vb.fin_then, Vb.fin_rt, Vb.fin_nx, Vb.opt_some, Vb.cb_fn, Vb.cb_cls, Vb.gl0, Vb.gls, List.getElem?_cons_zero, List.getElem?_cons_succ, List.set_cons_zero, List.set_cons_succ, Vb.storeTg, Vb.storeAll, Option.map_some, List.length_cons, List.length_nil, Nat.zero_add, Nat.reduceAdd, Vb.ln0, Vb.ln1, Vb.ln2, Vb.ln3, Vb.ln4, Vb.ln5, Vb.ln6, if_true, Vb.newObj, Vb.it_tup, Vb.it_ref, Vb.it_str, Vb.ty_join, Vb.ty_split, Vb.ty_append, Vb.ty_extend, Vb.ty_pop, Option.isSome_some, List.map_cons, List.map_nil, Bool.false_eq_true, if_false, Vb.tr_bl, Vb.wipeL, decide_true, decide_false, Bool.not_true, Bool.not_false, Vb.b_add, Vb.b_sub, Vb.c_lt, Vb.c_le, Vb.c_gt, Vb.c_ge, Vb.c_eq_int, Vb.c_ne_int, Vb.c_isn_non, Vb.c_isn_int, Vb.c_isn_tup, Vb.c_notn_non, Vb.c_notn_int, Vb.c_notn_tup, Vb.ix_tup, Vb.bi_list_tup, Vb.isi_int_non, Vb.isi_int_bl, Vb.isi_int_int, Vb.isi_int_str, Vb.isi_int_tup, Vb.isi_int_ref, Vb.isi_bool_non, Vb.isi_bool_bl, Vb.isi_bool_int, Vb.isi_bool_str, Vb.isi_bool_tup, Vb.isi_bool_ref, Vb.isi_str_non, Vb.isi_str_bl, Vb.isi_str_int, Vb.isi_str_str, Vb.isi_str_tup, Vb.isi_str_ref, Vb.isi_tup_non, Vb.isi_tup_bl, Vb.isi_tup_int, Vb.isi_tup_str, Vb.isi_tup_tup, Vb.isi_tup_ref, Vb.isi_lst_non, Vb.isi_lst_bl, Vb.isi_lst_int, Vb.isi_lst_str, Vb.isi_lst_tup, Vb.isi_lst_ref]
    have dl : Dr r (B + 1) (h1 ++ [.lst [.int 20]]) := d1.keep (S := []) (.push _) (by simp)
    have lf : Lf h1.length (h1 ++ [.lst [.int 20]]) := ⟨20, get_new⟩
    have rq : r ≠ h1.length := by have := d1.lt; omega
    have kp : Keep [] h1 (h1 ++ [.lst [.int 20]]) := .push _
    have hl : h1.length < (h1 ++ [MO.lst [.int 20]]).length := by simp
    generalize h1 ++ [MO.lst [.int 20]] = h2 at dl lf kp hl
    have d3 := dl.keep (S := []) (.push (MO.lst [.int 0, .int 1, .int 2, .int 3, .int 6])) (by simp)
    refine Ok.bind (sp23 (n + 8) _ r 5 _ d3 (by omega) (by decide) (by decide)) ?_
    rintro _ h3 ⟨⟨l, rfl, j0, j1⟩, k3, d4⟩
    have e := k3.get get_new (by have := dl.lt; simp; omega)
    have l4 := (lf.keep (S := []) (.push (MO.lst [.int 0, .int 1, .int 2, .int 3, .int 6])) (by simp)).keep k3 (by simp; omega)
    obtain ⟨v, ev, hv⟩ := pick5 e j0 j1
    rw [ev]
    obtain ⟨c, rfl, c0, c1⟩ : ∃ c : Int, v = .int c ∧ 0 ≤ c ∧ c ≤ 6 := by
      rcases hv with rfl | rfl | rfl | rfl | rfl
      · exact ⟨0, rfl, by decide, by decide⟩
      · exact ⟨1, rfl, by decide, by decide⟩
      · exact ⟨2, rfl, by decide, by decide⟩
      · exact ⟨3, rfl, by decide, by decide⟩
      · exact ⟨6, rfl, by decide, by decide⟩
    try simp only [Vb.execs, Vb.exec, Vb.evalE, Vb.evalEs, Vb.evalT, Vb.evalI, Vb.evalO, Vb.evalOT, Vb.asgS, Vb.bind_ok, Vb.bind_assoc, Vb.then_ok, Vb.then_bind, Vb.next_then, Vb.next_next, Vb.next_nx, Vb.next_rt, Vb.next_bk, Vb.next_ct, Vb.fin_then, Vb.fin_rt, Vb.fin_nx, Vb.opt_some, Vb.cb_fn, Vb.cb_cls, Vb.gl0, Vb.gls, List.getElem?_cons_zero, List.getElem?_cons_succ, List.set_cons_zero, List.set_cons_succ, Vb.storeTg, Vb.storeAll, Option.map_some, List.length_cons, List.length_nil, Nat.zero_add, Nat.reduceAdd, Vb.ln0, Vb.ln1, Vb.ln2, Vb.ln3, Vb.ln4, Vb.ln5, Vb.ln6, if_true, Vb.newObj, Vb.it_tup, Vb.it_ref, Vb.it_str, Vb.ty_join, Vb.ty_split, Vb.ty_append, Vb.ty_extend, Vb.ty_pop, Option.isSome_some, List.map_cons, List.map_nil, Bool.false_eq_true, if_false, Vb.tr_bl, Vb.wipeL, decide_true, decide_false, Bool.not_true, Bool.not_false, Vb.b_add, Vb.b_sub, Vb.c_lt, Vb.c_le, Vb.c_gt, Vb.c_ge, Vb.c_eq_int, Vb.c_ne_int, Vb.c_isn_non, Vb.c_isn_int, Vb.c_isn_tup, Vb.c_notn_non, Vb.c_notn_int, Vb.c_notn_tup, Vb.ix_tup, Vb.bi_list_tup, Vb.isi_int_non, Vb.isi_int_bl, Vb.isi_int_int, Vb.isi_int_str, Vb.isi_int_tup, Vb.isi_int_ref, Vb.isi_bool_non, Vb.isi_bool_bl, Vb.isi_bool_int, Vb.isi_bool_str, Vb.isi_bool_tup, Vb.isi_bool_ref, Vb.isi_str_non, Vb.isi_str_bl, Vb.isi_str_int, Vb.isi_str_str, Vb.isi_str_tup, Vb.isi_str_ref, Vb.isi_tup_non, Vb.isi_tup_bl, Vb.isi_tup_int, Vb.isi_tup_str, Vb.isi_tup_tup, Vb.isi_tup_ref, Vb.isi_lst_non, Vb.isi_lst_bl, Vb.isi_lst_int, Vb.isi_lst_str, Vb.isi_lst_tup, Vb.isi_lst_ref, sm62 (n := c) (by omega) (by omega)]
    have len : (rangeL 0 c).length ≤ 6 := by rw [rngL_len]; omega
    refine Ok.bind (lc_all (P := fun v => isT 7 v ∧ wt 7 v ≤ Wd 7) (J := fun j h' => Keep [r, h1.length] h3 h' ∧ Dr r (B + 1 + 1 + j * Cd 7) h' ∧ Lf h1.length h') (fun _ _ _ => trivial) (line_ok (by omega)) ⟨.push _, (d4.keep (S := []) (.push _) (by simp)).weak (by omega), l4.keep (S := []) (.push _) (by simp)⟩
      (fun j h' o ⟨a1, a2, a3⟩ => ⟨a1.put (.inr (Nat.le_refl _)) o, a2.put (by have := d4.lt; omega), a3.put (by have := l4.lt; omega)⟩) ?_) ?_
    · rintro j hj v hv h' ⟨a1, a2, a3⟩ hlt
      have jc : (j : Int) * Cd 7 ≤ 5 * Cd 7 := Int.mul_le_mul_of_nonneg_right (by omega) (by omega)
      refine Ok.bind (sp24 7 (n + 10) h' r h1.length _ rq a2 a3 (by omega) (by omega)) ?_
      rintro y h'' ⟨g1, g2, g3, g4⟩
      refine .ret ⟨y, rfl, g1, ⟨a1.trans g2, g3.weak ?_, g4⟩, g2.at_ _ hlt (by have := d4.lt; have := l4.lt; simp; omega)⟩
      have : ((j + 1 : Nat) : Int) * Cd 7 = (j : Int) * Cd 7 + Cd 7 := by rw [Int.natCast_add, Int.add_mul]; simp
      omega
    · rintro _ h' ⟨rfl, ys, y1, y2, y3, a1, a2, a3⟩
      rw [bi_tuple y3]
      try simp only [Vb.execs, Vb.exec, Vb.evalE, Vb.evalEs, Vb.evalT, Vb.evalI, Vb.evalO, Vb.evalOT, Vb.asgS, Vb.bind_ok, Vb.bind_assoc, Vb.then_ok, Vb.then_bind, Vb.next_then, Vb.next_next, Vb.next_nx, Vb.next_rt, Vb.next_bk, Vb.next_ct, Vb.fin_then, Vb.fin_rt, Vb.fin_nx, Vb.opt_some, Vb.cb_fn, Vb.cb_cls, Vb.gl0, Vb.gls, List.getElem?_cons_zero, List.getElem?_cons_succ, List.set_cons_zero, List.set_cons_succ, Vb.storeTg, Vb.storeAll, Option.map_some, List.length_cons, List.length_nil, Nat.zero_add, Nat.reduceAdd, Vb.ln0, Vb.ln1, Vb.ln2, Vb.ln3, Vb.ln4, Vb.ln5, Vb.ln6, if_true, Vb.newObj, Vb.it_tup, Vb.it_ref, Vb.it_str, Vb.ty_join, Vb.ty_split, Vb.ty_append, Vb.ty_extend, Vb.ty_pop, Option.isSome_some, List.map_cons, List.map_nil, Bool.false_eq_true, if_false, Vb.tr_bl, Vb.wipeL, decide_true, decide_false, Bool.not_true, Bool.not_false, Vb.b_add, Vb.b_sub, Vb.c_lt, Vb.c_le, Vb.c_gt, Vb.c_ge, Vb.c_eq_int, Vb.c_ne_int, Vb.c_isn_non, Vb.c_isn_int, Vb.c_isn_tup, Vb.c_notn_non, Vb.c_notn_int, Vb.c_notn_tup, Vb.ix_tup, Vb.bi_list_tup, Vb.isi_int_non, Vb.isi_int_bl, Vb.isi_int_int, Vb.isi_int_str, Vb.isi_int_tup, Vb.isi_int_ref, Vb.isi_bool_non, Vb.isi_bool_bl, Vb.isi_bool_int, Vb.isi_bool_str, Vb.isi_bool_tup, Vb.isi_bool_ref, Vb.isi_str_non, Vb.isi_str_bl, Vb.isi_str_int, Vb.isi_str_str, Vb.isi_str_tup, Vb.isi_str_ref, Vb.isi_tup_non, Vb.isi_tup_bl, Vb.isi_tup_int, Vb.isi_tup_str, Vb.isi_tup_tup, Vb.isi_tup_ref, Vb.isi_lst_non, Vb.isi_lst_bl, Vb.isi_lst_int, Vb.isi_lst_str, Vb.isi_lst_tup, Vb.isi_lst_ref]
      have yl : ys.length ≤ 6 := by omega
      have jc : ((rangeL 0 c).length : Int) * Cd 7 ≤ 6 * Cd 7 := Int.mul_le_mul_of_nonneg_right (by omega) (by omega)
      have w7 := hW7
      refine .ret ⟨⟨⟨ys, rfl⟩, fun x hx => (y2 x hx).1, Nat.le_trans (wt_tup yl fun x hx => (y2 x hx).2) (by omega)⟩, ?_, a2.weak (by omega)⟩
      have k5 : Keep [r, h1.length] h1 h' := (kp.weak (by simp)).trans ((Keep.push _).trans ((k3.weak fun x hx => .inl (by simp at hx; simp [hx])).trans a1))
      exact k1.trans (k5.weak fun x hx => by
        rcases List.mem_cons.mp hx with rfl | hx
        · exact .inl (by simp)
        · rw [List.mem_singleton.mp hx]; exact .inr (Nat.le_refl _))
def CS : Int := 1300000
theorem hCS : CS = 1300000 := rfl
def States (vs : List PV) : Prop := vs.length ≤ 6 ∧ ∀ v ∈ vs, IsSt v
theorem sp26 (n : Nat) (h : MH) (r : Nat) (B : Int) (dr : Dr r B h) (hB : B + CS ≤ TOP) : Ok (callF Pr (n + 12) 26 [.ref r] h) fun v h' => (∃ vs, v = .tup vs ∧ States vs) ∧ Keep [r] h h' ∧ Dr r (B + CS) h' := by
  have ht := hT
  have hct := hCT
  have hcs := hCS
  rw [callF_at (d := d26) rfl rfl]
  show Ok (finF (execs (cbK Pr (n + 11)) Pr.xt Pr.wl b26 [some (.ref r), none] h)) _
  unfold b26
  try simp only [Vb.execs, Vb.exec, Vb.evalE, Vb.evalEs, Vb.evalT, Vb.evalI, Vb.evalO, Vb.evalOT, Vb.asgS, Vb.bind_ok, Vb.bind_assoc, Vb.then_ok, Vb.then_bind, Vb.next_then, Vb.next_next, Vb.next_nx, Vb.next_rt, Vb.next_bk, Vb.next_ct, Vb.fin_then, Vb.fin_rt, Vb.fin_nx, Vb.opt_some, Vb.cb_fn, Vb.cb_cls, Vb.gl0, Vb.gls, List.getElem?_cons_zero, List.getElem?_cons_succ, List.set_cons_zero, List.set_cons_succ, Vb.storeTg, Vb.storeAll, Option.map_some, List.length_cons, List.length_nil, Nat.zero_add, Nat.reduceAdd, Vb.ln0, Vb.ln1, Vb.ln2, Vb.ln3, Vb.ln4, Vb.ln5, Vb.ln6, if_true, Vb.newObj, Vb.it_tup, Vb.it_ref, Vb.it_str, Vb.ty_join, Vb.ty_split, Vb.ty_append, Vb.ty_extend, Vb.ty_pop, Option.isSome_some, List.map_cons, List.map_nil, Bool.false_eq_true, if_false, Vb.tr_bl, Vb.wipeL, decide_true, decide_false, Bool.not_true, Bool.not_false, Vb.b_add, Vb.b_sub, Vb.c_lt, Vb.c_le, Vb.c_gt, Vb.c_ge, Vb.c_eq_int, Vb.c_ne_int, Vb.c_isn_non, Vb.c_isn_int, Vb.c_isn_tup, Vb.c_notn_non, Vb.c_notn_int, Vb.c_notn_tup, Vb.ix_tup, Vb.bi_list_tup, Vb.isi_int_non, Vb.isi_int_bl, Vb.isi_int_int, Vb.isi_int_str, Vb.isi_int_tup, Vb.isi_int_ref, Vb.isi_bool_non, Vb.isi_bool_bl, Vb.isi_bool_int, Vb.isi_bool_str, Vb.isi_bool_tup, Vb.isi_bool_ref, Vb.isi_str_non, Vb.isi_str_bl, Vb.isi_str_int, Vb.isi_str_str, Vb.isi_str_tup, Vb.isi_str_ref, Vb.isi_tup_non, Vb.isi_tup_bl, Vb.isi_tup_int, Vb.isi_tup_str, Vb.isi_tup_tup, Vb.isi_tup_ref, Vb.isi_lst_non, Vb.isi_lst_bl, Vb.isi_lst_int, Vb.isi_lst_str, Vb.isi_lst_tup, Vb.isi_lst_ref]
  have d3 := dr.keep (S := []) (.push (MO.lst [.int 0, .int 1, .int 2, .int 3, .int 6])) (by simp)
  refine Ok.bind (sp23 (n + 9) _ r 5 _ d3 (by omega) (by decide) (by decide)) ?_
  rintro _ h3 ⟨⟨l, rfl, j0, j1⟩, k3, d4⟩
  have e := k3.get get_new (by have := dr.lt; simp; omega)
  obtain ⟨v, ev, hv⟩ := pick5 e j0 j1
  rw [ev]
  obtain ⟨c, rfl, c0, c1⟩ : ∃ c : Int, v = .int c ∧ 0 ≤ c ∧ c ≤ 6 := by
    rcases hv with rfl | rfl | rfl | rfl | rfl
    · exact ⟨0, rfl, by decide, by decide⟩
    · exact ⟨1, rfl, by decide, by decide⟩
    · exact ⟨2, rfl, by decide, by decide⟩
    · exact ⟨3, rfl, by decide, by decide⟩
    · exact ⟨6, rfl, by decide, by decide⟩
  try simp only [Vb.execs, Vb.exec, Vb.evalE, Vb.evalEs, Vb.evalT, Vb.evalI, Vb.evalO, Vb.evalOT, Vb.asgS, Vb.bind_ok, Vb.bind_assoc, Vb.then_ok, Vb.then_bind, Vb.next_then, Vb.next_next, Vb.next_nx, Vb.next_rt, Vb.next_bk, Vb.next_ct, Vb.fin_then, Vb.fin_rt, Vb.fin_nx, Vb.opt_some, Vb.cb_fn, Vb.cb_cls, Vb.gl0, Vb.gls, List.getElem?_cons_zero, List.getElem?_cons_succ, List.set_cons_zero, List.set_cons_succ, Vb.storeTg, Vb.storeAll, Option.map_some, List.length_cons, List.length_nil, Nat.zero_add, Nat.reduceAdd, Vb.ln0, Vb.ln1, Vb.ln2, Vb.ln3, Vb.ln4, Vb.ln5, Vb.ln6, if_true, Vb.newObj, Vb.it_tup, Vb.it_ref, Vb.it_str, Vb.ty_join, Vb.ty_split, Vb.ty_append, Vb.ty_extend, Vb.ty_pop, Option.isSome_some, List.map_cons, List.map_nil, Bool.false_eq_true, if_false, Vb.tr_bl, Vb.wipeL, decide_true, decide_false, Bool.not_true, Bool.not_false, Vb.b_add, Vb.b_sub, Vb.c_lt, Vb.c_le, Vb.c_gt, Vb.c_ge, Vb.c_eq_int, Vb.c_ne_int, Vb.c_isn_non, Vb.c_isn_int, Vb.c_isn_tup, Vb.c_notn_non, Vb.c_notn_int, Vb.c_notn_tup, Vb.ix_tup, Vb.bi_list_tup, Vb.isi_int_non, Vb.isi_int_bl, Vb.isi_int_int, Vb.isi_int_str, Vb.isi_int_tup, Vb.isi_int_ref, Vb.isi_bool_non, Vb.isi_bool_bl, Vb.isi_bool_int, Vb.isi_bool_str, Vb.isi_bool_tup, Vb.isi_bool_ref, Vb.isi_str_non, Vb.isi_str_bl, Vb.isi_str_int, Vb.isi_str_str, Vb.isi_str_tup, Vb.isi_str_ref, Vb.isi_tup_non, Vb.isi_tup_bl, Vb.isi_tup_int, Vb.isi_tup_str, Vb.isi_tup_tup, Vb.isi_tup_ref, Vb.isi_lst_non, Vb.isi_lst_bl, Vb.isi_lst_int, Vb.isi_lst_str, Vb.isi_lst_tup, Vb.isi_lst_ref, sm62 (n := c) (by omega) (by omega)]
  have len : (rangeL 0 c).length ≤ 6 := by rw [rngL_len]; omega
  refine Ok.bind (lc_all (P := IsSt) (J := fun j h' => Keep [r] h3 h' ∧ Dr r (B + 1 + j * 200000) h') (fun _ _ _ => trivial) (line_ok (by omega)) ⟨.push _, (d4.keep (S := []) (.push _) (by simp)).weak (by omega)⟩
    (fun j h' o ⟨a1, a2⟩ => ⟨a1.put (.inr (Nat.le_refl _)) o, a2.put (by have := d4.lt; omega)⟩) ?_) ?_
  · rintro j hj v hv h' ⟨a1, a2⟩ hlt
    refine Ok.bind (sp25 n h' r _ a2 (by omega)) ?_
    rintro y h'' ⟨g1, g2, g3⟩
    exact .ret ⟨y, rfl, g1, ⟨a1.trans g2, g3.weak (by omega)⟩, g2.at_ _ hlt (by have := d4.lt; simp; omega)⟩
  · rintro _ h' ⟨rfl, ys, y1, y2, y3, a1, a2⟩
    rw [bi_tuple y3]
    try simp only [Vb.execs, Vb.exec, Vb.evalE, Vb.evalEs, Vb.evalT, Vb.evalI, Vb.evalO, Vb.evalOT, Vb.asgS, Vb.bind_ok, Vb.bind_assoc, Vb.then_ok, Vb.then_bind, Vb.next_then, Vb.next_next, Vb.next_nx, Vb.next_rt, Vb.next_bk, Vb.next_ct, Vb.fin_then, Vb.fin_rt, Vb.fin_nx, Vb.opt_some, Vb.cb_fn, Vb.cb_cls, Vb.gl0, Vb.gls, List.getElem?_cons_zero, List.getElem?_cons_succ, List.set_cons_zero, List.set_cons_succ, Vb.storeTg, Vb.storeAll, Option.map_some, List.length_cons, List.length_nil, Nat.zero_add, Nat.reduceAdd, Vb.ln0, Vb.ln1, Vb.ln2, Vb.ln3, Vb.ln4, Vb.ln5, Vb.ln6, if_true, Vb.newObj, Vb.it_tup, Vb.it_ref, Vb.it_str, Vb.ty_join, Vb.ty_split, Vb.ty_append, Vb.ty_extend, Vb.ty_pop, Option.isSome_some, List.map_cons, List.map_nil, Bool.false_eq_true, if_false, Vb.tr_bl, Vb.wipeL, decide_true, decide_false, Bool.not_true, Bool.not_false, Vb.b_add, Vb.b_sub, Vb.c_lt, Vb.c_le, Vb.c_gt, Vb.c_ge, Vb.c_eq_int, Vb.c_ne_int, Vb.c_isn_non, Vb.c_isn_int, Vb.c_isn_tup, Vb.c_notn_non, Vb.c_notn_int, Vb.c_notn_tup, Vb.ix_tup, Vb.bi_list_tup, Vb.isi_int_non, Vb.isi_int_bl, Vb.isi_int_int, Vb.isi_int_str, Vb.isi_int_tup, Vb.isi_int_ref, Vb.isi_bool_non, Vb.isi_bool_bl, Vb.isi_bool_int, Vb.isi_bool_str, Vb.isi_bool_tup, Vb.isi_bool_ref, Vb.isi_str_non, Vb.isi_str_bl, Vb.isi_str_int, Vb.isi_str_str, Vb.isi_str_tup, Vb.isi_str_ref, Vb.isi_tup_non, Vb.isi_tup_bl, Vb.isi_tup_int, Vb.isi_tup_str, Vb.isi_tup_tup, Vb.isi_tup_ref, Vb.isi_lst_non, Vb.isi_lst_bl, Vb.isi_lst_int, Vb.isi_lst_str, Vb.isi_lst_tup, Vb.isi_lst_ref]
    exact .ret ⟨⟨ys, rfl, by omega, y2⟩, (Keep.push _).trans (k3.trans a1), a2.weak (by omega)⟩
end V87

set_option Elab.async false
set_option linter.all false
set_option maxRecDepth 100000
set_option maxHeartbeats 2000000
namespace V87
open PySem Vb
def Owner (v : PV) : Prop := v = .int (-1) ∨ Small v
/-- a goal's paper, by owner and number -/
def IsGoal (v : PV) : Prop := ∃ o g vs, v = .tup [.str "follows", .tup [o, g], .tup vs] ∧ Owner o ∧ Small g ∧ States vs
def IsAlone (v : PV) : Prop := ∃ vs, v = .tup [.str "alone", .tup vs] ∧ States vs
def IsPaper (v : PV) : Prop := IsAlone v ∨ (∃ vs, v = .tup [.str "whole", .tup vs] ∧ States vs) ∨ IsGoal v ∨
  ∃ bs gs, v = .tup [.str "parts", .tup bs, .tup gs] ∧ bs.length ≤ 3 ∧ gs.length ≤ 3 ∧ (∀ b ∈ bs, IsAlone b) ∧ ∀ g ∈ gs, IsGoal g
theorem sp28 (n : Nat) (h : MH) (r : Nat) (B : Int) (dr : Dr r B h) (hB : B + 1300020 ≤ TOP) : Ok (callF Pr (n + 13) 28 [.ref r] h) fun v h' => IsGoal v ∧ Keep [r] h h' ∧ Dr r (B + 1300010) h' := by
  have ht := hT
  have hcs := hCS
  rw [callF_at (d := d28) rfl rfl]
  show Ok (finF (execs (cbK Pr (n + 12)) Pr.xt Pr.wl b28 [some (.ref r), none] h)) _
  unfold b28
  try simp only [Vb.execs, Vb.exec, Vb.evalE, Vb.evalEs, Vb.evalT, Vb.evalI, Vb.evalO, Vb.evalOT, Vb.asgS, Vb.bind_ok, Vb.bind_assoc, Vb.then_ok, Vb.then_bind, Vb.next_then, Vb.next_next, Vb.next_nx, Vb.next_rt, Vb.next_bk, Vb.next_ct, Vb.fin_then, Vb.fin_rt, Vb.fin_nx, Vb.opt_some, Vb.cb_fn, Vb.cb_cls, Vb.gl0, Vb.gls, List.getElem?_cons_zero, List.getElem?_cons_succ, List.set_cons_zero, List.set_cons_succ, Vb.storeTg, Vb.storeAll, Option.map_some, List.length_cons, List.length_nil, Nat.zero_add, Nat.reduceAdd, Vb.ln0, Vb.ln1, Vb.ln2, Vb.ln3, Vb.ln4, Vb.ln5, Vb.ln6, if_true, Vb.newObj, Vb.it_tup, Vb.it_ref, Vb.it_str, Vb.ty_join, Vb.ty_split, Vb.ty_append, Vb.ty_extend, Vb.ty_pop, Option.isSome_some, List.map_cons, List.map_nil, Bool.false_eq_true, if_false, Vb.tr_bl, Vb.wipeL, decide_true, decide_false, Bool.not_true, Bool.not_false, Vb.b_add, Vb.b_sub, Vb.c_lt, Vb.c_le, Vb.c_gt, Vb.c_ge, Vb.c_eq_int, Vb.c_ne_int, Vb.c_isn_non, Vb.c_isn_int, Vb.c_isn_tup, Vb.c_notn_non, Vb.c_notn_int, Vb.c_notn_tup, Vb.ix_tup, Vb.bi_list_tup, Vb.isi_int_non, Vb.isi_int_bl, Vb.isi_int_int, Vb.isi_int_str, Vb.isi_int_tup, Vb.isi_int_ref, Vb.isi_bool_non, Vb.isi_bool_bl, Vb.isi_bool_int, Vb.isi_bool_str, Vb.isi_bool_tup, Vb.isi_bool_ref, Vb.isi_str_non, Vb.isi_str_bl, Vb.isi_str_int, Vb.isi_str_str, Vb.isi_str_tup, Vb.isi_str_ref, Vb.isi_tup_non, Vb.isi_tup_bl, Vb.isi_tup_int, Vb.isi_tup_str, Vb.isi_tup_tup, Vb.isi_tup_ref, Vb.isi_lst_non, Vb.isi_lst_bl, Vb.isi_lst_int, Vb.isi_lst_str, Vb.isi_lst_tup, Vb.isi_lst_ref]
  refine Ok.bind (sp23 (n + 10) _ r 3 _ dr (by omega) (by decide) (by decide)) ?_
  rintro _ h1 ⟨⟨i, rfl, i0, i1⟩, k1, d1⟩
  try simp only [Vb.execs, Vb.exec, Vb.evalE, Vb.evalEs, Vb.evalT, Vb.evalI, Vb.evalO, Vb.evalOT, Vb.asgS, Vb.bind_ok, Vb.bind_assoc, Vb.then_ok, Vb.then_bind, Vb.next_then, Vb.next_next, Vb.next_nx, Vb.next_rt, Vb.next_bk, Vb.next_ct, Vb.fin_then, Vb.fin_rt, Vb.fin_nx, Vb.opt_some, Vb.cb_fn, Vb.cb_cls, Vb.gl0, Vb.gls, List.getElem?_cons_zero, List.getElem?_cons_succ, List.set_cons_zero, List.set_cons_succ, Vb.storeTg, Vb.storeAll, Option.map_some, List.length_cons, List.length_nil, Nat.zero_add, Nat.reduceAdd, Vb.ln0, Vb.ln1, Vb.ln2, Vb.ln3, Vb.ln4, Vb.ln5, Vb.ln6, if_true, Vb.newObj, Vb.it_tup, Vb.it_ref, Vb.it_str, Vb.ty_join, Vb.ty_split, Vb.ty_append, Vb.ty_extend, Vb.ty_pop, Option.isSome_some, List.map_cons, List.map_nil, Bool.false_eq_true, if_false, Vb.tr_bl, Vb.wipeL, decide_true, decide_false, Bool.not_true, Bool.not_false, Vb.b_add, Vb.b_sub, Vb.c_lt, Vb.c_le, Vb.c_gt, Vb.c_ge, Vb.c_eq_int, Vb.c_ne_int, Vb.c_isn_non, Vb.c_isn_int, Vb.c_isn_tup, Vb.c_notn_non, Vb.c_notn_int, Vb.c_notn_tup, Vb.ix_tup, Vb.bi_list_tup, Vb.isi_int_non, Vb.isi_int_bl, Vb.isi_int_int, Vb.isi_int_str, Vb.isi_int_tup, Vb.isi_int_ref, Vb.isi_bool_non, Vb.isi_bool_bl, Vb.isi_bool_int, Vb.isi_bool_str, Vb.isi_bool_tup, Vb.isi_bool_ref, Vb.isi_str_non, Vb.isi_str_bl, Vb.isi_str_int, Vb.isi_str_str, Vb.isi_str_tup, Vb.isi_str_ref, Vb.isi_tup_non, Vb.isi_tup_bl, Vb.isi_tup_int, Vb.isi_tup_str, Vb.isi_tup_tup, Vb.isi_tup_ref, Vb.isi_lst_non, Vb.isi_lst_bl, Vb.isi_lst_int, Vb.isi_lst_str, Vb.isi_lst_tup, Vb.isi_lst_ref]
  -- the owner
  have own : Ok (match decide (i = 0) with
      | true => Res.ok (PV.int (-1)) h1
      | false => callF Pr (n + 12) 27 [PV.ref r] h1) fun v h' => Owner v ∧ Keep [r] h1 h' ∧ Dr r (B + 1 + 3) h' := by
    by_cases hi : i = 0
    · simp only [decide_eq_true hi]
      exact .ret ⟨.inl rfl, .refl, d1.weak (by omega)⟩
    · simp only [decide_eq_false hi]
      exact (sp27 (n + 9) h1 r _ d1 (by omega)).mono fun v h' ⟨a, b, c⟩ => ⟨.inr a, b, c⟩
  refine Ok.bind own ?_
  rintro o h2 ⟨oo, k2, d2⟩
  try simp only [Vb.execs, Vb.exec, Vb.evalE, Vb.evalEs, Vb.evalT, Vb.evalI, Vb.evalO, Vb.evalOT, Vb.asgS, Vb.bind_ok, Vb.bind_assoc, Vb.then_ok, Vb.then_bind, Vb.next_then, Vb.next_next, Vb.next_nx, Vb.next_rt, Vb.next_bk, Vb.next_ct, Vb.fin_then, Vb.fin_rt, Vb.fin_nx, Vb.opt_some, Vb.cb_fn, Vb.cb_cls, Vb.gl0, Vb.gls, List.getElem?_cons_zero, List.getElem?_cons_succ, List.set_cons_zero, List.set_cons_succ, Vb.storeTg, Vb.storeAll, Option.map_some, List.length_cons, List.length_nil, Nat.zero_add, Nat.reduceAdd, Vb.ln0, Vb.ln1, Vb.ln2, Vb.ln3, Vb.ln4, Vb.ln5, Vb.ln6, if_true, Vb.newObj, Vb.it_tup, Vb.it_ref, Vb.it_str, Vb.ty_join, Vb.ty_split, Vb.ty_append, Vb.ty_extend, Vb.ty_pop, Option.isSome_some, List.map_cons, List.map_nil, Bool.false_eq_true, if_false, Vb.tr_bl, Vb.wipeL, decide_true, decide_false, Bool.not_true, Bool.not_false, Vb.b_add, Vb.b_sub, Vb.c_lt, Vb.c_le, Vb.c_gt, Vb.c_ge, Vb.c_eq_int, Vb.c_ne_int, Vb.c_isn_non, Vb.c_isn_int, Vb.c_isn_tup, Vb.c_notn_non, Vb.c_notn_int, Vb.c_notn_tup, Vb.ix_tup, Vb.bi_list_tup, Vb.isi_int_non, Vb.isi_int_bl, Vb.isi_int_int, Vb.isi_int_str, Vb.isi_int_tup, Vb.isi_int_ref, Vb.isi_bool_non, Vb.isi_bool_bl, Vb.isi_bool_int, Vb.isi_bool_str, Vb.isi_bool_tup, Vb.isi_bool_ref, Vb.isi_str_non, Vb.isi_str_bl, Vb.isi_str_int, Vb.isi_str_str, Vb.isi_str_tup, Vb.isi_str_ref, Vb.isi_tup_non, Vb.isi_tup_bl, Vb.isi_tup_int, Vb.isi_tup_str, Vb.isi_tup_tup, Vb.isi_tup_ref, Vb.isi_lst_non, Vb.isi_lst_bl, Vb.isi_lst_int, Vb.isi_lst_str, Vb.isi_lst_tup, Vb.isi_lst_ref]
  refine Ok.bind (sp27 (n + 9) h2 r _ d2 (by omega)) ?_
  rintro g h3 ⟨gg, k3, d3⟩
  try simp only [Vb.execs, Vb.exec, Vb.evalE, Vb.evalEs, Vb.evalT, Vb.evalI, Vb.evalO, Vb.evalOT, Vb.asgS, Vb.bind_ok, Vb.bind_assoc, Vb.then_ok, Vb.then_bind, Vb.next_then, Vb.next_next, Vb.next_nx, Vb.next_rt, Vb.next_bk, Vb.next_ct, Vb.fin_then, Vb.fin_rt, Vb.fin_nx, Vb.opt_some, Vb.cb_fn, Vb.cb_cls, Vb.gl0, Vb.gls, List.getElem?_cons_zero, List.getElem?_cons_succ, List.set_cons_zero, List.set_cons_succ, Vb.storeTg, Vb.storeAll, Option.map_some, List.length_cons, List.length_nil, Nat.zero_add, Nat.reduceAdd, Vb.ln0, Vb.ln1, Vb.ln2, Vb.ln3, Vb.ln4, Vb.ln5, Vb.ln6, if_true, Vb.newObj, Vb.it_tup, Vb.it_ref, Vb.it_str, Vb.ty_join, Vb.ty_split, Vb.ty_append, Vb.ty_extend, Vb.ty_pop, Option.isSome_some, List.map_cons, List.map_nil, Bool.false_eq_true, if_false, Vb.tr_bl, Vb.wipeL, decide_true, decide_false, Bool.not_true, Bool.not_false, Vb.b_add, Vb.b_sub, Vb.c_lt, Vb.c_le, Vb.c_gt, Vb.c_ge, Vb.c_eq_int, Vb.c_ne_int, Vb.c_isn_non, Vb.c_isn_int, Vb.c_isn_tup, Vb.c_notn_non, Vb.c_notn_int, Vb.c_notn_tup, Vb.ix_tup, Vb.bi_list_tup, Vb.isi_int_non, Vb.isi_int_bl, Vb.isi_int_int, Vb.isi_int_str, Vb.isi_int_tup, Vb.isi_int_ref, Vb.isi_bool_non, Vb.isi_bool_bl, Vb.isi_bool_int, Vb.isi_bool_str, Vb.isi_bool_tup, Vb.isi_bool_ref, Vb.isi_str_non, Vb.isi_str_bl, Vb.isi_str_int, Vb.isi_str_str, Vb.isi_str_tup, Vb.isi_str_ref, Vb.isi_tup_non, Vb.isi_tup_bl, Vb.isi_tup_int, Vb.isi_tup_str, Vb.isi_tup_tup, Vb.isi_tup_ref, Vb.isi_lst_non, Vb.isi_lst_bl, Vb.isi_lst_int, Vb.isi_lst_str, Vb.isi_lst_tup, Vb.isi_lst_ref]
  refine Ok.bind (sp26 n h3 r _ d3 (by omega)) ?_
  rintro _ h4 ⟨⟨vs, rfl, sv⟩, k4, d4⟩
  try simp only [Vb.execs, Vb.exec, Vb.evalE, Vb.evalEs, Vb.evalT, Vb.evalI, Vb.evalO, Vb.evalOT, Vb.asgS, Vb.bind_ok, Vb.bind_assoc, Vb.then_ok, Vb.then_bind, Vb.next_then, Vb.next_next, Vb.next_nx, Vb.next_rt, Vb.next_bk, Vb.next_ct, Vb.fin_then, Vb.fin_rt, Vb.fin_nx, Vb.opt_some, Vb.cb_fn, Vb.cb_cls, Vb.gl0, Vb.gls, List.getElem?_cons_zero, List.getElem?_cons_succ, List.set_cons_zero, List.set_cons_succ, Vb.storeTg, Vb.storeAll, Option.map_some, List.length_cons, List.length_nil, Nat.zero_add, Nat.reduceAdd, Vb.ln0, Vb.ln1, Vb.ln2, Vb.ln3, Vb.ln4, Vb.ln5, Vb.ln6, if_true, Vb.newObj, Vb.it_tup, Vb.it_ref, Vb.it_str, Vb.ty_join, Vb.ty_split, Vb.ty_append, Vb.ty_extend, Vb.ty_pop, Option.isSome_some, List.map_cons, List.map_nil, Bool.false_eq_true, if_false, Vb.tr_bl, Vb.wipeL, decide_true, decide_false, Bool.not_true, Bool.not_false, Vb.b_add, Vb.b_sub, Vb.c_lt, Vb.c_le, Vb.c_gt, Vb.c_ge, Vb.c_eq_int, Vb.c_ne_int, Vb.c_isn_non, Vb.c_isn_int, Vb.c_isn_tup, Vb.c_notn_non, Vb.c_notn_int, Vb.c_notn_tup, Vb.ix_tup, Vb.bi_list_tup, Vb.isi_int_non, Vb.isi_int_bl, Vb.isi_int_int, Vb.isi_int_str, Vb.isi_int_tup, Vb.isi_int_ref, Vb.isi_bool_non, Vb.isi_bool_bl, Vb.isi_bool_int, Vb.isi_bool_str, Vb.isi_bool_tup, Vb.isi_bool_ref, Vb.isi_str_non, Vb.isi_str_bl, Vb.isi_str_int, Vb.isi_str_str, Vb.isi_str_tup, Vb.isi_str_ref, Vb.isi_tup_non, Vb.isi_tup_bl, Vb.isi_tup_int, Vb.isi_tup_str, Vb.isi_tup_tup, Vb.isi_tup_ref, Vb.isi_lst_non, Vb.isi_lst_bl, Vb.isi_lst_int, Vb.isi_lst_str, Vb.isi_lst_tup, Vb.isi_lst_ref]
  exact .ret ⟨⟨o, g, vs, rfl, oo, gg, sv⟩, ((k1.trans k2).trans k3).trans k4, d4.weak (by omega)⟩
theorem sp29 (n : Nat) (h : MH) (r : Nat) (B : Int) (dr : Dr r B h) (hB : B + 8000000 ≤ TOP) : Ok (callF Pr (n + 14) 29 [.ref r] h) fun v h' => IsPaper v ∧ Keep [r] h h' ∧ Dr r (B + 8000000) h' := by
  have ht := hT
  have hcs := hCS
  rw [callF_at (d := d29) rfl rfl]
  show Ok (finF (execs (cbK Pr (n + 13)) Pr.xt Pr.wl b29 [some (.ref r), none, none, none] h)) _
  unfold b29
  try simp only [Vb.execs, Vb.exec, Vb.evalE, Vb.evalEs, Vb.evalT, Vb.evalI, Vb.evalO, Vb.evalOT, Vb.asgS, Vb.bind_ok, Vb.bind_assoc, Vb.then_ok, Vb.then_bind, Vb.next_then, Vb.next_next, Vb.next_nx, Vb.next_rt, Vb.next_bk, Vb.next_ct, Vb.fin_then, Vb.fin_rt, Vb.fin_nx, Vb.opt_some, Vb.cb_fn, Vb.cb_cls, Vb.gl0, Vb.gls, List.getElem?_cons_zero, List.getElem?_cons_succ, List.set_cons_zero, List.set_cons_succ, Vb.storeTg, Vb.storeAll, Option.map_some, List.length_cons, List.length_nil, Nat.zero_add, Nat.reduceAdd, Vb.ln0, Vb.ln1, Vb.ln2, Vb.ln3, Vb.ln4, Vb.ln5, Vb.ln6, if_true, Vb.newObj, Vb.it_tup, Vb.it_ref, Vb.it_str, Vb.ty_join, Vb.ty_split, Vb.ty_append, Vb.ty_extend, Vb.ty_pop, Option.isSome_some, List.map_cons, List.map_nil, Bool.false_eq_true, if_false, Vb.tr_bl, Vb.wipeL, decide_true, decide_false, Bool.not_true, Bool.not_false, Vb.b_add, Vb.b_sub, Vb.c_lt, Vb.c_le, Vb.c_gt, Vb.c_ge, Vb.c_eq_int, Vb.c_ne_int, Vb.c_isn_non, Vb.c_isn_int, Vb.c_isn_tup, Vb.c_notn_non, Vb.c_notn_int, Vb.c_notn_tup, Vb.ix_tup, Vb.bi_list_tup, Vb.isi_int_non, Vb.isi_int_bl, Vb.isi_int_int, Vb.isi_int_str, Vb.isi_int_tup, Vb.isi_int_ref, Vb.isi_bool_non, Vb.isi_bool_bl, Vb.isi_bool_int, Vb.isi_bool_str, Vb.isi_bool_tup, Vb.isi_bool_ref, Vb.isi_str_non, Vb.isi_str_bl, Vb.isi_str_int, Vb.isi_str_str, Vb.isi_str_tup, Vb.isi_str_ref, Vb.isi_tup_non, Vb.isi_tup_bl, Vb.isi_tup_int, Vb.isi_tup_str, Vb.isi_tup_tup, Vb.isi_tup_ref, Vb.isi_lst_non, Vb.isi_lst_bl, Vb.isi_lst_int, Vb.isi_lst_str, Vb.isi_lst_tup, Vb.isi_lst_ref]
  refine Ok.bind (sp23 (n + 11) _ r 4 _ dr (by omega) (by decide) (by decide)) ?_
  rintro _ h1 ⟨⟨i, rfl, i0, i1⟩, k1, d1⟩
  try simp only [Vb.execs, Vb.exec, Vb.evalE, Vb.evalEs, Vb.evalT, Vb.evalI, Vb.evalO, Vb.evalOT, Vb.asgS, Vb.bind_ok, Vb.bind_assoc, Vb.then_ok, Vb.then_bind, Vb.next_then, Vb.next_next, Vb.next_nx, Vb.next_rt, Vb.next_bk, Vb.next_ct, Vb.fin_then, Vb.fin_rt, Vb.fin_nx, Vb.opt_some, Vb.cb_fn, Vb.cb_cls, Vb.gl0, Vb.gls, List.getElem?_cons_zero, List.getElem?_cons_succ, List.set_cons_zero, List.set_cons_succ, Vb.storeTg, Vb.storeAll, Option.map_some, List.length_cons, List.length_nil, Nat.zero_add, Nat.reduceAdd, Vb.ln0, Vb.ln1, Vb.ln2, Vb.ln3, Vb.ln4, Vb.ln5, Vb.ln6, if_true, Vb.newObj, Vb.it_tup, Vb.it_ref, Vb.it_str, Vb.ty_join, Vb.ty_split, Vb.ty_append, Vb.ty_extend, Vb.ty_pop, Option.isSome_some, List.map_cons, List.map_nil, Bool.false_eq_true, if_false, Vb.tr_bl, Vb.wipeL, decide_true, decide_false, Bool.not_true, Bool.not_false, Vb.b_add, Vb.b_sub, Vb.c_lt, Vb.c_le, Vb.c_gt, Vb.c_ge, Vb.c_eq_int, Vb.c_ne_int, Vb.c_isn_non, Vb.c_isn_int, Vb.c_isn_tup, Vb.c_notn_non, Vb.c_notn_int, Vb.c_notn_tup, Vb.ix_tup, Vb.bi_list_tup, Vb.isi_int_non, Vb.isi_int_bl, Vb.isi_int_int, Vb.isi_int_str, Vb.isi_int_tup, Vb.isi_int_ref, Vb.isi_bool_non, Vb.isi_bool_bl, Vb.isi_bool_int, Vb.isi_bool_str, Vb.isi_bool_tup, Vb.isi_bool_ref, Vb.isi_str_non, Vb.isi_str_bl, Vb.isi_str_int, Vb.isi_str_str, Vb.isi_str_tup, Vb.isi_str_ref, Vb.isi_tup_non, Vb.isi_tup_bl, Vb.isi_tup_int, Vb.isi_tup_str, Vb.isi_tup_tup, Vb.isi_tup_ref, Vb.isi_lst_non, Vb.isi_lst_bl, Vb.isi_lst_int, Vb.isi_lst_str, Vb.isi_lst_tup, Vb.isi_lst_ref]
  by_cases hi : i = 0
  · simp only [decide_eq_true hi]
    try simp only [Vb.execs, Vb.exec, Vb.evalE, Vb.evalEs, Vb.evalT, Vb.evalI, Vb.evalO, Vb.evalOT, Vb.asgS, Vb.bind_ok, Vb.bind_assoc, Vb.then_ok, Vb.then_bind, Vb.next_then, Vb.next_next, Vb.next_nx, Vb.next_rt, Vb.next_bk, Vb.next_ct, Vb.fin_then, Vb.fin_rt, Vb.fin_nx, Vb.opt_some, Vb.cb_fn, Vb.cb_cls, Vb.gl0, Vb.gls, List.getElem?_cons_zero, List.getElem?_cons_succ, List.set_cons_zero, List.set_cons_succ, Vb.storeTg, Vb.storeAll, Option.map_some, List.length_cons, List.length_nil, Nat.zero_add, Nat.reduceAdd, Vb.ln0, Vb.ln1, Vb.ln2, Vb.ln3, Vb.ln4, Vb.ln5, Vb.ln6, if_true, Vb.newObj, Vb.it_tup, Vb.it_ref, Vb.it_str, Vb.ty_join, Vb.ty_split, Vb.ty_append, Vb.ty_extend, Vb.ty_pop, Option.isSome_some, List.map_cons, List.map_nil, Bool.false_eq_true, if_false, Vb.tr_bl, Vb.wipeL, decide_true, decide_false, Bool.not_true, Bool.not_false, Vb.b_add, Vb.b_sub, Vb.c_lt, Vb.c_le, Vb.c_gt, Vb.c_ge, Vb.c_eq_int, Vb.c_ne_int, Vb.c_isn_non, Vb.c_isn_int, Vb.c_isn_tup, Vb.c_notn_non, Vb.c_notn_int, Vb.c_notn_tup, Vb.ix_tup, Vb.bi_list_tup, Vb.isi_int_non, Vb.isi_int_bl, Vb.isi_int_int, Vb.isi_int_str, Vb.isi_int_tup, Vb.isi_int_ref, Vb.isi_bool_non, Vb.isi_bool_bl, Vb.isi_bool_int, Vb.isi_bool_str, Vb.isi_bool_tup, Vb.isi_bool_ref, Vb.isi_str_non, Vb.isi_str_bl, Vb.isi_str_int, Vb.isi_str_str, Vb.isi_str_tup, Vb.isi_str_ref, Vb.isi_tup_non, Vb.isi_tup_bl, Vb.isi_tup_int, Vb.isi_tup_str, Vb.isi_tup_tup, Vb.isi_tup_ref, Vb.isi_lst_non, Vb.isi_lst_bl, Vb.isi_lst_int, Vb.isi_lst_str, Vb.isi_lst_tup, Vb.isi_lst_ref]
    refine Ok.bind (sp26 (n + 1) h1 r _ d1 (by omega)) ?_
    rintro _ h2 ⟨⟨vs, rfl, sv⟩, k2, d2⟩
    try simp only [Vb.execs, Vb.exec, Vb.evalE, Vb.evalEs, Vb.evalT, Vb.evalI, Vb.evalO, Vb.evalOT, Vb.asgS, Vb.bind_ok, Vb.bind_assoc, Vb.then_ok, Vb.then_bind, Vb.next_then, Vb.next_next, Vb.next_nx, Vb.next_rt, Vb.next_bk, Vb.next_ct, Vb.fin_then, Vb.fin_rt, Vb.fin_nx, Vb.opt_some, Vb.cb_fn, Vb.cb_cls, Vb.gl0, Vb.gls, List.getElem?_cons_zero, List.getElem?_cons_succ, List.set_cons_zero, List.set_cons_succ, Vb.storeTg, Vb.storeAll, Option.map_some, List.length_cons, List.length_nil, Nat.zero_add, Nat.reduceAdd, Vb.ln0, Vb.ln1, Vb.ln2, Vb.ln3, Vb.ln4, Vb.ln5, Vb.ln6, if_true, Vb.newObj, Vb.it_tup, Vb.it_ref, Vb.it_str, Vb.ty_join, Vb.ty_split, Vb.ty_append, Vb.ty_extend, Vb.ty_pop, Option.isSome_some, List.map_cons, List.map_nil, Bool.false_eq_true, if_false, Vb.tr_bl, Vb.wipeL, decide_true, decide_false, Bool.not_true, Bool.not_false, Vb.b_add, Vb.b_sub, Vb.c_lt, Vb.c_le, Vb.c_gt, Vb.c_ge, Vb.c_eq_int, Vb.c_ne_int, Vb.c_isn_non, Vb.c_isn_int, Vb.c_isn_tup, Vb.c_notn_non, Vb.c_notn_int, Vb.c_notn_tup, Vb.ix_tup, Vb.bi_list_tup, Vb.isi_int_non, Vb.isi_int_bl, Vb.isi_int_int, Vb.isi_int_str, Vb.isi_int_tup, Vb.isi_int_ref, Vb.isi_bool_non, Vb.isi_bool_bl, Vb.isi_bool_int, Vb.isi_bool_str, Vb.isi_bool_tup, Vb.isi_bool_ref, Vb.isi_str_non, Vb.isi_str_bl, Vb.isi_str_int, Vb.isi_str_str, Vb.isi_str_tup, Vb.isi_str_ref, Vb.isi_tup_non, Vb.isi_tup_bl, Vb.isi_tup_int, Vb.isi_tup_str, Vb.isi_tup_tup, Vb.isi_tup_ref, Vb.isi_lst_non, Vb.isi_lst_bl, Vb.isi_lst_int, Vb.isi_lst_str, Vb.isi_lst_tup, Vb.isi_lst_ref]
    exact .ret ⟨.inl ⟨vs, rfl, sv⟩, k1.trans k2, d2.weak (by omega)⟩
  simp only [decide_eq_false hi]
  try simp only [Vb.execs, Vb.exec, Vb.evalE, Vb.evalEs, Vb.evalT, Vb.evalI, Vb.evalO, Vb.evalOT, Vb.asgS, Vb.bind_ok, Vb.bind_assoc, Vb.then_ok, Vb.then_bind, Vb.next_then, Vb.next_next, Vb.next_nx, Vb.next_rt, Vb.next_bk, Vb.next_ct, Vb.fin_then, Vb.fin_rt, Vb.fin_nx, Vb.opt_some, Vb.cb_fn, Vb.cb_cls, Vb.gl0, Vb.gls, List.getElem?_cons_zero, List.getElem?_cons_succ, List.set_cons_zero, List.set_cons_succ, Vb.storeTg, Vb.storeAll, Option.map_some, List.length_cons, List.length_nil, Nat.zero_add, Nat.reduceAdd, Vb.ln0, Vb.ln1, Vb.ln2, Vb.ln3, Vb.ln4, Vb.ln5, Vb.ln6, if_true, Vb.newObj, Vb.it_tup, Vb.it_ref, Vb.it_str, Vb.ty_join, Vb.ty_split, Vb.ty_append, Vb.ty_extend, Vb.ty_pop, Option.isSome_some, List.map_cons, List.map_nil, Bool.false_eq_true, if_false, Vb.tr_bl, Vb.wipeL, decide_true, decide_false, Bool.not_true, Bool.not_false, Vb.b_add, Vb.b_sub, Vb.c_lt, Vb.c_le, Vb.c_gt, Vb.c_ge, Vb.c_eq_int, Vb.c_ne_int, Vb.c_isn_non, Vb.c_isn_int, Vb.c_isn_tup, Vb.c_notn_non, Vb.c_notn_int, Vb.c_notn_tup, Vb.ix_tup, Vb.bi_list_tup, Vb.isi_int_non, Vb.isi_int_bl, Vb.isi_int_int, Vb.isi_int_str, Vb.isi_int_tup, Vb.isi_int_ref, Vb.isi_bool_non, Vb.isi_bool_bl, Vb.isi_bool_int, Vb.isi_bool_str, Vb.isi_bool_tup, Vb.isi_bool_ref, Vb.isi_str_non, Vb.isi_str_bl, Vb.isi_str_int, Vb.isi_str_str, Vb.isi_str_tup, Vb.isi_str_ref, Vb.isi_tup_non, Vb.isi_tup_bl, Vb.isi_tup_int, Vb.isi_tup_str, Vb.isi_tup_tup, Vb.isi_tup_ref, Vb.isi_lst_non, Vb.isi_lst_bl, Vb.isi_lst_int, Vb.isi_lst_str, Vb.isi_lst_tup, Vb.isi_lst_ref]
  by_cases hi1 : i = 1
  · simp only [decide_eq_true hi1]
    try simp only [Vb.execs, Vb.exec, Vb.evalE, Vb.evalEs, Vb.evalT, Vb.evalI, Vb.evalO, Vb.evalOT, Vb.asgS, Vb.bind_ok, Vb.bind_assoc, Vb.then_ok, Vb.then_bind, Vb.next_then, Vb.next_next, Vb.next_nx, Vb.next_rt, Vb.next_bk, Vb.next_ct, Vb.fin_then, Vb.fin_rt, Vb.fin_nx, Vb.opt_some, Vb.cb_fn, Vb.cb_cls, Vb.gl0, Vb.gls, List.getElem?_cons_zero, List.getElem?_cons_succ, List.set_cons_zero, List.set_cons_succ, Vb.storeTg, Vb.storeAll, Option.map_some, List.length_cons, List.length_nil, Nat.zero_add, Nat.reduceAdd, Vb.ln0, Vb.ln1, Vb.ln2, Vb.ln3, Vb.ln4, Vb.ln5, Vb.ln6, if_true, Vb.newObj, Vb.it_tup, Vb.it_ref, Vb.it_str, Vb.ty_join, Vb.ty_split, Vb.ty_append, Vb.ty_extend, Vb.ty_pop, Option.isSome_some, List.map_cons, List.map_nil, Bool.false_eq_true, if_false, Vb.tr_bl, Vb.wipeL, decide_true, decide_false, Bool.not_true, Bool.not_false, Vb.b_add, Vb.b_sub, Vb.c_lt, Vb.c_le, Vb.c_gt, Vb.c_ge, Vb.c_eq_int, Vb.c_ne_int, Vb.c_isn_non, Vb.c_isn_int, Vb.c_isn_tup, Vb.c_notn_non, Vb.c_notn_int, Vb.c_notn_tup, Vb.ix_tup, Vb.bi_list_tup, Vb.isi_int_non, Vb.isi_int_bl, Vb.isi_int_int, Vb.isi_int_str, Vb.isi_int_tup, Vb.isi_int_ref, Vb.isi_bool_non, Vb.isi_bool_bl, Vb.isi_bool_int, Vb.isi_bool_str, Vb.isi_bool_tup, Vb.isi_bool_ref, Vb.isi_str_non, Vb.isi_str_bl, Vb.isi_str_int, Vb.isi_str_str, Vb.isi_str_tup, Vb.isi_str_ref, Vb.isi_tup_non, Vb.isi_tup_bl, Vb.isi_tup_int, Vb.isi_tup_str, Vb.isi_tup_tup, Vb.isi_tup_ref, Vb.isi_lst_non, Vb.isi_lst_bl, Vb.isi_lst_int, Vb.isi_lst_str, Vb.isi_lst_tup, Vb.isi_lst_ref]
    refine Ok.bind (sp26 (n + 1) h1 r _ d1 (by omega)) ?_
    rintro _ h2 ⟨⟨vs, rfl, sv⟩, k2, d2⟩
    try simp only [Vb.execs, Vb.exec, Vb.evalE, Vb.evalEs, Vb.evalT, Vb.evalI, Vb.evalO, Vb.evalOT, Vb.asgS, Vb.bind_ok, Vb.bind_assoc, Vb.then_ok, Vb.then_bind, Vb.next_then, Vb.next_next, Vb.next_nx, Vb.next_rt, Vb.next_bk, Vb.next_ct, Vb.fin_then, Vb.fin_rt, Vb.fin_nx, Vb.opt_some, Vb.cb_fn, Vb.cb_cls, Vb.gl0, Vb.gls, List.getElem?_cons_zero, List.getElem?_cons_succ, List.set_cons_zero, List.set_cons_succ, Vb.storeTg, Vb.storeAll, Option.map_some, List.length_cons, List.length_nil, Nat.zero_add, Nat.reduceAdd, Vb.ln0, Vb.ln1, Vb.ln2, Vb.ln3, Vb.ln4, Vb.ln5, Vb.ln6, if_true, Vb.newObj, Vb.it_tup, Vb.it_ref, Vb.it_str, Vb.ty_join, Vb.ty_split, Vb.ty_append, Vb.ty_extend, Vb.ty_pop, Option.isSome_some, List.map_cons, List.map_nil, Bool.false_eq_true, if_false, Vb.tr_bl, Vb.wipeL, decide_true, decide_false, Bool.not_true, Bool.not_false, Vb.b_add, Vb.b_sub, Vb.c_lt, Vb.c_le, Vb.c_gt, Vb.c_ge, Vb.c_eq_int, Vb.c_ne_int, Vb.c_isn_non, Vb.c_isn_int, Vb.c_isn_tup, Vb.c_notn_non, Vb.c_notn_int, Vb.c_notn_tup, Vb.ix_tup, Vb.bi_list_tup, Vb.isi_int_non, Vb.isi_int_bl, Vb.isi_int_int, Vb.isi_int_str, Vb.isi_int_tup, Vb.isi_int_ref, Vb.isi_bool_non, Vb.isi_bool_bl, Vb.isi_bool_int, Vb.isi_bool_str, Vb.isi_bool_tup, Vb.isi_bool_ref, Vb.isi_str_non, Vb.isi_str_bl, Vb.isi_str_int, Vb.isi_str_str, Vb.isi_str_tup, Vb.isi_str_ref, Vb.isi_tup_non, Vb.isi_tup_bl, Vb.isi_tup_int, Vb.isi_tup_str, Vb.isi_tup_tup, Vb.isi_tup_ref, Vb.isi_lst_non, Vb.isi_lst_bl, Vb.isi_lst_int, Vb.isi_lst_str, Vb.isi_lst_tup, Vb.isi_lst_ref]
    exact .ret ⟨.inr (.inl ⟨vs, rfl, sv⟩), k1.trans k2, d2.weak (by omega)⟩
  simp only [decide_eq_false hi1]
  try simp only [Vb.execs, Vb.exec, Vb.evalE, Vb.evalEs, Vb.evalT, Vb.evalI, Vb.evalO, Vb.evalOT, Vb.asgS, Vb.bind_ok, Vb.bind_assoc, Vb.then_ok, Vb.then_bind, Vb.next_then, Vb.next_next, Vb.next_nx, Vb.next_rt, Vb.next_bk, Vb.next_ct, Vb.fin_then, Vb.fin_rt, Vb.fin_nx, Vb.opt_some, Vb.cb_fn, Vb.cb_cls, Vb.gl0, Vb.gls, List.getElem?_cons_zero, List.getElem?_cons_succ, List.set_cons_zero, List.set_cons_succ, Vb.storeTg, Vb.storeAll, Option.map_some, List.length_cons, List.length_nil, Nat.zero_add, Nat.reduceAdd, Vb.ln0, Vb.ln1, Vb.ln2, Vb.ln3, Vb.ln4, Vb.ln5, Vb.ln6, if_true, Vb.newObj, Vb.it_tup, Vb.it_ref, Vb.it_str, Vb.ty_join, Vb.ty_split, Vb.ty_append, Vb.ty_extend, Vb.ty_pop, Option.isSome_some, List.map_cons, List.map_nil, Bool.false_eq_true, if_false, Vb.tr_bl, Vb.wipeL, decide_true, decide_false, Bool.not_true, Bool.not_false, Vb.b_add, Vb.b_sub, Vb.c_lt, Vb.c_le, Vb.c_gt, Vb.c_ge, Vb.c_eq_int, Vb.c_ne_int, Vb.c_isn_non, Vb.c_isn_int, Vb.c_isn_tup, Vb.c_notn_non, Vb.c_notn_int, Vb.c_notn_tup, Vb.ix_tup, Vb.bi_list_tup, Vb.isi_int_non, Vb.isi_int_bl, Vb.isi_int_int, Vb.isi_int_str, Vb.isi_int_tup, Vb.isi_int_ref, Vb.isi_bool_non, Vb.isi_bool_bl, Vb.isi_bool_int, Vb.isi_bool_str, Vb.isi_bool_tup, Vb.isi_bool_ref, Vb.isi_str_non, Vb.isi_str_bl, Vb.isi_str_int, Vb.isi_str_str, Vb.isi_str_tup, Vb.isi_str_ref, Vb.isi_tup_non, Vb.isi_tup_bl, Vb.isi_tup_int, Vb.isi_tup_str, Vb.isi_tup_tup, Vb.isi_tup_ref, Vb.isi_lst_non, Vb.isi_lst_bl, Vb.isi_lst_int, Vb.isi_lst_str, Vb.isi_lst_tup, Vb.isi_lst_ref]
  by_cases hi2 : i = 2
  · simp only [decide_eq_true hi2]
    try simp only [Vb.execs, Vb.exec, Vb.evalE, Vb.evalEs, Vb.evalT, Vb.evalI, Vb.evalO, Vb.evalOT, Vb.asgS, Vb.bind_ok, Vb.bind_assoc, Vb.then_ok, Vb.then_bind, Vb.next_then, Vb.next_next, Vb.next_nx, Vb.next_rt, Vb.next_bk, Vb.next_ct, Vb.fin_then, Vb.fin_rt, Vb.fin_nx, Vb.opt_some, Vb.cb_fn, Vb.cb_cls, Vb.gl0, Vb.gls, List.getElem?_cons_zero, List.getElem?_cons_succ, List.set_cons_zero, List.set_cons_succ, Vb.storeTg, Vb.storeAll, Option.map_some, List.length_cons, List.length_nil, Nat.zero_add, Nat.reduceAdd, Vb.ln0, Vb.ln1, Vb.ln2, Vb.ln3, Vb.ln4, Vb.ln5, Vb.ln6, if_true, Vb.newObj, Vb.it_tup, Vb.it_ref, Vb.it_str, Vb.ty_join, Vb.ty_split, Vb.ty_append, Vb.ty_extend, Vb.ty_pop, Option.isSome_some, List.map_cons, List.map_nil, Bool.false_eq_true, if_false, Vb.tr_bl, Vb.wipeL, decide_true, decide_false, Bool.not_true, Bool.not_false, Vb.b_add, Vb.b_sub, Vb.c_lt, Vb.c_le, Vb.c_gt, Vb.c_ge, Vb.c_eq_int, Vb.c_ne_int, Vb.c_isn_non, Vb.c_isn_int, Vb.c_isn_tup, Vb.c_notn_non, Vb.c_notn_int, Vb.c_notn_tup, Vb.ix_tup, Vb.bi_list_tup, Vb.isi_int_non, Vb.isi_int_bl, Vb.isi_int_int, Vb.isi_int_str, Vb.isi_int_tup, Vb.isi_int_ref, Vb.isi_bool_non, Vb.isi_bool_bl, Vb.isi_bool_int, Vb.isi_bool_str, Vb.isi_bool_tup, Vb.isi_bool_ref, Vb.isi_str_non, Vb.isi_str_bl, Vb.isi_str_int, Vb.isi_str_str, Vb.isi_str_tup, Vb.isi_str_ref, Vb.isi_tup_non, Vb.isi_tup_bl, Vb.isi_tup_int, Vb.isi_tup_str, Vb.isi_tup_tup, Vb.isi_tup_ref, Vb.isi_lst_non, Vb.isi_lst_bl, Vb.isi_lst_int, Vb.isi_lst_str, Vb.isi_lst_tup, Vb.isi_lst_ref]
    refine Ok.bind (sp28 n h1 r _ d1 (by omega)) ?_
    rintro v h2 ⟨gv, k2, d2⟩
    try simp only [Vb.execs, Vb.exec, Vb.evalE, Vb.evalEs, Vb.evalT, Vb.evalI, Vb.evalO, Vb.evalOT, Vb.asgS, Vb.bind_ok, Vb.bind_assoc, Vb.then_ok, Vb.then_bind, Vb.next_then, Vb.next_next, Vb.next_nx, Vb.next_rt, Vb.next_bk, Vb.next_ct, Vb.fin_then, Vb.fin_rt, Vb.fin_nx, Vb.opt_some, Vb.cb_fn, Vb.cb_cls, Vb.gl0, Vb.gls, List.getElem?_cons_zero, List.getElem?_cons_succ, List.set_cons_zero, List.set_cons_succ, Vb.storeTg, Vb.storeAll, Option.map_some, List.length_cons, List.length_nil, Nat.zero_add, Nat.reduceAdd, Vb.ln0, Vb.ln1, Vb.ln2, Vb.ln3, Vb.ln4, Vb.ln5, Vb.ln6, if_true, Vb.newObj, Vb.it_tup, Vb.it_ref, Vb.it_str, Vb.ty_join, Vb.ty_split, Vb.ty_append, Vb.ty_extend, Vb.ty_pop, Option.isSome_some, List.map_cons, List.map_nil, Bool.false_eq_true, if_false, Vb.tr_bl, Vb.wipeL, decide_true, decide_false, Bool.not_true, Bool.not_false, Vb.b_add, Vb.b_sub, Vb.c_lt, Vb.c_le, Vb.c_gt, Vb.c_ge, Vb.c_eq_int, Vb.c_ne_int, Vb.c_isn_non, Vb.c_isn_int, Vb.c_isn_tup, Vb.c_notn_non, Vb.c_notn_int, Vb.c_notn_tup, Vb.ix_tup, Vb.bi_list_tup, Vb.isi_int_non, Vb.isi_int_bl, Vb.isi_int_int, Vb.isi_int_str, Vb.isi_int_tup, Vb.isi_int_ref, Vb.isi_bool_non, Vb.isi_bool_bl, Vb.isi_bool_int, Vb.isi_bool_str, Vb.isi_bool_tup, Vb.isi_bool_ref, Vb.isi_str_non, Vb.isi_str_bl, Vb.isi_str_int, Vb.isi_str_str, Vb.isi_str_tup, Vb.isi_str_ref, Vb.isi_tup_non, Vb.isi_tup_bl, Vb.isi_tup_int, Vb.isi_tup_str, Vb.isi_tup_tup, Vb.isi_tup_ref, Vb.isi_lst_non, Vb.isi_lst_bl, Vb.isi_lst_int, Vb.isi_lst_str, Vb.isi_lst_tup, Vb.isi_lst_ref]
    exact .ret ⟨.inr (.inr (.inl gv)), k1.trans k2, d2.weak (by omega)⟩
  simp only [decide_eq_false hi2]
  try simp only [Vb.execs, Vb.exec, Vb.evalE, Vb.evalEs, Vb.evalT, Vb.evalI, Vb.evalO, Vb.evalOT, Vb.asgS, Vb.bind_ok, Vb.bind_assoc, Vb.then_ok, Vb.then_bind, Vb.next_then, Vb.next_next, Vb.next_nx, Vb.next_rt, Vb.next_bk, Vb.next_ct, Vb.fin_then, Vb.fin_rt, Vb.fin_nx, Vb.opt_some, Vb.cb_fn, Vb.cb_cls, Vb.gl0, Vb.gls, List.getElem?_cons_zero, List.getElem?_cons_succ, List.set_cons_zero, List.set_cons_succ, Vb.storeTg, Vb.storeAll, Option.map_some, List.length_cons, List.length_nil, Nat.zero_add, Nat.reduceAdd, Vb.ln0, Vb.ln1, Vb.ln2, Vb.ln3, Vb.ln4, Vb.ln5, Vb.ln6, if_true, Vb.newObj, Vb.it_tup, Vb.it_ref, Vb.it_str, Vb.ty_join, Vb.ty_split, Vb.ty_append, Vb.ty_extend, Vb.ty_pop, Option.isSome_some, List.map_cons, List.map_nil, Bool.false_eq_true, if_false, Vb.tr_bl, Vb.wipeL, decide_true, decide_false, Bool.not_true, Bool.not_false, Vb.b_add, Vb.b_sub, Vb.c_lt, Vb.c_le, Vb.c_gt, Vb.c_ge, Vb.c_eq_int, Vb.c_ne_int, Vb.c_isn_non, Vb.c_isn_int, Vb.c_isn_tup, Vb.c_notn_non, Vb.c_notn_int, Vb.c_notn_tup, Vb.ix_tup, Vb.bi_list_tup, Vb.isi_int_non, Vb.isi_int_bl, Vb.isi_int_int, Vb.isi_int_str, Vb.isi_int_tup, Vb.isi_int_ref, Vb.isi_bool_non, Vb.isi_bool_bl, Vb.isi_bool_int, Vb.isi_bool_str, Vb.isi_bool_tup, Vb.isi_bool_ref, Vb.isi_str_non, Vb.isi_str_bl, Vb.isi_str_int, Vb.isi_str_str, Vb.isi_str_tup, Vb.isi_str_ref, Vb.isi_tup_non, Vb.isi_tup_bl, Vb.isi_tup_int, Vb.isi_tup_str, Vb.isi_tup_tup, Vb.isi_tup_ref, Vb.isi_lst_non, Vb.isi_lst_bl, Vb.isi_lst_int, Vb.isi_lst_str, Vb.isi_lst_tup, Vb.isi_lst_ref]
  refine Ok.bind (sp23 (n + 11) _ r 4 _ d1 (by omega) (by decide) (by decide)) ?_
  rintro _ h2 ⟨⟨a, rfl, a0, a1⟩, k2, d2⟩
  try simp only [Vb.execs, Vb.exec, Vb.evalE, Vb.evalEs, Vb.evalT, Vb.evalI, Vb.evalO, Vb.evalOT, Vb.asgS, Vb.bind_ok, Vb.bind_assoc, Vb.then_ok, Vb.then_bind, Vb.next_then, Vb.next_next, Vb.next_nx, Vb.next_rt, Vb.next_bk, Vb.next_ct, Vb.fin_then, Vb.fin_rt, Vb.fin_nx, Vb.opt_some, Vb.cb_fn, Vb.cb_cls, Vb.gl0, Vb.gls, List.getElem?_cons_zero, List.getElem?_cons_succ, List.set_cons_zero, List.set_cons_succ, Vb.storeTg, Vb.storeAll, Option.map_some, List.length_cons, List.length_nil, Nat.zero_add, Nat.reduceAdd, Vb.ln0, Vb.ln1, Vb.ln2, Vb.ln3, Vb.ln4, Vb.ln5, Vb.ln6, if_true, Vb.newObj, Vb.it_tup, Vb.it_ref, Vb.it_str, Vb.ty_join, Vb.ty_split, Vb.ty_append, Vb.ty_extend, Vb.ty_pop, Option.isSome_some, List.map_cons, List.map_nil, Bool.false_eq_true, if_false, Vb.tr_bl, Vb.wipeL, decide_true, decide_false, Bool.not_true, Bool.not_false, Vb.b_add, Vb.b_sub, Vb.c_lt, Vb.c_le, Vb.c_gt, Vb.c_ge, Vb.c_eq_int, Vb.c_ne_int, Vb.c_isn_non, Vb.c_isn_int, Vb.c_isn_tup, Vb.c_notn_non, Vb.c_notn_int, Vb.c_notn_tup, Vb.ix_tup, Vb.bi_list_tup, Vb.isi_int_non, Vb.isi_int_bl, Vb.isi_int_int, Vb.isi_int_str, Vb.isi_int_tup, Vb.isi_int_ref, Vb.isi_bool_non, Vb.isi_bool_bl, Vb.isi_bool_int, Vb.isi_bool_str, Vb.isi_bool_tup, Vb.isi_bool_ref, Vb.isi_str_non, Vb.isi_str_bl, Vb.isi_str_int, Vb.isi_str_str, Vb.isi_str_tup, Vb.isi_str_ref, Vb.isi_tup_non, Vb.isi_tup_bl, Vb.isi_tup_int, Vb.isi_tup_str, Vb.isi_tup_tup, Vb.isi_tup_ref, Vb.isi_lst_non, Vb.isi_lst_bl, Vb.isi_lst_int, Vb.isi_lst_str, Vb.isi_lst_tup, Vb.isi_lst_ref, sm62 (n := a) (by omega) (by omega)]
  have la : (rangeL 0 a).length ≤ 3 := by rw [rngL_len]; omega
  refine Ok.bind (lc_all (P := IsAlone) (J := fun j h' => Keep [r] h2 h' ∧ Dr r (B + 1 + 1 + j * 1300000) h') (fun _ _ _ => trivial) (line_ok (by omega)) ⟨.push _, (d2.keep (S := []) (.push _) (by simp)).weak (by omega)⟩
    (fun j h' o ⟨a1, a2⟩ => ⟨a1.put (.inr (Nat.le_refl _)) o, a2.put (by have := d2.lt; omega)⟩) ?_) ?_
  · rintro j hj v hv h' ⟨a1, a2⟩ hlt
    refine Ok.bind (sp26 (n + 1) h' r _ a2 (by omega)) ?_
    rintro _ h'' ⟨⟨vs, rfl, sv⟩, g2, g3⟩
    try simp only [Vb.execs, Vb.exec, Vb.evalE, Vb.evalEs, Vb.evalT, Vb.evalI, Vb.evalO, Vb.evalOT, Vb.asgS, Vb.bind_ok, Vb.bind_assoc, Vb.then_ok, Vb.then_bind, Vb.next_then, Vb.next_next, Vb.next_nx, Vb.next_rt, Vb.next_bk, Vb.next_ct, Vb.fin_then, Vb.fin_rt, Vb.fin_nx, Vb.opt_some, Vb.cb_fn, Vb.cb_cls, Vb.gl0, Vb.gls, List.getElem?_cons_zero, List.getElem?_cons_succ, List.set_cons_zero, List.set_cons_succ, Vb.storeTg, Vb.storeAll, Option.map_some, List.length_cons, List.length_nil, Nat.zero_add, Nat.reduceAdd, Vb.ln0, Vb.ln1, Vb.ln2, Vb.ln3, Vb.ln4, Vb.ln5, Vb.ln6, if_true, Vb.newObj, Vb.it_tup, Vb.it_ref, Vb.it_str, Vb.ty_join, Vb.ty_split, Vb.ty_append, Vb.ty_extend, Vb.ty_pop, Option.isSome_some, List.map_cons, List.map_nil, Bool.false_eq_true, if_false, Vb.tr_bl, Vb.wipeL, decide_true, decide_false, Bool.not_true, Bool.not_false, Vb.b_add, Vb.b_sub, Vb.c_lt, Vb.c_le, Vb.c_gt, Vb.c_ge, Vb.c_eq_int, Vb.c_ne_int, Vb.c_isn_non, Vb.c_isn_int, Vb.c_isn_tup, Vb.c_notn_non, Vb.c_notn_int, Vb.c_notn_tup, Vb.ix_tup, Vb.bi_list_tup, Vb.isi_int_non, Vb.isi_int_bl, Vb.isi_int_int, Vb.isi_int_str, Vb.isi_int_tup, Vb.isi_int_ref, Vb.isi_bool_non, Vb.isi_bool_bl, Vb.isi_bool_int, Vb.isi_bool_str, Vb.isi_bool_tup, Vb.isi_bool_ref, Vb.isi_str_non, Vb.isi_str_bl, Vb.isi_str_int, Vb.isi_str_str, Vb.isi_str_tup, Vb.isi_str_ref, Vb.isi_tup_non, Vb.isi_tup_bl, Vb.isi_tup_int, Vb.isi_tup_str, Vb.isi_tup_tup, Vb.isi_tup_ref, Vb.isi_lst_non, Vb.isi_lst_bl, Vb.isi_lst_int, Vb.isi_lst_str, Vb.isi_lst_tup, Vb.isi_lst_ref]
    exact .ret ⟨_, rfl, ⟨vs, rfl, sv⟩, ⟨a1.trans g2, g3.weak (by omega)⟩, g2.at_ _ hlt (by have := d2.lt; simp; omega)⟩
  rintro _ h3 ⟨rfl, bs, y1, y2, y3, k3, d3⟩
  rw [bi_tuple y3]
  try simp only [Vb.execs, Vb.exec, Vb.evalE, Vb.evalEs, Vb.evalT, Vb.evalI, Vb.evalO, Vb.evalOT, Vb.asgS, Vb.bind_ok, Vb.bind_assoc, Vb.then_ok, Vb.then_bind, Vb.next_then, Vb.next_next, Vb.next_nx, Vb.next_rt, Vb.next_bk, Vb.next_ct, Vb.fin_then, Vb.fin_rt, Vb.fin_nx, Vb.opt_some, Vb.cb_fn, Vb.cb_cls, Vb.gl0, Vb.gls, List.getElem?_cons_zero, List.getElem?_cons_succ, List.set_cons_zero, List.set_cons_succ, Vb.storeTg, Vb.storeAll, Option.map_some, List.length_cons, List.length_nil, Nat.zero_add, Nat.reduceAdd, Vb.ln0, Vb.ln1, Vb.ln2, Vb.ln3, Vb.ln4, Vb.ln5, Vb.ln6, if_true, Vb.newObj, Vb.it_tup, Vb.it_ref, Vb.it_str, Vb.ty_join, Vb.ty_split, Vb.ty_append, Vb.ty_extend, Vb.ty_pop, Option.isSome_some, List.map_cons, List.map_nil, Bool.false_eq_true, if_false, Vb.tr_bl, Vb.wipeL, decide_true, decide_false, Bool.not_true, Bool.not_false, Vb.b_add, Vb.b_sub, Vb.c_lt, Vb.c_le, Vb.c_gt, Vb.c_ge, Vb.c_eq_int, Vb.c_ne_int, Vb.c_isn_non, Vb.c_isn_int, Vb.c_isn_tup, Vb.c_notn_non, Vb.c_notn_int, Vb.c_notn_tup, Vb.ix_tup, Vb.bi_list_tup, Vb.isi_int_non, Vb.isi_int_bl, Vb.isi_int_int, Vb.isi_int_str, Vb.isi_int_tup, Vb.isi_int_ref, Vb.isi_bool_non, Vb.isi_bool_bl, Vb.isi_bool_int, Vb.isi_bool_str, Vb.isi_bool_tup, Vb.isi_bool_ref, Vb.isi_str_non, Vb.isi_str_bl, Vb.isi_str_int, Vb.isi_str_str, Vb.isi_str_tup, Vb.isi_str_ref, Vb.isi_tup_non, Vb.isi_tup_bl, Vb.isi_tup_int, Vb.isi_tup_str, Vb.isi_tup_tup, Vb.isi_tup_ref, Vb.isi_lst_non, Vb.isi_lst_bl, Vb.isi_lst_int, Vb.isi_lst_str, Vb.isi_lst_tup, Vb.isi_lst_ref]
  refine Ok.bind (sp23 (n + 11) _ r 4 _ d3 (by omega) (by decide) (by decide)) ?_
  rintro _ h4 ⟨⟨b, rfl, b0, b1⟩, k4, d4⟩
  try simp only [Vb.execs, Vb.exec, Vb.evalE, Vb.evalEs, Vb.evalT, Vb.evalI, Vb.evalO, Vb.evalOT, Vb.asgS, Vb.bind_ok, Vb.bind_assoc, Vb.then_ok, Vb.then_bind, Vb.next_then, Vb.next_next, Vb.next_nx, Vb.next_rt, Vb.next_bk, Vb.next_ct, Vb.fin_then, Vb.fin_rt, Vb.fin_nx, Vb.opt_some, Vb.cb_fn, Vb.cb_cls, Vb.gl0, Vb.gls, List.getElem?_cons_zero, List.getElem?_cons_succ, List.set_cons_zero, List.set_cons_succ, Vb.storeTg, Vb.storeAll, Option.map_some, List.length_cons, List.length_nil, Nat.zero_add, Nat.reduceAdd, Vb.ln0, Vb.ln1, Vb.ln2, Vb.ln3, Vb.ln4, Vb.ln5, Vb.ln6, if_true, Vb.newObj, Vb.it_tup, Vb.it_ref, Vb.it_str, Vb.ty_join, Vb.ty_split, Vb.ty_append, Vb.ty_extend, Vb.ty_pop, Option.isSome_some, List.map_cons, List.map_nil, Bool.false_eq_true, if_false, Vb.tr_bl, Vb.wipeL, decide_true, decide_false, Bool.not_true, Bool.not_false, Vb.b_add, Vb.b_sub, Vb.c_lt, Vb.c_le, Vb.c_gt, Vb.c_ge, Vb.c_eq_int, Vb.c_ne_int, Vb.c_isn_non, Vb.c_isn_int, Vb.c_isn_tup, Vb.c_notn_non, Vb.c_notn_int, Vb.c_notn_tup, Vb.ix_tup, Vb.bi_list_tup, Vb.isi_int_non, Vb.isi_int_bl, Vb.isi_int_int, Vb.isi_int_str, Vb.isi_int_tup, Vb.isi_int_ref, Vb.isi_bool_non, Vb.isi_bool_bl, Vb.isi_bool_int, Vb.isi_bool_str, Vb.isi_bool_tup, Vb.isi_bool_ref, Vb.isi_str_non, Vb.isi_str_bl, Vb.isi_str_int, Vb.isi_str_str, Vb.isi_str_tup, Vb.isi_str_ref, Vb.isi_tup_non, Vb.isi_tup_bl, Vb.isi_tup_int, Vb.isi_tup_str, Vb.isi_tup_tup, Vb.isi_tup_ref, Vb.isi_lst_non, Vb.isi_lst_bl, Vb.isi_lst_int, Vb.isi_lst_str, Vb.isi_lst_tup, Vb.isi_lst_ref, sm62 (n := b) (by omega) (by omega)]
  have lb : (rangeL 0 b).length ≤ 3 := by rw [rngL_len]; omega
  refine Ok.bind (lc_all (P := IsGoal) (J := fun j h' => Keep [r] h4 h' ∧ Dr r (B + 1 + 1 + 3 * 1300000 + 1 + j * 1300010) h') (fun _ _ _ => trivial) (line_ok (by omega)) ⟨.push _, (d4.keep (S := []) (.push _) (by simp)).weak (by omega)⟩
    (fun j h' o ⟨a1, a2⟩ => ⟨a1.put (.inr (Nat.le_refl _)) o, a2.put (by have := d4.lt; omega)⟩) ?_) ?_
  · rintro j hj v hv h' ⟨a1, a2⟩ hlt
    refine Ok.bind (sp28 n h' r _ a2 (by omega)) ?_
    rintro y h'' ⟨gv, g2, g3⟩
    exact .ret ⟨y, rfl, gv, ⟨a1.trans g2, g3.weak (by omega)⟩, g2.at_ _ hlt (by have := d4.lt; simp; omega)⟩
  rintro _ h5 ⟨rfl, gs, z1, z2, z3, k5, d5⟩
  rw [bi_tuple z3]
  try simp only [Vb.execs, Vb.exec, Vb.evalE, Vb.evalEs, Vb.evalT, Vb.evalI, Vb.evalO, Vb.evalOT, Vb.asgS, Vb.bind_ok, Vb.bind_assoc, Vb.then_ok, Vb.then_bind, Vb.next_then, Vb.next_next, Vb.next_nx, Vb.next_rt, Vb.next_bk, Vb.next_ct, Vb.fin_then, Vb.fin_rt, Vb.fin_nx, Vb.opt_some, Vb.cb_fn, Vb.cb_cls, Vb.gl0, Vb.gls, List.getElem?_cons_zero, List.getElem?_cons_succ, List.set_cons_zero, List.set_cons_succ, Vb.storeTg, Vb.storeAll, Option.map_some, List.length_cons, List.length_nil, Nat.zero_add, Nat.reduceAdd, Vb.ln0, Vb.ln1, Vb.ln2, Vb.ln3, Vb.ln4, Vb.ln5, Vb.ln6, if_true, Vb.newObj, Vb.it_tup, Vb.it_ref, Vb.it_str, Vb.ty_join, Vb.ty_split, Vb.ty_append, Vb.ty_extend, Vb.ty_pop, Option.isSome_some, List.map_cons, List.map_nil, Bool.false_eq_true, if_false, Vb.tr_bl, Vb.wipeL, decide_true, decide_false, Bool.not_true, Bool.not_false, Vb.b_add, Vb.b_sub, Vb.c_lt, Vb.c_le, Vb.c_gt, Vb.c_ge, Vb.c_eq_int, Vb.c_ne_int, Vb.c_isn_non, Vb.c_isn_int, Vb.c_isn_tup, Vb.c_notn_non, Vb.c_notn_int, Vb.c_notn_tup, Vb.ix_tup, Vb.bi_list_tup, Vb.isi_int_non, Vb.isi_int_bl, Vb.isi_int_int, Vb.isi_int_str, Vb.isi_int_tup, Vb.isi_int_ref, Vb.isi_bool_non, Vb.isi_bool_bl, Vb.isi_bool_int, Vb.isi_bool_str, Vb.isi_bool_tup, Vb.isi_bool_ref, Vb.isi_str_non, Vb.isi_str_bl, Vb.isi_str_int, Vb.isi_str_str, Vb.isi_str_tup, Vb.isi_str_ref, Vb.isi_tup_non, Vb.isi_tup_bl, Vb.isi_tup_int, Vb.isi_tup_str, Vb.isi_tup_tup, Vb.isi_tup_ref, Vb.isi_lst_non, Vb.isi_lst_bl, Vb.isi_lst_int, Vb.isi_lst_str, Vb.isi_lst_tup, Vb.isi_lst_ref]
  exact .ret ⟨.inr (.inr (.inr ⟨bs, gs, rfl, by omega, by omega, y2, z2⟩)), (((k1.trans k2).trans k3).trans k4).trans k5, d5.weak (by omega)⟩
/-- what breaks by a run -/
def IsFound (v : PV) : Prop := v = .non ∨ ∃ b o k g, v = .tup [b, o, .str k, g] ∧ Small b ∧ Owner o ∧ (k = "need" ∨ k = "promise") ∧ Small g
theorem sp30 (n : Nat) (h : MH) (r : Nat) (B : Int) (dr : Dr r B h) (hB : B + 1400000 ≤ TOP) : Ok (callF Pr (n + 13) 30 [.ref r] h) fun v h' => (∃ q vs f, v = .tup [.ref q, f] ∧ h.length ≤ q ∧ h'[q]? = some (.lst vs) ∧ States vs ∧ IsFound f) ∧ Keep [r] h h' ∧ Dr r (B + 1400000) h' := by
  have ht := hT
  have hcs := hCS
  rw [callF_at (d := d30) rfl rfl]
  show Ok (finF (execs (cbK Pr (n + 12)) Pr.xt Pr.wl b30 [some (.ref r), none, none] h)) _
  unfold b30
  try simp only [Vb.execs, Vb.exec, Vb.evalE, Vb.evalEs, Vb.evalT, Vb.evalI, Vb.evalO, Vb.evalOT, Vb.asgS, Vb.bind_ok, Vb.bind_assoc, Vb.then_ok, Vb.then_bind, Vb.next_then, Vb.next_next, Vb.next_nx, Vb.next_rt, Vb.next_bk, Vb.next_ct, Vb.fin_then, Vb.fin_rt, Vb.fin_nx, Vb.opt_some, Vb.cb_fn, Vb.cb_cls, Vb.gl0, Vb.gls, List.getElem?_cons_zero, List.getElem?_cons_succ, List.set_cons_zero, List.set_cons_succ, Vb.storeTg, Vb.storeAll, Option.map_some, List.length_cons, List.length_nil, Nat.zero_add, Nat.reduceAdd, Vb.ln0, Vb.ln1, Vb.ln2, Vb.ln3, Vb.ln4, Vb.ln5, Vb.ln6, if_true, Vb.newObj, Vb.it_tup, Vb.it_ref, Vb.it_str, Vb.ty_join, Vb.ty_split, Vb.ty_append, Vb.ty_extend, Vb.ty_pop, Option.isSome_some, List.map_cons, List.map_nil, Bool.false_eq_true, if_false, Vb.tr_bl, Vb.wipeL, decide_true, decide_false, Bool.not_true, Bool.not_false, Vb.b_add, Vb.b_sub, Vb.c_lt, Vb.c_le, Vb.c_gt, Vb.c_ge, Vb.c_eq_int, Vb.c_ne_int, Vb.c_isn_non, Vb.c_isn_int, Vb.c_isn_tup, Vb.c_notn_non, Vb.c_notn_int, Vb.c_notn_tup, Vb.ix_tup, Vb.bi_list_tup, Vb.isi_int_non, Vb.isi_int_bl, Vb.isi_int_int, Vb.isi_int_str, Vb.isi_int_tup, Vb.isi_int_ref, Vb.isi_bool_non, Vb.isi_bool_bl, Vb.isi_bool_int, Vb.isi_bool_str, Vb.isi_bool_tup, Vb.isi_bool_ref, Vb.isi_str_non, Vb.isi_str_bl, Vb.isi_str_int, Vb.isi_str_str, Vb.isi_str_tup, Vb.isi_str_ref, Vb.isi_tup_non, Vb.isi_tup_bl, Vb.isi_tup_int, Vb.isi_tup_str, Vb.isi_tup_tup, Vb.isi_tup_ref, Vb.isi_lst_non, Vb.isi_lst_bl, Vb.isi_lst_int, Vb.isi_lst_str, Vb.isi_lst_tup, Vb.isi_lst_ref]
  refine Ok.bind (sp26 n h r _ dr (by omega)) ?_
  rintro _ h1 ⟨⟨vs, rfl, sv⟩, k1, d1⟩
  try simp only [Vb.execs, Vb.exec, Vb.evalE, Vb.evalEs, Vb.evalT, Vb.evalI, Vb.evalO, Vb.evalOT, Vb.asgS, Vb.bind_ok, Vb.bind_assoc, Vb.then_ok, Vb.then_bind, Vb.next_then, Vb.next_next, Vb.next_nx, Vb.next_rt, Vb.next_bk, Vb.next_ct, Vb.fin_then, Vb.fin_rt, Vb.fin_nx, Vb.opt_some, Vb.cb_fn, Vb.cb_cls, Vb.gl0, Vb.gls, List.getElem?_cons_zero, List.getElem?_cons_succ, List.set_cons_zero, List.set_cons_succ, Vb.storeTg, Vb.storeAll, Option.map_some, List.length_cons, List.length_nil, Nat.zero_add, Nat.reduceAdd, Vb.ln0, Vb.ln1, Vb.ln2, Vb.ln3, Vb.ln4, Vb.ln5, Vb.ln6, if_true, Vb.newObj, Vb.it_tup, Vb.it_ref, Vb.it_str, Vb.ty_join, Vb.ty_split, Vb.ty_append, Vb.ty_extend, Vb.ty_pop, Option.isSome_some, List.map_cons, List.map_nil, Bool.false_eq_true, if_false, Vb.tr_bl, Vb.wipeL, decide_true, decide_false, Bool.not_true, Bool.not_false, Vb.b_add, Vb.b_sub, Vb.c_lt, Vb.c_le, Vb.c_gt, Vb.c_ge, Vb.c_eq_int, Vb.c_ne_int, Vb.c_isn_non, Vb.c_isn_int, Vb.c_isn_tup, Vb.c_notn_non, Vb.c_notn_int, Vb.c_notn_tup, Vb.ix_tup, Vb.bi_list_tup, Vb.isi_int_non, Vb.isi_int_bl, Vb.isi_int_int, Vb.isi_int_str, Vb.isi_int_tup, Vb.isi_int_ref, Vb.isi_bool_non, Vb.isi_bool_bl, Vb.isi_bool_int, Vb.isi_bool_str, Vb.isi_bool_tup, Vb.isi_bool_ref, Vb.isi_str_non, Vb.isi_str_bl, Vb.isi_str_int, Vb.isi_str_str, Vb.isi_str_tup, Vb.isi_str_ref, Vb.isi_tup_non, Vb.isi_tup_bl, Vb.isi_tup_int, Vb.isi_tup_str, Vb.isi_tup_tup, Vb.isi_tup_ref, Vb.isi_lst_non, Vb.isi_lst_bl, Vb.isi_lst_int, Vb.isi_lst_str, Vb.isi_lst_tup, Vb.isi_lst_ref]
  have e1 : (h1 ++ [MO.lst vs])[h1.length]? = some (.lst vs) := get_new
  have dd : Dr r (B + CS) (h1 ++ [MO.lst vs]) := d1.keep (S := []) (.push _) (by simp)
  have kk : Keep [r] h (h1 ++ [MO.lst vs]) := k1.trans (.push _)
  have rq : r ≠ h1.length := by have := d1.lt; omega
  have ql : h.length ≤ h1.length := k1.len
  generalize h1 ++ [MO.lst vs] = h2 at e1 dd kk
  generalize h1.length = q at e1 rq ql
  have nq : q ∉ [r] := by simp; exact fun z => rq z.symm
  refine Ok.bind (sp23 (n + 10) _ r 2 _ dd (by omega) (by decide) (by decide)) ?_
  rintro _ h3 ⟨⟨i, rfl, i0, i1⟩, k3, d3⟩
  have e3 := k3.get e1 nq
  try simp only [Vb.execs, Vb.exec, Vb.evalE, Vb.evalEs, Vb.evalT, Vb.evalI, Vb.evalO, Vb.evalOT, Vb.asgS, Vb.bind_ok, Vb.bind_assoc, Vb.then_ok, Vb.then_bind, Vb.next_then, Vb.next_next, Vb.next_nx, Vb.next_rt, Vb.next_bk, Vb.next_ct, Vb.fin_then, Vb.fin_rt, Vb.fin_nx, Vb.opt_some, Vb.cb_fn, Vb.cb_cls, Vb.gl0, Vb.gls, List.getElem?_cons_zero, List.getElem?_cons_succ, List.set_cons_zero, List.set_cons_succ, Vb.storeTg, Vb.storeAll, Option.map_some, List.length_cons, List.length_nil, Nat.zero_add, Nat.reduceAdd, Vb.ln0, Vb.ln1, Vb.ln2, Vb.ln3, Vb.ln4, Vb.ln5, Vb.ln6, if_true, Vb.newObj, Vb.it_tup, Vb.it_ref, Vb.it_str, Vb.ty_join, Vb.ty_split, Vb.ty_append, Vb.ty_extend, Vb.ty_pop, Option.isSome_some, List.map_cons, List.map_nil, Bool.false_eq_true, if_false, Vb.tr_bl, Vb.wipeL, decide_true, decide_false, Bool.not_true, Bool.not_false, Vb.b_add, Vb.b_sub, Vb.c_lt, Vb.c_le, Vb.c_gt, Vb.c_ge, Vb.c_eq_int, Vb.c_ne_int, Vb.c_isn_non, Vb.c_isn_int, Vb.c_isn_tup, Vb.c_notn_non, Vb.c_notn_int, Vb.c_notn_tup, Vb.ix_tup, Vb.bi_list_tup, Vb.isi_int_non, Vb.isi_int_bl, Vb.isi_int_int, Vb.isi_int_str, Vb.isi_int_tup, Vb.isi_int_ref, Vb.isi_bool_non, Vb.isi_bool_bl, Vb.isi_bool_int, Vb.isi_bool_str, Vb.isi_bool_tup, Vb.isi_bool_ref, Vb.isi_str_non, Vb.isi_str_bl, Vb.isi_str_int, Vb.isi_str_str, Vb.isi_str_tup, Vb.isi_str_ref, Vb.isi_tup_non, Vb.isi_tup_bl, Vb.isi_tup_int, Vb.isi_tup_str, Vb.isi_tup_tup, Vb.isi_tup_ref, Vb.isi_lst_non, Vb.isi_lst_bl, Vb.isi_lst_int, Vb.isi_lst_str, Vb.isi_lst_tup, Vb.isi_lst_ref]
  by_cases hi : i = 0
  · simp only [decide_eq_true hi]
    try simp only [Vb.execs, Vb.exec, Vb.evalE, Vb.evalEs, Vb.evalT, Vb.evalI, Vb.evalO, Vb.evalOT, Vb.asgS, Vb.bind_ok, Vb.bind_assoc, Vb.then_ok, Vb.then_bind, Vb.next_then, Vb.next_next, Vb.next_nx, Vb.next_rt, Vb.next_bk, Vb.next_ct, Vb.fin_then, Vb.fin_rt, Vb.fin_nx, Vb.opt_some, Vb.cb_fn, Vb.cb_cls, Vb.gl0, Vb.gls, List.getElem?_cons_zero, List.getElem?_cons_succ, List.set_cons_zero, List.set_cons_succ, Vb.storeTg, Vb.storeAll, Option.map_some, List.length_cons, List.length_nil, Nat.zero_add, Nat.reduceAdd, Vb.ln0, Vb.ln1, Vb.ln2, Vb.ln3, Vb.ln4, Vb.ln5, Vb.ln6, if_true, Vb.newObj, Vb.it_tup, Vb.it_ref, Vb.it_str, Vb.ty_join, Vb.ty_split, Vb.ty_append, Vb.ty_extend, Vb.ty_pop, Option.isSome_some, List.map_cons, List.map_nil, Bool.false_eq_true, if_false, Vb.tr_bl, Vb.wipeL, decide_true, decide_false, Bool.not_true, Bool.not_false, Vb.b_add, Vb.b_sub, Vb.c_lt, Vb.c_le, Vb.c_gt, Vb.c_ge, Vb.c_eq_int, Vb.c_ne_int, Vb.c_isn_non, Vb.c_isn_int, Vb.c_isn_tup, Vb.c_notn_non, Vb.c_notn_int, Vb.c_notn_tup, Vb.ix_tup, Vb.bi_list_tup, Vb.isi_int_non, Vb.isi_int_bl, Vb.isi_int_int, Vb.isi_int_str, Vb.isi_int_tup, Vb.isi_int_ref, Vb.isi_bool_non, Vb.isi_bool_bl, Vb.isi_bool_int, Vb.isi_bool_str, Vb.isi_bool_tup, Vb.isi_bool_ref, Vb.isi_str_non, Vb.isi_str_bl, Vb.isi_str_int, Vb.isi_str_str, Vb.isi_str_tup, Vb.isi_str_ref, Vb.isi_tup_non, Vb.isi_tup_bl, Vb.isi_tup_int, Vb.isi_tup_str, Vb.isi_tup_tup, Vb.isi_tup_ref, Vb.isi_lst_non, Vb.isi_lst_bl, Vb.isi_lst_int, Vb.isi_lst_str, Vb.isi_lst_tup, Vb.isi_lst_ref]
    exact .ret ⟨⟨q, vs, .non, rfl, ql, e3, sv, .inl rfl⟩, kk.trans k3, d3.weak (by omega)⟩
  simp only [decide_eq_false hi]
  try simp only [Vb.execs, Vb.exec, Vb.evalE, Vb.evalEs, Vb.evalT, Vb.evalI, Vb.evalO, Vb.evalOT, Vb.asgS, Vb.bind_ok, Vb.bind_assoc, Vb.then_ok, Vb.then_bind, Vb.next_then, Vb.next_next, Vb.next_nx, Vb.next_rt, Vb.next_bk, Vb.next_ct, Vb.fin_then, Vb.fin_rt, Vb.fin_nx, Vb.opt_some, Vb.cb_fn, Vb.cb_cls, Vb.gl0, Vb.gls, List.getElem?_cons_zero, List.getElem?_cons_succ, List.set_cons_zero, List.set_cons_succ, Vb.storeTg, Vb.storeAll, Option.map_some, List.length_cons, List.length_nil, Nat.zero_add, Nat.reduceAdd, Vb.ln0, Vb.ln1, Vb.ln2, Vb.ln3, Vb.ln4, Vb.ln5, Vb.ln6, if_true, Vb.newObj, Vb.it_tup, Vb.it_ref, Vb.it_str, Vb.ty_join, Vb.ty_split, Vb.ty_append, Vb.ty_extend, Vb.ty_pop, Option.isSome_some, List.map_cons, List.map_nil, Bool.false_eq_true, if_false, Vb.tr_bl, Vb.wipeL, decide_true, decide_false, Bool.not_true, Bool.not_false, Vb.b_add, Vb.b_sub, Vb.c_lt, Vb.c_le, Vb.c_gt, Vb.c_ge, Vb.c_eq_int, Vb.c_ne_int, Vb.c_isn_non, Vb.c_isn_int, Vb.c_isn_tup, Vb.c_notn_non, Vb.c_notn_int, Vb.c_notn_tup, Vb.ix_tup, Vb.bi_list_tup, Vb.isi_int_non, Vb.isi_int_bl, Vb.isi_int_int, Vb.isi_int_str, Vb.isi_int_tup, Vb.isi_int_ref, Vb.isi_bool_non, Vb.isi_bool_bl, Vb.isi_bool_int, Vb.isi_bool_str, Vb.isi_bool_tup, Vb.isi_bool_ref, Vb.isi_str_non, Vb.isi_str_bl, Vb.isi_str_int, Vb.isi_str_str, Vb.isi_str_tup, Vb.isi_str_ref, Vb.isi_tup_non, Vb.isi_tup_bl, Vb.isi_tup_int, Vb.isi_tup_str, Vb.isi_tup_tup, Vb.isi_tup_ref, Vb.isi_lst_non, Vb.isi_lst_bl, Vb.isi_lst_int, Vb.isi_lst_str, Vb.isi_lst_tup, Vb.isi_lst_ref]
  refine Ok.bind (sp23 (n + 10) _ r 3 _ d3 (by omega) (by decide) (by decide)) ?_
  rintro _ h4 ⟨⟨j, rfl, j0, j1⟩, k4, d4⟩
  have e4 := k4.get e3 nq
  try simp only [Vb.execs, Vb.exec, Vb.evalE, Vb.evalEs, Vb.evalT, Vb.evalI, Vb.evalO, Vb.evalOT, Vb.asgS, Vb.bind_ok, Vb.bind_assoc, Vb.then_ok, Vb.then_bind, Vb.next_then, Vb.next_next, Vb.next_nx, Vb.next_rt, Vb.next_bk, Vb.next_ct, Vb.fin_then, Vb.fin_rt, Vb.fin_nx, Vb.opt_some, Vb.cb_fn, Vb.cb_cls, Vb.gl0, Vb.gls, List.getElem?_cons_zero, List.getElem?_cons_succ, List.set_cons_zero, List.set_cons_succ, Vb.storeTg, Vb.storeAll, Option.map_some, List.length_cons, List.length_nil, Nat.zero_add, Nat.reduceAdd, Vb.ln0, Vb.ln1, Vb.ln2, Vb.ln3, Vb.ln4, Vb.ln5, Vb.ln6, if_true, Vb.newObj, Vb.it_tup, Vb.it_ref, Vb.it_str, Vb.ty_join, Vb.ty_split, Vb.ty_append, Vb.ty_extend, Vb.ty_pop, Option.isSome_some, List.map_cons, List.map_nil, Bool.false_eq_true, if_false, Vb.tr_bl, Vb.wipeL, decide_true, decide_false, Bool.not_true, Bool.not_false, Vb.b_add, Vb.b_sub, Vb.c_lt, Vb.c_le, Vb.c_gt, Vb.c_ge, Vb.c_eq_int, Vb.c_ne_int, Vb.c_isn_non, Vb.c_isn_int, Vb.c_isn_tup, Vb.c_notn_non, Vb.c_notn_int, Vb.c_notn_tup, Vb.ix_tup, Vb.bi_list_tup, Vb.isi_int_non, Vb.isi_int_bl, Vb.isi_int_int, Vb.isi_int_str, Vb.isi_int_tup, Vb.isi_int_ref, Vb.isi_bool_non, Vb.isi_bool_bl, Vb.isi_bool_int, Vb.isi_bool_str, Vb.isi_bool_tup, Vb.isi_bool_ref, Vb.isi_str_non, Vb.isi_str_bl, Vb.isi_str_int, Vb.isi_str_str, Vb.isi_str_tup, Vb.isi_str_ref, Vb.isi_tup_non, Vb.isi_tup_bl, Vb.isi_tup_int, Vb.isi_tup_str, Vb.isi_tup_tup, Vb.isi_tup_ref, Vb.isi_lst_non, Vb.isi_lst_bl, Vb.isi_lst_int, Vb.isi_lst_str, Vb.isi_lst_tup, Vb.isi_lst_ref]
  have own : Ok (match decide (j = 0) with
      | true => Res.ok (PV.int (-1)) h4
      | false => callF Pr (n + 12) 27 [PV.ref r] h4) fun v h' => Owner v ∧ Keep [r] h4 h' ∧ Dr r (B + CS + 1 + 1 + 3) h' := by
    by_cases hj : j = 0
    · simp only [decide_eq_true hj]
      exact .ret ⟨.inl rfl, .refl, d4.weak (by omega)⟩
    · simp only [decide_eq_false hj]
      exact (sp27 (n + 9) h4 r _ d4 (by omega)).mono fun v h' ⟨a, b, c⟩ => ⟨.inr a, b, c⟩
  refine Ok.bind own ?_
  rintro o h5 ⟨oo, k5, d5⟩
  have e5 := k5.get e4 nq
  try simp only [Vb.execs, Vb.exec, Vb.evalE, Vb.evalEs, Vb.evalT, Vb.evalI, Vb.evalO, Vb.evalOT, Vb.asgS, Vb.bind_ok, Vb.bind_assoc, Vb.then_ok, Vb.then_bind, Vb.next_then, Vb.next_next, Vb.next_nx, Vb.next_rt, Vb.next_bk, Vb.next_ct, Vb.fin_then, Vb.fin_rt, Vb.fin_nx, Vb.opt_some, Vb.cb_fn, Vb.cb_cls, Vb.gl0, Vb.gls, List.getElem?_cons_zero, List.getElem?_cons_succ, List.set_cons_zero, List.set_cons_succ, Vb.storeTg, Vb.storeAll, Option.map_some, List.length_cons, List.length_nil, Nat.zero_add, Nat.reduceAdd, Vb.ln0, Vb.ln1, Vb.ln2, Vb.ln3, Vb.ln4, Vb.ln5, Vb.ln6, if_true, Vb.newObj, Vb.it_tup, Vb.it_ref, Vb.it_str, Vb.ty_join, Vb.ty_split, Vb.ty_append, Vb.ty_extend, Vb.ty_pop, Option.isSome_some, List.map_cons, List.map_nil, Bool.false_eq_true, if_false, Vb.tr_bl, Vb.wipeL, decide_true, decide_false, Bool.not_true, Bool.not_false, Vb.b_add, Vb.b_sub, Vb.c_lt, Vb.c_le, Vb.c_gt, Vb.c_ge, Vb.c_eq_int, Vb.c_ne_int, Vb.c_isn_non, Vb.c_isn_int, Vb.c_isn_tup, Vb.c_notn_non, Vb.c_notn_int, Vb.c_notn_tup, Vb.ix_tup, Vb.bi_list_tup, Vb.isi_int_non, Vb.isi_int_bl, Vb.isi_int_int, Vb.isi_int_str, Vb.isi_int_tup, Vb.isi_int_ref, Vb.isi_bool_non, Vb.isi_bool_bl, Vb.isi_bool_int, Vb.isi_bool_str, Vb.isi_bool_tup, Vb.isi_bool_ref, Vb.isi_str_non, Vb.isi_str_bl, Vb.isi_str_int, Vb.isi_str_str, Vb.isi_str_tup, Vb.isi_str_ref, Vb.isi_tup_non, Vb.isi_tup_bl, Vb.isi_tup_int, Vb.isi_tup_str, Vb.isi_tup_tup, Vb.isi_tup_ref, Vb.isi_lst_non, Vb.isi_lst_bl, Vb.isi_lst_int, Vb.isi_lst_str, Vb.isi_lst_tup, Vb.isi_lst_ref]
  refine Ok.bind (sp27 (n + 9) h5 r _ d5 (by omega)) ?_
  rintro b h6 ⟨bb, k6, d6⟩
  have e6 := k6.get e5 nq
  try simp only [Vb.execs, Vb.exec, Vb.evalE, Vb.evalEs, Vb.evalT, Vb.evalI, Vb.evalO, Vb.evalOT, Vb.asgS, Vb.bind_ok, Vb.bind_assoc, Vb.then_ok, Vb.then_bind, Vb.next_then, Vb.next_next, Vb.next_nx, Vb.next_rt, Vb.next_bk, Vb.next_ct, Vb.fin_then, Vb.fin_rt, Vb.fin_nx, Vb.opt_some, Vb.cb_fn, Vb.cb_cls, Vb.gl0, Vb.gls, List.getElem?_cons_zero, List.getElem?_cons_succ, List.set_cons_zero, List.set_cons_succ, Vb.storeTg, Vb.storeAll, Option.map_some, List.length_cons, List.length_nil, Nat.zero_add, Nat.reduceAdd, Vb.ln0, Vb.ln1, Vb.ln2, Vb.ln3, Vb.ln4, Vb.ln5, Vb.ln6, if_true, Vb.newObj, Vb.it_tup, Vb.it_ref, Vb.it_str, Vb.ty_join, Vb.ty_split, Vb.ty_append, Vb.ty_extend, Vb.ty_pop, Option.isSome_some, List.map_cons, List.map_nil, Bool.false_eq_true, if_false, Vb.tr_bl, Vb.wipeL, decide_true, decide_false, Bool.not_true, Bool.not_false, Vb.b_add, Vb.b_sub, Vb.c_lt, Vb.c_le, Vb.c_gt, Vb.c_ge, Vb.c_eq_int, Vb.c_ne_int, Vb.c_isn_non, Vb.c_isn_int, Vb.c_isn_tup, Vb.c_notn_non, Vb.c_notn_int, Vb.c_notn_tup, Vb.ix_tup, Vb.bi_list_tup, Vb.isi_int_non, Vb.isi_int_bl, Vb.isi_int_int, Vb.isi_int_str, Vb.isi_int_tup, Vb.isi_int_ref, Vb.isi_bool_non, Vb.isi_bool_bl, Vb.isi_bool_int, Vb.isi_bool_str, Vb.isi_bool_tup, Vb.isi_bool_ref, Vb.isi_str_non, Vb.isi_str_bl, Vb.isi_str_int, Vb.isi_str_str, Vb.isi_str_tup, Vb.isi_str_ref, Vb.isi_tup_non, Vb.isi_tup_bl, Vb.isi_tup_int, Vb.isi_tup_str, Vb.isi_tup_tup, Vb.isi_tup_ref, Vb.isi_lst_non, Vb.isi_lst_bl, Vb.isi_lst_int, Vb.isi_lst_str, Vb.isi_lst_tup, Vb.isi_lst_ref]
  have d7 := d6.keep (S := []) (.push (MO.lst [.str "need", .str "promise"])) (by simp)
  refine Ok.bind (sp23 (n + 10) _ r 2 _ d7 (by omega) (by decide) (by decide)) ?_
  rintro _ h8 ⟨⟨l, rfl, l0, l1⟩, k8, d8⟩
  have en := k8.get get_new (by have := d6.lt; simp; omega)
  have e8 := k8.get (Keep.get (S := []) (.push (MO.lst [.str "need", .str "promise"])) e6 (by simp)) nq
  obtain ⟨v, ev, hv⟩ := pick2 en l0 l1
  rw [ev]
  try simp only [Vb.execs, Vb.exec, Vb.evalE, Vb.evalEs, Vb.evalT, Vb.evalI, Vb.evalO, Vb.evalOT, Vb.asgS, Vb.bind_ok, Vb.bind_assoc, Vb.then_ok, Vb.then_bind, Vb.next_then, Vb.next_next, Vb.next_nx, Vb.next_rt, Vb.next_bk, Vb.next_ct, Vb.fin_then, Vb.fin_rt, Vb.fin_nx, Vb.opt_some, Vb.cb_fn, Vb.cb_cls, Vb.gl0, Vb.gls, List.getElem?_cons_zero, List.getElem?_cons_succ, List.set_cons_zero, List.set_cons_succ, Vb.storeTg, Vb.storeAll, Option.map_some, List.length_cons, List.length_nil, Nat.zero_add, Nat.reduceAdd, Vb.ln0, Vb.ln1, Vb.ln2, Vb.ln3, Vb.ln4, Vb.ln5, Vb.ln6, if_true, Vb.newObj, Vb.it_tup, Vb.it_ref, Vb.it_str, Vb.ty_join, Vb.ty_split, Vb.ty_append, Vb.ty_extend, Vb.ty_pop, Option.isSome_some, List.map_cons, List.map_nil, Bool.false_eq_true, if_false, Vb.tr_bl, Vb.wipeL, decide_true, decide_false, Bool.not_true, Bool.not_false, Vb.b_add, Vb.b_sub, Vb.c_lt, Vb.c_le, Vb.c_gt, Vb.c_ge, Vb.c_eq_int, Vb.c_ne_int, Vb.c_isn_non, Vb.c_isn_int, Vb.c_isn_tup, Vb.c_notn_non, Vb.c_notn_int, Vb.c_notn_tup, Vb.ix_tup, Vb.bi_list_tup, Vb.isi_int_non, Vb.isi_int_bl, Vb.isi_int_int, Vb.isi_int_str, Vb.isi_int_tup, Vb.isi_int_ref, Vb.isi_bool_non, Vb.isi_bool_bl, Vb.isi_bool_int, Vb.isi_bool_str, Vb.isi_bool_tup, Vb.isi_bool_ref, Vb.isi_str_non, Vb.isi_str_bl, Vb.isi_str_int, Vb.isi_str_str, Vb.isi_str_tup, Vb.isi_str_ref, Vb.isi_tup_non, Vb.isi_tup_bl, Vb.isi_tup_int, Vb.isi_tup_str, Vb.isi_tup_tup, Vb.isi_tup_ref, Vb.isi_lst_non, Vb.isi_lst_bl, Vb.isi_lst_int, Vb.isi_lst_str, Vb.isi_lst_tup, Vb.isi_lst_ref]
  refine Ok.bind (sp27 (n + 9) h8 r _ d8 (by omega)) ?_
  rintro g h9 ⟨gg, k9, d9⟩
  have e9 := k9.get e8 nq
  try simp only [Vb.execs, Vb.exec, Vb.evalE, Vb.evalEs, Vb.evalT, Vb.evalI, Vb.evalO, Vb.evalOT, Vb.asgS, Vb.bind_ok, Vb.bind_assoc, Vb.then_ok, Vb.then_bind, Vb.next_then, Vb.next_next, Vb.next_nx, Vb.next_rt, Vb.next_bk, Vb.next_ct, Vb.fin_then, Vb.fin_rt, Vb.fin_nx, Vb.opt_some, Vb.cb_fn, Vb.cb_cls, Vb.gl0, Vb.gls, List.getElem?_cons_zero, List.getElem?_cons_succ, List.set_cons_zero, List.set_cons_succ, Vb.storeTg, Vb.storeAll, Option.map_some, List.length_cons, List.length_nil, Nat.zero_add, Nat.reduceAdd, Vb.ln0, Vb.ln1, Vb.ln2, Vb.ln3, Vb.ln4, Vb.ln5, Vb.ln6, if_true, Vb.newObj, Vb.it_tup, Vb.it_ref, Vb.it_str, Vb.ty_join, Vb.ty_split, Vb.ty_append, Vb.ty_extend, Vb.ty_pop, Option.isSome_some, List.map_cons, List.map_nil, Bool.false_eq_true, if_false, Vb.tr_bl, Vb.wipeL, decide_true, decide_false, Bool.not_true, Bool.not_false, Vb.b_add, Vb.b_sub, Vb.c_lt, Vb.c_le, Vb.c_gt, Vb.c_ge, Vb.c_eq_int, Vb.c_ne_int, Vb.c_isn_non, Vb.c_isn_int, Vb.c_isn_tup, Vb.c_notn_non, Vb.c_notn_int, Vb.c_notn_tup, Vb.ix_tup, Vb.bi_list_tup, Vb.isi_int_non, Vb.isi_int_bl, Vb.isi_int_int, Vb.isi_int_str, Vb.isi_int_tup, Vb.isi_int_ref, Vb.isi_bool_non, Vb.isi_bool_bl, Vb.isi_bool_int, Vb.isi_bool_str, Vb.isi_bool_tup, Vb.isi_bool_ref, Vb.isi_str_non, Vb.isi_str_bl, Vb.isi_str_int, Vb.isi_str_str, Vb.isi_str_tup, Vb.isi_str_ref, Vb.isi_tup_non, Vb.isi_tup_bl, Vb.isi_tup_int, Vb.isi_tup_str, Vb.isi_tup_tup, Vb.isi_tup_ref, Vb.isi_lst_non, Vb.isi_lst_bl, Vb.isi_lst_int, Vb.isi_lst_str, Vb.isi_lst_tup, Vb.isi_lst_ref]
  refine .ret ⟨⟨q, vs, _, rfl, ql, e9, sv, .inr ?_⟩, kk.trans (((((k3.trans k4).trans k5).trans k6).trans ((Keep.push _).trans k8)).trans k9), d9.weak (by omega)⟩
  rcases hv with rfl | rfl
  · exact ⟨b, o, _, g, rfl, bb, oo, .inl rfl, gg⟩
  · exact ⟨b, o, _, g, rfl, bb, oo, .inr rfl, gg⟩
/-! ### the draw of a cell -/
theorem b_pow18 {h : MH} : binS .pow (.int 10) (.int 18) h = .ok (.int 1000000000000000000) h := by
  show (if (0 : Int) ≤ 18 ∧ (18 : Int) ≤ 1000 ∧ (10 : Int).natAbs < 2 ^ 64 then Res.ok (PV.int (10 ^ (18 : Int).toNat)) h else .no) = _
  rw [if_pos (by decide)]
  rfl
theorem optAll_ints {h : MH} {n : Nat} : ∀ ns : List Int, optAll (data h n) (ns.map .int) = some (ns.map .int)
  | [] => rfl
  | i :: ns => by
    have e : data h n (.int i) = some (.int i) := by cases n <;> rfl
    simp only [List.map_cons, optAll, e, optAll_ints ns]
theorem lay_ints : ∀ ns : List Int, PyData.canLayAll0 (ns.map .int) = true
  | [] => rfl
  | i :: ns => by simp [PyData.canLayAll0, PyData.canLay0, lay_ints ns]
theorem d_ints {h : MH} {r : Nat} {ns : List Int} (e : seqAt h r = some (ns.map .int)) : cmpData h (.ref r) = some (.list (ns.map .int)) := by
  have a : data h deepest (.ref r) = some (.list (ns.map .int)) := by
    show (match seqAt h r with
      | some xs => (optAll (data h 23) xs).map PyData.list
      | none => none) = _
    rw [e]
    simp only [optAll_ints, Option.map_some]
  unfold cmpData
  rw [a]
  have : (PyData.list (ns.map .int)).canLay0 = true := by simp [PyData.canLay0, lay_ints ns]
  simp only [this, if_true]
theorem sp22 (n : Nat) (h : MH) (ns : List Int) (k : Int) (e : h[0]? = some (.ro (ns.map .int))) (hns : ns.length ≤ 63) (k0 : 0 ≤ k) (k1 : k < 64) : Ok (callF Pr (n + 1) 22 [.ref 0, .int k] h) fun v h' => ∃ q, v = .ref q ∧ h.length ≤ q ∧ Keep [] h h' ∧ Dr q 5000 h' := by
  rw [callF_at (d := d22) rfl rfl]
  show Ok (finF (execs (cbK Pr n) Pr.xt Pr.wl b22 [some (.ref 0), some (.int k), none, none, none] h)) _
  unfold b22
  try simp only [Vb.execs, Vb.exec, Vb.evalE, Vb.evalEs, Vb.evalT, Vb.evalI, Vb.evalO, Vb.evalOT, Vb.asgS, Vb.bind_ok, Vb.bind_assoc, Vb.then_ok, Vb.then_bind, Vb.next_then, Vb.next_next, Vb.next_nx, Vb.next_rt, Vb.next_bk, Vb.next_ct, Vb.fin_then, Vb.fin_rt, Vb.fin_nx, Vb.opt_some, Vb.cb_fn, Vb.cb_cls, Vb.gl0, Vb.gls, List.getElem?_cons_zero, List.getElem?_cons_succ, List.set_cons_zero, List.set_cons_succ, Vb.storeTg, Vb.storeAll, Option.map_some, List.length_cons, List.length_nil, Nat.zero_add, Nat.reduceAdd, Vb.ln0, Vb.ln1, Vb.ln2, Vb.ln3, Vb.ln4, Vb.ln5, Vb.ln6, if_true, Vb.newObj, Vb.it_tup, Vb.it_ref, Vb.it_str, Vb.ty_join, Vb.ty_split, Vb.ty_append, Vb.ty_extend, Vb.ty_pop, Option.isSome_some, List.map_cons, List.map_nil, Bool.false_eq_true, if_false, Vb.tr_bl, Vb.wipeL, decide_true, decide_false, Bool.not_true, Bool.not_false, Vb.b_add, Vb.b_sub, Vb.c_lt, Vb.c_le, Vb.c_gt, Vb.c_ge, Vb.c_eq_int, Vb.c_ne_int, Vb.c_isn_non, Vb.c_isn_int, Vb.c_isn_tup, Vb.c_notn_non, Vb.c_notn_int, Vb.c_notn_tup, Vb.ix_tup, Vb.bi_list_tup, Vb.isi_int_non, Vb.isi_int_bl, Vb.isi_int_int, Vb.isi_int_str, Vb.isi_int_tup, Vb.isi_int_ref, Vb.isi_bool_non, Vb.isi_bool_bl, Vb.isi_bool_int, Vb.isi_bool_str, Vb.isi_bool_tup, Vb.isi_bool_ref, Vb.isi_str_non, Vb.isi_str_bl, Vb.isi_str_int, Vb.isi_str_str, Vb.isi_str_tup, Vb.isi_str_ref, Vb.isi_tup_non, Vb.isi_tup_bl, Vb.isi_tup_int, Vb.isi_tup_str, Vb.isi_tup_tup, Vb.isi_tup_ref, Vb.isi_lst_non, Vb.isi_lst_bl, Vb.isi_lst_int, Vb.isi_lst_str, Vb.isi_lst_tup, Vb.isi_lst_ref]
  have z0 : (h ++ [MO.lst []])[0]? = some (.ro (ns.map .int)) := Keep.get (S := []) (.push _) e (by simp)
  have z1 : (h ++ [MO.lst []])[h.length]? = some (.lst []) := get_new
  have c : cmpS .ne (.ref 0) (.ref h.length) (h ++ [MO.lst []]) = some (!decide (ns = [])) := by
    have a := d_ints (seq_ro z0)
    have b := d_ints (h := h ++ [MO.lst []]) (r := h.length) (ns := []) (seq_of z1)
    simp only [cmpS, a, b]
    cases ns <;> rfl
  rw [c]
  try simp only [Vb.execs, Vb.exec, Vb.evalE, Vb.evalEs, Vb.evalT, Vb.evalI, Vb.evalO, Vb.evalOT, Vb.asgS, Vb.bind_ok, Vb.bind_assoc, Vb.then_ok, Vb.then_bind, Vb.next_then, Vb.next_next, Vb.next_nx, Vb.next_rt, Vb.next_bk, Vb.next_ct, Vb.fin_then, Vb.fin_rt, Vb.fin_nx, Vb.opt_some, Vb.cb_fn, Vb.cb_cls, Vb.gl0, Vb.gls, List.getElem?_cons_zero, List.getElem?_cons_succ, List.set_cons_zero, List.set_cons_succ, Vb.storeTg, Vb.storeAll, Option.map_some, List.length_cons, List.length_nil, Nat.zero_add, Nat.reduceAdd, Vb.ln0, Vb.ln1, Vb.ln2, Vb.ln3, Vb.ln4, Vb.ln5, Vb.ln6, if_true, Vb.newObj, Vb.it_tup, Vb.it_ref, Vb.it_str, Vb.ty_join, Vb.ty_split, Vb.ty_append, Vb.ty_extend, Vb.ty_pop, Option.isSome_some, List.map_cons, List.map_nil, Bool.false_eq_true, if_false, Vb.tr_bl, Vb.wipeL, decide_true, decide_false, Bool.not_true, Bool.not_false, Vb.b_add, Vb.b_sub, Vb.c_lt, Vb.c_le, Vb.c_gt, Vb.c_ge, Vb.c_eq_int, Vb.c_ne_int, Vb.c_isn_non, Vb.c_isn_int, Vb.c_isn_tup, Vb.c_notn_non, Vb.c_notn_int, Vb.c_notn_tup, Vb.ix_tup, Vb.bi_list_tup, Vb.isi_int_non, Vb.isi_int_bl, Vb.isi_int_int, Vb.isi_int_str, Vb.isi_int_tup, Vb.isi_int_ref, Vb.isi_bool_non, Vb.isi_bool_bl, Vb.isi_bool_int, Vb.isi_bool_str, Vb.isi_bool_tup, Vb.isi_bool_ref, Vb.isi_str_non, Vb.isi_str_bl, Vb.isi_str_int, Vb.isi_str_str, Vb.isi_str_tup, Vb.isi_str_ref, Vb.isi_tup_non, Vb.isi_tup_bl, Vb.isi_tup_int, Vb.isi_tup_str, Vb.isi_tup_tup, Vb.isi_tup_ref, Vb.isi_lst_non, Vb.isi_lst_bl, Vb.isi_lst_int, Vb.isi_lst_str, Vb.isi_lst_tup, Vb.isi_lst_ref]
  -- the cell
  have cell : Ok (match !decide (ns = []) with
        | true => (biS .len [PV.ref 0] (h ++ [MO.lst []])).bind fun a h => (binS .mod (PV.int k) a h).bind fun y h => ofOpt h (idxS (PV.ref 0) y h)
        | false => Res.ok (PV.int 0) (h ++ [MO.lst []])) fun v h' => (∃ c : Int, v = .int c) ∧ h' = h ++ [MO.lst []] := by
    by_cases hn : ns = []
    · simp only [decide_eq_true hn, Bool.not_true]
      exact .ret ⟨⟨0, rfl⟩, rfl⟩
    · simp only [decide_eq_false hn, Bool.not_false]
      have lp : 0 < ns.length := List.length_pos_iff.mpr hn
      rw [bi_len_ro z0]
      try simp only [Vb.execs, Vb.exec, Vb.evalE, Vb.evalEs, Vb.evalT, Vb.evalI, Vb.evalO, Vb.evalOT, Vb.asgS, Vb.bind_ok, Vb.bind_assoc, Vb.then_ok, Vb.then_bind, Vb.next_then, Vb.next_next, Vb.next_nx, Vb.next_rt, Vb.next_bk, Vb.next_ct, Vb.fin_then, Vb.fin_rt, Vb.fin_nx, Vb.opt_some, Vb.cb_fn, Vb.cb_cls, Vb.gl0, Vb.gls, List.getElem?_cons_zero, List.getElem?_cons_succ, List.set_cons_zero, List.set_cons_succ, Vb.storeTg, Vb.storeAll, Option.map_some, List.length_cons, List.length_nil, Nat.zero_add, Nat.reduceAdd, Vb.ln0, Vb.ln1, Vb.ln2, Vb.ln3, Vb.ln4, Vb.ln5, Vb.ln6, if_true, Vb.newObj, Vb.it_tup, Vb.it_ref, Vb.it_str, Vb.ty_join, Vb.ty_split, Vb.ty_append, Vb.ty_extend, Vb.ty_pop, Option.isSome_some, List.map_cons, List.map_nil, Bool.false_eq_true, if_false, Vb.tr_bl, Vb.wipeL, decide_true, decide_false, Bool.not_true, Bool.not_false, Vb.b_add, Vb.b_sub, Vb.c_lt, Vb.c_le, Vb.c_gt, Vb.c_ge, Vb.c_eq_int, Vb.c_ne_int, Vb.c_isn_non, Vb.c_isn_int, Vb.c_isn_tup, Vb.c_notn_non, Vb.c_notn_int, Vb.c_notn_tup, Vb.ix_tup, Vb.bi_list_tup, Vb.isi_int_non, Vb.isi_int_bl, Vb.isi_int_int, Vb.isi_int_str, Vb.isi_int_tup, Vb.isi_int_ref, Vb.isi_bool_non, Vb.isi_bool_bl, Vb.isi_bool_int, Vb.isi_bool_str, Vb.isi_bool_tup, Vb.isi_bool_ref, Vb.isi_str_non, Vb.isi_str_bl, Vb.isi_str_int, Vb.isi_str_str, Vb.isi_str_tup, Vb.isi_str_ref, Vb.isi_tup_non, Vb.isi_tup_bl, Vb.isi_tup_int, Vb.isi_tup_str, Vb.isi_tup_tup, Vb.isi_tup_ref, Vb.isi_lst_non, Vb.isi_lst_bl, Vb.isi_lst_int, Vb.isi_lst_str, Vb.isi_lst_tup, Vb.isi_lst_ref]
      rw [List.length_map, b_mod (by omega)]
      try simp only [Vb.execs, Vb.exec, Vb.evalE, Vb.evalEs, Vb.evalT, Vb.evalI, Vb.evalO, Vb.evalOT, Vb.asgS, Vb.bind_ok, Vb.bind_assoc, Vb.then_ok, Vb.then_bind, Vb.next_then, Vb.next_next, Vb.next_nx, Vb.next_rt, Vb.next_bk, Vb.next_ct, Vb.fin_then, Vb.fin_rt, Vb.fin_nx, Vb.opt_some, Vb.cb_fn, Vb.cb_cls, Vb.gl0, Vb.gls, List.getElem?_cons_zero, List.getElem?_cons_succ, List.set_cons_zero, List.set_cons_succ, Vb.storeTg, Vb.storeAll, Option.map_some, List.length_cons, List.length_nil, Nat.zero_add, Nat.reduceAdd, Vb.ln0, Vb.ln1, Vb.ln2, Vb.ln3, Vb.ln4, Vb.ln5, Vb.ln6, if_true, Vb.newObj, Vb.it_tup, Vb.it_ref, Vb.it_str, Vb.ty_join, Vb.ty_split, Vb.ty_append, Vb.ty_extend, Vb.ty_pop, Option.isSome_some, List.map_cons, List.map_nil, Bool.false_eq_true, if_false, Vb.tr_bl, Vb.wipeL, decide_true, decide_false, Bool.not_true, Bool.not_false, Vb.b_add, Vb.b_sub, Vb.c_lt, Vb.c_le, Vb.c_gt, Vb.c_ge, Vb.c_eq_int, Vb.c_ne_int, Vb.c_isn_non, Vb.c_isn_int, Vb.c_isn_tup, Vb.c_notn_non, Vb.c_notn_int, Vb.c_notn_tup, Vb.ix_tup, Vb.bi_list_tup, Vb.isi_int_non, Vb.isi_int_bl, Vb.isi_int_int, Vb.isi_int_str, Vb.isi_int_tup, Vb.isi_int_ref, Vb.isi_bool_non, Vb.isi_bool_bl, Vb.isi_bool_int, Vb.isi_bool_str, Vb.isi_bool_tup, Vb.isi_bool_ref, Vb.isi_str_non, Vb.isi_str_bl, Vb.isi_str_int, Vb.isi_str_str, Vb.isi_str_tup, Vb.isi_str_ref, Vb.isi_tup_non, Vb.isi_tup_bl, Vb.isi_tup_int, Vb.isi_tup_str, Vb.isi_tup_tup, Vb.isi_tup_ref, Vb.isi_lst_non, Vb.isi_lst_bl, Vb.isi_lst_int, Vb.isi_lst_str, Vb.isi_lst_tup, Vb.isi_lst_ref]
      rw [ix_ro z0]
      have m0 := Int.emod_nonneg k (show (ns.length : Int) ≠ 0 by omega)
      have m1 := Int.emod_lt_of_pos k (show (0 : Int) < ns.length by omega)
      have e2 : L2.ixN (ns.map PV.int).length (k % ns.length) = some (k % ns.length).toNat := by
        unfold L2.ixN
        rw [if_pos m0, if_pos (by rw [List.length_map]; exact m1)]
      have lt : (k % ns.length).toNat < ns.length := by omega
      have e3 : L2.atI (ns.map PV.int) (k % ns.length) = some (.int ns[(k % ns.length).toNat]) := by
        unfold L2.atI
        rw [e2]
        simp [lt]
      rw [e3]
      exact .ret ⟨⟨_, rfl⟩, rfl⟩
  refine Ok.bind cell ?_
  rintro _ h' ⟨⟨c, rfl⟩, rfl⟩
  have kp : Keep [] h (h ++ [MO.lst []]) := .push _
  generalize h ++ [MO.lst []] = h1 at z0 kp
  try simp only [Vb.execs, Vb.exec, Vb.evalE, Vb.evalEs, Vb.evalT, Vb.evalI, Vb.evalO, Vb.evalOT, Vb.asgS, Vb.bind_ok, Vb.bind_assoc, Vb.then_ok, Vb.then_bind, Vb.next_then, Vb.next_next, Vb.next_nx, Vb.next_rt, Vb.next_bk, Vb.next_ct, Vb.fin_then, Vb.fin_rt, Vb.fin_nx, Vb.opt_some, Vb.cb_fn, Vb.cb_cls, Vb.gl0, Vb.gls, List.getElem?_cons_zero, List.getElem?_cons_succ, List.set_cons_zero, List.set_cons_succ, Vb.storeTg, Vb.storeAll, Option.map_some, List.length_cons, List.length_nil, Nat.zero_add, Nat.reduceAdd, Vb.ln0, Vb.ln1, Vb.ln2, Vb.ln3, Vb.ln4, Vb.ln5, Vb.ln6, if_true, Vb.newObj, Vb.it_tup, Vb.it_ref, Vb.it_str, Vb.ty_join, Vb.ty_split, Vb.ty_append, Vb.ty_extend, Vb.ty_pop, Option.isSome_some, List.map_cons, List.map_nil, Bool.false_eq_true, if_false, Vb.tr_bl, Vb.wipeL, decide_true, decide_false, Bool.not_true, Bool.not_false, Vb.b_add, Vb.b_sub, Vb.c_lt, Vb.c_le, Vb.c_gt, Vb.c_ge, Vb.c_eq_int, Vb.c_ne_int, Vb.c_isn_non, Vb.c_isn_int, Vb.c_isn_tup, Vb.c_notn_non, Vb.c_notn_int, Vb.c_notn_tup, Vb.ix_tup, Vb.bi_list_tup, Vb.isi_int_non, Vb.isi_int_bl, Vb.isi_int_int, Vb.isi_int_str, Vb.isi_int_tup, Vb.isi_int_ref, Vb.isi_bool_non, Vb.isi_bool_bl, Vb.isi_bool_int, Vb.isi_bool_str, Vb.isi_bool_tup, Vb.isi_bool_ref, Vb.isi_str_non, Vb.isi_str_bl, Vb.isi_str_int, Vb.isi_str_str, Vb.isi_str_tup, Vb.isi_str_ref, Vb.isi_tup_non, Vb.isi_tup_bl, Vb.isi_tup_int, Vb.isi_tup_str, Vb.isi_tup_tup, Vb.isi_tup_ref, Vb.isi_lst_non, Vb.isi_lst_bl, Vb.isi_lst_int, Vb.isi_lst_str, Vb.isi_lst_tup, Vb.isi_lst_ref, b_pow18]
  have own : Ok (match decide (1000000000000000000 ≤ c) with
      | true => Res.ok (PV.int c) h1
      | false => Res.ok (PV.int 0) h1) fun v h' => (∃ c : Int, v = .int c) ∧ h' = h1 := by
    cases decide (1000000000000000000 ≤ c) <;> exact .ret ⟨⟨_, rfl⟩, rfl⟩
  refine Ok.bind own ?_
  rintro _ h' ⟨⟨o, rfl⟩, rfl⟩
  rw [bi_len_ro z0]
  try simp only [Vb.execs, Vb.exec, Vb.evalE, Vb.evalEs, Vb.evalT, Vb.evalI, Vb.evalO, Vb.evalOT, Vb.asgS, Vb.bind_ok, Vb.bind_assoc, Vb.then_ok, Vb.then_bind, Vb.next_then, Vb.next_next, Vb.next_nx, Vb.next_rt, Vb.next_bk, Vb.next_ct, Vb.fin_then, Vb.fin_rt, Vb.fin_nx, Vb.opt_some, Vb.cb_fn, Vb.cb_cls, Vb.gl0, Vb.gls, List.getElem?_cons_zero, List.getElem?_cons_succ, List.set_cons_zero, List.set_cons_succ, Vb.storeTg, Vb.storeAll, Option.map_some, List.length_cons, List.length_nil, Nat.zero_add, Nat.reduceAdd, Vb.ln0, Vb.ln1, Vb.ln2, Vb.ln3, Vb.ln4, Vb.ln5, Vb.ln6, if_true, Vb.newObj, Vb.it_tup, Vb.it_ref, Vb.it_str, Vb.ty_join, Vb.ty_split, Vb.ty_append, Vb.ty_extend, Vb.ty_pop, Option.isSome_some, List.map_cons, List.map_nil, Bool.false_eq_true, if_false, Vb.tr_bl, Vb.wipeL, decide_true, decide_false, Bool.not_true, Bool.not_false, Vb.b_add, Vb.b_sub, Vb.c_lt, Vb.c_le, Vb.c_gt, Vb.c_ge, Vb.c_eq_int, Vb.c_ne_int, Vb.c_isn_non, Vb.c_isn_int, Vb.c_isn_tup, Vb.c_notn_non, Vb.c_notn_int, Vb.c_notn_tup, Vb.ix_tup, Vb.bi_list_tup, Vb.isi_int_non, Vb.isi_int_bl, Vb.isi_int_int, Vb.isi_int_str, Vb.isi_int_tup, Vb.isi_int_ref, Vb.isi_bool_non, Vb.isi_bool_bl, Vb.isi_bool_int, Vb.isi_bool_str, Vb.isi_bool_tup, Vb.isi_bool_ref, Vb.isi_str_non, Vb.isi_str_bl, Vb.isi_str_int, Vb.isi_str_str, Vb.isi_str_tup, Vb.isi_str_ref, Vb.isi_tup_non, Vb.isi_tup_bl, Vb.isi_tup_int, Vb.isi_tup_str, Vb.isi_tup_tup, Vb.isi_tup_ref, Vb.isi_lst_non, Vb.isi_lst_bl, Vb.isi_lst_int, Vb.isi_lst_str, Vb.isi_lst_tup, Vb.isi_lst_ref]
  have mx : ∃ m : Int, biS .max2 [.int 1, .int (ns.map PV.int).length] h' = .ok (.int m) h' ∧ 1 ≤ m ∧ (m ≤ 1 ∨ m ≤ ns.length) := by
    refine ⟨_, rfl, ?_⟩
    rw [List.length_map]
    by_cases q : ((ns.length : Int)) > 1
    · rw [if_pos q]; omega
    · rw [if_neg q]; omega
  obtain ⟨m, em, m1, m2⟩ := mx
  rw [em]
  try simp only [Vb.execs, Vb.exec, Vb.evalE, Vb.evalEs, Vb.evalT, Vb.evalI, Vb.evalO, Vb.evalOT, Vb.asgS, Vb.bind_ok, Vb.bind_assoc, Vb.then_ok, Vb.then_bind, Vb.next_then, Vb.next_next, Vb.next_nx, Vb.next_rt, Vb.next_bk, Vb.next_ct, Vb.fin_then, Vb.fin_rt, Vb.fin_nx, Vb.opt_some, Vb.cb_fn, Vb.cb_cls, Vb.gl0, Vb.gls, List.getElem?_cons_zero, List.getElem?_cons_succ, List.set_cons_zero, List.set_cons_succ, Vb.storeTg, Vb.storeAll, Option.map_some, List.length_cons, List.length_nil, Nat.zero_add, Nat.reduceAdd, Vb.ln0, Vb.ln1, Vb.ln2, Vb.ln3, Vb.ln4, Vb.ln5, Vb.ln6, if_true, Vb.newObj, Vb.it_tup, Vb.it_ref, Vb.it_str, Vb.ty_join, Vb.ty_split, Vb.ty_append, Vb.ty_extend, Vb.ty_pop, Option.isSome_some, List.map_cons, List.map_nil, Bool.false_eq_true, if_false, Vb.tr_bl, Vb.wipeL, decide_true, decide_false, Bool.not_true, Bool.not_false, Vb.b_add, Vb.b_sub, Vb.c_lt, Vb.c_le, Vb.c_gt, Vb.c_ge, Vb.c_eq_int, Vb.c_ne_int, Vb.c_isn_non, Vb.c_isn_int, Vb.c_isn_tup, Vb.c_notn_non, Vb.c_notn_int, Vb.c_notn_tup, Vb.ix_tup, Vb.bi_list_tup, Vb.isi_int_non, Vb.isi_int_bl, Vb.isi_int_int, Vb.isi_int_str, Vb.isi_int_tup, Vb.isi_int_ref, Vb.isi_bool_non, Vb.isi_bool_bl, Vb.isi_bool_int, Vb.isi_bool_str, Vb.isi_bool_tup, Vb.isi_bool_ref, Vb.isi_str_non, Vb.isi_str_bl, Vb.isi_str_int, Vb.isi_str_str, Vb.isi_str_tup, Vb.isi_str_ref, Vb.isi_tup_non, Vb.isi_tup_bl, Vb.isi_tup_int, Vb.isi_tup_str, Vb.isi_tup_tup, Vb.isi_tup_ref, Vb.isi_lst_non, Vb.isi_lst_bl, Vb.isi_lst_int, Vb.isi_lst_str, Vb.isi_lst_tup, Vb.isi_lst_ref]
  have q0 : 0 ≤ k / m := Int.ediv_nonneg k0 (by omega)
  have q1 : k / m ≤ k := Int.ediv_le_self m k0
  try simp only [Vb.execs, Vb.exec, Vb.evalE, Vb.evalEs, Vb.evalT, Vb.evalI, Vb.evalO, Vb.evalOT, Vb.asgS, Vb.bind_ok, Vb.bind_assoc, Vb.then_ok, Vb.then_bind, Vb.next_then, Vb.next_next, Vb.next_nx, Vb.next_rt, Vb.next_bk, Vb.next_ct, Vb.fin_then, Vb.fin_rt, Vb.fin_nx, Vb.opt_some, Vb.cb_fn, Vb.cb_cls, Vb.gl0, Vb.gls, List.getElem?_cons_zero, List.getElem?_cons_succ, List.set_cons_zero, List.set_cons_succ, Vb.storeTg, Vb.storeAll, Option.map_some, List.length_cons, List.length_nil, Nat.zero_add, Nat.reduceAdd, Vb.ln0, Vb.ln1, Vb.ln2, Vb.ln3, Vb.ln4, Vb.ln5, Vb.ln6, if_true, Vb.newObj, Vb.it_tup, Vb.it_ref, Vb.it_str, Vb.ty_join, Vb.ty_split, Vb.ty_append, Vb.ty_extend, Vb.ty_pop, Option.isSome_some, List.map_cons, List.map_nil, Bool.false_eq_true, if_false, Vb.tr_bl, Vb.wipeL, decide_true, decide_false, Bool.not_true, Bool.not_false, Vb.b_add, Vb.b_sub, Vb.c_lt, Vb.c_le, Vb.c_gt, Vb.c_ge, Vb.c_eq_int, Vb.c_ne_int, Vb.c_isn_non, Vb.c_isn_int, Vb.c_isn_tup, Vb.c_notn_non, Vb.c_notn_int, Vb.c_notn_tup, Vb.ix_tup, Vb.bi_list_tup, Vb.isi_int_non, Vb.isi_int_bl, Vb.isi_int_int, Vb.isi_int_str, Vb.isi_int_tup, Vb.isi_int_ref, Vb.isi_bool_non, Vb.isi_bool_bl, Vb.isi_bool_int, Vb.isi_bool_str, Vb.isi_bool_tup, Vb.isi_bool_ref, Vb.isi_str_non, Vb.isi_str_bl, Vb.isi_str_int, Vb.isi_str_str, Vb.isi_str_tup, Vb.isi_str_ref, Vb.isi_tup_non, Vb.isi_tup_bl, Vb.isi_tup_int, Vb.isi_tup_str, Vb.isi_tup_tup, Vb.isi_tup_ref, Vb.isi_lst_non, Vb.isi_lst_bl, Vb.isi_lst_int, Vb.isi_lst_str, Vb.isi_lst_tup, Vb.isi_lst_ref, b_fdiv (show (0 : Int) < m by omega) (show m < 2 ^ 63 by omega), sm62 (n := k / m) (by omega) (by omega)]
  refine SOk.finN (for_inv (fun rest lo h2 => ∃ (x : Int) (z : Option PV), lo = [some (.ref 0), some (.int k), some (.int c), some (.int x), z] ∧ h2 = h') (fun _ _ => False) (fun _ _ _ _ => trivial) ?_ _ _ _ ⟨o, none, rfl, rfl⟩) ?_
  · rintro v rest lo h2 ⟨x, z, rfl, rfl⟩
    try simp only [Vb.execs, Vb.exec, Vb.evalE, Vb.evalEs, Vb.evalT, Vb.evalI, Vb.evalO, Vb.evalOT, Vb.asgS, Vb.bind_ok, Vb.bind_assoc, Vb.then_ok, Vb.then_bind, Vb.next_then, Vb.next_next, Vb.next_nx, Vb.next_rt, Vb.next_bk, Vb.next_ct, Vb.fin_then, Vb.fin_rt, Vb.fin_nx, Vb.opt_some, Vb.cb_fn, Vb.cb_cls, Vb.gl0, Vb.gls, List.getElem?_cons_zero, List.getElem?_cons_succ, List.set_cons_zero, List.set_cons_succ, Vb.storeTg, Vb.storeAll, Option.map_some, List.length_cons, List.length_nil, Nat.zero_add, Nat.reduceAdd, Vb.ln0, Vb.ln1, Vb.ln2, Vb.ln3, Vb.ln4, Vb.ln5, Vb.ln6, if_true, Vb.newObj, Vb.it_tup, Vb.it_ref, Vb.it_str, Vb.ty_join, Vb.ty_split, Vb.ty_append, Vb.ty_extend, Vb.ty_pop, Option.isSome_some, List.map_cons, List.map_nil, Bool.false_eq_true, if_false, Vb.tr_bl, Vb.wipeL, decide_true, decide_false, Bool.not_true, Bool.not_false, Vb.b_add, Vb.b_sub, Vb.c_lt, Vb.c_le, Vb.c_gt, Vb.c_ge, Vb.c_eq_int, Vb.c_ne_int, Vb.c_isn_non, Vb.c_isn_int, Vb.c_isn_tup, Vb.c_notn_non, Vb.c_notn_int, Vb.c_notn_tup, Vb.ix_tup, Vb.bi_list_tup, Vb.isi_int_non, Vb.isi_int_bl, Vb.isi_int_int, Vb.isi_int_str, Vb.isi_int_tup, Vb.isi_int_ref, Vb.isi_bool_non, Vb.isi_bool_bl, Vb.isi_bool_int, Vb.isi_bool_str, Vb.isi_bool_tup, Vb.isi_bool_ref, Vb.isi_str_non, Vb.isi_str_bl, Vb.isi_str_int, Vb.isi_str_str, Vb.isi_str_tup, Vb.isi_str_ref, Vb.isi_tup_non, Vb.isi_tup_bl, Vb.isi_tup_int, Vb.isi_tup_str, Vb.isi_tup_tup, Vb.isi_tup_ref, Vb.isi_lst_non, Vb.isi_lst_bl, Vb.isi_lst_int, Vb.isi_lst_str, Vb.isi_lst_tup, Vb.isi_lst_ref, b_pow18, b_fdiv (show (0 : Int) < 1000000000000000000 by decide) (show (1000000000000000000 : Int) < 2 ^ 63 by decide)]
    exact .ret ⟨_, _, rfl, rfl⟩
  · rintro fl h2 q
    cases fl with
    | nx lo =>
      obtain ⟨x, z, rfl, rfl⟩ := q
      try simp only [Vb.execs, Vb.exec, Vb.evalE, Vb.evalEs, Vb.evalT, Vb.evalI, Vb.evalO, Vb.evalOT, Vb.asgS, Vb.bind_ok, Vb.bind_assoc, Vb.then_ok, Vb.then_bind, Vb.next_then, Vb.next_next, Vb.next_nx, Vb.next_rt, Vb.next_bk, Vb.next_ct, Vb.fin_then, Vb.fin_rt, Vb.fin_nx, Vb.opt_some, Vb.cb_fn, Vb.cb_cls, Vb.gl0, Vb.gls, List.getElem?_cons_zero, List.getElem?_cons_succ, List.set_cons_zero, List.set_cons_succ, Vb.storeTg, Vb.storeAll, Option.map_some, List.length_cons, List.length_nil, Nat.zero_add, Nat.reduceAdd, Vb.ln0, Vb.ln1, Vb.ln2, Vb.ln3, Vb.ln4, Vb.ln5, Vb.ln6, if_true, Vb.newObj, Vb.it_tup, Vb.it_ref, Vb.it_str, Vb.ty_join, Vb.ty_split, Vb.ty_append, Vb.ty_extend, Vb.ty_pop, Option.isSome_some, List.map_cons, List.map_nil, Bool.false_eq_true, if_false, Vb.tr_bl, Vb.wipeL, decide_true, decide_false, Bool.not_true, Bool.not_false, Vb.b_add, Vb.b_sub, Vb.c_lt, Vb.c_le, Vb.c_gt, Vb.c_ge, Vb.c_eq_int, Vb.c_ne_int, Vb.c_isn_non, Vb.c_isn_int, Vb.c_isn_tup, Vb.c_notn_non, Vb.c_notn_int, Vb.c_notn_tup, Vb.ix_tup, Vb.bi_list_tup, Vb.isi_int_non, Vb.isi_int_bl, Vb.isi_int_int, Vb.isi_int_str, Vb.isi_int_tup, Vb.isi_int_ref, Vb.isi_bool_non, Vb.isi_bool_bl, Vb.isi_bool_int, Vb.isi_bool_str, Vb.isi_bool_tup, Vb.isi_bool_ref, Vb.isi_str_non, Vb.isi_str_bl, Vb.isi_str_int, Vb.isi_str_str, Vb.isi_str_tup, Vb.isi_str_ref, Vb.isi_tup_non, Vb.isi_tup_bl, Vb.isi_tup_int, Vb.isi_tup_str, Vb.isi_tup_tup, Vb.isi_tup_ref, Vb.isi_lst_non, Vb.isi_lst_bl, Vb.isi_lst_int, Vb.isi_lst_str, Vb.isi_lst_tup, Vb.isi_lst_ref, b_mulL (show big64 64 = true by decide)]
      exact .ret ⟨_, rfl, kp.len, kp.trans (.push _), c, 64 * k, x, get_new, by omega, by omega⟩
    | _ => exact q.elim
end V87

set_option Elab.async false
set_option linter.all false
set_option maxRecDepth 100000
set_option maxHeartbeats 2000000
namespace V87
open PySem Vb
theorem ok_tl {x : Str} (h : ∀ c ∈ TL.tl x, c < 0x110000) : PyData.strOk x = true := by
  unfold PyData.strOk
  rw [Array.all_eq_true']
  intro c hc
  exact decide_eq_true (h c (by simpa using hc))
theorem ok_num {i : Int} (h : 0 ≤ i) : PyData.strOk (numS i) = true := ok_tl fun c hc => by
  rw [tl_numS h] at hc
  have := TL.numL_digits _ c hc
  omega
theorem num_head : ∀ n : Nat, (TL.numL n).head? = some 48 → n = 0 := by
  intro n
  induction n using Nat.strongRecOn with
  | _ n ih =>
    intro h
    by_cases c : n < 10
    · rw [TL.numL_lt c] at h
      simp at h
      omega
    · rw [TL.numL_step (by omega)] at h
      have ne := TL.numL_ne (n / 10)
      have h2 : (TL.numL (n / 10)).head? = some 48 := by
        cases q : TL.numL (n / 10) with
        | nil => exact absurd q ne
        | cons a b => rw [q] at h; simpa using h
      have := ih (n / 10) (by omega) h2
      omega
theorem digit_in {c : Nat} (h0 : 48 ≤ c) (h1 : c ≤ 57) : inStr ⟨#[c]⟩ "0123456789" = true := by
  have : c = 48 ∨ c = 49 ∨ c = 50 ∨ c = 51 ∨ c = 52 ∨ c = 53 ∨ c = 54 ∨ c = 55 ∨ c = 56 ∨ c = 57 := by omega
  rcases this with rfl | rfl | rfl | rfl | rfl | rfl | rfl | rfl | rfl | rfl <;> decide +kernel
theorem all_true {α : Type} : ∀ xs : List α, bools (xs.map fun _ => PV.bl true) = some (xs.map fun _ => true)
  | [] => rfl
  | x :: xs => by
    have ih := all_true xs
    unfold bools at ih ⊢
    simp only [List.map_cons, optAll, ih]
theorem bi_all_true {α : Type} {r : Nat} {xs : List α} {h : MH} (e : h[r]? = some (.lst (xs.map fun _ => PV.bl true))) : biS .all [.ref r] h = .ok (.bl true) h := by
  simp only [biS, e, all_true, Option.map_some, opt_some]
  have : (xs.map fun _ => true).all id = true := by simp
  rw [this]
theorem bi_len_str {x : Str} {h : MH} (z : x.length ≤ sizeLine) : biS .len [.str x] h = .ok (.int x.length) h := if_pos z
theorem bi_int_str {x : Str} {i : Int} {h : MH} (z : x.length ≤ 640) (e : PySem.intText? x = some i) : biS .int [.str x] h = .ok (.int i) h := by
  show (if x.length ≤ 640 then ofOpt h ((PySem.intText? x).map PV.int) else .no) = _
  rw [if_pos z, e]
  rfl
theorem ix_str {x : Str} {i : Int} {h : MH} (z : x.length ≤ sizeLine) : idxS (.str x) (.int i) h = (L2.atI x.cps.toList i).map fun c => .str ⟨#[c]⟩ := if_pos z
theorem sp3 (n : Nat) (h : MH) (i : Int) (h0 : 0 ≤ i) (h1 : i ≤ 9999) : Ok (callF Pr (n + 1) 3 [.str (numS i)] h) fun v h' => v = .int i ∧ Keep [] h h' := by
  have ln := numS_len h0 h1
  have lne : 1 ≤ (numS i).length := by
    rw [TL.len_tl, tl_numS h0]
    exact List.length_pos_iff.mpr (TL.numL_ne _)
  have line : (numS i).length ≤ sizeLine := line_ok (by omega)
  rw [callF_at (d := d3) rfl rfl]
  show Ok (finF (execs (cbK Pr n) Pr.xt Pr.wl b3 [some (.str (numS i)), none] h)) _
  unfold b3
  try simp only [Vb.execs, Vb.exec, Vb.evalE, Vb.evalEs, Vb.evalT, Vb.evalI, Vb.evalO, Vb.evalOT, Vb.asgS, Vb.bind_ok, Vb.bind_assoc, Vb.then_ok, Vb.then_bind, Vb.next_then, Vb.next_next, Vb.next_nx, Vb.next_rt, Vb.next_bk, Vb.next_ct, Vb.fin_then, Vb.fin_rt, Vb.fin_nx, Vb.opt_some, Vb.cb_fn, Vb.cb_cls, Vb.gl0, Vb.gls, List.getElem?_cons_zero, List.getElem?_cons_succ, List.set_cons_zero, List.set_cons_succ, Vb.storeTg, Vb.storeAll, Option.map_some, List.length_cons, List.length_nil, Nat.zero_add, Nat.reduceAdd, Vb.ln0, Vb.ln1, Vb.ln2, Vb.ln3, Vb.ln4, Vb.ln5, Vb.ln6, if_true, Vb.newObj, Vb.it_tup, Vb.it_ref, Vb.it_str, Vb.ty_join, Vb.ty_split, Vb.ty_append, Vb.ty_extend, Vb.ty_pop, Option.isSome_some, List.map_cons, List.map_nil, Bool.false_eq_true, if_false, Vb.tr_bl, Vb.wipeL, decide_true, decide_false, Bool.not_true, Bool.not_false, Vb.b_add, Vb.b_sub, Vb.c_lt, Vb.c_le, Vb.c_gt, Vb.c_ge, Vb.c_eq_int, Vb.c_ne_int, Vb.c_isn_non, Vb.c_isn_int, Vb.c_isn_tup, Vb.c_notn_non, Vb.c_notn_int, Vb.c_notn_tup, Vb.ix_tup, Vb.bi_list_tup, Vb.isi_int_non, Vb.isi_int_bl, Vb.isi_int_int, Vb.isi_int_str, Vb.isi_int_tup, Vb.isi_int_ref, Vb.isi_bool_non, Vb.isi_bool_bl, Vb.isi_bool_int, Vb.isi_bool_str, Vb.isi_bool_tup, Vb.isi_bool_ref, Vb.isi_str_non, Vb.isi_str_bl, Vb.isi_str_int, Vb.isi_str_str, Vb.isi_str_tup, Vb.isi_str_ref, Vb.isi_tup_non, Vb.isi_tup_bl, Vb.isi_tup_int, Vb.isi_tup_str, Vb.isi_tup_tup, Vb.isi_tup_ref, Vb.isi_lst_non, Vb.isi_lst_bl, Vb.isi_lst_int, Vb.isi_lst_str, Vb.isi_lst_tup, Vb.isi_lst_ref, bi_len_str line, decide_eq_true (show (1 : Int) ≤ (numS i).length by omega), decide_eq_true (show ((numS i).length : Int) ≤ 4 by omega)]
  refine Ok.bind (lc_pure (F := fun _ => .bl true) (fun _ _ => trivial) (by rw [List.length_map, ← TL.len_tl]; exact line) ?_) ?_
  · intro v hv h1' k1
    obtain ⟨c, hc, rfl⟩ := List.mem_map.mp hv
    have hd : 48 ≤ c ∧ c ≤ 57 := TL.numL_digits i.toNat c (by rw [← tl_numS h0]; exact hc)
    have e : cmpS .in_ (.str ⟨#[c]⟩) (.str "0123456789") h1' = some true := by
      show some (inStr ⟨#[c]⟩ "0123456789") = _
      rw [digit_in hd.1 hd.2]
    rw [e]
    exact .ret ⟨rfl, .refl⟩
  · rintro _ h2 ⟨rfl, e2, k2⟩
    rw [bi_all_true e2]
    try simp only [Vb.execs, Vb.exec, Vb.evalE, Vb.evalEs, Vb.evalT, Vb.evalI, Vb.evalO, Vb.evalOT, Vb.asgS, Vb.bind_ok, Vb.bind_assoc, Vb.then_ok, Vb.then_bind, Vb.next_then, Vb.next_next, Vb.next_nx, Vb.next_rt, Vb.next_bk, Vb.next_ct, Vb.fin_then, Vb.fin_rt, Vb.fin_nx, Vb.opt_some, Vb.cb_fn, Vb.cb_cls, Vb.gl0, Vb.gls, List.getElem?_cons_zero, List.getElem?_cons_succ, List.set_cons_zero, List.set_cons_succ, Vb.storeTg, Vb.storeAll, Option.map_some, List.length_cons, List.length_nil, Nat.zero_add, Nat.reduceAdd, Vb.ln0, Vb.ln1, Vb.ln2, Vb.ln3, Vb.ln4, Vb.ln5, Vb.ln6, if_true, Vb.newObj, Vb.it_tup, Vb.it_ref, Vb.it_str, Vb.ty_join, Vb.ty_split, Vb.ty_append, Vb.ty_extend, Vb.ty_pop, Option.isSome_some, List.map_cons, List.map_nil, Bool.false_eq_true, if_false, Vb.tr_bl, Vb.wipeL, decide_true, decide_false, Bool.not_true, Bool.not_false, Vb.b_add, Vb.b_sub, Vb.c_lt, Vb.c_le, Vb.c_gt, Vb.c_ge, Vb.c_eq_int, Vb.c_ne_int, Vb.c_isn_non, Vb.c_isn_int, Vb.c_isn_tup, Vb.c_notn_non, Vb.c_notn_int, Vb.c_notn_tup, Vb.ix_tup, Vb.bi_list_tup, Vb.isi_int_non, Vb.isi_int_bl, Vb.isi_int_int, Vb.isi_int_str, Vb.isi_int_tup, Vb.isi_int_ref, Vb.isi_bool_non, Vb.isi_bool_bl, Vb.isi_bool_int, Vb.isi_bool_str, Vb.isi_bool_tup, Vb.isi_bool_ref, Vb.isi_str_non, Vb.isi_str_bl, Vb.isi_str_int, Vb.isi_str_str, Vb.isi_str_tup, Vb.isi_str_ref, Vb.isi_tup_non, Vb.isi_tup_bl, Vb.isi_tup_int, Vb.isi_tup_str, Vb.isi_tup_tup, Vb.isi_tup_ref, Vb.isi_lst_non, Vb.isi_lst_bl, Vb.isi_lst_int, Vb.isi_lst_str, Vb.isi_lst_tup, Vb.isi_lst_ref, ix_str line]
    -- the first sign
    obtain ⟨c, cs, ec⟩ : ∃ c cs, TL.tl (numS i) = c :: cs := by
      cases q : TL.tl (numS i) with
      | nil => rw [TL.len_tl, q] at lne; simp at lne
      | cons c cs => exact ⟨c, cs, rfl⟩
    have at0 : L2.atI (numS i).cps.toList 0 = some c := by
      have : (numS i).cps.toList = c :: cs := ec
      rw [this]
      unfold L2.atI L2.ixN
      rw [if_pos (by decide), if_pos (by simp)]
      rfl
    rw [at0]
    have okc : PyData.strOk (⟨#[c]⟩ : Str) = true := ok_tl fun x hx => by
      have hx' : x = c := by simpa [TL.tl] using hx
      have hd := TL.numL_digits i.toNat c (by rw [← tl_numS h0, ec]; simp)
      omega
    have ok0 : PyData.strOk ("0" : Str) = true := by decide +kernel
    try simp only [Vb.execs, Vb.exec, Vb.evalE, Vb.evalEs, Vb.evalT, Vb.evalI, Vb.evalO, Vb.evalOT, Vb.asgS, Vb.bind_ok, Vb.bind_assoc, Vb.then_ok, Vb.then_bind, Vb.next_then, Vb.next_next, Vb.next_nx, Vb.next_rt, Vb.next_bk, Vb.next_ct, Vb.fin_then, Vb.fin_rt, Vb.fin_nx, Vb.opt_some, Vb.cb_fn, Vb.cb_cls, Vb.gl0, Vb.gls, List.getElem?_cons_zero, List.getElem?_cons_succ, List.set_cons_zero, List.set_cons_succ, Vb.storeTg, Vb.storeAll, Option.map_some, List.length_cons, List.length_nil, Nat.zero_add, Nat.reduceAdd, Vb.ln0, Vb.ln1, Vb.ln2, Vb.ln3, Vb.ln4, Vb.ln5, Vb.ln6, if_true, Vb.newObj, Vb.it_tup, Vb.it_ref, Vb.it_str, Vb.ty_join, Vb.ty_split, Vb.ty_append, Vb.ty_extend, Vb.ty_pop, Option.isSome_some, List.map_cons, List.map_nil, Bool.false_eq_true, if_false, Vb.tr_bl, Vb.wipeL, decide_true, decide_false, Bool.not_true, Bool.not_false, Vb.b_add, Vb.b_sub, Vb.c_lt, Vb.c_le, Vb.c_gt, Vb.c_ge, Vb.c_eq_int, Vb.c_ne_int, Vb.c_isn_non, Vb.c_isn_int, Vb.c_isn_tup, Vb.c_notn_non, Vb.c_notn_int, Vb.c_notn_tup, Vb.ix_tup, Vb.bi_list_tup, Vb.isi_int_non, Vb.isi_int_bl, Vb.isi_int_int, Vb.isi_int_str, Vb.isi_int_tup, Vb.isi_int_ref, Vb.isi_bool_non, Vb.isi_bool_bl, Vb.isi_bool_int, Vb.isi_bool_str, Vb.isi_bool_tup, Vb.isi_bool_ref, Vb.isi_str_non, Vb.isi_str_bl, Vb.isi_str_int, Vb.isi_str_str, Vb.isi_str_tup, Vb.isi_str_ref, Vb.isi_tup_non, Vb.isi_tup_bl, Vb.isi_tup_int, Vb.isi_tup_str, Vb.isi_tup_tup, Vb.isi_tup_ref, Vb.isi_lst_non, Vb.isi_lst_bl, Vb.isi_lst_int, Vb.isi_lst_str, Vb.isi_lst_tup, Vb.isi_lst_ref, c_eq_str okc ok0, c_ne_str (ok_num h0) ok0]
    have fin : Ok ((biS .int [.str (numS i)] h2).bind fun v h => Res.ok v h) fun v h' => v = PV.int i ∧ Keep [] h h' := by
      rw [bi_int_str (i := i) (by omega) (by
        rw [numS_eq h0, TL.int_num]
        · simp; omega
        · have := TL.numL_len (n := i.toNat) (k := 4) (by decide) (by omega)
          omega)]
      exact .ret ⟨rfl, k2⟩
    by_cases hz : (⟨#[c]⟩ : Str) = "0"
    · -- then it is 0 itself
      have c48 : c = 48 := by
        have := congrArg TL.tl hz
        have e : TL.tl ("0" : Str) = [48] := by decide
        rw [e] at this
        simpa [TL.tl] using this
      have i0 : i = 0 := by
        have := num_head i.toNat (by rw [← tl_numS h0, ec, c48]; rfl)
        omega
      subst i0
      have en : numS 0 = "0" := by decide
      simp only [decide_eq_true hz, decide_eq_true en, Bool.not_true]
      exact fin
    · simp only [decide_eq_false hz]
      exact fin
end V87

set_option Elab.async false
set_option linter.all false
set_option maxRecDepth 100000
set_option maxHeartbeats 2000000
namespace V87
open PySem Vb
/-! ### the data of things -/
def toD : Nat → PV → PyData
  | _, .int i => .int i
  | _, .str x => .str x
  | _, .non => .none
  | d + 1, .tup xs => .tuple (xs.map (toD d))
  | _, _ => .none
theorem optAll_map {α β : Type} {f : α → Option β} {g : α → β} : ∀ {l : List α}, (∀ x ∈ l, f x = some (g x)) → optAll f l = some (l.map g)
  | [], _ => rfl
  | x :: l, h => by
    simp only [optAll, h x List.mem_cons_self, optAll_map (l := l) fun y hy => h y (List.mem_cons_of_mem _ hy), List.map_cons]
theorem data_T {h : MH} : ∀ (d n : Nat) (v : PV), isT d v → d ≤ n → data h n v = some (toD d v) := by
  intro d
  induction d with
  | zero =>
    intro n v hv hn
    rcases isT_cases hv with ⟨i, rfl, _⟩ | ⟨e, xs, h0, _⟩
    · cases n <;> rfl
    · cases h0
  | succ d ih =>
    intro n v hv hn
    rcases isT_cases hv with ⟨i, rfl, _⟩ | ⟨e, xs, h0, rfl, h1⟩
    · cases n <;> rfl
    · cases h0
      obtain ⟨m, rfl⟩ : ∃ m, n = m + 1 := ⟨n - 1, by omega⟩
      show (optAll (data h m) xs).map PyData.tuple = _
      rw [optAll_map fun x hx => ih m x (h1 x hx) (by omega)]
      rfl
theorem lay_all {l : List PyData} (h : ∀ x ∈ l, x.canLay0 = true) : PyData.canLayAll0 l = true := by
  induction l with
  | nil => rfl
  | cons x l ih =>
    simp [PyData.canLayAll0, h x List.mem_cons_self, ih fun y hy => h y (List.mem_cons_of_mem _ hy)]
theorem lay_T : ∀ (d : Nat) (v : PV), isT d v → (toD d v).canLay0 = true := by
  intro d
  induction d with
  | zero =>
    intro v hv
    rcases isT_cases hv with ⟨i, rfl, _⟩ | ⟨e, xs, h0, _⟩
    · simp [toD, PyData.canLay0]
    · cases h0
  | succ d ih =>
    intro v hv
    rcases isT_cases hv with ⟨i, rfl, _⟩ | ⟨e, xs, h0, rfl, h1⟩
    · simp [toD, PyData.canLay0]
    · cases h0
      simp only [toD, PyData.canLay0]
      exact lay_all fun x hx => by
        obtain ⟨y, hy, rfl⟩ := List.mem_map.mp hx
        exact ih y (h1 y hy)
theorem none_T {d : Nat} {v : PV} (hv : isT d v) : PyData.eqv (toD d v) .none = false := by
  rcases isT_cases hv with ⟨i, rfl, _⟩ | ⟨e, xs, rfl, rfl, _⟩
  · have : toD d (.int i) = .int i := by cases d <;> rfl
    rw [this]; simp [PyData.eqv]
  · simp [toD, PyData.eqv]
/-- no None among things in a list -/
theorem no_none {h : MH} {r : Nat} {xs : List PV} (e : h[r]? = some (.lst xs)) (hx : ∀ x ∈ xs, isT 8 x) : cmpS .in_ .non (.ref r) h = some false := by
  have a : data h deepest (.ref r) = some (.list (xs.map (toD 8))) := by
    show (match seqAt h r with
      | some xs => (optAll (data h 23) xs).map PyData.list
      | none => none) = _
    rw [seq_of e]
    simp only [optAll_map fun x hx' => data_T (h := h) 8 23 x (hx x hx') (by decide), Option.map_some]
  have b : cmpData h (.ref r) = some (.list (xs.map (toD 8))) := by
    unfold cmpData
    rw [a]
    have : (PyData.list (xs.map (toD 8))).canLay0 = true := by
      simp only [PyData.canLay0]
      exact lay_all fun x hx' => by
        obtain ⟨y, hy, rfl⟩ := List.mem_map.mp hx'
        exact lay_T 8 y (hx y hy)
    simp only [this, if_true]
  show (match cmpData h .non, cmpData h (.ref r) with
    | some d, some (.list ds) => some (ds.any fun z => PyData.eqv z d)
    | _, _ => none) = _
  rw [b, d_non]
  simp only
  rw [Option.some.injEq, List.any_eq_false]
  intro x hx'
  obtain ⟨y, hy, rfl⟩ := List.mem_map.mp hx'
  simp [none_T (hx y hy)]
theorem at_last {α : Type} {xs : List α} {x : α} : L2.atI (xs ++ [x]) (-1) = some x := by
  unfold L2.atI L2.ixN
  have e : (-1 + ((xs ++ [x]).length : Int)).toNat = xs.length := by
    rw [List.length_append, List.length_singleton]; omega
  rw [if_neg (by decide), if_pos (by rw [List.length_append, List.length_singleton]; omega), e]
  simp
/-! ### layers -/
def Ls : List Nat → List (List PV) → MH → Prop
  | [], [], _ => True
  | r :: rs, l :: ls, h => h[r]? = some (.lst l) ∧ Ls rs ls h
  | _, _, _ => False
theorem Ls.keep {h h' : MH} {S : List Nat} (k : Keep S h h') : ∀ {rs : List Nat} {ls : List (List PV)}, Ls rs ls h → (∀ r ∈ rs, r ∉ S) → Ls rs ls h'
  | [], [], _, _ => trivial
  | r :: rs, l :: ls, ⟨a, b⟩, z => ⟨k.get a (z r List.mem_cons_self), Ls.keep k b fun x hx => z x (List.mem_cons_of_mem _ hx)⟩
theorem Ls.put {h : MH} {q : Nat} {o : MO} : ∀ {rs : List Nat} {ls : List (List PV)}, Ls rs ls h → q ∉ rs → Ls rs ls (h.set q o)
  | [], [], _, _ => trivial
  | r :: rs, l :: ls, ⟨a, b⟩, z => ⟨get_put a fun e => z (by rw [e]; exact List.mem_cons_self), Ls.put b fun hx => z (List.mem_cons_of_mem _ hx)⟩
theorem Ls.len : ∀ {h : MH} {rs : List Nat} {ls : List (List PV)}, Ls rs ls h → rs.length = ls.length
  | _, [], [], _ => rfl
  | _, r :: rs, l :: ls, ⟨_, b⟩ => congrArg (· + 1) (Ls.len b)
theorem Ls.snoc {h : MH} {r : Nat} {l : List PV} : ∀ {rs : List Nat} {ls : List (List PV)}, Ls rs ls h → h[r]? = some (.lst l) → Ls (rs ++ [r]) (ls ++ [l]) h
  | [], [], _, e => ⟨e, trivial⟩
  | r' :: rs, l' :: ls, ⟨a, b⟩, e => ⟨a, Ls.snoc b e⟩
theorem Ls.last {h : MH} {l : List PV} : ∀ {rs : List Nat} {ls : List (List PV)}, Ls rs (ls ++ [l]) h → ∃ rs' r, rs = rs' ++ [r] ∧ Ls rs' ls h ∧ h[r]? = some (.lst l)
  | [], [], h => False.elim h
  | [], _ :: _, h => False.elim h
  | r :: rs, [], ⟨a, b⟩ => by
    cases rs with
    | nil => exact ⟨[], r, rfl, trivial, a⟩
    | cons _ _ => exact b.elim
  | r :: rs, l' :: ls, ⟨a, b⟩ => by
    obtain ⟨rs', r', rfl, c, e⟩ := Ls.last b
    exact ⟨r :: rs', r', rfl, ⟨a, c⟩, e⟩
/-- the reader's state: L the layers' list, q the words' list -/
structure Lay (L q b : Nat) (ws : List PV) (h0 : MH) (ls : List (List PV)) (l : List PV) (h : MH) : Prop where
  ex : ∃ rs r, h[L]? = some (.lst ((rs ++ [r]).map .ref)) ∧ Ls rs ls h ∧ h[r]? = some (.lst l) ∧ (rs ++ [r]).Nodup ∧ L ∉ rs ++ [r] ∧ q ∉ rs ++ [r] ∧ ∀ x ∈ rs ++ [r], b ≤ x
  ne : q ≠ L
  wl : h[q]? = some (.lst ws)
  bl : b ≤ L
  kp : Keep [] h0 h
  hb : h0.length = b
theorem Lay.rs_lt {h : MH} : ∀ {rs : List Nat} {ls : List (List PV)}, Ls rs ls h → ∀ r ∈ rs, r < h.length
  | [], [], _, r, hr => by cases hr
  | r' :: rs, l :: ls, ⟨a, b⟩, r, hr => by
    rcases List.mem_cons.mp hr with rfl | hr
    · exact lt_of_get a
    · exact Lay.rs_lt b r hr
def bs1 : Vb.S := .if_ (.cmp .eq (.var 2) (.cst (.str "("))) [.expr (.bm .append (.var 1) [.lst []])] [.if_ (.and (.cmp .eq (.var 2) (.cst (.str ")"))) (.cmp .gt (.bi .len [.var 1]) (.cst (.int 1)))) [.asg (.n 3) (.bi .tuple [.bm .pop (.var 1) []]),
     .expr (.bm .append (.idx (.var 1) (.neg (.cst (.int 1)))) [.var 3])] [.expr (.bm .append (.idx (.var 1) (.neg (.cst (.int 1)))) [.call 3 [.var 2]])]]
def bs2 : Vb.S := .if_ (.or (.cmp .gt (.bi .len [.var 1]) (.bin .add (.cst (.int 1)) (.cst (.int 8)))) (.cmp .in_ (.cst (.non)) (.idx (.var 1) (.neg (.cst (.int 1)))))) [.ret (.cst (.non))] []
def bw4 : List Vb.S := [bs1, bs2]
theorem b4_eq : b4 = [.asg (.n 1) (.lst [.lst []]), .for_ (.n 2) (.e (.bm .split (.var 0) [.cst (.str " ")])) bw4,
  .ret (.ife (.and (.cmp .eq (.bi .len [.var 1]) (.cst (.int 1))) (.cmp .eq (.bi .len [.idx (.var 1) (.cst (.int 0))]) (.cst (.int 1)))) (.idx (.idx (.var 1) (.cst (.int 0))) (.cst (.int 0))) (.cst (.non)))] := rfl
theorem okO : PyData.strOk ("(" : Str) = true := by decide +kernel
theorem okC : PyData.strOk (")" : Str) = true := by decide +kernel
section
variable {L q b n : Nat} {ws : List PV} {h0 h : MH} {ls : List (List PV)} {l : List PV} {row : PV} {z : Option PV}
/-- the check behind each word -/
theorem st_check {h : MH} (lay : Lay L q b ws h0 ls l h) (few : ls.length + 1 ≤ 9) (good : ∀ x ∈ l, isT 8 x) {lo : Lo} (hlo : getLo lo 1 = some (.ref L)) :
    Vb.exec (cbK Pr n) Pr.xt Pr.wl bs2 lo h = .ok (.nx lo) h := by
  unfold bs2
  obtain ⟨⟨rs, r, e1, e2, e3, e4, e5, e6, e7⟩, _, _, _, _, _⟩ := lay
  have len : (((rs ++ [r]).map PV.ref).length : Int) = ls.length + 1 := by simp [e2.len]
  have la : L2.atI ((rs ++ [r]).map PV.ref) (-1) = some (.ref r) := by
    rw [List.map_append]; exact at_last
  try simp only [Vb.execs, Vb.exec, Vb.evalE, Vb.evalEs, Vb.evalT, Vb.evalI, Vb.evalO, Vb.evalOT, Vb.asgS, Vb.bind_ok, Vb.bind_assoc, Vb.then_ok, Vb.then_bind, Vb.next_then, Vb.next_next, Vb.next_nx, Vb.next_rt, Vb.next_bk, Vb.next_ct, Vb.fin_then, Vb.fin_rt, Vb.fin_nx, Vb.opt_some, Vb.cb_fn, Vb.cb_cls, Vb.gl0, Vb.gls, List.getElem?_cons_zero, List.getElem?_cons_succ, List.set_cons_zero, List.set_cons_succ, Vb.storeTg, Vb.storeAll, Option.map_some, List.length_cons, List.length_nil, Nat.zero_add, Nat.reduceAdd, Vb.ln0, Vb.ln1, Vb.ln2, Vb.ln3, Vb.ln4, Vb.ln5, Vb.ln6, if_true, Vb.newObj, Vb.it_tup, Vb.it_ref, Vb.it_str, Vb.ty_join, Vb.ty_split, Vb.ty_append, Vb.ty_extend, Vb.ty_pop, Option.isSome_some, List.map_cons, List.map_nil, Bool.false_eq_true, if_false, Vb.tr_bl, Vb.wipeL, decide_true, decide_false, Bool.not_true, Bool.not_false, Vb.b_add, Vb.b_sub, Vb.c_lt, Vb.c_le, Vb.c_gt, Vb.c_ge, Vb.c_eq_int, Vb.c_ne_int, Vb.c_isn_non, Vb.c_isn_int, Vb.c_isn_tup, Vb.c_notn_non, Vb.c_notn_int, Vb.c_notn_tup, Vb.ix_tup, Vb.bi_list_tup, Vb.isi_int_non, Vb.isi_int_bl, Vb.isi_int_int, Vb.isi_int_str, Vb.isi_int_tup, Vb.isi_int_ref, Vb.isi_bool_non, Vb.isi_bool_bl, Vb.isi_bool_int, Vb.isi_bool_str, Vb.isi_bool_tup, Vb.isi_bool_ref, Vb.isi_str_non, Vb.isi_str_bl, Vb.isi_str_int, Vb.isi_str_str, Vb.isi_str_tup, Vb.isi_str_ref, Vb.isi_tup_non, Vb.isi_tup_bl, Vb.isi_tup_int, Vb.isi_tup_str, Vb.isi_tup_tup, Vb.isi_tup_ref, Vb.isi_lst_non, Vb.isi_lst_bl, Vb.isi_lst_int, Vb.isi_lst_str, Vb.isi_lst_tup, Vb.isi_lst_ref, hlo, bi_len_ref e1, len, decide_eq_false (show ¬ ((1 : Int) + 8 < ls.length + 1) by omega), ix_ref e1, la, no_none e3 good]
theorem st_open (lay : Lay L q b ws h0 ls l h) (few : ls.length + 2 ≤ 9) : SOk (Vb.execs (cbK Pr n) Pr.xt Pr.wl bw4 [some row, some (.ref L), some (.str "("), z] h) fun fl h' => fl = .nx [some row, some (.ref L), some (.str "("), z] ∧ Lay L q b ws h0 (ls ++ [l]) [] h' := by
  obtain ⟨⟨rs, r, e1, e2, e3, e4, e5, e6, e7⟩, hne, hw, hb, hk, hl⟩ := lay
  have a1 : Vb.exec (cbK Pr n) Pr.xt Pr.wl bs1 [some row, some (.ref L), some (.str "("), z] h =
      SR.ok (.nx [some row, some (.ref L), some (.str "("), z]) ((h ++ [MO.lst []]).set L (.lst ((rs ++ [r]).map PV.ref ++ [PV.ref h.length]))) := by
    have e1' : (h ++ [MO.lst []])[L]? = some (.lst ((rs ++ [r]).map .ref)) := Keep.get (S := []) (.push _) e1 (by simp)
    unfold bs1
    try simp only [Vb.execs, Vb.exec, Vb.evalE, Vb.evalEs, Vb.evalT, Vb.evalI, Vb.evalO, Vb.evalOT, Vb.asgS, Vb.bind_ok, Vb.bind_assoc, Vb.then_ok, Vb.then_bind, Vb.next_then, Vb.next_next, Vb.next_nx, Vb.next_rt, Vb.next_bk, Vb.next_ct, Vb.fin_then, Vb.fin_rt, Vb.fin_nx, Vb.opt_some, Vb.cb_fn, Vb.cb_cls, Vb.gl0, Vb.gls, List.getElem?_cons_zero, List.getElem?_cons_succ, List.set_cons_zero, List.set_cons_succ, Vb.storeTg, Vb.storeAll, Option.map_some, List.length_cons, List.length_nil, Nat.zero_add, Nat.reduceAdd, Vb.ln0, Vb.ln1, Vb.ln2, Vb.ln3, Vb.ln4, Vb.ln5, Vb.ln6, if_true, Vb.newObj, Vb.it_tup, Vb.it_ref, Vb.it_str, Vb.ty_join, Vb.ty_split, Vb.ty_append, Vb.ty_extend, Vb.ty_pop, Option.isSome_some, List.map_cons, List.map_nil, Bool.false_eq_true, if_false, Vb.tr_bl, Vb.wipeL, decide_true, decide_false, Bool.not_true, Bool.not_false, Vb.b_add, Vb.b_sub, Vb.c_lt, Vb.c_le, Vb.c_gt, Vb.c_ge, Vb.c_eq_int, Vb.c_ne_int, Vb.c_isn_non, Vb.c_isn_int, Vb.c_isn_tup, Vb.c_notn_non, Vb.c_notn_int, Vb.c_notn_tup, Vb.ix_tup, Vb.bi_list_tup, Vb.isi_int_non, Vb.isi_int_bl, Vb.isi_int_int, Vb.isi_int_str, Vb.isi_int_tup, Vb.isi_int_ref, Vb.isi_bool_non, Vb.isi_bool_bl, Vb.isi_bool_int, Vb.isi_bool_str, Vb.isi_bool_tup, Vb.isi_bool_ref, Vb.isi_str_non, Vb.isi_str_bl, Vb.isi_str_int, Vb.isi_str_str, Vb.isi_str_tup, Vb.isi_str_ref, Vb.isi_tup_non, Vb.isi_tup_bl, Vb.isi_tup_int, Vb.isi_tup_str, Vb.isi_tup_tup, Vb.isi_tup_ref, Vb.isi_lst_non, Vb.isi_lst_bl, Vb.isi_lst_int, Vb.isi_lst_str, Vb.isi_lst_tup, Vb.isi_lst_ref, c_eq_str okO okO, decide_eq_true (rfl : ("(" : Str) = "("), seq_of e1]
    rw [bm_append e1' (by
      have := e2.len
      rw [List.length_map, List.length_append, List.length_singleton]
      have big : 100 ≤ sizeLine := by decide
      omega)]
    rfl
  rw [show bw4 = [bs1, bs2] from rfl, exs_cons, a1, next_nx]
  have lay' : Lay L q b ws h0 (ls ++ [l]) [] ((h ++ [MO.lst []]).set L (.lst ((rs ++ [r]).map PV.ref ++ [PV.ref h.length]))) := by
    have kp : Keep [] h (h ++ [MO.lst []]) := .push _
    have hrL : ∀ x ∈ rs ++ [r], x < h.length := Lay.rs_lt (e2.snoc e3)
    have hL := lt_of_get e1
    refine ⟨⟨rs ++ [r], h.length, ?_, ?_, ?_, ?_, ?_, ?_, ?_⟩, hne, get_put (kp.get hw (by simp)) hne, hb, (hk.trans kp).put (.inr (by omega)) _, hl⟩
    · rw [get_set (Keep.get (S := []) kp e1 (by simp))]; simp
    · exact ((e2.snoc e3).keep kp (by simp)).put e5
    · exact get_put get_new (by omega)
    · rw [List.nodup_append]
      refine ⟨e4, by simp, fun x hx y hy => ?_⟩
      rw [List.mem_singleton.mp hy]
      have := hrL x hx
      omega
    · rw [List.mem_append, List.mem_singleton]
      rintro (hx | hx)
      · exact e5 hx
      · omega
    · rw [List.mem_append, List.mem_singleton]
      rintro (hx | hx)
      · exact e6 hx
      · have := lt_of_get hw
        omega
    · intro x hx
      rcases List.mem_append.mp hx with hx | hx
      · exact e7 x hx
      · rw [List.mem_singleton.mp hx]
        have := hk.len
        omega
  rw [exs_cons, st_check lay' (by simp; omega) (fun x hx => by cases hx) rfl, next_nx]
  exact .ret ⟨rfl, lay'⟩
theorem ref_inj : ∀ {a b : List Nat}, a.map PV.ref = b.map PV.ref → a = b
  | [], [], _ => rfl
  | [], _ :: _, e => by simp at e
  | _ :: _, [], e => by simp at e
  | x :: a, y :: b, e => by
    simp only [List.map_cons, List.cons.injEq, PV.ref.injEq] at e
    rw [e.1, ref_inj e.2]
/-- a value at the last layer's end -/
theorem lay_app (lay : Lay L q b ws h0 ls l h) {rs : List Nat} {r : Nat} (e : h[L]? = some (.lst ((rs ++ [r]).map .ref))) (v : PV) : Lay L q b ws h0 ls (l ++ [v]) (h.set r (.lst (l ++ [v]))) := by
  obtain ⟨⟨rs', r', e1, e2, e3, e4, e5, e6, e7⟩, hne, hw, hb, hk, hl⟩ := lay
  have er : (rs ++ [r]) = rs' ++ [r'] := by
    rw [e] at e1
    have := MO.lst.inj (Option.some.inj e1)
    exact ref_inj this
  obtain ⟨rfl, e0⟩ := List.append_inj' er rfl
  obtain rfl : r = r' := by simpa using e0
  have mr : r ∈ rs ++ [r] := by simp
  refine ⟨⟨rs, r, get_put e1 fun z => e5 (by rw [z]; exact mr), e2.put (fun z => ?_), get_set e3, e4, e5, e6, e7⟩, hne, get_put hw fun z => e6 (by rw [z]; exact mr), hb, hk.put (.inr (by rw [hl]; exact e7 r mr)) _, hl⟩
  rw [List.nodup_append] at e4
  exact e4.2.2 r z r (by simp) rfl
theorem num_ne {i : Int} (hi : 0 ≤ i) {x : Str} {c : Nat} (hx : TL.tl x = [c]) (hc : c < 48) : numS i ≠ x := fun e => by
  have := congrArg TL.tl e
  rw [tl_numS hi, hx] at this
  have d := TL.numL_digits i.toNat c (by rw [this]; simp)
  omega
theorem tlO : TL.tl ("(" : Str) = [40] := by decide +kernel
theorem tlC : TL.tl (")" : Str) = [41] := by decide +kernel
theorem st_num (lay : Lay L q b ws h0 ls l h) (few : ls.length + 1 ≤ 9) (small : l.length ≤ 10000000) (good : ∀ x ∈ l, isT 8 x) {i : Int} (i0 : 0 ≤ i) (i1 : i ≤ 9999) : SOk (Vb.execs (cbK Pr (n + 1)) Pr.xt Pr.wl bw4 [some row, some (.ref L), some (.str (numS i)), z] h) fun fl h' => fl = .nx [some row, some (.ref L), some (.str (numS i)), z] ∧ Lay L q b ws h0 ls (l ++ [.int i]) h' := by
  rw [show bw4 = [bs1, bs2] from rfl, exs_cons]
  obtain ⟨rs, r, e1, e2, e3, e4, e5, e6, e7⟩ := lay.ex
  have la : L2.atI ((rs ++ [r]).map PV.ref) (-1) = some (.ref r) := by
    rw [List.map_append]; exact at_last
  unfold bs1
  try simp only [Vb.execs, Vb.exec, Vb.evalE, Vb.evalEs, Vb.evalT, Vb.evalI, Vb.evalO, Vb.evalOT, Vb.asgS, Vb.bind_ok, Vb.bind_assoc, Vb.then_ok, Vb.then_bind, Vb.next_then, Vb.next_next, Vb.next_nx, Vb.next_rt, Vb.next_bk, Vb.next_ct, Vb.fin_then, Vb.fin_rt, Vb.fin_nx, Vb.opt_some, Vb.cb_fn, Vb.cb_cls, Vb.gl0, Vb.gls, List.getElem?_cons_zero, List.getElem?_cons_succ, List.set_cons_zero, List.set_cons_succ, Vb.storeTg, Vb.storeAll, Option.map_some, List.length_cons, List.length_nil, Nat.zero_add, Nat.reduceAdd, Vb.ln0, Vb.ln1, Vb.ln2, Vb.ln3, Vb.ln4, Vb.ln5, Vb.ln6, if_true, Vb.newObj, Vb.it_tup, Vb.it_ref, Vb.it_str, Vb.ty_join, Vb.ty_split, Vb.ty_append, Vb.ty_extend, Vb.ty_pop, Option.isSome_some, List.map_cons, List.map_nil, Bool.false_eq_true, if_false, Vb.tr_bl, Vb.wipeL, decide_true, decide_false, Bool.not_true, Bool.not_false, Vb.b_add, Vb.b_sub, Vb.c_lt, Vb.c_le, Vb.c_gt, Vb.c_ge, Vb.c_eq_int, Vb.c_ne_int, Vb.c_isn_non, Vb.c_isn_int, Vb.c_isn_tup, Vb.c_notn_non, Vb.c_notn_int, Vb.c_notn_tup, Vb.ix_tup, Vb.bi_list_tup, Vb.isi_int_non, Vb.isi_int_bl, Vb.isi_int_int, Vb.isi_int_str, Vb.isi_int_tup, Vb.isi_int_ref, Vb.isi_bool_non, Vb.isi_bool_bl, Vb.isi_bool_int, Vb.isi_bool_str, Vb.isi_bool_tup, Vb.isi_bool_ref, Vb.isi_str_non, Vb.isi_str_bl, Vb.isi_str_int, Vb.isi_str_str, Vb.isi_str_tup, Vb.isi_str_ref, Vb.isi_tup_non, Vb.isi_tup_bl, Vb.isi_tup_int, Vb.isi_tup_str, Vb.isi_tup_tup, Vb.isi_tup_ref, Vb.isi_lst_non, Vb.isi_lst_bl, Vb.isi_lst_int, Vb.isi_lst_str, Vb.isi_lst_tup, Vb.isi_lst_ref, c_eq_str (ok_num i0) okO, decide_eq_false (num_ne i0 tlO (by decide)), c_eq_str (ok_num i0) okC, decide_eq_false (num_ne i0 tlC (by decide)), ix_ref e1, la, seq_of e3]
  refine SOk.then_ (sp3 n h i i0 i1) ?_
  rintro _ h1 ⟨rfl, k1⟩
  have lay1 : Lay L q b ws h0 ls l h1 := by
    obtain ⟨_, hne, hw, hb, hk, hl⟩ := lay
    exact ⟨⟨rs, r, k1.get e1 (by simp), e2.keep k1 (by simp), k1.get e3 (by simp), e4, e5, e6, e7⟩, hne, k1.get hw (by simp), hb, hk.trans k1, hl⟩
  have big : 10000000 < sizeLine := by decide
  rw [bm_append (k1.get e3 (by simp)) (by omega)]
  try simp only [Vb.execs, Vb.exec, Vb.evalE, Vb.evalEs, Vb.evalT, Vb.evalI, Vb.evalO, Vb.evalOT, Vb.asgS, Vb.bind_ok, Vb.bind_assoc, Vb.then_ok, Vb.then_bind, Vb.next_then, Vb.next_next, Vb.next_nx, Vb.next_rt, Vb.next_bk, Vb.next_ct, Vb.fin_then, Vb.fin_rt, Vb.fin_nx, Vb.opt_some, Vb.cb_fn, Vb.cb_cls, Vb.gl0, Vb.gls, List.getElem?_cons_zero, List.getElem?_cons_succ, List.set_cons_zero, List.set_cons_succ, Vb.storeTg, Vb.storeAll, Option.map_some, List.length_cons, List.length_nil, Nat.zero_add, Nat.reduceAdd, Vb.ln0, Vb.ln1, Vb.ln2, Vb.ln3, Vb.ln4, Vb.ln5, Vb.ln6, if_true, Vb.newObj, Vb.it_tup, Vb.it_ref, Vb.it_str, Vb.ty_join, Vb.ty_split, Vb.ty_append, Vb.ty_extend, Vb.ty_pop, Option.isSome_some, List.map_cons, List.map_nil, Bool.false_eq_true, if_false, Vb.tr_bl, Vb.wipeL, decide_true, decide_false, Bool.not_true, Bool.not_false, Vb.b_add, Vb.b_sub, Vb.c_lt, Vb.c_le, Vb.c_gt, Vb.c_ge, Vb.c_eq_int, Vb.c_ne_int, Vb.c_isn_non, Vb.c_isn_int, Vb.c_isn_tup, Vb.c_notn_non, Vb.c_notn_int, Vb.c_notn_tup, Vb.ix_tup, Vb.bi_list_tup, Vb.isi_int_non, Vb.isi_int_bl, Vb.isi_int_int, Vb.isi_int_str, Vb.isi_int_tup, Vb.isi_int_ref, Vb.isi_bool_non, Vb.isi_bool_bl, Vb.isi_bool_int, Vb.isi_bool_str, Vb.isi_bool_tup, Vb.isi_bool_ref, Vb.isi_str_non, Vb.isi_str_bl, Vb.isi_str_int, Vb.isi_str_str, Vb.isi_str_tup, Vb.isi_str_ref, Vb.isi_tup_non, Vb.isi_tup_bl, Vb.isi_tup_int, Vb.isi_tup_str, Vb.isi_tup_tup, Vb.isi_tup_ref, Vb.isi_lst_non, Vb.isi_lst_bl, Vb.isi_lst_int, Vb.isi_lst_str, Vb.isi_lst_tup, Vb.isi_lst_ref]
  have lay2 := lay_app lay1 (k1.get e1 (by simp)) (.int i)
  rw [st_check lay2 few (fun x hx => by
    rcases List.mem_append.mp hx with hx | hx
    · exact good x hx
    · rw [List.mem_singleton.mp hx]; exact ⟨i0, i1⟩) rfl, next_nx]
  exact .ret ⟨rfl, lay2⟩
theorem st_close {p : List PV} (lay : Lay L q b ws h0 (ls ++ [p]) l h) (few : ls.length + 1 ≤ 9) (small : p.length ≤ 10000000) (good : ∀ x ∈ p ++ [.tup l], isT 8 x) : SOk (Vb.execs (cbK Pr (n + 1)) Pr.xt Pr.wl bw4 [some row, some (.ref L), some (.str ")"), z] h) fun fl h' => (∃ z', fl = .nx [some row, some (.ref L), some (.str ")"), z']) ∧ Lay L q b ws h0 ls (p ++ [.tup l]) h' := by
  rw [show bw4 = [bs1, bs2] from rfl, exs_cons]
  obtain ⟨⟨rs0, r, e1, e2, e3, e4, e5, e6, e7⟩, hne, hw, hb, hk, hl⟩ := lay
  obtain ⟨rs, p0, rfl, e8, e9⟩ := e2.last
  have len : ((((rs ++ [p0]) ++ [r]).map PV.ref).length : Int) = rs.length + 2 := by simp
  have cne : (")" : Str) ≠ "(" := fun e => by
    have := congrArg TL.tl e
    rw [tlO, tlC] at this
    cases this
  unfold bs1
  have es : h[L]? = some (.lst ((rs ++ [p0]).map PV.ref ++ [PV.ref r])) := by rw [e1]; simp
  have hLr : L ≠ r := fun z => e5 (by rw [z]; simp)
  have e3' : (h.set L (.lst ((rs ++ [p0]).map PV.ref)))[r]? = some (.lst l) := get_put e3 (Ne.symm hLr)
  have e1' : (h.set L (.lst ((rs ++ [p0]).map PV.ref)))[L]? = some (.lst ((rs ++ [p0]).map PV.ref)) := get_set e1
  have la : L2.atI ((rs ++ [p0]).map PV.ref) (-1) = some (.ref p0) := by
    rw [List.map_append]; exact at_last
  have hLp : L ≠ p0 := fun z => e5 (by rw [z]; simp)
  have e9' : (h.set L (.lst ((rs ++ [p0]).map PV.ref)))[p0]? = some (.lst p) := get_put e9 (Ne.symm hLp)
  try simp only [Vb.execs, Vb.exec, Vb.evalE, Vb.evalEs, Vb.evalT, Vb.evalI, Vb.evalO, Vb.evalOT, Vb.asgS, Vb.bind_ok, Vb.bind_assoc, Vb.then_ok, Vb.then_bind, Vb.next_then, Vb.next_next, Vb.next_nx, Vb.next_rt, Vb.next_bk, Vb.next_ct, Vb.fin_then, Vb.fin_rt, Vb.fin_nx, Vb.opt_some, Vb.cb_fn, Vb.cb_cls, Vb.gl0, Vb.gls, List.getElem?_cons_zero, List.getElem?_cons_succ, List.set_cons_zero, List.set_cons_succ, Vb.storeTg, Vb.storeAll, Option.map_some, List.length_cons, List.length_nil, Nat.zero_add, Nat.reduceAdd, Vb.ln0, Vb.ln1, Vb.ln2, Vb.ln3, Vb.ln4, Vb.ln5, Vb.ln6, if_true, Vb.newObj, Vb.it_tup, Vb.it_ref, Vb.it_str, Vb.ty_join, Vb.ty_split, Vb.ty_append, Vb.ty_extend, Vb.ty_pop, Option.isSome_some, List.map_cons, List.map_nil, Bool.false_eq_true, if_false, Vb.tr_bl, Vb.wipeL, decide_true, decide_false, Bool.not_true, Bool.not_false, Vb.b_add, Vb.b_sub, Vb.c_lt, Vb.c_le, Vb.c_gt, Vb.c_ge, Vb.c_eq_int, Vb.c_ne_int, Vb.c_isn_non, Vb.c_isn_int, Vb.c_isn_tup, Vb.c_notn_non, Vb.c_notn_int, Vb.c_notn_tup, Vb.ix_tup, Vb.bi_list_tup, Vb.isi_int_non, Vb.isi_int_bl, Vb.isi_int_int, Vb.isi_int_str, Vb.isi_int_tup, Vb.isi_int_ref, Vb.isi_bool_non, Vb.isi_bool_bl, Vb.isi_bool_int, Vb.isi_bool_str, Vb.isi_bool_tup, Vb.isi_bool_ref, Vb.isi_str_non, Vb.isi_str_bl, Vb.isi_str_int, Vb.isi_str_str, Vb.isi_str_tup, Vb.isi_str_ref, Vb.isi_tup_non, Vb.isi_tup_bl, Vb.isi_tup_int, Vb.isi_tup_str, Vb.isi_tup_tup, Vb.isi_tup_ref, Vb.isi_lst_non, Vb.isi_lst_bl, Vb.isi_lst_int, Vb.isi_lst_str, Vb.isi_lst_tup, Vb.isi_lst_ref, c_eq_str okC okO, decide_eq_false cne, c_eq_str okC okC, decide_eq_true (rfl : (")" : Str) = ")"), bi_len_ref e1, len, decide_eq_true (show (1 : Int) < rs.length + 2 by omega), seq_of e1, bm_pop es, bi_tuple e3', ix_ref e1', la, seq_of e9']
  have big : 10000000 < sizeLine := by decide
  rw [bm_append e9' (by omega)]
  try simp only [Vb.execs, Vb.exec, Vb.evalE, Vb.evalEs, Vb.evalT, Vb.evalI, Vb.evalO, Vb.evalOT, Vb.asgS, Vb.bind_ok, Vb.bind_assoc, Vb.then_ok, Vb.then_bind, Vb.next_then, Vb.next_next, Vb.next_nx, Vb.next_rt, Vb.next_bk, Vb.next_ct, Vb.fin_then, Vb.fin_rt, Vb.fin_nx, Vb.opt_some, Vb.cb_fn, Vb.cb_cls, Vb.gl0, Vb.gls, List.getElem?_cons_zero, List.getElem?_cons_succ, List.set_cons_zero, List.set_cons_succ, Vb.storeTg, Vb.storeAll, Option.map_some, List.length_cons, List.length_nil, Nat.zero_add, Nat.reduceAdd, Vb.ln0, Vb.ln1, Vb.ln2, Vb.ln3, Vb.ln4, Vb.ln5, Vb.ln6, if_true, Vb.newObj, Vb.it_tup, Vb.it_ref, Vb.it_str, Vb.ty_join, Vb.ty_split, Vb.ty_append, Vb.ty_extend, Vb.ty_pop, Option.isSome_some, List.map_cons, List.map_nil, Bool.false_eq_true, if_false, Vb.tr_bl, Vb.wipeL, decide_true, decide_false, Bool.not_true, Bool.not_false, Vb.b_add, Vb.b_sub, Vb.c_lt, Vb.c_le, Vb.c_gt, Vb.c_ge, Vb.c_eq_int, Vb.c_ne_int, Vb.c_isn_non, Vb.c_isn_int, Vb.c_isn_tup, Vb.c_notn_non, Vb.c_notn_int, Vb.c_notn_tup, Vb.ix_tup, Vb.bi_list_tup, Vb.isi_int_non, Vb.isi_int_bl, Vb.isi_int_int, Vb.isi_int_str, Vb.isi_int_tup, Vb.isi_int_ref, Vb.isi_bool_non, Vb.isi_bool_bl, Vb.isi_bool_int, Vb.isi_bool_str, Vb.isi_bool_tup, Vb.isi_bool_ref, Vb.isi_str_non, Vb.isi_str_bl, Vb.isi_str_int, Vb.isi_str_str, Vb.isi_str_tup, Vb.isi_str_ref, Vb.isi_tup_non, Vb.isi_tup_bl, Vb.isi_tup_int, Vb.isi_tup_str, Vb.isi_tup_tup, Vb.isi_tup_ref, Vb.isi_lst_non, Vb.isi_lst_bl, Vb.isi_lst_int, Vb.isi_lst_str, Vb.isi_lst_tup, Vb.isi_lst_ref]
  have lay1 : Lay L q b ws h0 ls p (h.set L (.lst ((rs ++ [p0]).map PV.ref))) := by
    refine ⟨⟨rs, p0, e1', e8.put (fun z => e5 (by simp [z])), e9', ?_, fun z => e5 (List.mem_append_left _ z), fun z => e6 (List.mem_append_left _ z), fun x hx => e7 x (List.mem_append_left _ hx)⟩, hne, get_put hw hne, hb, hk.put (.inr (by omega)) _, hl⟩
    rw [List.nodup_append] at e4
    exact e4.1
  have lay2 := lay_app lay1 e1' (.tup l)
  rw [st_check lay2 few good rfl, next_nx]
  exact .ret ⟨⟨_, rfl⟩, lay2⟩
end
/-! ### words, one behind the other -/
noncomputable def fw (n : Nat) : PV → Lo → MH → SR := fun v lo h => match storeTg (.n 2) v lo with
  | some lo' => Vb.execs (cbK Pr n) Pr.xt Pr.wl bw4 lo' h
  | none => .no
theorem isT_le {d e : Nat} {v : PV} (h : isT d v) (z : d ≤ e) : isT e v := by
  induction z with
  | refl => exact h
  | step _ ih => exact isT_up ih
section
variable {n L q b : Nat} {wl : List PV} {h0 : MH} {row : PV} {G : MH → Prop}
/-- the words ws lead from a state of the reader to another one -/
def Run (n L q b : Nat) (wl : List PV) (h0 : MH) (row : PV) (G : MH → Prop) (ws : List Str) (ls : List (List PV)) (l : List PV) (ls' : List (List PV)) (l' : List PV) : Prop :=
  ∀ (h : MH) (w z : Option PV) (rest : List PV), Lay L q b wl h0 ls l h → ∃ (h' : MH) (w' z' : Option PV), Lay L q b wl h0 ls' l' h' ∧
    forLoop (fw n) G (ws.map .str ++ rest) [some row, some (.ref L), w, z] h = forLoop (fw n) G rest [some row, some (.ref L), w', z'] h'
variable {ws ws' : List Str} {ls ls1 ls2 : List (List PV)} {l l1 l2 : List PV}
theorem Run.nil : Run n L q b wl h0 row G [] ls l ls l := fun h w z rest lay => ⟨h, w, z, lay, rfl⟩
theorem Run.app (a : Run n L q b wl h0 row G ws ls l ls1 l1) (c : Run n L q b wl h0 row G ws' ls1 l1 ls2 l2) : Run n L q b wl h0 row G (ws ++ ws') ls l ls2 l2 := fun h w z rest lay => by
  obtain ⟨h1, w1, z1, lay1, e1⟩ := a h w z (ws'.map .str ++ rest) lay
  obtain ⟨h2, w2, z2, lay2, e2⟩ := c h1 w1 z1 rest lay1
  refine ⟨h2, w2, z2, lay2, ?_⟩
  rw [List.map_append, List.append_assoc, e1, e2]
theorem run_word {w : Str} (gd : ∀ h : MH, h[q]? = some (.lst wl) → G h) (step : ∀ (h : MH) (z : Option PV), Lay L q b wl h0 ls l h → SOk (Vb.execs (cbK Pr n) Pr.xt Pr.wl bw4 [some row, some (.ref L), some (.str w), z] h) fun fl h' => (∃ z', fl = .nx [some row, some (.ref L), some (.str w), z']) ∧ Lay L q b wl h0 ls1 l1 h') :
    Run n L q b wl h0 row G [w] ls l ls1 l1 := fun h w0 z rest lay => by
  obtain ⟨fl, h', e, ⟨z', rfl⟩, lay'⟩ := step h z lay
  refine ⟨h', some (.str w), z', lay', ?_⟩
  show forLoop (fw n) G (.str w :: rest) _ _ = _
  rw [for_cons (gd h lay.wl)]
  have ef : fw n (.str w) [some row, some (.ref L), w0, z] h = .ok (.nx [some row, some (.ref L), some (.str w), z']) h' := e
  rw [ef]
theorem run_thing (gd : ∀ h : MH, h[q]? = some (.lst wl) → G h) : ∀ (d : Nat) (v : PV), isT d v → d ≤ 8 → wt d v ≤ LIM → ∀ (ls : List (List PV)) (l : List PV), ls.length + 1 + d ≤ 9 → (∀ x ∈ l, isT 8 x) → l.length ≤ 10000000 → Run (n + 1) L q b wl h0 row G (wT d v) ls l ls (l ++ [v]) := by
  have leaf : ∀ (d : Nat) (i : Int), 0 ≤ i → i ≤ 9999 → ∀ (ls : List (List PV)) (l : List PV), ls.length + 1 ≤ 9 → (∀ x ∈ l, isT 8 x) → l.length ≤ 10000000 → Run (n + 1) L q b wl h0 row G (wT d (.int i)) ls l ls (l ++ [.int i]) := by
    intro d i i0 i1 ls l few good small
    rw [wT_int]
    refine run_word gd fun h z lay => (st_num lay few small good i0 i1).mono ?_
    rintro fl h' ⟨rfl, lay'⟩
    exact ⟨⟨z, rfl⟩, lay'⟩
  intro d
  induction d with
  | zero =>
    intro v hv hd hw ls l few good small
    rcases isT_cases hv with ⟨i, rfl, i0, i1⟩ | ⟨e, xs, z0, _⟩
    · exact leaf 0 i i0 i1 ls l (by omega) good small
    · cases z0
  | succ d ih =>
    intro v hv hd hw ls l few good small
    rcases isT_cases hv with ⟨i, rfl, i0, i1⟩ | ⟨e, xs, z0, rfl, h1⟩
    · exact leaf _ i i0 i1 ls l (by omega) good small
    · cases z0
      have hl := hL
      have tot : (xs.map (wt d)).sum ≤ LIM := by simp only [wt] at hw; omega
      have cnt : xs.length ≤ (xs.map (wt d)).sum := by
        have := sum_le (l := xs) (f := fun _ => 1) (g := wt d) fun x _ => wt_pos d x
        rwa [sum_ones] at this
      -- all parts
      have inner : ∀ (ys acc : List PV), acc ++ ys = xs → Run (n + 1) L q b wl h0 row G (ys.flatMap (wT d)) (ls ++ [l]) acc (ls ++ [l]) xs := by
        intro ys
        induction ys with
        | nil =>
          intro acc e
          rw [List.append_nil] at e
          subst e
          exact Run.nil
        | cons y ys ihy =>
          intro acc e
          have hy : y ∈ xs := by rw [← e]; simp
          have la : acc.length ≤ xs.length := by rw [← e]; simp
          rw [List.flatMap_cons]
          refine Run.app (ih y (h1 y hy) (by omega) (Nat.le_trans (mem_sum hy) tot) (ls ++ [l]) acc (by simp; omega) (fun x hx => isT_le (h1 x (by rw [← e]; simp [hx])) (by omega)) (by omega)) (ihy (acc ++ [y]) (by rw [← e]; simp))
      have op : Run (n + 1) L q b wl h0 row G [("(" : Str)] ls l (ls ++ [l]) [] := by
        refine run_word gd fun h z lay => (st_open lay (by omega)).mono ?_
        rintro fl h' ⟨rfl, lay'⟩
        exact ⟨⟨z, rfl⟩, lay'⟩
      have cl : Run (n + 1) L q b wl h0 row G [(")" : Str)] (ls ++ [l]) xs ls (l ++ [.tup xs]) := by
        refine run_word gd fun h z lay => (st_close lay (by omega) small (fun x hx => ?_)).mono ?_
        · rcases List.mem_append.mp hx with hx | hx
          · exact good x hx
          · rw [List.mem_singleton.mp hx]; exact isT_le hv hd
        · rintro fl h' ⟨⟨z', rfl⟩, lay'⟩
          exact ⟨⟨z', rfl⟩, lay'⟩
      exact Run.app op (Run.app (inner xs [] rfl) cl)
end
/-- thing_in, at what thing_text writes -/
theorem sp4 {d k : Nat} {v : PV} (h : MH) (hv : isT d v) (hd : d ≤ 8) (hw : wt d v ≤ LIM) (hk : 3 ≤ k) : Ok (callF Pr k 4 [.str (Txt.join " " (wT d v))] h) fun r h' => r = v ∧ Keep [] h h' := by
  obtain ⟨n, rfl⟩ : ∃ n, k = n + 2 := ⟨k - 2, by omega⟩
  have hl := hL
  rw [callF_at (d := d4) rfl rfl]
  show Ok (finF (Vb.execs (cbK Pr (n + 1)) Pr.xt Pr.wl b4 [some (.str (Txt.join " " (wT d v))), none, none, none] h)) _
  rw [b4_eq]
  have back : Txt.split (Txt.join " " (wT d v)) " " = wT d v := TL.split_join (y := " ") (s := 32) (S := []) (by decide +kernel) (by decide +kernel) (wT_ne hv) fun w hw' => by
    rcases wT_mem d v hv w hw' with rfl | rfl | ⟨i, rfl, i0, _⟩
    · rw [tlO]; decide
    · rw [tlC]; decide
    · rw [tl_numS i0]; exact TL.numL_free (.inl (by decide))
  try simp only [Vb.execs, Vb.exec, Vb.evalE, Vb.evalEs, Vb.evalT, Vb.evalI, Vb.evalO, Vb.evalOT, Vb.asgS, Vb.bind_ok, Vb.bind_assoc, Vb.then_ok, Vb.then_bind, Vb.next_then, Vb.next_next, Vb.next_nx, Vb.next_rt, Vb.next_bk, Vb.next_ct, Vb.fin_then, Vb.fin_rt, Vb.fin_nx, Vb.opt_some, Vb.cb_fn, Vb.cb_cls, Vb.gl0, Vb.gls, List.getElem?_cons_zero, List.getElem?_cons_succ, List.set_cons_zero, List.set_cons_succ, Vb.storeTg, Vb.storeAll, Option.map_some, List.length_cons, List.length_nil, Nat.zero_add, Nat.reduceAdd, Vb.ln0, Vb.ln1, Vb.ln2, Vb.ln3, Vb.ln4, Vb.ln5, Vb.ln6, if_true, Vb.newObj, Vb.it_tup, Vb.it_ref, Vb.it_str, Vb.ty_join, Vb.ty_split, Vb.ty_append, Vb.ty_extend, Vb.ty_pop, Option.isSome_some, List.map_cons, List.map_nil, Bool.false_eq_true, if_false, Vb.tr_bl, Vb.wipeL, decide_true, decide_false, Bool.not_true, Bool.not_false, Vb.b_add, Vb.b_sub, Vb.c_lt, Vb.c_le, Vb.c_gt, Vb.c_ge, Vb.c_eq_int, Vb.c_ne_int, Vb.c_isn_non, Vb.c_isn_int, Vb.c_isn_tup, Vb.c_notn_non, Vb.c_notn_int, Vb.c_notn_tup, Vb.ix_tup, Vb.bi_list_tup, Vb.isi_int_non, Vb.isi_int_bl, Vb.isi_int_int, Vb.isi_int_str, Vb.isi_int_tup, Vb.isi_int_ref, Vb.isi_bool_non, Vb.isi_bool_bl, Vb.isi_bool_int, Vb.isi_bool_str, Vb.isi_bool_tup, Vb.isi_bool_ref, Vb.isi_str_non, Vb.isi_str_bl, Vb.isi_str_int, Vb.isi_str_str, Vb.isi_str_tup, Vb.isi_str_ref, Vb.isi_tup_non, Vb.isi_tup_bl, Vb.isi_tup_int, Vb.isi_tup_str, Vb.isi_tup_tup, Vb.isi_tup_ref, Vb.isi_lst_non, Vb.isi_lst_bl, Vb.isi_lst_int, Vb.isi_lst_str, Vb.isi_lst_tup, Vb.isi_lst_ref, bm_split (x := Txt.join " " (wT d v)) (y := " ") (by decide +kernel) (line_ok (by have := txt_len hv; omega)), back]
  rw [seq_of get_new]
  try simp only [Vb.execs, Vb.exec, Vb.evalE, Vb.evalEs, Vb.evalT, Vb.evalI, Vb.evalO, Vb.evalOT, Vb.asgS, Vb.bind_ok, Vb.bind_assoc, Vb.then_ok, Vb.then_bind, Vb.next_then, Vb.next_next, Vb.next_nx, Vb.next_rt, Vb.next_bk, Vb.next_ct, Vb.fin_then, Vb.fin_rt, Vb.fin_nx, Vb.opt_some, Vb.cb_fn, Vb.cb_cls, Vb.gl0, Vb.gls, List.getElem?_cons_zero, List.getElem?_cons_succ, List.set_cons_zero, List.set_cons_succ, Vb.storeTg, Vb.storeAll, Option.map_some, List.length_cons, List.length_nil, Nat.zero_add, Nat.reduceAdd, Vb.ln0, Vb.ln1, Vb.ln2, Vb.ln3, Vb.ln4, Vb.ln5, Vb.ln6, if_true, Vb.newObj, Vb.it_tup, Vb.it_ref, Vb.it_str, Vb.ty_join, Vb.ty_split, Vb.ty_append, Vb.ty_extend, Vb.ty_pop, Option.isSome_some, List.map_cons, List.map_nil, Bool.false_eq_true, if_false, Vb.tr_bl, Vb.wipeL, decide_true, decide_false, Bool.not_true, Bool.not_false, Vb.b_add, Vb.b_sub, Vb.c_lt, Vb.c_le, Vb.c_gt, Vb.c_ge, Vb.c_eq_int, Vb.c_ne_int, Vb.c_isn_non, Vb.c_isn_int, Vb.c_isn_tup, Vb.c_notn_non, Vb.c_notn_int, Vb.c_notn_tup, Vb.ix_tup, Vb.bi_list_tup, Vb.isi_int_non, Vb.isi_int_bl, Vb.isi_int_int, Vb.isi_int_str, Vb.isi_int_tup, Vb.isi_int_ref, Vb.isi_bool_non, Vb.isi_bool_bl, Vb.isi_bool_int, Vb.isi_bool_str, Vb.isi_bool_tup, Vb.isi_bool_ref, Vb.isi_str_non, Vb.isi_str_bl, Vb.isi_str_int, Vb.isi_str_str, Vb.isi_str_tup, Vb.isi_str_ref, Vb.isi_tup_non, Vb.isi_tup_bl, Vb.isi_tup_int, Vb.isi_tup_str, Vb.isi_tup_tup, Vb.isi_tup_ref, Vb.isi_lst_non, Vb.isi_lst_bl, Vb.isi_lst_int, Vb.isi_lst_str, Vb.isi_lst_tup, Vb.isi_lst_ref]
  have e0 : (h ++ [MO.lst []])[h.length]? = some (.lst []) := get_new
  have e1 : ((h ++ [MO.lst []]) ++ [MO.lst [PV.ref h.length]])[(h ++ [MO.lst []]).length]? = some (.lst [.ref h.length]) := get_new
  have e2 : (((h ++ [MO.lst []]) ++ [MO.lst [PV.ref h.length]]) ++ [MO.lst ((wT d v).map PV.str)])[((h ++ [MO.lst []]) ++ [MO.lst [PV.ref h.length]]).length]? = some (.lst ((wT d v).map .str)) := get_new
  have e1' := Keep.get (S := []) (.push (MO.lst ((wT d v).map PV.str))) e1 (by simp)
  have e0' := Keep.get (S := []) (.push (MO.lst ((wT d v).map PV.str))) (Keep.get (S := []) (.push (MO.lst [PV.ref h.length])) e0 (by simp)) (by simp)
  have kp : Keep [] h (((h ++ [MO.lst []]) ++ [MO.lst [PV.ref h.length]]) ++ [MO.lst ((wT d v).map PV.str)]) := ((Keep.push _).trans (.push _)).trans (.push _)
  have l1 : (h ++ [MO.lst []]).length = h.length + 1 := by simp
  have l2 : ((h ++ [MO.lst []]) ++ [MO.lst [PV.ref h.length]]).length = h.length + 2 := by simp
  generalize (((h ++ [MO.lst []]) ++ [MO.lst [PV.ref h.length]]) ++ [MO.lst ((wT d v).map PV.str)]) = H at *
  generalize ((h ++ [MO.lst []]) ++ [MO.lst [PV.ref h.length]]).length = q at *
  generalize (h ++ [MO.lst []]).length = L at *
  have lay : Lay L q h.length ((wT d v).map .str) h [] [] H := by
    refine ⟨⟨[], h.length, e1', trivial, e0', by simp, by simp; omega, by simp; omega, fun x hx => ?_⟩, by omega, e2, by omega, kp, rfl⟩
    have : x = h.length := by simpa using hx
    omega
  have gd : ∀ h' : MH, h'[q]? = some (.lst ((wT d v).map .str)) → sameSeq (.ref q) H h' := fun h' e => by
    show h'[q]? = H[q]?
    rw [e, e2]
  show Ok (finF ((forLoop (fw (n + 1)) (sameSeq (.ref q) H) ((wT d v).map .str) [some (.str (Txt.join " " (wT d v))), some (.ref L), none, none] H).next _)) _
  obtain ⟨h', w', z', lay', er⟩ := run_thing (n := n) (row := .str (Txt.join " " (wT d v))) gd d v hv hd hw [] [] (by simp; omega) (fun x hx => by cases hx) (by simp) H none none [] lay
  rw [List.append_nil, for_nil (gd h' lay'.wl)] at er
  rw [er, next_nx]
  obtain ⟨⟨rs, r, f1, f2, f3, _, _, _, _⟩, _, _, _, kq, _⟩ := lay'
  cases rs with
  | cons _ _ => exact f2.elim
  | nil =>
    have f1' : h'[L]? = some (.lst [.ref r]) := f1
    have f3' : h'[r]? = some (.lst [v]) := f3
    try simp only [Vb.execs, Vb.exec, Vb.evalE, Vb.evalEs, Vb.evalT, Vb.evalI, Vb.evalO, Vb.evalOT, Vb.asgS, Vb.bind_ok, Vb.bind_assoc, Vb.then_ok, Vb.then_bind, Vb.next_then, Vb.next_next, Vb.next_nx, Vb.next_rt, Vb.next_bk, Vb.next_ct, Vb.fin_then, Vb.fin_rt, Vb.fin_nx, Vb.opt_some, Vb.cb_fn, Vb.cb_cls, Vb.gl0, Vb.gls, List.getElem?_cons_zero, List.getElem?_cons_succ, List.set_cons_zero, List.set_cons_succ, Vb.storeTg, Vb.storeAll, Option.map_some, List.length_cons, List.length_nil, Nat.zero_add, Nat.reduceAdd, Vb.ln0, Vb.ln1, Vb.ln2, Vb.ln3, Vb.ln4, Vb.ln5, Vb.ln6, if_true, Vb.newObj, Vb.it_tup, Vb.it_ref, Vb.it_str, Vb.ty_join, Vb.ty_split, Vb.ty_append, Vb.ty_extend, Vb.ty_pop, Option.isSome_some, List.map_cons, List.map_nil, Bool.false_eq_true, if_false, Vb.tr_bl, Vb.wipeL, decide_true, decide_false, Bool.not_true, Bool.not_false, Vb.b_add, Vb.b_sub, Vb.c_lt, Vb.c_le, Vb.c_gt, Vb.c_ge, Vb.c_eq_int, Vb.c_ne_int, Vb.c_isn_non, Vb.c_isn_int, Vb.c_isn_tup, Vb.c_notn_non, Vb.c_notn_int, Vb.c_notn_tup, Vb.ix_tup, Vb.bi_list_tup, Vb.isi_int_non, Vb.isi_int_bl, Vb.isi_int_int, Vb.isi_int_str, Vb.isi_int_tup, Vb.isi_int_ref, Vb.isi_bool_non, Vb.isi_bool_bl, Vb.isi_bool_int, Vb.isi_bool_str, Vb.isi_bool_tup, Vb.isi_bool_ref, Vb.isi_str_non, Vb.isi_str_bl, Vb.isi_str_int, Vb.isi_str_str, Vb.isi_str_tup, Vb.isi_str_ref, Vb.isi_tup_non, Vb.isi_tup_bl, Vb.isi_tup_int, Vb.isi_tup_str, Vb.isi_tup_tup, Vb.isi_tup_ref, Vb.isi_lst_non, Vb.isi_lst_bl, Vb.isi_lst_int, Vb.isi_lst_str, Vb.isi_lst_tup, Vb.isi_lst_ref, bi_len_ref f1', bi_len_ref f3', ix_ref f1', ix_ref f3', show ∀ x : PV, L2.atI [x] 0 = some x from fun _ => rfl]
    rw [show decide (((1 : Nat) : Int) = 1) = true from rfl]
    try simp only [Vb.execs, Vb.exec, Vb.evalE, Vb.evalEs, Vb.evalT, Vb.evalI, Vb.evalO, Vb.evalOT, Vb.asgS, Vb.bind_ok, Vb.bind_assoc, Vb.then_ok, Vb.then_bind, Vb.next_then, Vb.next_next, Vb.next_nx, Vb.next_rt, Vb.next_bk, Vb.next_ct, Vb.fin_then, Vb.fin_rt, Vb.fin_nx, Vb.opt_some, Vb.cb_fn, Vb.cb_cls, Vb.gl0, Vb.gls, List.getElem?_cons_zero, List.getElem?_cons_succ, List.set_cons_zero, List.set_cons_succ, Vb.storeTg, Vb.storeAll, Option.map_some, List.length_cons, List.length_nil, Nat.zero_add, Nat.reduceAdd, Vb.ln0, Vb.ln1, Vb.ln2, Vb.ln3, Vb.ln4, Vb.ln5, Vb.ln6, if_true, Vb.newObj, Vb.it_tup, Vb.it_ref, Vb.it_str, Vb.ty_join, Vb.ty_split, Vb.ty_append, Vb.ty_extend, Vb.ty_pop, Option.isSome_some, List.map_cons, List.map_nil, Bool.false_eq_true, if_false, Vb.tr_bl, Vb.wipeL, decide_true, decide_false, Bool.not_true, Bool.not_false, Vb.b_add, Vb.b_sub, Vb.c_lt, Vb.c_le, Vb.c_gt, Vb.c_ge, Vb.c_eq_int, Vb.c_ne_int, Vb.c_isn_non, Vb.c_isn_int, Vb.c_isn_tup, Vb.c_notn_non, Vb.c_notn_int, Vb.c_notn_tup, Vb.ix_tup, Vb.bi_list_tup, Vb.isi_int_non, Vb.isi_int_bl, Vb.isi_int_int, Vb.isi_int_str, Vb.isi_int_tup, Vb.isi_int_ref, Vb.isi_bool_non, Vb.isi_bool_bl, Vb.isi_bool_int, Vb.isi_bool_str, Vb.isi_bool_tup, Vb.isi_bool_ref, Vb.isi_str_non, Vb.isi_str_bl, Vb.isi_str_int, Vb.isi_str_str, Vb.isi_str_tup, Vb.isi_str_ref, Vb.isi_tup_non, Vb.isi_tup_bl, Vb.isi_tup_int, Vb.isi_tup_str, Vb.isi_tup_tup, Vb.isi_tup_ref, Vb.isi_lst_non, Vb.isi_lst_bl, Vb.isi_lst_int, Vb.isi_lst_str, Vb.isi_lst_tup, Vb.isi_lst_ref, ix_ref f1', ix_ref f3', show ∀ x : PV, L2.atI [x] 0 = some x from fun _ => rfl]
    exact .ret ⟨rfl, kq⟩
end V87

set_option Elab.async false
set_option linter.all false
set_option maxRecDepth 100000
set_option maxHeartbeats 2000000
namespace V87
open PySem Vb
theorem isSt_T {v : PV} (h : IsSt v) : isT 8 v ∧ wt 8 v ≤ LIM := ⟨h.2.1, by have := h.2.2; have := hL; omega⟩
def txt (v : PV) : Str := Txt.join " " (wT 8 v)
theorem txt_le {v : PV} (h : IsSt v) : (txt v).length ≤ 300000 := by
  have a := txt_len h.2.1
  have b := h.2.2
  unfold txt
  omega
theorem small_st {v : PV} (h : Small v) : isT 8 v ∧ wt 8 v ≤ LIM := by
  obtain ⟨i, rfl, h0, h1⟩ := h
  exact ⟨⟨h0, h1⟩, by rw [wt_int]; decide⟩
/-! ### thing_of -/
theorem sp5 {k : Nat} {v : PV} (h : MH) (hv : isT 8 v) (hw : wt 8 v ≤ LIM) (hk : 4 ≤ k) : Ok (callF Pr k 5 [.str (txt v)] h) fun r h' => r = v ∧ Keep [] h h' := by
  obtain ⟨n, rfl⟩ : ∃ n, k = n + 1 := ⟨k - 1, by omega⟩
  rw [callF_at (d := d5) rfl rfl]
  show Ok (finF (Vb.execs (cbK Pr n) Pr.xt Pr.wl b5 [some (.str (txt v)), none] h)) _
  unfold b5
  try simp only [Vb.execs, Vb.exec, Vb.evalE, Vb.evalEs, Vb.evalT, Vb.evalI, Vb.evalO, Vb.evalOT, Vb.asgS, Vb.bind_ok, Vb.bind_assoc, Vb.then_ok, Vb.then_bind, Vb.next_then, Vb.next_next, Vb.next_nx, Vb.next_rt, Vb.next_bk, Vb.next_ct, Vb.fin_then, Vb.fin_rt, Vb.fin_nx, Vb.opt_some, Vb.cb_fn, Vb.cb_cls, Vb.gl0, Vb.gls, List.getElem?_cons_zero, List.getElem?_cons_succ, List.set_cons_zero, List.set_cons_succ, Vb.storeTg, Vb.storeAll, Option.map_some, List.length_cons, List.length_nil, Nat.zero_add, Nat.reduceAdd, Vb.ln0, Vb.ln1, Vb.ln2, Vb.ln3, Vb.ln4, Vb.ln5, Vb.ln6, if_true, Vb.newObj, Vb.it_tup, Vb.it_ref, Vb.it_str, Vb.ty_join, Vb.ty_split, Vb.ty_append, Vb.ty_extend, Vb.ty_pop, Option.isSome_some, List.map_cons, List.map_nil, Bool.false_eq_true, if_false, Vb.tr_bl, Vb.wipeL, decide_true, decide_false, Bool.not_true, Bool.not_false, Vb.b_add, Vb.b_sub, Vb.c_lt, Vb.c_le, Vb.c_gt, Vb.c_ge, Vb.c_eq_int, Vb.c_ne_int, Vb.c_isn_non, Vb.c_isn_int, Vb.c_isn_tup, Vb.c_notn_non, Vb.c_notn_int, Vb.c_notn_tup, Vb.ix_tup, Vb.bi_list_tup, Vb.isi_int_non, Vb.isi_int_bl, Vb.isi_int_int, Vb.isi_int_str, Vb.isi_int_tup, Vb.isi_int_ref, Vb.isi_bool_non, Vb.isi_bool_bl, Vb.isi_bool_int, Vb.isi_bool_str, Vb.isi_bool_tup, Vb.isi_bool_ref, Vb.isi_str_non, Vb.isi_str_bl, Vb.isi_str_int, Vb.isi_str_str, Vb.isi_str_tup, Vb.isi_str_ref, Vb.isi_tup_non, Vb.isi_tup_bl, Vb.isi_tup_int, Vb.isi_tup_str, Vb.isi_tup_tup, Vb.isi_tup_ref, Vb.isi_lst_non, Vb.isi_lst_bl, Vb.isi_lst_int, Vb.isi_lst_str, Vb.isi_lst_tup, Vb.isi_lst_ref]
  refine Ok.bind (sp4 h hv (by decide) hw (by omega)) ?_
  rintro _ h1 ⟨rfl, k1⟩
  rcases isT_cases hv with ⟨i, rfl, _⟩ | ⟨e, xs, _, rfl, _⟩
  · try simp only [Vb.execs, Vb.exec, Vb.evalE, Vb.evalEs, Vb.evalT, Vb.evalI, Vb.evalO, Vb.evalOT, Vb.asgS, Vb.bind_ok, Vb.bind_assoc, Vb.then_ok, Vb.then_bind, Vb.next_then, Vb.next_next, Vb.next_nx, Vb.next_rt, Vb.next_bk, Vb.next_ct, Vb.fin_then, Vb.fin_rt, Vb.fin_nx, Vb.opt_some, Vb.cb_fn, Vb.cb_cls, Vb.gl0, Vb.gls, List.getElem?_cons_zero, List.getElem?_cons_succ, List.set_cons_zero, List.set_cons_succ, Vb.storeTg, Vb.storeAll, Option.map_some, List.length_cons, List.length_nil, Nat.zero_add, Nat.reduceAdd, Vb.ln0, Vb.ln1, Vb.ln2, Vb.ln3, Vb.ln4, Vb.ln5, Vb.ln6, if_true, Vb.newObj, Vb.it_tup, Vb.it_ref, Vb.it_str, Vb.ty_join, Vb.ty_split, Vb.ty_append, Vb.ty_extend, Vb.ty_pop, Option.isSome_some, List.map_cons, List.map_nil, Bool.false_eq_true, if_false, Vb.tr_bl, Vb.wipeL, decide_true, decide_false, Bool.not_true, Bool.not_false, Vb.b_add, Vb.b_sub, Vb.c_lt, Vb.c_le, Vb.c_gt, Vb.c_ge, Vb.c_eq_int, Vb.c_ne_int, Vb.c_isn_non, Vb.c_isn_int, Vb.c_isn_tup, Vb.c_notn_non, Vb.c_notn_int, Vb.c_notn_tup, Vb.ix_tup, Vb.bi_list_tup, Vb.isi_int_non, Vb.isi_int_bl, Vb.isi_int_int, Vb.isi_int_str, Vb.isi_int_tup, Vb.isi_int_ref, Vb.isi_bool_non, Vb.isi_bool_bl, Vb.isi_bool_int, Vb.isi_bool_str, Vb.isi_bool_tup, Vb.isi_bool_ref, Vb.isi_str_non, Vb.isi_str_bl, Vb.isi_str_int, Vb.isi_str_str, Vb.isi_str_tup, Vb.isi_str_ref, Vb.isi_tup_non, Vb.isi_tup_bl, Vb.isi_tup_int, Vb.isi_tup_str, Vb.isi_tup_tup, Vb.isi_tup_ref, Vb.isi_lst_non, Vb.isi_lst_bl, Vb.isi_lst_int, Vb.isi_lst_str, Vb.isi_lst_tup, Vb.isi_lst_ref]
    exact .ret ⟨rfl, k1⟩
  · try simp only [Vb.execs, Vb.exec, Vb.evalE, Vb.evalEs, Vb.evalT, Vb.evalI, Vb.evalO, Vb.evalOT, Vb.asgS, Vb.bind_ok, Vb.bind_assoc, Vb.then_ok, Vb.then_bind, Vb.next_then, Vb.next_next, Vb.next_nx, Vb.next_rt, Vb.next_bk, Vb.next_ct, Vb.fin_then, Vb.fin_rt, Vb.fin_nx, Vb.opt_some, Vb.cb_fn, Vb.cb_cls, Vb.gl0, Vb.gls, List.getElem?_cons_zero, List.getElem?_cons_succ, List.set_cons_zero, List.set_cons_succ, Vb.storeTg, Vb.storeAll, Option.map_some, List.length_cons, List.length_nil, Nat.zero_add, Nat.reduceAdd, Vb.ln0, Vb.ln1, Vb.ln2, Vb.ln3, Vb.ln4, Vb.ln5, Vb.ln6, if_true, Vb.newObj, Vb.it_tup, Vb.it_ref, Vb.it_str, Vb.ty_join, Vb.ty_split, Vb.ty_append, Vb.ty_extend, Vb.ty_pop, Option.isSome_some, List.map_cons, List.map_nil, Bool.false_eq_true, if_false, Vb.tr_bl, Vb.wipeL, decide_true, decide_false, Bool.not_true, Bool.not_false, Vb.b_add, Vb.b_sub, Vb.c_lt, Vb.c_le, Vb.c_gt, Vb.c_ge, Vb.c_eq_int, Vb.c_ne_int, Vb.c_isn_non, Vb.c_isn_int, Vb.c_isn_tup, Vb.c_notn_non, Vb.c_notn_int, Vb.c_notn_tup, Vb.ix_tup, Vb.bi_list_tup, Vb.isi_int_non, Vb.isi_int_bl, Vb.isi_int_int, Vb.isi_int_str, Vb.isi_int_tup, Vb.isi_int_ref, Vb.isi_bool_non, Vb.isi_bool_bl, Vb.isi_bool_int, Vb.isi_bool_str, Vb.isi_bool_tup, Vb.isi_bool_ref, Vb.isi_str_non, Vb.isi_str_bl, Vb.isi_str_int, Vb.isi_str_str, Vb.isi_str_tup, Vb.isi_str_ref, Vb.isi_tup_non, Vb.isi_tup_bl, Vb.isi_tup_int, Vb.isi_tup_str, Vb.isi_tup_tup, Vb.isi_tup_ref, Vb.isi_lst_non, Vb.isi_lst_bl, Vb.isi_lst_int, Vb.isi_lst_str, Vb.isi_lst_tup, Vb.isi_lst_ref]
    exact .ret ⟨rfl, k1⟩
/-! ### owners -/
def ownS : PV → Str
  | .int i => if i = -1 then "-" else numS i
  | _ => ""
def numP : PV → Str
  | .int i => numS i
  | _ => ""
theorem tlM : TL.tl ("-" : Str) = [45] := by decide +kernel
theorem okM : PyData.strOk ("-" : Str) = true := by decide +kernel
theorem own_neg : ownS (.int (-1)) = "-" := rfl
theorem own_small {i : Int} (h : 0 ≤ i) : ownS (.int i) = numS i := if_neg (by omega)
theorem ok_own {o : PV} (h : Owner o) : PyData.strOk (ownS o) = true := by
  rcases h with rfl | ⟨i, rfl, h0, _⟩
  · exact okM
  · rw [own_small h0]; exact ok_num h0
theorem own_le {o : PV} (h : Owner o) : (ownS o).length ≤ 4 := by
  rcases h with rfl | ⟨i, rfl, h0, h1⟩
  · decide +kernel
  · rw [own_small h0]; exact numS_len h0 h1
theorem own_free {o : PV} (h : Owner o) {c : Nat} (hc : c < 45) : c ∉ TL.tl (ownS o) := by
  rcases h with rfl | ⟨i, rfl, h0, _⟩
  · rw [own_neg, tlM]; simp; omega
  · rw [own_small h0, tl_numS h0]; exact TL.numL_free (.inl (by omega))
theorem sp6 {n : Nat} {o : PV} (h : MH) (ho : Owner o) : callF Pr (n + 1) 6 [o] h = .ok (.str (ownS o)) h := by
  rw [callF_at (d := d6) rfl rfl]
  show finF (Vb.execs (cbK Pr n) Pr.xt Pr.wl b6 [some o] h) = _
  unfold b6
  rcases ho with rfl | ⟨i, rfl, h0, h1⟩
  · try simp only [Vb.execs, Vb.exec, Vb.evalE, Vb.evalEs, Vb.evalT, Vb.evalI, Vb.evalO, Vb.evalOT, Vb.asgS, Vb.bind_ok, Vb.bind_assoc, Vb.then_ok, Vb.then_bind, Vb.next_then, Vb.next_next, Vb.next_nx, Vb.next_rt, Vb.next_bk, Vb.next_ct, Vb.fin_then, Vb.fin_rt, Vb.fin_nx, Vb.opt_some, Vb.cb_fn, Vb.cb_cls, Vb.gl0, Vb.gls, List.getElem?_cons_zero, List.getElem?_cons_succ, List.set_cons_zero, List.set_cons_succ, Vb.storeTg, Vb.storeAll, Option.map_some, List.length_cons, List.length_nil, Nat.zero_add, Nat.reduceAdd, Vb.ln0, Vb.ln1, Vb.ln2, Vb.ln3, Vb.ln4, Vb.ln5, Vb.ln6, if_true, Vb.newObj, Vb.it_tup, Vb.it_ref, Vb.it_str, Vb.ty_join, Vb.ty_split, Vb.ty_append, Vb.ty_extend, Vb.ty_pop, Option.isSome_some, List.map_cons, List.map_nil, Bool.false_eq_true, if_false, Vb.tr_bl, Vb.wipeL, decide_true, decide_false, Bool.not_true, Bool.not_false, Vb.b_add, Vb.b_sub, Vb.c_lt, Vb.c_le, Vb.c_gt, Vb.c_ge, Vb.c_eq_int, Vb.c_ne_int, Vb.c_isn_non, Vb.c_isn_int, Vb.c_isn_tup, Vb.c_notn_non, Vb.c_notn_int, Vb.c_notn_tup, Vb.ix_tup, Vb.bi_list_tup, Vb.isi_int_non, Vb.isi_int_bl, Vb.isi_int_int, Vb.isi_int_str, Vb.isi_int_tup, Vb.isi_int_ref, Vb.isi_bool_non, Vb.isi_bool_bl, Vb.isi_bool_int, Vb.isi_bool_str, Vb.isi_bool_tup, Vb.isi_bool_ref, Vb.isi_str_non, Vb.isi_str_bl, Vb.isi_str_int, Vb.isi_str_str, Vb.isi_str_tup, Vb.isi_str_ref, Vb.isi_tup_non, Vb.isi_tup_bl, Vb.isi_tup_int, Vb.isi_tup_str, Vb.isi_tup_tup, Vb.isi_tup_ref, Vb.isi_lst_non, Vb.isi_lst_bl, Vb.isi_lst_int, Vb.isi_lst_str, Vb.isi_lst_tup, Vb.isi_lst_ref, decide_eq_true (rfl : (-1 : Int) = -1)]
    rfl
  · try simp only [Vb.execs, Vb.exec, Vb.evalE, Vb.evalEs, Vb.evalT, Vb.evalI, Vb.evalO, Vb.evalOT, Vb.asgS, Vb.bind_ok, Vb.bind_assoc, Vb.then_ok, Vb.then_bind, Vb.next_then, Vb.next_next, Vb.next_nx, Vb.next_rt, Vb.next_bk, Vb.next_ct, Vb.fin_then, Vb.fin_rt, Vb.fin_nx, Vb.opt_some, Vb.cb_fn, Vb.cb_cls, Vb.gl0, Vb.gls, List.getElem?_cons_zero, List.getElem?_cons_succ, List.set_cons_zero, List.set_cons_succ, Vb.storeTg, Vb.storeAll, Option.map_some, List.length_cons, List.length_nil, Nat.zero_add, Nat.reduceAdd, Vb.ln0, Vb.ln1, Vb.ln2, Vb.ln3, Vb.ln4, Vb.ln5, Vb.ln6, if_true, Vb.newObj, Vb.it_tup, Vb.it_ref, Vb.it_str, Vb.ty_join, Vb.ty_split, Vb.ty_append, Vb.ty_extend, Vb.ty_pop, Option.isSome_some, List.map_cons, List.map_nil, Bool.false_eq_true, if_false, Vb.tr_bl, Vb.wipeL, decide_true, decide_false, Bool.not_true, Bool.not_false, Vb.b_add, Vb.b_sub, Vb.c_lt, Vb.c_le, Vb.c_gt, Vb.c_ge, Vb.c_eq_int, Vb.c_ne_int, Vb.c_isn_non, Vb.c_isn_int, Vb.c_isn_tup, Vb.c_notn_non, Vb.c_notn_int, Vb.c_notn_tup, Vb.ix_tup, Vb.bi_list_tup, Vb.isi_int_non, Vb.isi_int_bl, Vb.isi_int_int, Vb.isi_int_str, Vb.isi_int_tup, Vb.isi_int_ref, Vb.isi_bool_non, Vb.isi_bool_bl, Vb.isi_bool_int, Vb.isi_bool_str, Vb.isi_bool_tup, Vb.isi_bool_ref, Vb.isi_str_non, Vb.isi_str_bl, Vb.isi_str_int, Vb.isi_str_str, Vb.isi_str_tup, Vb.isi_str_ref, Vb.isi_tup_non, Vb.isi_tup_bl, Vb.isi_tup_int, Vb.isi_tup_str, Vb.isi_tup_tup, Vb.isi_tup_ref, Vb.isi_lst_non, Vb.isi_lst_bl, Vb.isi_lst_int, Vb.isi_lst_str, Vb.isi_lst_tup, Vb.isi_lst_ref, decide_eq_false (show ¬ i = -1 by omega), str_num h0 h1]
    rw [own_small h0]
theorem sp32 {n : Nat} {o : PV} (h : MH) (ho : Owner o) : callF Pr (n + 1) 32 [o] h = .ok (.str (ownS o)) h := by
  rw [callF_at (d := d32) rfl rfl]
  show finF (Vb.execs (cbK Pr n) Pr.xt Pr.wl b32 [some o] h) = _
  unfold b32
  rcases ho with rfl | ⟨i, rfl, h0, h1⟩
  · try simp only [Vb.execs, Vb.exec, Vb.evalE, Vb.evalEs, Vb.evalT, Vb.evalI, Vb.evalO, Vb.evalOT, Vb.asgS, Vb.bind_ok, Vb.bind_assoc, Vb.then_ok, Vb.then_bind, Vb.next_then, Vb.next_next, Vb.next_nx, Vb.next_rt, Vb.next_bk, Vb.next_ct, Vb.fin_then, Vb.fin_rt, Vb.fin_nx, Vb.opt_some, Vb.cb_fn, Vb.cb_cls, Vb.gl0, Vb.gls, List.getElem?_cons_zero, List.getElem?_cons_succ, List.set_cons_zero, List.set_cons_succ, Vb.storeTg, Vb.storeAll, Option.map_some, List.length_cons, List.length_nil, Nat.zero_add, Nat.reduceAdd, Vb.ln0, Vb.ln1, Vb.ln2, Vb.ln3, Vb.ln4, Vb.ln5, Vb.ln6, if_true, Vb.newObj, Vb.it_tup, Vb.it_ref, Vb.it_str, Vb.ty_join, Vb.ty_split, Vb.ty_append, Vb.ty_extend, Vb.ty_pop, Option.isSome_some, List.map_cons, List.map_nil, Bool.false_eq_true, if_false, Vb.tr_bl, Vb.wipeL, decide_true, decide_false, Bool.not_true, Bool.not_false, Vb.b_add, Vb.b_sub, Vb.c_lt, Vb.c_le, Vb.c_gt, Vb.c_ge, Vb.c_eq_int, Vb.c_ne_int, Vb.c_isn_non, Vb.c_isn_int, Vb.c_isn_tup, Vb.c_notn_non, Vb.c_notn_int, Vb.c_notn_tup, Vb.ix_tup, Vb.bi_list_tup, Vb.isi_int_non, Vb.isi_int_bl, Vb.isi_int_int, Vb.isi_int_str, Vb.isi_int_tup, Vb.isi_int_ref, Vb.isi_bool_non, Vb.isi_bool_bl, Vb.isi_bool_int, Vb.isi_bool_str, Vb.isi_bool_tup, Vb.isi_bool_ref, Vb.isi_str_non, Vb.isi_str_bl, Vb.isi_str_int, Vb.isi_str_str, Vb.isi_str_tup, Vb.isi_str_ref, Vb.isi_tup_non, Vb.isi_tup_bl, Vb.isi_tup_int, Vb.isi_tup_str, Vb.isi_tup_tup, Vb.isi_tup_ref, Vb.isi_lst_non, Vb.isi_lst_bl, Vb.isi_lst_int, Vb.isi_lst_str, Vb.isi_lst_tup, Vb.isi_lst_ref, decide_eq_false (show ¬ (0 : Int) ≤ -1 by decide)]
    rfl
  · try simp only [Vb.execs, Vb.exec, Vb.evalE, Vb.evalEs, Vb.evalT, Vb.evalI, Vb.evalO, Vb.evalOT, Vb.asgS, Vb.bind_ok, Vb.bind_assoc, Vb.then_ok, Vb.then_bind, Vb.next_then, Vb.next_next, Vb.next_nx, Vb.next_rt, Vb.next_bk, Vb.next_ct, Vb.fin_then, Vb.fin_rt, Vb.fin_nx, Vb.opt_some, Vb.cb_fn, Vb.cb_cls, Vb.gl0, Vb.gls, List.getElem?_cons_zero, List.getElem?_cons_succ, List.set_cons_zero, List.set_cons_succ, Vb.storeTg, Vb.storeAll, Option.map_some, List.length_cons, List.length_nil, Nat.zero_add, Nat.reduceAdd, Vb.ln0, Vb.ln1, Vb.ln2, Vb.ln3, Vb.ln4, Vb.ln5, Vb.ln6, if_true, Vb.newObj, Vb.it_tup, Vb.it_ref, Vb.it_str, Vb.ty_join, Vb.ty_split, Vb.ty_append, Vb.ty_extend, Vb.ty_pop, Option.isSome_some, List.map_cons, List.map_nil, Bool.false_eq_true, if_false, Vb.tr_bl, Vb.wipeL, decide_true, decide_false, Bool.not_true, Bool.not_false, Vb.b_add, Vb.b_sub, Vb.c_lt, Vb.c_le, Vb.c_gt, Vb.c_ge, Vb.c_eq_int, Vb.c_ne_int, Vb.c_isn_non, Vb.c_isn_int, Vb.c_isn_tup, Vb.c_notn_non, Vb.c_notn_int, Vb.c_notn_tup, Vb.ix_tup, Vb.bi_list_tup, Vb.isi_int_non, Vb.isi_int_bl, Vb.isi_int_int, Vb.isi_int_str, Vb.isi_int_tup, Vb.isi_int_ref, Vb.isi_bool_non, Vb.isi_bool_bl, Vb.isi_bool_int, Vb.isi_bool_str, Vb.isi_bool_tup, Vb.isi_bool_ref, Vb.isi_str_non, Vb.isi_str_bl, Vb.isi_str_int, Vb.isi_str_str, Vb.isi_str_tup, Vb.isi_str_ref, Vb.isi_tup_non, Vb.isi_tup_bl, Vb.isi_tup_int, Vb.isi_tup_str, Vb.isi_tup_tup, Vb.isi_tup_ref, Vb.isi_lst_non, Vb.isi_lst_bl, Vb.isi_lst_int, Vb.isi_lst_str, Vb.isi_lst_tup, Vb.isi_lst_ref, decide_eq_true h0, str_num h0 h1]
    rw [own_small h0]
theorem sp7 {n : Nat} {o : PV} (h : MH) (ho : Owner o) : Ok (callF Pr (n + 2) 7 [.str (ownS o)] h) fun r h' => r = o ∧ Keep [] h h' := by
  rw [callF_at (d := d7) rfl rfl]
  show Ok (finF (Vb.execs (cbK Pr (n + 1)) Pr.xt Pr.wl b7 [some (.str (ownS o))] h)) _
  unfold b7
  try simp only [Vb.execs, Vb.exec, Vb.evalE, Vb.evalEs, Vb.evalT, Vb.evalI, Vb.evalO, Vb.evalOT, Vb.asgS, Vb.bind_ok, Vb.bind_assoc, Vb.then_ok, Vb.then_bind, Vb.next_then, Vb.next_next, Vb.next_nx, Vb.next_rt, Vb.next_bk, Vb.next_ct, Vb.fin_then, Vb.fin_rt, Vb.fin_nx, Vb.opt_some, Vb.cb_fn, Vb.cb_cls, Vb.gl0, Vb.gls, List.getElem?_cons_zero, List.getElem?_cons_succ, List.set_cons_zero, List.set_cons_succ, Vb.storeTg, Vb.storeAll, Option.map_some, List.length_cons, List.length_nil, Nat.zero_add, Nat.reduceAdd, Vb.ln0, Vb.ln1, Vb.ln2, Vb.ln3, Vb.ln4, Vb.ln5, Vb.ln6, if_true, Vb.newObj, Vb.it_tup, Vb.it_ref, Vb.it_str, Vb.ty_join, Vb.ty_split, Vb.ty_append, Vb.ty_extend, Vb.ty_pop, Option.isSome_some, List.map_cons, List.map_nil, Bool.false_eq_true, if_false, Vb.tr_bl, Vb.wipeL, decide_true, decide_false, Bool.not_true, Bool.not_false, Vb.b_add, Vb.b_sub, Vb.c_lt, Vb.c_le, Vb.c_gt, Vb.c_ge, Vb.c_eq_int, Vb.c_ne_int, Vb.c_isn_non, Vb.c_isn_int, Vb.c_isn_tup, Vb.c_notn_non, Vb.c_notn_int, Vb.c_notn_tup, Vb.ix_tup, Vb.bi_list_tup, Vb.isi_int_non, Vb.isi_int_bl, Vb.isi_int_int, Vb.isi_int_str, Vb.isi_int_tup, Vb.isi_int_ref, Vb.isi_bool_non, Vb.isi_bool_bl, Vb.isi_bool_int, Vb.isi_bool_str, Vb.isi_bool_tup, Vb.isi_bool_ref, Vb.isi_str_non, Vb.isi_str_bl, Vb.isi_str_int, Vb.isi_str_str, Vb.isi_str_tup, Vb.isi_str_ref, Vb.isi_tup_non, Vb.isi_tup_bl, Vb.isi_tup_int, Vb.isi_tup_str, Vb.isi_tup_tup, Vb.isi_tup_ref, Vb.isi_lst_non, Vb.isi_lst_bl, Vb.isi_lst_int, Vb.isi_lst_str, Vb.isi_lst_tup, Vb.isi_lst_ref, c_eq_str (ok_own ho) okM]
  rcases ho with rfl | ⟨i, rfl, h0, h1⟩
  · try simp only [Vb.execs, Vb.exec, Vb.evalE, Vb.evalEs, Vb.evalT, Vb.evalI, Vb.evalO, Vb.evalOT, Vb.asgS, Vb.bind_ok, Vb.bind_assoc, Vb.then_ok, Vb.then_bind, Vb.next_then, Vb.next_next, Vb.next_nx, Vb.next_rt, Vb.next_bk, Vb.next_ct, Vb.fin_then, Vb.fin_rt, Vb.fin_nx, Vb.opt_some, Vb.cb_fn, Vb.cb_cls, Vb.gl0, Vb.gls, List.getElem?_cons_zero, List.getElem?_cons_succ, List.set_cons_zero, List.set_cons_succ, Vb.storeTg, Vb.storeAll, Option.map_some, List.length_cons, List.length_nil, Nat.zero_add, Nat.reduceAdd, Vb.ln0, Vb.ln1, Vb.ln2, Vb.ln3, Vb.ln4, Vb.ln5, Vb.ln6, if_true, Vb.newObj, Vb.it_tup, Vb.it_ref, Vb.it_str, Vb.ty_join, Vb.ty_split, Vb.ty_append, Vb.ty_extend, Vb.ty_pop, Option.isSome_some, List.map_cons, List.map_nil, Bool.false_eq_true, if_false, Vb.tr_bl, Vb.wipeL, decide_true, decide_false, Bool.not_true, Bool.not_false, Vb.b_add, Vb.b_sub, Vb.c_lt, Vb.c_le, Vb.c_gt, Vb.c_ge, Vb.c_eq_int, Vb.c_ne_int, Vb.c_isn_non, Vb.c_isn_int, Vb.c_isn_tup, Vb.c_notn_non, Vb.c_notn_int, Vb.c_notn_tup, Vb.ix_tup, Vb.bi_list_tup, Vb.isi_int_non, Vb.isi_int_bl, Vb.isi_int_int, Vb.isi_int_str, Vb.isi_int_tup, Vb.isi_int_ref, Vb.isi_bool_non, Vb.isi_bool_bl, Vb.isi_bool_int, Vb.isi_bool_str, Vb.isi_bool_tup, Vb.isi_bool_ref, Vb.isi_str_non, Vb.isi_str_bl, Vb.isi_str_int, Vb.isi_str_str, Vb.isi_str_tup, Vb.isi_str_ref, Vb.isi_tup_non, Vb.isi_tup_bl, Vb.isi_tup_int, Vb.isi_tup_str, Vb.isi_tup_tup, Vb.isi_tup_ref, Vb.isi_lst_non, Vb.isi_lst_bl, Vb.isi_lst_int, Vb.isi_lst_str, Vb.isi_lst_tup, Vb.isi_lst_ref, decide_eq_true own_neg]
    exact .ret ⟨rfl, .refl⟩
  · rw [own_small h0]
    have ne : numS i ≠ "-" := num_ne h0 tlM (by decide)
    try simp only [Vb.execs, Vb.exec, Vb.evalE, Vb.evalEs, Vb.evalT, Vb.evalI, Vb.evalO, Vb.evalOT, Vb.asgS, Vb.bind_ok, Vb.bind_assoc, Vb.then_ok, Vb.then_bind, Vb.next_then, Vb.next_next, Vb.next_nx, Vb.next_rt, Vb.next_bk, Vb.next_ct, Vb.fin_then, Vb.fin_rt, Vb.fin_nx, Vb.opt_some, Vb.cb_fn, Vb.cb_cls, Vb.gl0, Vb.gls, List.getElem?_cons_zero, List.getElem?_cons_succ, List.set_cons_zero, List.set_cons_succ, Vb.storeTg, Vb.storeAll, Option.map_some, List.length_cons, List.length_nil, Nat.zero_add, Nat.reduceAdd, Vb.ln0, Vb.ln1, Vb.ln2, Vb.ln3, Vb.ln4, Vb.ln5, Vb.ln6, if_true, Vb.newObj, Vb.it_tup, Vb.it_ref, Vb.it_str, Vb.ty_join, Vb.ty_split, Vb.ty_append, Vb.ty_extend, Vb.ty_pop, Option.isSome_some, List.map_cons, List.map_nil, Bool.false_eq_true, if_false, Vb.tr_bl, Vb.wipeL, decide_true, decide_false, Bool.not_true, Bool.not_false, Vb.b_add, Vb.b_sub, Vb.c_lt, Vb.c_le, Vb.c_gt, Vb.c_ge, Vb.c_eq_int, Vb.c_ne_int, Vb.c_isn_non, Vb.c_isn_int, Vb.c_isn_tup, Vb.c_notn_non, Vb.c_notn_int, Vb.c_notn_tup, Vb.ix_tup, Vb.bi_list_tup, Vb.isi_int_non, Vb.isi_int_bl, Vb.isi_int_int, Vb.isi_int_str, Vb.isi_int_tup, Vb.isi_int_ref, Vb.isi_bool_non, Vb.isi_bool_bl, Vb.isi_bool_int, Vb.isi_bool_str, Vb.isi_bool_tup, Vb.isi_bool_ref, Vb.isi_str_non, Vb.isi_str_bl, Vb.isi_str_int, Vb.isi_str_str, Vb.isi_str_tup, Vb.isi_str_ref, Vb.isi_tup_non, Vb.isi_tup_bl, Vb.isi_tup_int, Vb.isi_tup_str, Vb.isi_tup_tup, Vb.isi_tup_ref, Vb.isi_lst_non, Vb.isi_lst_bl, Vb.isi_lst_int, Vb.isi_lst_str, Vb.isi_lst_tup, Vb.isi_lst_ref, decide_eq_false ne]
    refine Ok.bind (sp3 n h i h0 h1) ?_
    rintro _ h2 ⟨rfl, k2⟩
    exact .ret ⟨rfl, k2⟩
/-! ### rows of a paper -/
def stR (vs : List PV) : List Str := vs.map txt
def headG (o g : PV) : Str := Txt.join " " ["follows", ownS o, numP g]
def rows1 : PV → List Str
  | .tup [.str k, .tup vs] => k :: stR vs
  | .tup [.str _, .tup [o, g], .tup vs] => headG o g :: stR vs
  | _ => []
def rowsP : PV → List Str
  | .tup [.str k, .tup bs, .tup gs] => if k = "parts" then "parts" :: (bs ++ gs).flatMap rows1 else rows1 (.tup [.str k, .tup bs, .tup gs])
  | p => rows1 p
theorem okS {x : Str} (h : PyData.strOk x = true := by decide +kernel) : PyData.strOk x = true := h
theorem str_small {g : PV} {h : MH} (hg : Small g) : biS .str [g] h = .ok (.str (numP g)) h := by
  obtain ⟨i, rfl, h0, h1⟩ := hg
  exact str_num h0 h1
/-- a comprehension of the texts of states -/
theorem lc_states {n fnum : Nat} {vs : List PV} {h : MH} {good : MH → Prop} {f : PV → MH → Res (Option PV)} (gd : ∀ h1, Keep [] h h1 → good h1) (hs : States vs) (hf : ∀ v h1, IsSt v → Ok (f v h1) fun o h2 => o = some (.str (txt v)) ∧ Keep [] h1 h2) :
    Ok (lcLoop f good h.length vs (h ++ [.lst []])) fun r h' => r = .ref h.length ∧ h'[h.length]? = some (.lst ((stR vs).map .str)) ∧ Keep [] h h' := by
  refine (lc_pure (F := fun v => .str (txt v)) gd (line_ok (by have := hs.1; omega)) fun v hv h1 k1 => hf v h1 (hs.2 v hv)).mono ?_
  rintro r h' ⟨rfl, e, k⟩
  exact ⟨rfl, by rw [e]; simp [stR], k⟩
theorem at3 {α : Type} {a b c : α} : L2.atI [a, b, c] (-1) = some c := rfl
theorem at2' {α : Type} {a b : α} : L2.atI [a, b] (-1) = some b := rfl
theorem at20 {α : Type} {a b : α} : L2.atI [a, b] 0 = some a := rfl
theorem at21 {α : Type} {a b : α} : L2.atI [a, b] 1 = some b := rfl
theorem sp8a {n : Nat} (h : MH) {kd : Str} {vs : List PV} (hk : kd = "alone" ∨ kd = "whole") (hs : States vs) : Ok (callF Pr (n + 13) 8 [.tup [.str kd, .tup vs]] h) fun r h' => ∃ q, r = .ref q ∧ h.length ≤ q ∧ h'[q]? = some (.lst ((rows1 (.tup [.str kd, .tup vs])).map .str)) ∧ Keep [] h h' := by
  have ok1 : PyData.strOk kd = true := by rcases hk with rfl | rfl <;> decide +kernel
  have n1 : ¬ kd = "parts" := by rcases hk with rfl | rfl <;> decide +kernel
  have n2 : ¬ kd = "follows" := by rcases hk with rfl | rfl <;> decide +kernel
  rw [callF_at (d := d8) rfl rfl]
  show Ok (finF (Vb.execs (cbK Pr (n + 12)) Pr.xt Pr.wl b8 [some (.tup [.str kd, .tup vs]), none, none, none, none] h)) _
  unfold b8
  try simp only [Vb.execs, Vb.exec, Vb.evalE, Vb.evalEs, Vb.evalT, Vb.evalI, Vb.evalO, Vb.evalOT, Vb.asgS, Vb.bind_ok, Vb.bind_assoc, Vb.then_ok, Vb.then_bind, Vb.next_then, Vb.next_next, Vb.next_nx, Vb.next_rt, Vb.next_bk, Vb.next_ct, Vb.fin_then, Vb.fin_rt, Vb.fin_nx, Vb.opt_some, Vb.cb_fn, Vb.cb_cls, Vb.gl0, Vb.gls, List.getElem?_cons_zero, List.getElem?_cons_succ, List.set_cons_zero, List.set_cons_succ, Vb.storeTg, Vb.storeAll, Option.map_some, List.length_cons, List.length_nil, Nat.zero_add, Nat.reduceAdd, Vb.ln0, Vb.ln1, Vb.ln2, Vb.ln3, Vb.ln4, Vb.ln5, Vb.ln6, if_true, Vb.newObj, Vb.it_tup, Vb.it_ref, Vb.it_str, Vb.ty_join, Vb.ty_split, Vb.ty_append, Vb.ty_extend, Vb.ty_pop, Option.isSome_some, List.map_cons, List.map_nil, Bool.false_eq_true, if_false, Vb.tr_bl, Vb.wipeL, decide_true, decide_false, Bool.not_true, Bool.not_false, Vb.b_add, Vb.b_sub, Vb.c_lt, Vb.c_le, Vb.c_gt, Vb.c_ge, Vb.c_eq_int, Vb.c_ne_int, Vb.c_isn_non, Vb.c_isn_int, Vb.c_isn_tup, Vb.c_notn_non, Vb.c_notn_int, Vb.c_notn_tup, Vb.ix_tup, Vb.bi_list_tup, Vb.isi_int_non, Vb.isi_int_bl, Vb.isi_int_int, Vb.isi_int_str, Vb.isi_int_tup, Vb.isi_int_ref, Vb.isi_bool_non, Vb.isi_bool_bl, Vb.isi_bool_int, Vb.isi_bool_str, Vb.isi_bool_tup, Vb.isi_bool_ref, Vb.isi_str_non, Vb.isi_str_bl, Vb.isi_str_int, Vb.isi_str_str, Vb.isi_str_tup, Vb.isi_str_ref, Vb.isi_tup_non, Vb.isi_tup_bl, Vb.isi_tup_int, Vb.isi_tup_str, Vb.isi_tup_tup, Vb.isi_tup_ref, Vb.isi_lst_non, Vb.isi_lst_bl, Vb.isi_lst_int, Vb.isi_lst_str, Vb.isi_lst_tup, Vb.isi_lst_ref, at20, at2', c_eq_str ok1 (okS (x := "parts")), decide_eq_false n1, c_eq_str ok1 (okS (x := "follows")), decide_eq_false n2]
  refine Ok.bind (lc_states (n := n) (fnum := 2) (fun _ _ => trivial) hs fun v h1 hv => Ok.bind (sp2 h1 (isSt_T hv).1 (isSt_T hv).2 (by omega)) ?_) ?_
  · rintro _ h2 ⟨rfl, k2⟩
    exact .ret ⟨rfl, k2⟩
  · rintro _ h2 ⟨rfl, e2, k2⟩
    rw [bin_lists (k2.get get_new (by simp)) e2 (line_ok (by have := hs.1; simp [stR]; omega))]
    try simp only [Vb.execs, Vb.exec, Vb.evalE, Vb.evalEs, Vb.evalT, Vb.evalI, Vb.evalO, Vb.evalOT, Vb.asgS, Vb.bind_ok, Vb.bind_assoc, Vb.then_ok, Vb.then_bind, Vb.next_then, Vb.next_next, Vb.next_nx, Vb.next_rt, Vb.next_bk, Vb.next_ct, Vb.fin_then, Vb.fin_rt, Vb.fin_nx, Vb.opt_some, Vb.cb_fn, Vb.cb_cls, Vb.gl0, Vb.gls, List.getElem?_cons_zero, List.getElem?_cons_succ, List.set_cons_zero, List.set_cons_succ, Vb.storeTg, Vb.storeAll, Option.map_some, List.length_cons, List.length_nil, Nat.zero_add, Nat.reduceAdd, Vb.ln0, Vb.ln1, Vb.ln2, Vb.ln3, Vb.ln4, Vb.ln5, Vb.ln6, if_true, Vb.newObj, Vb.it_tup, Vb.it_ref, Vb.it_str, Vb.ty_join, Vb.ty_split, Vb.ty_append, Vb.ty_extend, Vb.ty_pop, Option.isSome_some, List.map_cons, List.map_nil, Bool.false_eq_true, if_false, Vb.tr_bl, Vb.wipeL, decide_true, decide_false, Bool.not_true, Bool.not_false, Vb.b_add, Vb.b_sub, Vb.c_lt, Vb.c_le, Vb.c_gt, Vb.c_ge, Vb.c_eq_int, Vb.c_ne_int, Vb.c_isn_non, Vb.c_isn_int, Vb.c_isn_tup, Vb.c_notn_non, Vb.c_notn_int, Vb.c_notn_tup, Vb.ix_tup, Vb.bi_list_tup, Vb.isi_int_non, Vb.isi_int_bl, Vb.isi_int_int, Vb.isi_int_str, Vb.isi_int_tup, Vb.isi_int_ref, Vb.isi_bool_non, Vb.isi_bool_bl, Vb.isi_bool_int, Vb.isi_bool_str, Vb.isi_bool_tup, Vb.isi_bool_ref, Vb.isi_str_non, Vb.isi_str_bl, Vb.isi_str_int, Vb.isi_str_str, Vb.isi_str_tup, Vb.isi_str_ref, Vb.isi_tup_non, Vb.isi_tup_bl, Vb.isi_tup_int, Vb.isi_tup_str, Vb.isi_tup_tup, Vb.isi_tup_ref, Vb.isi_lst_non, Vb.isi_lst_bl, Vb.isi_lst_int, Vb.isi_lst_str, Vb.isi_lst_tup, Vb.isi_lst_ref]
    refine .ret ⟨_, rfl, ?_, get_new, (Keep.push _).trans (k2.trans (.push _))⟩
    have := k2.len
    simp at this
    omega
end V87

set_option Elab.async false
set_option linter.all false
set_option maxRecDepth 100000
set_option maxHeartbeats 2000000
namespace V87
open PySem Vb
theorem len_follows : ("follows" : Str).length = 7 := by decide +kernel
theorem len_sp : (" " : Str).length = 1 := by decide +kernel
theorem num_le {g : PV} (hg : Small g) : (numP g).length ≤ 4 := by
  obtain ⟨i, rfl, h0, h1⟩ := hg
  exact numS_len h0 h1
theorem ok_numP {g : PV} (hg : Small g) : PyData.strOk (numP g) = true := by
  obtain ⟨i, rfl, h0, h1⟩ := hg
  exact ok_num h0
theorem head_le {o g : PV} (ho : Owner o) (hg : Small g) : (headG o g).length ≤ 30 := by
  have a := join_len (s := " ") (ws := ["follows", ownS o, numP g])
  have b := own_le ho
  have c := num_le hg
  simp only [List.map_cons, List.map_nil, List.sum_cons, List.sum_nil, List.length_cons, List.length_nil, len_follows, len_sp] at a
  unfold headG
  omega
theorem nfp : ¬ ("follows" : Str) = "parts" := by decide +kernel
theorem rowsP_goal {o g : PV} {vs : List PV} : rowsP (.tup [.str "follows", .tup [o, g], .tup vs]) = rows1 (.tup [.str "follows", .tup [o, g], .tup vs]) := by
  unfold rowsP
  simp only []
  rw [if_neg nfp]
theorem rowsP_parts {bs gs : List PV} : rowsP (.tup [.str "parts", .tup bs, .tup gs]) = ("parts" : Str) :: (bs ++ gs).flatMap rows1 := by
  unfold rowsP
  simp only []
  rw [if_pos trivial]
theorem join3 {h : MH} {a b c : Str} (z : a.length + b.length + c.length ≤ 1000) : bmS .join (.str " ") [.ref h.length] (h ++ [MO.lst [.str a, .str b, .str c]]) = .ok (.str (Txt.join " " [a, b, c])) (h ++ [MO.lst [.str a, .str b, .str c]]) :=
  bm_join (x := " ") (ws := [a, b, c]) get_new (by
    simp only [List.map_cons, List.map_nil, List.sum_cons, List.sum_nil, List.length_cons, List.length_nil, len_sp]
    omega)
theorem sp8g {n : Nat} (h : MH) {o g : PV} {vs : List PV} (ho : Owner o) (hg : Small g) (hs : States vs) : Ok (callF Pr (n + 13) 8 [.tup [.str "follows", .tup [o, g], .tup vs]] h) fun r h' => ∃ q, r = .ref q ∧ h.length ≤ q ∧ h'[q]? = some (.lst ((headG o g :: stR vs).map .str)) ∧ Keep [] h h' := by
  have n1 : ¬ ("follows" : Str) = "parts" := by decide +kernel
  rw [callF_at (d := d8) rfl rfl]
  show Ok (finF (Vb.execs (cbK Pr (n + 12)) Pr.xt Pr.wl b8 [some (.tup [.str "follows", .tup [o, g], .tup vs]), none, none, none, none] h)) _
  unfold b8
  try simp only [Vb.execs, Vb.exec, Vb.evalE, Vb.evalEs, Vb.evalT, Vb.evalI, Vb.evalO, Vb.evalOT, Vb.asgS, Vb.bind_ok, Vb.bind_assoc, Vb.then_ok, Vb.then_bind, Vb.next_then, Vb.next_next, Vb.next_nx, Vb.next_rt, Vb.next_bk, Vb.next_ct, Vb.fin_then, Vb.fin_rt, Vb.fin_nx, Vb.opt_some, Vb.cb_fn, Vb.cb_cls, Vb.gl0, Vb.gls, List.getElem?_cons_zero, List.getElem?_cons_succ, List.set_cons_zero, List.set_cons_succ, Vb.storeTg, Vb.storeAll, Option.map_some, List.length_cons, List.length_nil, Nat.zero_add, Nat.reduceAdd, Vb.ln0, Vb.ln1, Vb.ln2, Vb.ln3, Vb.ln4, Vb.ln5, Vb.ln6, if_true, Vb.newObj, Vb.it_tup, Vb.it_ref, Vb.it_str, Vb.ty_join, Vb.ty_split, Vb.ty_append, Vb.ty_extend, Vb.ty_pop, Option.isSome_some, List.map_cons, List.map_nil, Bool.false_eq_true, if_false, Vb.tr_bl, Vb.wipeL, decide_true, decide_false, Bool.not_true, Bool.not_false, Vb.b_add, Vb.b_sub, Vb.c_lt, Vb.c_le, Vb.c_gt, Vb.c_ge, Vb.c_eq_int, Vb.c_ne_int, Vb.c_isn_non, Vb.c_isn_int, Vb.c_isn_tup, Vb.c_notn_non, Vb.c_notn_int, Vb.c_notn_tup, Vb.ix_tup, Vb.bi_list_tup, Vb.isi_int_non, Vb.isi_int_bl, Vb.isi_int_int, Vb.isi_int_str, Vb.isi_int_tup, Vb.isi_int_ref, Vb.isi_bool_non, Vb.isi_bool_bl, Vb.isi_bool_int, Vb.isi_bool_str, Vb.isi_bool_tup, Vb.isi_bool_ref, Vb.isi_str_non, Vb.isi_str_bl, Vb.isi_str_int, Vb.isi_str_str, Vb.isi_str_tup, Vb.isi_str_ref, Vb.isi_tup_non, Vb.isi_tup_bl, Vb.isi_tup_int, Vb.isi_tup_str, Vb.isi_tup_tup, Vb.isi_tup_ref, Vb.isi_lst_non, Vb.isi_lst_bl, Vb.isi_lst_int, Vb.isi_lst_str, Vb.isi_lst_tup, Vb.isi_lst_ref, at0, at1, at3, at20, at21, c_eq_str (okS (x := "follows")) (okS (x := "parts")), decide_eq_false n1, c_eq_str (okS (x := "follows")) (okS (x := "follows")), decide_eq_true (rfl : ("follows" : Str) = "follows"), sp6 h ho, str_small hg]
  rw [join3 (by have b := own_le ho; have c := num_le hg; rw [len_follows]; omega)]
  try simp only [Vb.execs, Vb.exec, Vb.evalE, Vb.evalEs, Vb.evalT, Vb.evalI, Vb.evalO, Vb.evalOT, Vb.asgS, Vb.bind_ok, Vb.bind_assoc, Vb.then_ok, Vb.then_bind, Vb.next_then, Vb.next_next, Vb.next_nx, Vb.next_rt, Vb.next_bk, Vb.next_ct, Vb.fin_then, Vb.fin_rt, Vb.fin_nx, Vb.opt_some, Vb.cb_fn, Vb.cb_cls, Vb.gl0, Vb.gls, List.getElem?_cons_zero, List.getElem?_cons_succ, List.set_cons_zero, List.set_cons_succ, Vb.storeTg, Vb.storeAll, Option.map_some, List.length_cons, List.length_nil, Nat.zero_add, Nat.reduceAdd, Vb.ln0, Vb.ln1, Vb.ln2, Vb.ln3, Vb.ln4, Vb.ln5, Vb.ln6, if_true, Vb.newObj, Vb.it_tup, Vb.it_ref, Vb.it_str, Vb.ty_join, Vb.ty_split, Vb.ty_append, Vb.ty_extend, Vb.ty_pop, Option.isSome_some, List.map_cons, List.map_nil, Bool.false_eq_true, if_false, Vb.tr_bl, Vb.wipeL, decide_true, decide_false, Bool.not_true, Bool.not_false, Vb.b_add, Vb.b_sub, Vb.c_lt, Vb.c_le, Vb.c_gt, Vb.c_ge, Vb.c_eq_int, Vb.c_ne_int, Vb.c_isn_non, Vb.c_isn_int, Vb.c_isn_tup, Vb.c_notn_non, Vb.c_notn_int, Vb.c_notn_tup, Vb.ix_tup, Vb.bi_list_tup, Vb.isi_int_non, Vb.isi_int_bl, Vb.isi_int_int, Vb.isi_int_str, Vb.isi_int_tup, Vb.isi_int_ref, Vb.isi_bool_non, Vb.isi_bool_bl, Vb.isi_bool_int, Vb.isi_bool_str, Vb.isi_bool_tup, Vb.isi_bool_ref, Vb.isi_str_non, Vb.isi_str_bl, Vb.isi_str_int, Vb.isi_str_str, Vb.isi_str_tup, Vb.isi_str_ref, Vb.isi_tup_non, Vb.isi_tup_bl, Vb.isi_tup_int, Vb.isi_tup_str, Vb.isi_tup_tup, Vb.isi_tup_ref, Vb.isi_lst_non, Vb.isi_lst_bl, Vb.isi_lst_int, Vb.isi_lst_str, Vb.isi_lst_tup, Vb.isi_lst_ref, at3]
  have k0 : Keep [] h (h ++ [MO.lst [.str "follows", .str (ownS o), .str (numP g)]]) := .push _
  generalize h ++ [MO.lst [PV.str "follows", .str (ownS o), .str (numP g)]] = h0 at k0
  refine Ok.bind (lc_states (n := n) (fnum := 2) (fun _ _ => trivial) hs fun v h1 hv => Ok.bind (sp2 h1 (isSt_T hv).1 (isSt_T hv).2 (by omega)) ?_) ?_
  · rintro _ h2 ⟨rfl, k2⟩
    exact .ret ⟨rfl, k2⟩
  · rintro _ h2 ⟨rfl, e2, k2⟩
    rw [bin_lists (k2.get get_new (by simp)) e2 (line_ok (by have := hs.1; simp [stR]; omega))]
    try simp only [Vb.execs, Vb.exec, Vb.evalE, Vb.evalEs, Vb.evalT, Vb.evalI, Vb.evalO, Vb.evalOT, Vb.asgS, Vb.bind_ok, Vb.bind_assoc, Vb.then_ok, Vb.then_bind, Vb.next_then, Vb.next_next, Vb.next_nx, Vb.next_rt, Vb.next_bk, Vb.next_ct, Vb.fin_then, Vb.fin_rt, Vb.fin_nx, Vb.opt_some, Vb.cb_fn, Vb.cb_cls, Vb.gl0, Vb.gls, List.getElem?_cons_zero, List.getElem?_cons_succ, List.set_cons_zero, List.set_cons_succ, Vb.storeTg, Vb.storeAll, Option.map_some, List.length_cons, List.length_nil, Nat.zero_add, Nat.reduceAdd, Vb.ln0, Vb.ln1, Vb.ln2, Vb.ln3, Vb.ln4, Vb.ln5, Vb.ln6, if_true, Vb.newObj, Vb.it_tup, Vb.it_ref, Vb.it_str, Vb.ty_join, Vb.ty_split, Vb.ty_append, Vb.ty_extend, Vb.ty_pop, Option.isSome_some, List.map_cons, List.map_nil, Bool.false_eq_true, if_false, Vb.tr_bl, Vb.wipeL, decide_true, decide_false, Bool.not_true, Bool.not_false, Vb.b_add, Vb.b_sub, Vb.c_lt, Vb.c_le, Vb.c_gt, Vb.c_ge, Vb.c_eq_int, Vb.c_ne_int, Vb.c_isn_non, Vb.c_isn_int, Vb.c_isn_tup, Vb.c_notn_non, Vb.c_notn_int, Vb.c_notn_tup, Vb.ix_tup, Vb.bi_list_tup, Vb.isi_int_non, Vb.isi_int_bl, Vb.isi_int_int, Vb.isi_int_str, Vb.isi_int_tup, Vb.isi_int_ref, Vb.isi_bool_non, Vb.isi_bool_bl, Vb.isi_bool_int, Vb.isi_bool_str, Vb.isi_bool_tup, Vb.isi_bool_ref, Vb.isi_str_non, Vb.isi_str_bl, Vb.isi_str_int, Vb.isi_str_str, Vb.isi_str_tup, Vb.isi_str_ref, Vb.isi_tup_non, Vb.isi_tup_bl, Vb.isi_tup_int, Vb.isi_tup_str, Vb.isi_tup_tup, Vb.isi_tup_ref, Vb.isi_lst_non, Vb.isi_lst_bl, Vb.isi_lst_int, Vb.isi_lst_str, Vb.isi_lst_tup, Vb.isi_lst_ref]
    refine .ret ⟨_, rfl, ?_, get_new, k0.trans ((Keep.push _).trans (k2.trans (.push _)))⟩
    have a := k2.len
    have c := k0.len
    simp only [List.length_append, List.length_cons, List.length_nil] at a
    omega
/-- a paper of one kind -/
def IsOne (p : PV) : Prop := IsAlone p ∨ (∃ vs, p = .tup [.str "whole", .tup vs] ∧ States vs) ∨ IsGoal p
theorem sp8o {n : Nat} (h : MH) {p : PV} (hp : IsOne p) : Ok (callF Pr (n + 13) 8 [p] h) fun r h' => ∃ q, r = .ref q ∧ h.length ≤ q ∧ h'[q]? = some (.lst ((rows1 p).map .str)) ∧ Keep [] h h' := by
  rcases hp with ⟨vs, rfl, hs⟩ | ⟨vs, rfl, hs⟩ | ⟨o, g, vs, rfl, ho, hg, hs⟩
  · exact sp8a h (.inl rfl) hs
  · exact sp8a h (.inr rfl) hs
  · exact sp8g h ho hg hs
theorem rows1_le {p : PV} (hp : IsOne p) : (rows1 p).length ≤ 7 ∧ ∀ w ∈ rows1 p, w.length ≤ 300000 := by
  have st : ∀ (x : Str) (vs : List PV), States vs → x.length ≤ 300000 → (x :: stR vs).length ≤ 7 ∧ ∀ w ∈ x :: stR vs, w.length ≤ 300000 := fun x vs hs hx => by
    refine ⟨by have := hs.1; simp [stR]; omega, fun w hw => ?_⟩
    rcases List.mem_cons.mp hw with rfl | hw
    · exact hx
    · obtain ⟨v, hv, rfl⟩ := List.mem_map.mp hw
      exact txt_le (hs.2 v hv)
  rcases hp with ⟨vs, rfl, hs⟩ | ⟨vs, rfl, hs⟩ | ⟨o, g, vs, rfl, ho, hg, hs⟩
  · exact st _ vs hs (by decide +kernel)
  · exact st _ vs hs (by decide +kernel)
  · exact st _ vs hs (by have := head_le ho hg; omega)
theorem one_of_part {bs gs : List PV} (hb : ∀ b ∈ bs, IsAlone b) (hg : ∀ g ∈ gs, IsGoal g) : ∀ p ∈ bs ++ gs, IsOne p := fun p hp => by
  rcases List.mem_append.mp hp with hp | hp
  · exact .inl (hb p hp)
  · exact .inr (.inr (hg p hp))
theorem flat_le {ps : List PV} (hp : ∀ p ∈ ps, IsOne p) : (ps.flatMap rows1).length ≤ 7 * ps.length := by
  rw [List.length_flatMap]
  have := sum_le_mul (l := ps.map fun p => (rows1 p).length) (c := 7) fun x hx => by
    obtain ⟨p, h, rfl⟩ := List.mem_map.mp hx
    exact (rows1_le (hp p h)).1
  rwa [List.length_map] at this
/-- paper_rows -/
theorem sp8 {n : Nat} (h : MH) {p : PV} (hp : IsPaper p) : Ok (callF Pr (n + 14) 8 [p] h) fun r h' => ∃ q, r = .ref q ∧ h.length ≤ q ∧ h'[q]? = some (.lst ((rowsP p).map .str)) ∧ Keep [] h h' := by
  rcases hp with hp | ⟨vs, rfl, hs⟩ | hp | ⟨bs, gs, rfl, lb, lg, hb, hg⟩
  · have e : rowsP p = rows1 p := by obtain ⟨vs, rfl, _⟩ := hp; rfl
    rw [e]; exact sp8o (n := n + 1) h (.inl hp)
  · exact sp8o (n := n + 1) h (.inr (.inl ⟨vs, rfl, hs⟩))
  · have e : rowsP p = rows1 p := by
      obtain ⟨o, g, vs, rfl, _⟩ := hp
      exact rowsP_goal
    rw [e]; exact sp8o (n := n + 1) h (.inr (.inr hp))
  · have one := one_of_part hb hg
    have e : rowsP (.tup [.str "parts", .tup bs, .tup gs]) = ("parts" : Str) :: (bs ++ gs).flatMap rows1 := rowsP_parts
    rw [e]
    have lps : (bs ++ gs).length ≤ 6 := by simp; omega
    rw [callF_at (d := d8) rfl rfl]
    show Ok (finF (Vb.execs (cbK Pr (n + 13)) Pr.xt Pr.wl b8 [some (.tup [.str "parts", .tup bs, .tup gs]), none, none, none, none] h)) _
    unfold b8
    try simp only [Vb.execs, Vb.exec, Vb.evalE, Vb.evalEs, Vb.evalT, Vb.evalI, Vb.evalO, Vb.evalOT, Vb.asgS, Vb.bind_ok, Vb.bind_assoc, Vb.then_ok, Vb.then_bind, Vb.next_then, Vb.next_next, Vb.next_nx, Vb.next_rt, Vb.next_bk, Vb.next_ct, Vb.fin_then, Vb.fin_rt, Vb.fin_nx, Vb.opt_some, Vb.cb_fn, Vb.cb_cls, Vb.gl0, Vb.gls, List.getElem?_cons_zero, List.getElem?_cons_succ, List.set_cons_zero, List.set_cons_succ, Vb.storeTg, Vb.storeAll, Option.map_some, List.length_cons, List.length_nil, Nat.zero_add, Nat.reduceAdd, Vb.ln0, Vb.ln1, Vb.ln2, Vb.ln3, Vb.ln4, Vb.ln5, Vb.ln6, if_true, Vb.newObj, Vb.it_tup, Vb.it_ref, Vb.it_str, Vb.ty_join, Vb.ty_split, Vb.ty_append, Vb.ty_extend, Vb.ty_pop, Option.isSome_some, List.map_cons, List.map_nil, Bool.false_eq_true, if_false, Vb.tr_bl, Vb.wipeL, decide_true, decide_false, Bool.not_true, Bool.not_false, Vb.b_add, Vb.b_sub, Vb.c_lt, Vb.c_le, Vb.c_gt, Vb.c_ge, Vb.c_eq_int, Vb.c_ne_int, Vb.c_isn_non, Vb.c_isn_int, Vb.c_isn_tup, Vb.c_notn_non, Vb.c_notn_int, Vb.c_notn_tup, Vb.ix_tup, Vb.bi_list_tup, Vb.isi_int_non, Vb.isi_int_bl, Vb.isi_int_int, Vb.isi_int_str, Vb.isi_int_tup, Vb.isi_int_ref, Vb.isi_bool_non, Vb.isi_bool_bl, Vb.isi_bool_int, Vb.isi_bool_str, Vb.isi_bool_tup, Vb.isi_bool_ref, Vb.isi_str_non, Vb.isi_str_bl, Vb.isi_str_int, Vb.isi_str_str, Vb.isi_str_tup, Vb.isi_str_ref, Vb.isi_tup_non, Vb.isi_tup_bl, Vb.isi_tup_int, Vb.isi_tup_str, Vb.isi_tup_tup, Vb.isi_tup_ref, Vb.isi_lst_non, Vb.isi_lst_bl, Vb.isi_lst_int, Vb.isi_lst_str, Vb.isi_lst_tup, Vb.isi_lst_ref, at0, at1, at2, c_eq_str (okS (x := "parts")) (okS (x := "parts")), decide_eq_true (rfl : ("parts" : Str) = "parts"), b_tup (xs := bs) (ys := gs) (line_ok (by omega))]
    refine SOk.finN (for_inv (fun rest lo h1 => ∃ don z, bs ++ gs = don ++ rest ∧ lo = [some (.tup [.str "parts", .tup bs, .tup gs]), some (.ref h.length), z, none, none] ∧ h1[h.length]? = some (.lst ((("parts" : Str) :: don.flatMap rows1).map .str)) ∧ Keep [] h h1) (fun _ _ => False)
      (fun _ _ _ _ => trivial) ?_ _ _ _ ⟨[], none, rfl, rfl, get_new, .push _⟩) ?_
    · rintro x rest lo h1 ⟨don, z, ed, rfl, e2, kp⟩
      have hx : IsOne x := one x (by rw [ed]; simp)
      try simp only [Vb.execs, Vb.exec, Vb.evalE, Vb.evalEs, Vb.evalT, Vb.evalI, Vb.evalO, Vb.evalOT, Vb.asgS, Vb.bind_ok, Vb.bind_assoc, Vb.then_ok, Vb.then_bind, Vb.next_then, Vb.next_next, Vb.next_nx, Vb.next_rt, Vb.next_bk, Vb.next_ct, Vb.fin_then, Vb.fin_rt, Vb.fin_nx, Vb.opt_some, Vb.cb_fn, Vb.cb_cls, Vb.gl0, Vb.gls, List.getElem?_cons_zero, List.getElem?_cons_succ, List.set_cons_zero, List.set_cons_succ, Vb.storeTg, Vb.storeAll, Option.map_some, List.length_cons, List.length_nil, Nat.zero_add, Nat.reduceAdd, Vb.ln0, Vb.ln1, Vb.ln2, Vb.ln3, Vb.ln4, Vb.ln5, Vb.ln6, if_true, Vb.newObj, Vb.it_tup, Vb.it_ref, Vb.it_str, Vb.ty_join, Vb.ty_split, Vb.ty_append, Vb.ty_extend, Vb.ty_pop, Option.isSome_some, List.map_cons, List.map_nil, Bool.false_eq_true, if_false, Vb.tr_bl, Vb.wipeL, decide_true, decide_false, Bool.not_true, Bool.not_false, Vb.b_add, Vb.b_sub, Vb.c_lt, Vb.c_le, Vb.c_gt, Vb.c_ge, Vb.c_eq_int, Vb.c_ne_int, Vb.c_isn_non, Vb.c_isn_int, Vb.c_isn_tup, Vb.c_notn_non, Vb.c_notn_int, Vb.c_notn_tup, Vb.ix_tup, Vb.bi_list_tup, Vb.isi_int_non, Vb.isi_int_bl, Vb.isi_int_int, Vb.isi_int_str, Vb.isi_int_tup, Vb.isi_int_ref, Vb.isi_bool_non, Vb.isi_bool_bl, Vb.isi_bool_int, Vb.isi_bool_str, Vb.isi_bool_tup, Vb.isi_bool_ref, Vb.isi_str_non, Vb.isi_str_bl, Vb.isi_str_int, Vb.isi_str_str, Vb.isi_str_tup, Vb.isi_str_ref, Vb.isi_tup_non, Vb.isi_tup_bl, Vb.isi_tup_int, Vb.isi_tup_str, Vb.isi_tup_tup, Vb.isi_tup_ref, Vb.isi_lst_non, Vb.isi_lst_bl, Vb.isi_lst_int, Vb.isi_lst_str, Vb.isi_lst_tup, Vb.isi_lst_ref, seq_of e2]
      refine SOk.then_ (sp8o (n := n) h1 hx) ?_
      rintro _ h2 ⟨q, rfl, hq, e3, k2⟩
      have e4 := k2.get e2 (by simp)
      have ld := congrArg List.length ed
      simp only [List.length_append, List.length_cons] at ld lps
      rw [bm_extend e4 e3 (line_ok (by
        have a := flat_le (ps := don) fun p hp => one p (by rw [ed]; simp [hp])
        have b := (rows1_le hx).1
        simp only [List.length_map, List.length_cons]
        omega))]
      try simp only [Vb.execs, Vb.exec, Vb.evalE, Vb.evalEs, Vb.evalT, Vb.evalI, Vb.evalO, Vb.evalOT, Vb.asgS, Vb.bind_ok, Vb.bind_assoc, Vb.then_ok, Vb.then_bind, Vb.next_then, Vb.next_next, Vb.next_nx, Vb.next_rt, Vb.next_bk, Vb.next_ct, Vb.fin_then, Vb.fin_rt, Vb.fin_nx, Vb.opt_some, Vb.cb_fn, Vb.cb_cls, Vb.gl0, Vb.gls, List.getElem?_cons_zero, List.getElem?_cons_succ, List.set_cons_zero, List.set_cons_succ, Vb.storeTg, Vb.storeAll, Option.map_some, List.length_cons, List.length_nil, Nat.zero_add, Nat.reduceAdd, Vb.ln0, Vb.ln1, Vb.ln2, Vb.ln3, Vb.ln4, Vb.ln5, Vb.ln6, if_true, Vb.newObj, Vb.it_tup, Vb.it_ref, Vb.it_str, Vb.ty_join, Vb.ty_split, Vb.ty_append, Vb.ty_extend, Vb.ty_pop, Option.isSome_some, List.map_cons, List.map_nil, Bool.false_eq_true, if_false, Vb.tr_bl, Vb.wipeL, decide_true, decide_false, Bool.not_true, Bool.not_false, Vb.b_add, Vb.b_sub, Vb.c_lt, Vb.c_le, Vb.c_gt, Vb.c_ge, Vb.c_eq_int, Vb.c_ne_int, Vb.c_isn_non, Vb.c_isn_int, Vb.c_isn_tup, Vb.c_notn_non, Vb.c_notn_int, Vb.c_notn_tup, Vb.ix_tup, Vb.bi_list_tup, Vb.isi_int_non, Vb.isi_int_bl, Vb.isi_int_int, Vb.isi_int_str, Vb.isi_int_tup, Vb.isi_int_ref, Vb.isi_bool_non, Vb.isi_bool_bl, Vb.isi_bool_int, Vb.isi_bool_str, Vb.isi_bool_tup, Vb.isi_bool_ref, Vb.isi_str_non, Vb.isi_str_bl, Vb.isi_str_int, Vb.isi_str_str, Vb.isi_str_tup, Vb.isi_str_ref, Vb.isi_tup_non, Vb.isi_tup_bl, Vb.isi_tup_int, Vb.isi_tup_str, Vb.isi_tup_tup, Vb.isi_tup_ref, Vb.isi_lst_non, Vb.isi_lst_bl, Vb.isi_lst_int, Vb.isi_lst_str, Vb.isi_lst_tup, Vb.isi_lst_ref]
      refine .ret ⟨don ++ [x], some x, by rw [ed]; simp, rfl, ?_, (kp.trans k2).put (.inr (Nat.le_refl _)) _⟩
      rw [get_set e4]
      simp
    · rintro fl h2 q
      cases fl with
      | nx lo =>
        obtain ⟨don, z, ed, rfl, e2, kp⟩ := q
        rw [List.append_nil] at ed
        subst ed
        try simp only [Vb.execs, Vb.exec, Vb.evalE, Vb.evalEs, Vb.evalT, Vb.evalI, Vb.evalO, Vb.evalOT, Vb.asgS, Vb.bind_ok, Vb.bind_assoc, Vb.then_ok, Vb.then_bind, Vb.next_then, Vb.next_next, Vb.next_nx, Vb.next_rt, Vb.next_bk, Vb.next_ct, Vb.fin_then, Vb.fin_rt, Vb.fin_nx, Vb.opt_some, Vb.cb_fn, Vb.cb_cls, Vb.gl0, Vb.gls, List.getElem?_cons_zero, List.getElem?_cons_succ, List.set_cons_zero, List.set_cons_succ, Vb.storeTg, Vb.storeAll, Option.map_some, List.length_cons, List.length_nil, Nat.zero_add, Nat.reduceAdd, Vb.ln0, Vb.ln1, Vb.ln2, Vb.ln3, Vb.ln4, Vb.ln5, Vb.ln6, if_true, Vb.newObj, Vb.it_tup, Vb.it_ref, Vb.it_str, Vb.ty_join, Vb.ty_split, Vb.ty_append, Vb.ty_extend, Vb.ty_pop, Option.isSome_some, List.map_cons, List.map_nil, Bool.false_eq_true, if_false, Vb.tr_bl, Vb.wipeL, decide_true, decide_false, Bool.not_true, Bool.not_false, Vb.b_add, Vb.b_sub, Vb.c_lt, Vb.c_le, Vb.c_gt, Vb.c_ge, Vb.c_eq_int, Vb.c_ne_int, Vb.c_isn_non, Vb.c_isn_int, Vb.c_isn_tup, Vb.c_notn_non, Vb.c_notn_int, Vb.c_notn_tup, Vb.ix_tup, Vb.bi_list_tup, Vb.isi_int_non, Vb.isi_int_bl, Vb.isi_int_int, Vb.isi_int_str, Vb.isi_int_tup, Vb.isi_int_ref, Vb.isi_bool_non, Vb.isi_bool_bl, Vb.isi_bool_int, Vb.isi_bool_str, Vb.isi_bool_tup, Vb.isi_bool_ref, Vb.isi_str_non, Vb.isi_str_bl, Vb.isi_str_int, Vb.isi_str_str, Vb.isi_str_tup, Vb.isi_str_ref, Vb.isi_tup_non, Vb.isi_tup_bl, Vb.isi_tup_int, Vb.isi_tup_str, Vb.isi_tup_tup, Vb.isi_tup_ref, Vb.isi_lst_non, Vb.isi_lst_bl, Vb.isi_lst_int, Vb.isi_lst_str, Vb.isi_lst_tup, Vb.isi_lst_ref]
        exact .ret ⟨_, rfl, Nat.le_refl _, e2, kp⟩
      | _ => exact q.elim
theorem sum_rows {ws : List Str} {c m : Nat} (h1 : ws.length ≤ m) (h2 : ∀ w ∈ ws, w.length ≤ c) {s : Str} (hs : s.length = 1) : (ws.map (·.length)).sum + ws.length * s.length ≤ m * (c + 1) := by
  have a := sum_le_mul (l := ws.map (·.length)) (c := c) fun x hx => by
    obtain ⟨w, hw, rfl⟩ := List.mem_map.mp hx
    exact h2 w hw
  rw [List.length_map] at a
  rw [hs, Nat.mul_add]
  have b : c * ws.length ≤ m * c := by rw [Nat.mul_comm]; exact Nat.mul_le_mul_right c h1
  omega
theorem len_nl : ("\n" : Str).length = 1 := by decide +kernel
theorem rowsP_le {p : PV} (hp : IsPaper p) : (rowsP p).length ≤ 43 ∧ ∀ w ∈ rowsP p, w.length ≤ 300000 := by
  have one : ∀ {p : PV}, rowsP p = rows1 p → IsOne p → (rowsP p).length ≤ 43 ∧ ∀ w ∈ rowsP p, w.length ≤ 300000 := fun {p} e h => by
    rw [e]
    exact ⟨by have := (rows1_le h).1; omega, (rows1_le h).2⟩
  rcases hp with hp | ⟨vs, rfl, hs⟩ | hp | ⟨bs, gs, rfl, lb, lg, hb, hg⟩
  · exact one (by obtain ⟨vs, rfl, _⟩ := hp; rfl) (.inl hp)
  · exact one rfl (.inr (.inl ⟨vs, rfl, hs⟩))
  · exact one (by obtain ⟨o, g, vs, rfl, _⟩ := hp; exact rowsP_goal) (.inr (.inr hp))
  · have e : rowsP (.tup [.str "parts", .tup bs, .tup gs]) = ("parts" : Str) :: (bs ++ gs).flatMap rows1 := rowsP_parts
    have one := one_of_part hb hg
    rw [e]
    refine ⟨?_, fun w hw => ?_⟩
    · have := flat_le one
      simp only [List.length_append] at this
      simp only [List.length_cons]
      omega
    · rcases List.mem_cons.mp hw with rfl | hw
      · decide +kernel
      · obtain ⟨x, hx, hw⟩ := List.mem_flatMap.mp hw
        exact (rows1_le (one x hx)).2 w hw
def txtP (p : PV) : Str := Txt.join "\n" (rowsP p)
/-- paper_text -/
theorem sp9 {n : Nat} (h : MH) {p : PV} (hp : IsPaper p) : Ok (callF Pr (n + 15) 9 [p] h) fun r h' => r = .str (txtP p) ∧ Keep [] h h' := by
  rw [callF_at (d := d9) rfl rfl]
  show Ok (finF (Vb.execs (cbK Pr (n + 14)) Pr.xt Pr.wl b9 [some p] h)) _
  unfold b9
  try simp only [Vb.execs, Vb.exec, Vb.evalE, Vb.evalEs, Vb.evalT, Vb.evalI, Vb.evalO, Vb.evalOT, Vb.asgS, Vb.bind_ok, Vb.bind_assoc, Vb.then_ok, Vb.then_bind, Vb.next_then, Vb.next_next, Vb.next_nx, Vb.next_rt, Vb.next_bk, Vb.next_ct, Vb.fin_then, Vb.fin_rt, Vb.fin_nx, Vb.opt_some, Vb.cb_fn, Vb.cb_cls, Vb.gl0, Vb.gls, List.getElem?_cons_zero, List.getElem?_cons_succ, List.set_cons_zero, List.set_cons_succ, Vb.storeTg, Vb.storeAll, Option.map_some, List.length_cons, List.length_nil, Nat.zero_add, Nat.reduceAdd, Vb.ln0, Vb.ln1, Vb.ln2, Vb.ln3, Vb.ln4, Vb.ln5, Vb.ln6, if_true, Vb.newObj, Vb.it_tup, Vb.it_ref, Vb.it_str, Vb.ty_join, Vb.ty_split, Vb.ty_append, Vb.ty_extend, Vb.ty_pop, Option.isSome_some, List.map_cons, List.map_nil, Bool.false_eq_true, if_false, Vb.tr_bl, Vb.wipeL, decide_true, decide_false, Bool.not_true, Bool.not_false, Vb.b_add, Vb.b_sub, Vb.c_lt, Vb.c_le, Vb.c_gt, Vb.c_ge, Vb.c_eq_int, Vb.c_ne_int, Vb.c_isn_non, Vb.c_isn_int, Vb.c_isn_tup, Vb.c_notn_non, Vb.c_notn_int, Vb.c_notn_tup, Vb.ix_tup, Vb.bi_list_tup, Vb.isi_int_non, Vb.isi_int_bl, Vb.isi_int_int, Vb.isi_int_str, Vb.isi_int_tup, Vb.isi_int_ref, Vb.isi_bool_non, Vb.isi_bool_bl, Vb.isi_bool_int, Vb.isi_bool_str, Vb.isi_bool_tup, Vb.isi_bool_ref, Vb.isi_str_non, Vb.isi_str_bl, Vb.isi_str_int, Vb.isi_str_str, Vb.isi_str_tup, Vb.isi_str_ref, Vb.isi_tup_non, Vb.isi_tup_bl, Vb.isi_tup_int, Vb.isi_tup_str, Vb.isi_tup_tup, Vb.isi_tup_ref, Vb.isi_lst_non, Vb.isi_lst_bl, Vb.isi_lst_int, Vb.isi_lst_str, Vb.isi_lst_tup, Vb.isi_lst_ref]
  refine Ok.bind (sp8 h hp) ?_
  rintro _ h2 ⟨q, rfl, hq, e2, k2⟩
  rw [bm_join e2 (Nat.le_trans (sum_rows (rowsP_le hp).1 (rowsP_le hp).2 len_nl) (by decide))]
  try simp only [Vb.execs, Vb.exec, Vb.evalE, Vb.evalEs, Vb.evalT, Vb.evalI, Vb.evalO, Vb.evalOT, Vb.asgS, Vb.bind_ok, Vb.bind_assoc, Vb.then_ok, Vb.then_bind, Vb.next_then, Vb.next_next, Vb.next_nx, Vb.next_rt, Vb.next_bk, Vb.next_ct, Vb.fin_then, Vb.fin_rt, Vb.fin_nx, Vb.opt_some, Vb.cb_fn, Vb.cb_cls, Vb.gl0, Vb.gls, List.getElem?_cons_zero, List.getElem?_cons_succ, List.set_cons_zero, List.set_cons_succ, Vb.storeTg, Vb.storeAll, Option.map_some, List.length_cons, List.length_nil, Nat.zero_add, Nat.reduceAdd, Vb.ln0, Vb.ln1, Vb.ln2, Vb.ln3, Vb.ln4, Vb.ln5, Vb.ln6, if_true, Vb.newObj, Vb.it_tup, Vb.it_ref, Vb.it_str, Vb.ty_join, Vb.ty_split, Vb.ty_append, Vb.ty_extend, Vb.ty_pop, Option.isSome_some, List.map_cons, List.map_nil, Bool.false_eq_true, if_false, Vb.tr_bl, Vb.wipeL, decide_true, decide_false, Bool.not_true, Bool.not_false, Vb.b_add, Vb.b_sub, Vb.c_lt, Vb.c_le, Vb.c_gt, Vb.c_ge, Vb.c_eq_int, Vb.c_ne_int, Vb.c_isn_non, Vb.c_isn_int, Vb.c_isn_tup, Vb.c_notn_non, Vb.c_notn_int, Vb.c_notn_tup, Vb.ix_tup, Vb.bi_list_tup, Vb.isi_int_non, Vb.isi_int_bl, Vb.isi_int_int, Vb.isi_int_str, Vb.isi_int_tup, Vb.isi_int_ref, Vb.isi_bool_non, Vb.isi_bool_bl, Vb.isi_bool_int, Vb.isi_bool_str, Vb.isi_bool_tup, Vb.isi_bool_ref, Vb.isi_str_non, Vb.isi_str_bl, Vb.isi_str_int, Vb.isi_str_str, Vb.isi_str_tup, Vb.isi_str_ref, Vb.isi_tup_non, Vb.isi_tup_bl, Vb.isi_tup_int, Vb.isi_tup_str, Vb.isi_tup_tup, Vb.isi_tup_ref, Vb.isi_lst_non, Vb.isi_lst_bl, Vb.isi_lst_int, Vb.isi_lst_str, Vb.isi_lst_tup, Vb.isi_lst_ref]
  exact .ret ⟨rfl, k2⟩
end V87

set_option Elab.async false
set_option linter.all false
set_option maxRecDepth 100000
set_option maxHeartbeats 2000000
namespace V87
open PySem Vb
theorem head_eq (o g : PV) : headG o g = ((("follows " : Str) ++ ownS o) ++ " ") ++ numP g := by
  apply TL.ext_tl
  unfold headG
  rw [TL.join_eq, TL.tl_join]
  simp only [List.map_cons, List.map_nil, TL.joinL, TL.tl_append, List.append_assoc]
  have e : TL.tl ("follows " : Str) = TL.tl ("follows" : Str) ++ TL.tl (" " : Str) := by decide +kernel
  rw [e, List.append_assoc]
theorem len_follows' : ("follows " : Str).length = 8 := by decide +kernel
theorem sp33a {n : Nat} (h : MH) {kd : Str} {vs : List PV} (hk : kd = "alone" ∨ kd = "whole") (hs : States vs) : Ok (callF Pr (n + 13) 33 [.tup [.str kd, .tup vs]] h) fun r h' => ∃ q, r = .ref q ∧ h.length ≤ q ∧ h'[q]? = some (.lst ((rows1 (.tup [.str kd, .tup vs])).map .str)) ∧ Keep [] h h' := by
  have ok1 : PyData.strOk kd = true := by rcases hk with rfl | rfl <;> decide +kernel
  have n1 : ¬ kd = "parts" := by rcases hk with rfl | rfl <;> decide +kernel
  have n2 : ¬ kd = "follows" := by rcases hk with rfl | rfl <;> decide +kernel
  rw [callF_at (d := d33) rfl rfl]
  show Ok (finF (Vb.execs (cbK Pr (n + 12)) Pr.xt Pr.wl b33 [some (.tup [.str kd, .tup vs]), none, none, none, none] h)) _
  unfold b33
  try simp only [Vb.execs, Vb.exec, Vb.evalE, Vb.evalEs, Vb.evalT, Vb.evalI, Vb.evalO, Vb.evalOT, Vb.asgS, Vb.bind_ok, Vb.bind_assoc, Vb.then_ok, Vb.then_bind, Vb.next_then, Vb.next_next, Vb.next_nx, Vb.next_rt, Vb.next_bk, Vb.next_ct, Vb.fin_then, Vb.fin_rt, Vb.fin_nx, Vb.opt_some, Vb.cb_fn, Vb.cb_cls, Vb.gl0, Vb.gls, List.getElem?_cons_zero, List.getElem?_cons_succ, List.set_cons_zero, List.set_cons_succ, Vb.storeTg, Vb.storeAll, Option.map_some, List.length_cons, List.length_nil, Nat.zero_add, Nat.reduceAdd, Vb.ln0, Vb.ln1, Vb.ln2, Vb.ln3, Vb.ln4, Vb.ln5, Vb.ln6, if_true, Vb.newObj, Vb.it_tup, Vb.it_ref, Vb.it_str, Vb.ty_join, Vb.ty_split, Vb.ty_append, Vb.ty_extend, Vb.ty_pop, Option.isSome_some, List.map_cons, List.map_nil, Bool.false_eq_true, if_false, Vb.tr_bl, Vb.wipeL, decide_true, decide_false, Bool.not_true, Bool.not_false, Vb.b_add, Vb.b_sub, Vb.c_lt, Vb.c_le, Vb.c_gt, Vb.c_ge, Vb.c_eq_int, Vb.c_ne_int, Vb.c_isn_non, Vb.c_isn_int, Vb.c_isn_tup, Vb.c_notn_non, Vb.c_notn_int, Vb.c_notn_tup, Vb.ix_tup, Vb.bi_list_tup, Vb.isi_int_non, Vb.isi_int_bl, Vb.isi_int_int, Vb.isi_int_str, Vb.isi_int_tup, Vb.isi_int_ref, Vb.isi_bool_non, Vb.isi_bool_bl, Vb.isi_bool_int, Vb.isi_bool_str, Vb.isi_bool_tup, Vb.isi_bool_ref, Vb.isi_str_non, Vb.isi_str_bl, Vb.isi_str_int, Vb.isi_str_str, Vb.isi_str_tup, Vb.isi_str_ref, Vb.isi_tup_non, Vb.isi_tup_bl, Vb.isi_tup_int, Vb.isi_tup_str, Vb.isi_tup_tup, Vb.isi_tup_ref, Vb.isi_lst_non, Vb.isi_lst_bl, Vb.isi_lst_int, Vb.isi_lst_str, Vb.isi_lst_tup, Vb.isi_lst_ref, at20, at2', c_eq_str ok1 (okS (x := "parts")), decide_eq_false n1, c_eq_str ok1 (okS (x := "follows")), decide_eq_false n2]
  refine Ok.bind (lc_states (n := n) (fnum := 2) (fun _ _ => trivial) hs fun v h1 hv => Ok.bind (sp31 8 v (n + 12) h1 (isSt_T hv).1 (isSt_T hv).2 (by omega)) ?_) ?_
  · rintro _ h2 ⟨rfl, k2⟩
    exact .ret ⟨rfl, k2⟩
  · rintro _ h2 ⟨rfl, e2, k2⟩
    rw [bin_lists (k2.get get_new (by simp)) e2 (line_ok (by have := hs.1; simp [stR]; omega))]
    try simp only [Vb.execs, Vb.exec, Vb.evalE, Vb.evalEs, Vb.evalT, Vb.evalI, Vb.evalO, Vb.evalOT, Vb.asgS, Vb.bind_ok, Vb.bind_assoc, Vb.then_ok, Vb.then_bind, Vb.next_then, Vb.next_next, Vb.next_nx, Vb.next_rt, Vb.next_bk, Vb.next_ct, Vb.fin_then, Vb.fin_rt, Vb.fin_nx, Vb.opt_some, Vb.cb_fn, Vb.cb_cls, Vb.gl0, Vb.gls, List.getElem?_cons_zero, List.getElem?_cons_succ, List.set_cons_zero, List.set_cons_succ, Vb.storeTg, Vb.storeAll, Option.map_some, List.length_cons, List.length_nil, Nat.zero_add, Nat.reduceAdd, Vb.ln0, Vb.ln1, Vb.ln2, Vb.ln3, Vb.ln4, Vb.ln5, Vb.ln6, if_true, Vb.newObj, Vb.it_tup, Vb.it_ref, Vb.it_str, Vb.ty_join, Vb.ty_split, Vb.ty_append, Vb.ty_extend, Vb.ty_pop, Option.isSome_some, List.map_cons, List.map_nil, Bool.false_eq_true, if_false, Vb.tr_bl, Vb.wipeL, decide_true, decide_false, Bool.not_true, Bool.not_false, Vb.b_add, Vb.b_sub, Vb.c_lt, Vb.c_le, Vb.c_gt, Vb.c_ge, Vb.c_eq_int, Vb.c_ne_int, Vb.c_isn_non, Vb.c_isn_int, Vb.c_isn_tup, Vb.c_notn_non, Vb.c_notn_int, Vb.c_notn_tup, Vb.ix_tup, Vb.bi_list_tup, Vb.isi_int_non, Vb.isi_int_bl, Vb.isi_int_int, Vb.isi_int_str, Vb.isi_int_tup, Vb.isi_int_ref, Vb.isi_bool_non, Vb.isi_bool_bl, Vb.isi_bool_int, Vb.isi_bool_str, Vb.isi_bool_tup, Vb.isi_bool_ref, Vb.isi_str_non, Vb.isi_str_bl, Vb.isi_str_int, Vb.isi_str_str, Vb.isi_str_tup, Vb.isi_str_ref, Vb.isi_tup_non, Vb.isi_tup_bl, Vb.isi_tup_int, Vb.isi_tup_str, Vb.isi_tup_tup, Vb.isi_tup_ref, Vb.isi_lst_non, Vb.isi_lst_bl, Vb.isi_lst_int, Vb.isi_lst_str, Vb.isi_lst_tup, Vb.isi_lst_ref]
    refine .ret ⟨_, rfl, ?_, get_new, (Keep.push _).trans (k2.trans (.push _))⟩
    have := k2.len
    simp at this
    omega
theorem sp33g {n : Nat} (h : MH) {o g : PV} {vs : List PV} (ho : Owner o) (hg : Small g) (hs : States vs) : Ok (callF Pr (n + 13) 33 [.tup [.str "follows", .tup [o, g], .tup vs]] h) fun r h' => ∃ q, r = .ref q ∧ h.length ≤ q ∧ h'[q]? = some (.lst ((headG o g :: stR vs).map .str)) ∧ Keep [] h h' := by
  rw [callF_at (d := d33) rfl rfl]
  show Ok (finF (Vb.execs (cbK Pr (n + 12)) Pr.xt Pr.wl b33 [some (.tup [.str "follows", .tup [o, g], .tup vs]), none, none, none, none] h)) _
  unfold b33
  have b := own_le ho
  have c := num_le hg
  have l1 : (("follows " : Str) ++ ownS o).length ≤ 12 := by rw [Str.length_append, len_follows']; omega
  have l2 : ((("follows " : Str) ++ ownS o) ++ " ").length ≤ 13 := by rw [Str.length_append, len_sp]; omega
  try simp only [Vb.execs, Vb.exec, Vb.evalE, Vb.evalEs, Vb.evalT, Vb.evalI, Vb.evalO, Vb.evalOT, Vb.asgS, Vb.bind_ok, Vb.bind_assoc, Vb.then_ok, Vb.then_bind, Vb.next_then, Vb.next_next, Vb.next_nx, Vb.next_rt, Vb.next_bk, Vb.next_ct, Vb.fin_then, Vb.fin_rt, Vb.fin_nx, Vb.opt_some, Vb.cb_fn, Vb.cb_cls, Vb.gl0, Vb.gls, List.getElem?_cons_zero, List.getElem?_cons_succ, List.set_cons_zero, List.set_cons_succ, Vb.storeTg, Vb.storeAll, Option.map_some, List.length_cons, List.length_nil, Nat.zero_add, Nat.reduceAdd, Vb.ln0, Vb.ln1, Vb.ln2, Vb.ln3, Vb.ln4, Vb.ln5, Vb.ln6, if_true, Vb.newObj, Vb.it_tup, Vb.it_ref, Vb.it_str, Vb.ty_join, Vb.ty_split, Vb.ty_append, Vb.ty_extend, Vb.ty_pop, Option.isSome_some, List.map_cons, List.map_nil, Bool.false_eq_true, if_false, Vb.tr_bl, Vb.wipeL, decide_true, decide_false, Bool.not_true, Bool.not_false, Vb.b_add, Vb.b_sub, Vb.c_lt, Vb.c_le, Vb.c_gt, Vb.c_ge, Vb.c_eq_int, Vb.c_ne_int, Vb.c_isn_non, Vb.c_isn_int, Vb.c_isn_tup, Vb.c_notn_non, Vb.c_notn_int, Vb.c_notn_tup, Vb.ix_tup, Vb.bi_list_tup, Vb.isi_int_non, Vb.isi_int_bl, Vb.isi_int_int, Vb.isi_int_str, Vb.isi_int_tup, Vb.isi_int_ref, Vb.isi_bool_non, Vb.isi_bool_bl, Vb.isi_bool_int, Vb.isi_bool_str, Vb.isi_bool_tup, Vb.isi_bool_ref, Vb.isi_str_non, Vb.isi_str_bl, Vb.isi_str_int, Vb.isi_str_str, Vb.isi_str_tup, Vb.isi_str_ref, Vb.isi_tup_non, Vb.isi_tup_bl, Vb.isi_tup_int, Vb.isi_tup_str, Vb.isi_tup_tup, Vb.isi_tup_ref, Vb.isi_lst_non, Vb.isi_lst_bl, Vb.isi_lst_int, Vb.isi_lst_str, Vb.isi_lst_tup, Vb.isi_lst_ref, at0, at1, at3, at20, at21, c_eq_str (okS (x := "follows")) (okS (x := "parts")), decide_eq_false nfp, c_eq_str (okS (x := "follows")) (okS (x := "follows")), decide_eq_true (rfl : ("follows" : Str) = "follows"), sp32 h ho, str_small hg, b_cat (h := h) (x := "follows ") (y := ownS o) (line_ok (by rw [len_follows']; omega)), b_cat (h := h) (x := ("follows " : Str) ++ ownS o) (y := " ") (line_ok (by rw [len_sp]; omega)), b_cat (h := h) (x := (("follows " : Str) ++ ownS o) ++ " ") (y := numP g) (line_ok (by omega))]
  rw [← head_eq]
  refine Ok.bind (lc_states (n := n) (fnum := 2) (fun _ _ => trivial) hs fun v h1 hv => Ok.bind (sp31 8 v (n + 12) h1 (isSt_T hv).1 (isSt_T hv).2 (by omega)) ?_) ?_
  · rintro _ h2 ⟨rfl, k2⟩
    exact .ret ⟨rfl, k2⟩
  · rintro _ h2 ⟨rfl, e2, k2⟩
    rw [bin_lists (k2.get get_new (by simp)) e2 (line_ok (by have := hs.1; simp [stR]; omega))]
    try simp only [Vb.execs, Vb.exec, Vb.evalE, Vb.evalEs, Vb.evalT, Vb.evalI, Vb.evalO, Vb.evalOT, Vb.asgS, Vb.bind_ok, Vb.bind_assoc, Vb.then_ok, Vb.then_bind, Vb.next_then, Vb.next_next, Vb.next_nx, Vb.next_rt, Vb.next_bk, Vb.next_ct, Vb.fin_then, Vb.fin_rt, Vb.fin_nx, Vb.opt_some, Vb.cb_fn, Vb.cb_cls, Vb.gl0, Vb.gls, List.getElem?_cons_zero, List.getElem?_cons_succ, List.set_cons_zero, List.set_cons_succ, Vb.storeTg, Vb.storeAll, Option.map_some, List.length_cons, List.length_nil, Nat.zero_add, Nat.reduceAdd, Vb.ln0, Vb.ln1, Vb.ln2, Vb.ln3, Vb.ln4, Vb.ln5, Vb.ln6, if_true, Vb.newObj, Vb.it_tup, Vb.it_ref, Vb.it_str, Vb.ty_join, Vb.ty_split, Vb.ty_append, Vb.ty_extend, Vb.ty_pop, Option.isSome_some, List.map_cons, List.map_nil, Bool.false_eq_true, if_false, Vb.tr_bl, Vb.wipeL, decide_true, decide_false, Bool.not_true, Bool.not_false, Vb.b_add, Vb.b_sub, Vb.c_lt, Vb.c_le, Vb.c_gt, Vb.c_ge, Vb.c_eq_int, Vb.c_ne_int, Vb.c_isn_non, Vb.c_isn_int, Vb.c_isn_tup, Vb.c_notn_non, Vb.c_notn_int, Vb.c_notn_tup, Vb.ix_tup, Vb.bi_list_tup, Vb.isi_int_non, Vb.isi_int_bl, Vb.isi_int_int, Vb.isi_int_str, Vb.isi_int_tup, Vb.isi_int_ref, Vb.isi_bool_non, Vb.isi_bool_bl, Vb.isi_bool_int, Vb.isi_bool_str, Vb.isi_bool_tup, Vb.isi_bool_ref, Vb.isi_str_non, Vb.isi_str_bl, Vb.isi_str_int, Vb.isi_str_str, Vb.isi_str_tup, Vb.isi_str_ref, Vb.isi_tup_non, Vb.isi_tup_bl, Vb.isi_tup_int, Vb.isi_tup_str, Vb.isi_tup_tup, Vb.isi_tup_ref, Vb.isi_lst_non, Vb.isi_lst_bl, Vb.isi_lst_int, Vb.isi_lst_str, Vb.isi_lst_tup, Vb.isi_lst_ref]
    refine .ret ⟨_, rfl, ?_, get_new, (Keep.push _).trans (k2.trans (.push _))⟩
    have := k2.len
    simp at this
    omega
theorem sp33o {n : Nat} (h : MH) {p : PV} (hp : IsOne p) : Ok (callF Pr (n + 13) 33 [p] h) fun r h' => ∃ q, r = .ref q ∧ h.length ≤ q ∧ h'[q]? = some (.lst ((rows1 p).map .str)) ∧ Keep [] h h' := by
  rcases hp with ⟨vs, rfl, hs⟩ | ⟨vs, rfl, hs⟩ | ⟨o, g, vs, rfl, ho, hg, hs⟩
  · exact sp33a h (.inl rfl) hs
  · exact sp33a h (.inr rfl) hs
  · exact sp33g h ho hg hs
theorem sp33 {n : Nat} (h : MH) {p : PV} (hp : IsPaper p) : Ok (callF Pr (n + 14) 33 [p] h) fun r h' => ∃ q, r = .ref q ∧ h.length ≤ q ∧ h'[q]? = some (.lst ((rowsP p).map .str)) ∧ Keep [] h h' := by
  rcases hp with hp | ⟨vs, rfl, hs⟩ | hp | ⟨bs, gs, rfl, lb, lg, hb, hg⟩
  · have e : rowsP p = rows1 p := by obtain ⟨vs, rfl, _⟩ := hp; rfl
    rw [e]; exact sp33o (n := n + 1) h (.inl hp)
  · exact sp33o (n := n + 1) h (.inr (.inl ⟨vs, rfl, hs⟩))
  · have e : rowsP p = rows1 p := by
      obtain ⟨o, g, vs, rfl, _⟩ := hp
      exact rowsP_goal
    rw [e]; exact sp33o (n := n + 1) h (.inr (.inr hp))
  · have one := one_of_part hb hg
    rw [rowsP_parts]
    have lps : (bs ++ gs).length ≤ 6 := by simp; omega
    rw [callF_at (d := d33) rfl rfl]
    show Ok (finF (Vb.execs (cbK Pr (n + 13)) Pr.xt Pr.wl b33 [some (.tup [.str "parts", .tup bs, .tup gs]), none, none, none, none] h)) _
    unfold b33
    try simp only [Vb.execs, Vb.exec, Vb.evalE, Vb.evalEs, Vb.evalT, Vb.evalI, Vb.evalO, Vb.evalOT, Vb.asgS, Vb.bind_ok, Vb.bind_assoc, Vb.then_ok, Vb.then_bind, Vb.next_then, Vb.next_next, Vb.next_nx, Vb.next_rt, Vb.next_bk, Vb.next_ct, Vb.fin_then, Vb.fin_rt, Vb.fin_nx, Vb.opt_some, Vb.cb_fn, Vb.cb_cls, Vb.gl0, Vb.gls, List.getElem?_cons_zero, List.getElem?_cons_succ, List.set_cons_zero, List.set_cons_succ, Vb.storeTg, Vb.storeAll, Option.map_some, List.length_cons, List.length_nil, Nat.zero_add, Nat.reduceAdd, Vb.ln0, Vb.ln1, Vb.ln2, Vb.ln3, Vb.ln4, Vb.ln5, Vb.ln6, if_true, Vb.newObj, Vb.it_tup, Vb.it_ref, Vb.it_str, Vb.ty_join, Vb.ty_split, Vb.ty_append, Vb.ty_extend, Vb.ty_pop, Option.isSome_some, List.map_cons, List.map_nil, Bool.false_eq_true, if_false, Vb.tr_bl, Vb.wipeL, decide_true, decide_false, Bool.not_true, Bool.not_false, Vb.b_add, Vb.b_sub, Vb.c_lt, Vb.c_le, Vb.c_gt, Vb.c_ge, Vb.c_eq_int, Vb.c_ne_int, Vb.c_isn_non, Vb.c_isn_int, Vb.c_isn_tup, Vb.c_notn_non, Vb.c_notn_int, Vb.c_notn_tup, Vb.ix_tup, Vb.bi_list_tup, Vb.isi_int_non, Vb.isi_int_bl, Vb.isi_int_int, Vb.isi_int_str, Vb.isi_int_tup, Vb.isi_int_ref, Vb.isi_bool_non, Vb.isi_bool_bl, Vb.isi_bool_int, Vb.isi_bool_str, Vb.isi_bool_tup, Vb.isi_bool_ref, Vb.isi_str_non, Vb.isi_str_bl, Vb.isi_str_int, Vb.isi_str_str, Vb.isi_str_tup, Vb.isi_str_ref, Vb.isi_tup_non, Vb.isi_tup_bl, Vb.isi_tup_int, Vb.isi_tup_str, Vb.isi_tup_tup, Vb.isi_tup_ref, Vb.isi_lst_non, Vb.isi_lst_bl, Vb.isi_lst_int, Vb.isi_lst_str, Vb.isi_lst_tup, Vb.isi_lst_ref, at0, at1, at2, c_eq_str (okS (x := "parts")) (okS (x := "parts")), decide_eq_true (rfl : ("parts" : Str) = "parts")]
    have e0 : (h ++ [MO.lst [PV.str "parts"]])[h.length]? = some (.lst [PV.str "parts"]) := get_new
    have k0 : Keep [] h (h ++ [MO.lst [PV.str "parts"]]) := .push _
    generalize hH : h ++ [MO.lst [PV.str "parts"]] = H at e0 k0
    rw [bin_lists (Keep.get (S := []) (.push (MO.lst gs)) get_new (by simp)) get_new (line_ok (by simp at lps; omega))]
    try simp only [Vb.execs, Vb.exec, Vb.evalE, Vb.evalEs, Vb.evalT, Vb.evalI, Vb.evalO, Vb.evalOT, Vb.asgS, Vb.bind_ok, Vb.bind_assoc, Vb.then_ok, Vb.then_bind, Vb.next_then, Vb.next_next, Vb.next_nx, Vb.next_rt, Vb.next_bk, Vb.next_ct, Vb.fin_then, Vb.fin_rt, Vb.fin_nx, Vb.opt_some, Vb.cb_fn, Vb.cb_cls, Vb.gl0, Vb.gls, List.getElem?_cons_zero, List.getElem?_cons_succ, List.set_cons_zero, List.set_cons_succ, Vb.storeTg, Vb.storeAll, Option.map_some, List.length_cons, List.length_nil, Nat.zero_add, Nat.reduceAdd, Vb.ln0, Vb.ln1, Vb.ln2, Vb.ln3, Vb.ln4, Vb.ln5, Vb.ln6, if_true, Vb.newObj, Vb.it_tup, Vb.it_ref, Vb.it_str, Vb.ty_join, Vb.ty_split, Vb.ty_append, Vb.ty_extend, Vb.ty_pop, Option.isSome_some, List.map_cons, List.map_nil, Bool.false_eq_true, if_false, Vb.tr_bl, Vb.wipeL, decide_true, decide_false, Bool.not_true, Bool.not_false, Vb.b_add, Vb.b_sub, Vb.c_lt, Vb.c_le, Vb.c_gt, Vb.c_ge, Vb.c_eq_int, Vb.c_ne_int, Vb.c_isn_non, Vb.c_isn_int, Vb.c_isn_tup, Vb.c_notn_non, Vb.c_notn_int, Vb.c_notn_tup, Vb.ix_tup, Vb.bi_list_tup, Vb.isi_int_non, Vb.isi_int_bl, Vb.isi_int_int, Vb.isi_int_str, Vb.isi_int_tup, Vb.isi_int_ref, Vb.isi_bool_non, Vb.isi_bool_bl, Vb.isi_bool_int, Vb.isi_bool_str, Vb.isi_bool_tup, Vb.isi_bool_ref, Vb.isi_str_non, Vb.isi_str_bl, Vb.isi_str_int, Vb.isi_str_str, Vb.isi_str_tup, Vb.isi_str_ref, Vb.isi_tup_non, Vb.isi_tup_bl, Vb.isi_tup_int, Vb.isi_tup_str, Vb.isi_tup_tup, Vb.isi_tup_ref, Vb.isi_lst_non, Vb.isi_lst_bl, Vb.isi_lst_int, Vb.isi_lst_str, Vb.isi_lst_tup, Vb.isi_lst_ref]
    have e9 : (H ++ [MO.lst bs] ++ [MO.lst gs] ++ [MO.lst (bs ++ gs)])[(H ++ [MO.lst bs] ++ [MO.lst gs]).length]? = some (.lst (bs ++ gs)) := get_new
    rw [seq_of e9]
    try simp only [Vb.execs, Vb.exec, Vb.evalE, Vb.evalEs, Vb.evalT, Vb.evalI, Vb.evalO, Vb.evalOT, Vb.asgS, Vb.bind_ok, Vb.bind_assoc, Vb.then_ok, Vb.then_bind, Vb.next_then, Vb.next_next, Vb.next_nx, Vb.next_rt, Vb.next_bk, Vb.next_ct, Vb.fin_then, Vb.fin_rt, Vb.fin_nx, Vb.opt_some, Vb.cb_fn, Vb.cb_cls, Vb.gl0, Vb.gls, List.getElem?_cons_zero, List.getElem?_cons_succ, List.set_cons_zero, List.set_cons_succ, Vb.storeTg, Vb.storeAll, Option.map_some, List.length_cons, List.length_nil, Nat.zero_add, Nat.reduceAdd, Vb.ln0, Vb.ln1, Vb.ln2, Vb.ln3, Vb.ln4, Vb.ln5, Vb.ln6, if_true, Vb.newObj, Vb.it_tup, Vb.it_ref, Vb.it_str, Vb.ty_join, Vb.ty_split, Vb.ty_append, Vb.ty_extend, Vb.ty_pop, Option.isSome_some, List.map_cons, List.map_nil, Bool.false_eq_true, if_false, Vb.tr_bl, Vb.wipeL, decide_true, decide_false, Bool.not_true, Bool.not_false, Vb.b_add, Vb.b_sub, Vb.c_lt, Vb.c_le, Vb.c_gt, Vb.c_ge, Vb.c_eq_int, Vb.c_ne_int, Vb.c_isn_non, Vb.c_isn_int, Vb.c_isn_tup, Vb.c_notn_non, Vb.c_notn_int, Vb.c_notn_tup, Vb.ix_tup, Vb.bi_list_tup, Vb.isi_int_non, Vb.isi_int_bl, Vb.isi_int_int, Vb.isi_int_str, Vb.isi_int_tup, Vb.isi_int_ref, Vb.isi_bool_non, Vb.isi_bool_bl, Vb.isi_bool_int, Vb.isi_bool_str, Vb.isi_bool_tup, Vb.isi_bool_ref, Vb.isi_str_non, Vb.isi_str_bl, Vb.isi_str_int, Vb.isi_str_str, Vb.isi_str_tup, Vb.isi_str_ref, Vb.isi_tup_non, Vb.isi_tup_bl, Vb.isi_tup_int, Vb.isi_tup_str, Vb.isi_tup_tup, Vb.isi_tup_ref, Vb.isi_lst_non, Vb.isi_lst_bl, Vb.isi_lst_int, Vb.isi_lst_str, Vb.isi_lst_tup, Vb.isi_lst_ref]
    have k1 : Keep [] H (H ++ [MO.lst bs] ++ [MO.lst gs] ++ [MO.lst (bs ++ gs)]) := ((Keep.push _).trans (.push _)).trans (.push _)
    generalize (H ++ [MO.lst bs] ++ [MO.lst gs] ++ [MO.lst (bs ++ gs)]) = H1 at e9 k1
    generalize (H ++ [MO.lst bs] ++ [MO.lst gs]).length = w at e9
    refine SOk.finN (for_inv (fun rest lo h1 => ∃ don z q, bs ++ gs = don ++ rest ∧ lo = [some (.tup [.str "parts", .tup bs, .tup gs]), some (.ref q), z, none, none] ∧ h.length ≤ q ∧ h1[q]? = some (.lst ((("parts" : Str) :: don.flatMap rows1).map .str)) ∧ Keep [] H1 h1) (fun _ _ => False)
      (fun _ _ h1 ⟨_, _, _, _, _, _, _, kp⟩ => by show h1[w]? = H1[w]?; rw [kp.get e9 (by simp), e9]) ?_ _ _ _ ⟨[], none, h.length, rfl, rfl, Nat.le_refl _, k1.get e0 (by simp), .refl⟩) ?_
    · rintro x rest lo h1 ⟨don, z, q, ed, rfl, hq, e2, kp⟩
      have hx : IsOne x := one x (by rw [ed]; simp)
      try simp only [Vb.execs, Vb.exec, Vb.evalE, Vb.evalEs, Vb.evalT, Vb.evalI, Vb.evalO, Vb.evalOT, Vb.asgS, Vb.bind_ok, Vb.bind_assoc, Vb.then_ok, Vb.then_bind, Vb.next_then, Vb.next_next, Vb.next_nx, Vb.next_rt, Vb.next_bk, Vb.next_ct, Vb.fin_then, Vb.fin_rt, Vb.fin_nx, Vb.opt_some, Vb.cb_fn, Vb.cb_cls, Vb.gl0, Vb.gls, List.getElem?_cons_zero, List.getElem?_cons_succ, List.set_cons_zero, List.set_cons_succ, Vb.storeTg, Vb.storeAll, Option.map_some, List.length_cons, List.length_nil, Nat.zero_add, Nat.reduceAdd, Vb.ln0, Vb.ln1, Vb.ln2, Vb.ln3, Vb.ln4, Vb.ln5, Vb.ln6, if_true, Vb.newObj, Vb.it_tup, Vb.it_ref, Vb.it_str, Vb.ty_join, Vb.ty_split, Vb.ty_append, Vb.ty_extend, Vb.ty_pop, Option.isSome_some, List.map_cons, List.map_nil, Bool.false_eq_true, if_false, Vb.tr_bl, Vb.wipeL, decide_true, decide_false, Bool.not_true, Bool.not_false, Vb.b_add, Vb.b_sub, Vb.c_lt, Vb.c_le, Vb.c_gt, Vb.c_ge, Vb.c_eq_int, Vb.c_ne_int, Vb.c_isn_non, Vb.c_isn_int, Vb.c_isn_tup, Vb.c_notn_non, Vb.c_notn_int, Vb.c_notn_tup, Vb.ix_tup, Vb.bi_list_tup, Vb.isi_int_non, Vb.isi_int_bl, Vb.isi_int_int, Vb.isi_int_str, Vb.isi_int_tup, Vb.isi_int_ref, Vb.isi_bool_non, Vb.isi_bool_bl, Vb.isi_bool_int, Vb.isi_bool_str, Vb.isi_bool_tup, Vb.isi_bool_ref, Vb.isi_str_non, Vb.isi_str_bl, Vb.isi_str_int, Vb.isi_str_str, Vb.isi_str_tup, Vb.isi_str_ref, Vb.isi_tup_non, Vb.isi_tup_bl, Vb.isi_tup_int, Vb.isi_tup_str, Vb.isi_tup_tup, Vb.isi_tup_ref, Vb.isi_lst_non, Vb.isi_lst_bl, Vb.isi_lst_int, Vb.isi_lst_str, Vb.isi_lst_tup, Vb.isi_lst_ref]
      refine SOk.then_ (sp33o (n := n) h1 hx) ?_
      rintro _ h2 ⟨q2, rfl, hq2, e3, k2⟩
      have e4 := k2.get e2 (by simp)
      have ld := congrArg List.length ed
      simp only [List.length_append, List.length_cons] at ld lps
      rw [bin_lists e4 e3 (line_ok (by
        have a := flat_le (ps := don) fun p hp => one p (by rw [ed]; simp [hp])
        have b := (rows1_le hx).1
        simp only [List.length_map, List.length_cons]
        omega))]
      try simp only [Vb.execs, Vb.exec, Vb.evalE, Vb.evalEs, Vb.evalT, Vb.evalI, Vb.evalO, Vb.evalOT, Vb.asgS, Vb.bind_ok, Vb.bind_assoc, Vb.then_ok, Vb.then_bind, Vb.next_then, Vb.next_next, Vb.next_nx, Vb.next_rt, Vb.next_bk, Vb.next_ct, Vb.fin_then, Vb.fin_rt, Vb.fin_nx, Vb.opt_some, Vb.cb_fn, Vb.cb_cls, Vb.gl0, Vb.gls, List.getElem?_cons_zero, List.getElem?_cons_succ, List.set_cons_zero, List.set_cons_succ, Vb.storeTg, Vb.storeAll, Option.map_some, List.length_cons, List.length_nil, Nat.zero_add, Nat.reduceAdd, Vb.ln0, Vb.ln1, Vb.ln2, Vb.ln3, Vb.ln4, Vb.ln5, Vb.ln6, if_true, Vb.newObj, Vb.it_tup, Vb.it_ref, Vb.it_str, Vb.ty_join, Vb.ty_split, Vb.ty_append, Vb.ty_extend, Vb.ty_pop, Option.isSome_some, List.map_cons, List.map_nil, Bool.false_eq_true, if_false, Vb.tr_bl, Vb.wipeL, decide_true, decide_false, Bool.not_true, Bool.not_false, Vb.b_add, Vb.b_sub, Vb.c_lt, Vb.c_le, Vb.c_gt, Vb.c_ge, Vb.c_eq_int, Vb.c_ne_int, Vb.c_isn_non, Vb.c_isn_int, Vb.c_isn_tup, Vb.c_notn_non, Vb.c_notn_int, Vb.c_notn_tup, Vb.ix_tup, Vb.bi_list_tup, Vb.isi_int_non, Vb.isi_int_bl, Vb.isi_int_int, Vb.isi_int_str, Vb.isi_int_tup, Vb.isi_int_ref, Vb.isi_bool_non, Vb.isi_bool_bl, Vb.isi_bool_int, Vb.isi_bool_str, Vb.isi_bool_tup, Vb.isi_bool_ref, Vb.isi_str_non, Vb.isi_str_bl, Vb.isi_str_int, Vb.isi_str_str, Vb.isi_str_tup, Vb.isi_str_ref, Vb.isi_tup_non, Vb.isi_tup_bl, Vb.isi_tup_int, Vb.isi_tup_str, Vb.isi_tup_tup, Vb.isi_tup_ref, Vb.isi_lst_non, Vb.isi_lst_bl, Vb.isi_lst_int, Vb.isi_lst_str, Vb.isi_lst_tup, Vb.isi_lst_ref]
      refine .ret ⟨don ++ [x], some x, _, by rw [ed]; simp, rfl, ?_, ?_, (kp.trans k2).trans (.push _)⟩
      · have := k0.len; have := k1.len; have := kp.len; have := k2.len; omega
      · rw [get_new]; simp
    · rintro fl h2 q
      cases fl with
      | nx lo =>
        obtain ⟨don, z, q, ed, rfl, hq, e2, kp⟩ := q
        rw [List.append_nil] at ed
        subst ed
        try simp only [Vb.execs, Vb.exec, Vb.evalE, Vb.evalEs, Vb.evalT, Vb.evalI, Vb.evalO, Vb.evalOT, Vb.asgS, Vb.bind_ok, Vb.bind_assoc, Vb.then_ok, Vb.then_bind, Vb.next_then, Vb.next_next, Vb.next_nx, Vb.next_rt, Vb.next_bk, Vb.next_ct, Vb.fin_then, Vb.fin_rt, Vb.fin_nx, Vb.opt_some, Vb.cb_fn, Vb.cb_cls, Vb.gl0, Vb.gls, List.getElem?_cons_zero, List.getElem?_cons_succ, List.set_cons_zero, List.set_cons_succ, Vb.storeTg, Vb.storeAll, Option.map_some, List.length_cons, List.length_nil, Nat.zero_add, Nat.reduceAdd, Vb.ln0, Vb.ln1, Vb.ln2, Vb.ln3, Vb.ln4, Vb.ln5, Vb.ln6, if_true, Vb.newObj, Vb.it_tup, Vb.it_ref, Vb.it_str, Vb.ty_join, Vb.ty_split, Vb.ty_append, Vb.ty_extend, Vb.ty_pop, Option.isSome_some, List.map_cons, List.map_nil, Bool.false_eq_true, if_false, Vb.tr_bl, Vb.wipeL, decide_true, decide_false, Bool.not_true, Bool.not_false, Vb.b_add, Vb.b_sub, Vb.c_lt, Vb.c_le, Vb.c_gt, Vb.c_ge, Vb.c_eq_int, Vb.c_ne_int, Vb.c_isn_non, Vb.c_isn_int, Vb.c_isn_tup, Vb.c_notn_non, Vb.c_notn_int, Vb.c_notn_tup, Vb.ix_tup, Vb.bi_list_tup, Vb.isi_int_non, Vb.isi_int_bl, Vb.isi_int_int, Vb.isi_int_str, Vb.isi_int_tup, Vb.isi_int_ref, Vb.isi_bool_non, Vb.isi_bool_bl, Vb.isi_bool_int, Vb.isi_bool_str, Vb.isi_bool_tup, Vb.isi_bool_ref, Vb.isi_str_non, Vb.isi_str_bl, Vb.isi_str_int, Vb.isi_str_str, Vb.isi_str_tup, Vb.isi_str_ref, Vb.isi_tup_non, Vb.isi_tup_bl, Vb.isi_tup_int, Vb.isi_tup_str, Vb.isi_tup_tup, Vb.isi_tup_ref, Vb.isi_lst_non, Vb.isi_lst_bl, Vb.isi_lst_int, Vb.isi_lst_str, Vb.isi_lst_tup, Vb.isi_lst_ref]
        exact .ret ⟨_, rfl, hq, e2, (k0.trans k1).trans kp⟩
      | _ => exact q.elim
/-! ### runs -/
def breakS (b o g : PV) (k : Str) : Str := Txt.join " " ["break", numP b, ownS o, k, numP g]
def rowsR (vs : List PV) : PV → List Str
  | .tup [b, o, .str k, g] => ("run" : Str) :: (stR vs ++ [breakS b o g k])
  | _ => ("run" : Str) :: stR vs
theorem len_kind {k : Str} (hk : k = "need" ∨ k = "promise") : k.length ≤ 7 := by rcases hk with rfl | rfl <;> decide +kernel
theorem ok_kind {k : Str} (hk : k = "need" ∨ k = "promise") : PyData.strOk k = true := by rcases hk with rfl | rfl <;> decide +kernel
theorem len_break : ("break" : Str).length = 5 := by decide +kernel
theorem join5 {h : MH} {a b c d e : Str} (z : a.length + b.length + c.length + d.length + e.length ≤ 1000) : bmS .join (.str " ") [.ref h.length] (h ++ [MO.lst [.str a, .str b, .str c, .str d, .str e]]) = .ok (.str (Txt.join " " [a, b, c, d, e])) (h ++ [MO.lst [.str a, .str b, .str c, .str d, .str e]]) :=
  bm_join (x := " ") (ws := [a, b, c, d, e]) get_new (by
    simp only [List.map_cons, List.map_nil, List.sum_cons, List.sum_nil, List.length_cons, List.length_nil, len_sp]
    omega)
theorem break_le {b o g : PV} {k : Str} (hb : Small b) (ho : Owner o) (hg : Small g) (hk : k = "need" ∨ k = "promise") : (breakS b o g k).length ≤ 100 := by
  have a := join_len (s := " ") (ws := ["break", numP b, ownS o, k, numP g])
  have b1 := own_le ho
  have c := num_le hg
  have d := num_le hb
  have e := len_kind hk
  simp only [List.map_cons, List.map_nil, List.sum_cons, List.sum_nil, List.length_cons, List.length_nil, len_break, len_sp] at a
  unfold breakS
  omega
theorem rowsR_le {vs : List PV} {f : PV} (hs : States vs) (hf : IsFound f) : (rowsR vs f).length ≤ 8 ∧ ∀ w ∈ rowsR vs f, w.length ≤ 300000 := by
  have st : ∀ w ∈ stR vs, w.length ≤ 300000 := fun w hw => by
    obtain ⟨v, hv, rfl⟩ := List.mem_map.mp hw
    exact txt_le (hs.2 v hv)
  have l := hs.1
  rcases hf with rfl | ⟨b, o, k, g, rfl, hb, ho, hk, hg⟩
  · refine ⟨by simp [rowsR, stR]; omega, fun w hw => ?_⟩
    rcases List.mem_cons.mp hw with rfl | hw
    · decide +kernel
    · exact st w hw
  · refine ⟨by simp [rowsR, stR]; omega, fun w hw => ?_⟩
    rcases List.mem_cons.mp hw with rfl | hw
    · decide +kernel
    · rcases List.mem_append.mp hw with hw | hw
      · exact st w hw
      · rw [List.mem_singleton.mp hw]
        have := break_le hb ho hg hk
        omega
end V87

set_option Elab.async false
set_option linter.all false
set_option maxRecDepth 100000
set_option maxHeartbeats 2000000
namespace V87
open PySem Vb
def txtR (vs : List PV) (f : PV) : Str := Txt.join "\n" (rowsR vs f)
theorem rows_join {ws : List Str} {r : Nat} {h : MH} (e : h[r]? = some (.lst (ws.map .str))) (l : ws.length ≤ 43) (z : ∀ w ∈ ws, w.length ≤ 300000) : bmS .join (.str "\n") [.ref r] h = .ok (.str (Txt.join "\n" ws)) h :=
  bm_join e (Nat.le_trans (sum_rows l z len_nl) (by decide))
theorem at40 {α : Type} {a b c d : α} : L2.atI [a, b, c, d] 0 = some a := rfl
theorem at41 {α : Type} {a b c d : α} : L2.atI [a, b, c, d] 1 = some b := rfl
theorem at42 {α : Type} {a b c d : α} : L2.atI [a, b, c, d] 2 = some c := rfl
theorem at43 {α : Type} {a b c d : α} : L2.atI [a, b, c, d] 3 = some d := rfl
theorem sp19 {n q : Nat} {h : MH} {vs : List PV} {f : PV} (e : h[q]? = some (.lst vs)) (hs : States vs) (hf : IsFound f) : Ok (callF Pr (n + 13) 19 [.ref q, f] h) fun r h' => r = .str (txtR vs f) ∧ Keep [] h h' := by
  rw [callF_at (d := d19) rfl rfl]
  show Ok (finF (Vb.execs (cbK Pr (n + 12)) Pr.xt Pr.wl b19 [some (.ref q), some f, none, none, none, none, none] h)) _
  unfold b19
  have e1 : (h ++ [MO.lst [PV.str "run"]])[q]? = some (.lst vs) := Keep.get (S := []) (.push _) e (by simp)
  have e2 : (h ++ [MO.lst [PV.str "run"]])[h.length]? = some (.lst [PV.str "run"]) := get_new
  have k0 : Keep [] h (h ++ [MO.lst [PV.str "run"]]) := .push _
  try simp only [Vb.execs, Vb.exec, Vb.evalE, Vb.evalEs, Vb.evalT, Vb.evalI, Vb.evalO, Vb.evalOT, Vb.asgS, Vb.bind_ok, Vb.bind_assoc, Vb.then_ok, Vb.then_bind, Vb.next_then, Vb.next_next, Vb.next_nx, Vb.next_rt, Vb.next_bk, Vb.next_ct, Vb.fin_then, Vb.fin_rt, Vb.fin_nx, Vb.opt_some, Vb.cb_fn, Vb.cb_cls, Vb.gl0, Vb.gls, List.getElem?_cons_zero, List.getElem?_cons_succ, List.set_cons_zero, List.set_cons_succ, Vb.storeTg, Vb.storeAll, Option.map_some, List.length_cons, List.length_nil, Nat.zero_add, Nat.reduceAdd, Vb.ln0, Vb.ln1, Vb.ln2, Vb.ln3, Vb.ln4, Vb.ln5, Vb.ln6, if_true, Vb.newObj, Vb.it_tup, Vb.it_ref, Vb.it_str, Vb.ty_join, Vb.ty_split, Vb.ty_append, Vb.ty_extend, Vb.ty_pop, Option.isSome_some, List.map_cons, List.map_nil, Bool.false_eq_true, if_false, Vb.tr_bl, Vb.wipeL, decide_true, decide_false, Bool.not_true, Bool.not_false, Vb.b_add, Vb.b_sub, Vb.c_lt, Vb.c_le, Vb.c_gt, Vb.c_ge, Vb.c_eq_int, Vb.c_ne_int, Vb.c_isn_non, Vb.c_isn_int, Vb.c_isn_tup, Vb.c_notn_non, Vb.c_notn_int, Vb.c_notn_tup, Vb.ix_tup, Vb.bi_list_tup, Vb.isi_int_non, Vb.isi_int_bl, Vb.isi_int_int, Vb.isi_int_str, Vb.isi_int_tup, Vb.isi_int_ref, Vb.isi_bool_non, Vb.isi_bool_bl, Vb.isi_bool_int, Vb.isi_bool_str, Vb.isi_bool_tup, Vb.isi_bool_ref, Vb.isi_str_non, Vb.isi_str_bl, Vb.isi_str_int, Vb.isi_str_str, Vb.isi_str_tup, Vb.isi_str_ref, Vb.isi_tup_non, Vb.isi_tup_bl, Vb.isi_tup_int, Vb.isi_tup_str, Vb.isi_tup_tup, Vb.isi_tup_ref, Vb.isi_lst_non, Vb.isi_lst_bl, Vb.isi_lst_int, Vb.isi_lst_str, Vb.isi_lst_tup, Vb.isi_lst_ref, seq_of e1]
  generalize h ++ [MO.lst [PV.str "run"]] = H at e1 e2 k0
  refine Ok.bind (lc_states (n := n) (fnum := 2) (fun h1 k => by show h1[q]? = H[q]?; rw [k.get e1 (by simp), e1]) hs fun v h1 hv => Ok.bind (sp2 h1 (isSt_T hv).1 (isSt_T hv).2 (by omega)) ?_) ?_
  · rintro _ h2 ⟨rfl, k2⟩
    exact .ret ⟨rfl, k2⟩
  rintro _ h2 ⟨rfl, e3, k2⟩
  rw [bin_lists (k2.get e2 (by simp)) e3 (line_ok (by have := hs.1; simp [stR]; omega))]
  have le := rowsR_le hs hf
  rcases hf with rfl | ⟨b, o, k, g, rfl, hb, ho, hk, hg⟩
  · try simp only [Vb.execs, Vb.exec, Vb.evalE, Vb.evalEs, Vb.evalT, Vb.evalI, Vb.evalO, Vb.evalOT, Vb.asgS, Vb.bind_ok, Vb.bind_assoc, Vb.then_ok, Vb.then_bind, Vb.next_then, Vb.next_next, Vb.next_nx, Vb.next_rt, Vb.next_bk, Vb.next_ct, Vb.fin_then, Vb.fin_rt, Vb.fin_nx, Vb.opt_some, Vb.cb_fn, Vb.cb_cls, Vb.gl0, Vb.gls, List.getElem?_cons_zero, List.getElem?_cons_succ, List.set_cons_zero, List.set_cons_succ, Vb.storeTg, Vb.storeAll, Option.map_some, List.length_cons, List.length_nil, Nat.zero_add, Nat.reduceAdd, Vb.ln0, Vb.ln1, Vb.ln2, Vb.ln3, Vb.ln4, Vb.ln5, Vb.ln6, if_true, Vb.newObj, Vb.it_tup, Vb.it_ref, Vb.it_str, Vb.ty_join, Vb.ty_split, Vb.ty_append, Vb.ty_extend, Vb.ty_pop, Option.isSome_some, List.map_cons, List.map_nil, Bool.false_eq_true, if_false, Vb.tr_bl, Vb.wipeL, decide_true, decide_false, Bool.not_true, Bool.not_false, Vb.b_add, Vb.b_sub, Vb.c_lt, Vb.c_le, Vb.c_gt, Vb.c_ge, Vb.c_eq_int, Vb.c_ne_int, Vb.c_isn_non, Vb.c_isn_int, Vb.c_isn_tup, Vb.c_notn_non, Vb.c_notn_int, Vb.c_notn_tup, Vb.ix_tup, Vb.bi_list_tup, Vb.isi_int_non, Vb.isi_int_bl, Vb.isi_int_int, Vb.isi_int_str, Vb.isi_int_tup, Vb.isi_int_ref, Vb.isi_bool_non, Vb.isi_bool_bl, Vb.isi_bool_int, Vb.isi_bool_str, Vb.isi_bool_tup, Vb.isi_bool_ref, Vb.isi_str_non, Vb.isi_str_bl, Vb.isi_str_int, Vb.isi_str_str, Vb.isi_str_tup, Vb.isi_str_ref, Vb.isi_tup_non, Vb.isi_tup_bl, Vb.isi_tup_int, Vb.isi_tup_str, Vb.isi_tup_tup, Vb.isi_tup_ref, Vb.isi_lst_non, Vb.isi_lst_bl, Vb.isi_lst_int, Vb.isi_lst_str, Vb.isi_lst_tup, Vb.isi_lst_ref]
    have e4 : (h2 ++ [MO.lst ([PV.str "run"] ++ (stR vs).map PV.str)])[h2.length]? = some (.lst ((rowsR vs .non).map .str)) := get_new
    rw [rows_join e4 (by omega) le.2]
    try simp only [Vb.execs, Vb.exec, Vb.evalE, Vb.evalEs, Vb.evalT, Vb.evalI, Vb.evalO, Vb.evalOT, Vb.asgS, Vb.bind_ok, Vb.bind_assoc, Vb.then_ok, Vb.then_bind, Vb.next_then, Vb.next_next, Vb.next_nx, Vb.next_rt, Vb.next_bk, Vb.next_ct, Vb.fin_then, Vb.fin_rt, Vb.fin_nx, Vb.opt_some, Vb.cb_fn, Vb.cb_cls, Vb.gl0, Vb.gls, List.getElem?_cons_zero, List.getElem?_cons_succ, List.set_cons_zero, List.set_cons_succ, Vb.storeTg, Vb.storeAll, Option.map_some, List.length_cons, List.length_nil, Nat.zero_add, Nat.reduceAdd, Vb.ln0, Vb.ln1, Vb.ln2, Vb.ln3, Vb.ln4, Vb.ln5, Vb.ln6, if_true, Vb.newObj, Vb.it_tup, Vb.it_ref, Vb.it_str, Vb.ty_join, Vb.ty_split, Vb.ty_append, Vb.ty_extend, Vb.ty_pop, Option.isSome_some, List.map_cons, List.map_nil, Bool.false_eq_true, if_false, Vb.tr_bl, Vb.wipeL, decide_true, decide_false, Bool.not_true, Bool.not_false, Vb.b_add, Vb.b_sub, Vb.c_lt, Vb.c_le, Vb.c_gt, Vb.c_ge, Vb.c_eq_int, Vb.c_ne_int, Vb.c_isn_non, Vb.c_isn_int, Vb.c_isn_tup, Vb.c_notn_non, Vb.c_notn_int, Vb.c_notn_tup, Vb.ix_tup, Vb.bi_list_tup, Vb.isi_int_non, Vb.isi_int_bl, Vb.isi_int_int, Vb.isi_int_str, Vb.isi_int_tup, Vb.isi_int_ref, Vb.isi_bool_non, Vb.isi_bool_bl, Vb.isi_bool_int, Vb.isi_bool_str, Vb.isi_bool_tup, Vb.isi_bool_ref, Vb.isi_str_non, Vb.isi_str_bl, Vb.isi_str_int, Vb.isi_str_str, Vb.isi_str_tup, Vb.isi_str_ref, Vb.isi_tup_non, Vb.isi_tup_bl, Vb.isi_tup_int, Vb.isi_tup_str, Vb.isi_tup_tup, Vb.isi_tup_ref, Vb.isi_lst_non, Vb.isi_lst_bl, Vb.isi_lst_int, Vb.isi_lst_str, Vb.isi_lst_tup, Vb.isi_lst_ref]
    exact .ret ⟨rfl, k0.trans (k2.trans (.push _))⟩
  · have e4 : (h2 ++ [MO.lst ([PV.str "run"] ++ (stR vs).map PV.str)])[h2.length]? = some (.lst ([PV.str "run"] ++ (stR vs).map PV.str)) := get_new
    have k3 : Keep [] h2 (h2 ++ [MO.lst ([PV.str "run"] ++ (stR vs).map PV.str)]) := .push _
    have k4 : Keep [] h (h2 ++ [MO.lst ([PV.str "run"] ++ (stR vs).map PV.str)]) := k0.trans (k2.trans k3)
    have nl : h.length ≤ h2.length := by have a := k0.len; have c := k2.len; omega
    try simp only [Vb.execs, Vb.exec, Vb.evalE, Vb.evalEs, Vb.evalT, Vb.evalI, Vb.evalO, Vb.evalOT, Vb.asgS, Vb.bind_ok, Vb.bind_assoc, Vb.then_ok, Vb.then_bind, Vb.next_then, Vb.next_next, Vb.next_nx, Vb.next_rt, Vb.next_bk, Vb.next_ct, Vb.fin_then, Vb.fin_rt, Vb.fin_nx, Vb.opt_some, Vb.cb_fn, Vb.cb_cls, Vb.gl0, Vb.gls, List.getElem?_cons_zero, List.getElem?_cons_succ, List.set_cons_zero, List.set_cons_succ, Vb.storeTg, Vb.storeAll, Option.map_some, List.length_cons, List.length_nil, Nat.zero_add, Nat.reduceAdd, Vb.ln0, Vb.ln1, Vb.ln2, Vb.ln3, Vb.ln4, Vb.ln5, Vb.ln6, if_true, Vb.newObj, Vb.it_tup, Vb.it_ref, Vb.it_str, Vb.ty_join, Vb.ty_split, Vb.ty_append, Vb.ty_extend, Vb.ty_pop, Option.isSome_some, List.map_cons, List.map_nil, Bool.false_eq_true, if_false, Vb.tr_bl, Vb.wipeL, decide_true, decide_false, Bool.not_true, Bool.not_false, Vb.b_add, Vb.b_sub, Vb.c_lt, Vb.c_le, Vb.c_gt, Vb.c_ge, Vb.c_eq_int, Vb.c_ne_int, Vb.c_isn_non, Vb.c_isn_int, Vb.c_isn_tup, Vb.c_notn_non, Vb.c_notn_int, Vb.c_notn_tup, Vb.ix_tup, Vb.bi_list_tup, Vb.isi_int_non, Vb.isi_int_bl, Vb.isi_int_int, Vb.isi_int_str, Vb.isi_int_tup, Vb.isi_int_ref, Vb.isi_bool_non, Vb.isi_bool_bl, Vb.isi_bool_int, Vb.isi_bool_str, Vb.isi_bool_tup, Vb.isi_bool_ref, Vb.isi_str_non, Vb.isi_str_bl, Vb.isi_str_int, Vb.isi_str_str, Vb.isi_str_tup, Vb.isi_str_ref, Vb.isi_tup_non, Vb.isi_tup_bl, Vb.isi_tup_int, Vb.isi_tup_str, Vb.isi_tup_tup, Vb.isi_tup_ref, Vb.isi_lst_non, Vb.isi_lst_bl, Vb.isi_lst_int, Vb.isi_lst_str, Vb.isi_lst_tup, Vb.isi_lst_ref, seq_of e4]
    generalize (h2 ++ [MO.lst ([PV.str "run"] ++ (stR vs).map PV.str)]) = h3 at e4 k4
    generalize h2.length = w at e4 nl
    try simp only [Vb.execs, Vb.exec, Vb.evalE, Vb.evalEs, Vb.evalT, Vb.evalI, Vb.evalO, Vb.evalOT, Vb.asgS, Vb.bind_ok, Vb.bind_assoc, Vb.then_ok, Vb.then_bind, Vb.next_then, Vb.next_next, Vb.next_nx, Vb.next_rt, Vb.next_bk, Vb.next_ct, Vb.fin_then, Vb.fin_rt, Vb.fin_nx, Vb.opt_some, Vb.cb_fn, Vb.cb_cls, Vb.gl0, Vb.gls, List.getElem?_cons_zero, List.getElem?_cons_succ, List.set_cons_zero, List.set_cons_succ, Vb.storeTg, Vb.storeAll, Option.map_some, List.length_cons, List.length_nil, Nat.zero_add, Nat.reduceAdd, Vb.ln0, Vb.ln1, Vb.ln2, Vb.ln3, Vb.ln4, Vb.ln5, Vb.ln6, if_true, Vb.newObj, Vb.it_tup, Vb.it_ref, Vb.it_str, Vb.ty_join, Vb.ty_split, Vb.ty_append, Vb.ty_extend, Vb.ty_pop, Option.isSome_some, List.map_cons, List.map_nil, Bool.false_eq_true, if_false, Vb.tr_bl, Vb.wipeL, decide_true, decide_false, Bool.not_true, Bool.not_false, Vb.b_add, Vb.b_sub, Vb.c_lt, Vb.c_le, Vb.c_gt, Vb.c_ge, Vb.c_eq_int, Vb.c_ne_int, Vb.c_isn_non, Vb.c_isn_int, Vb.c_isn_tup, Vb.c_notn_non, Vb.c_notn_int, Vb.c_notn_tup, Vb.ix_tup, Vb.bi_list_tup, Vb.isi_int_non, Vb.isi_int_bl, Vb.isi_int_int, Vb.isi_int_str, Vb.isi_int_tup, Vb.isi_int_ref, Vb.isi_bool_non, Vb.isi_bool_bl, Vb.isi_bool_int, Vb.isi_bool_str, Vb.isi_bool_tup, Vb.isi_bool_ref, Vb.isi_str_non, Vb.isi_str_bl, Vb.isi_str_int, Vb.isi_str_str, Vb.isi_str_tup, Vb.isi_str_ref, Vb.isi_tup_non, Vb.isi_tup_bl, Vb.isi_tup_int, Vb.isi_tup_str, Vb.isi_tup_tup, Vb.isi_tup_ref, Vb.isi_lst_non, Vb.isi_lst_bl, Vb.isi_lst_int, Vb.isi_lst_str, Vb.isi_lst_tup, Vb.isi_lst_ref, str_small hb, str_small hg, sp6 h3 ho]
    rw [join5 (by
      have a := own_le ho
      have c := num_le hg
      have d := num_le hb
      have e := len_kind hk
      rw [len_break]
      omega)]
    try simp only [Vb.execs, Vb.exec, Vb.evalE, Vb.evalEs, Vb.evalT, Vb.evalI, Vb.evalO, Vb.evalOT, Vb.asgS, Vb.bind_ok, Vb.bind_assoc, Vb.then_ok, Vb.then_bind, Vb.next_then, Vb.next_next, Vb.next_nx, Vb.next_rt, Vb.next_bk, Vb.next_ct, Vb.fin_then, Vb.fin_rt, Vb.fin_nx, Vb.opt_some, Vb.cb_fn, Vb.cb_cls, Vb.gl0, Vb.gls, List.getElem?_cons_zero, List.getElem?_cons_succ, List.set_cons_zero, List.set_cons_succ, Vb.storeTg, Vb.storeAll, Option.map_some, List.length_cons, List.length_nil, Nat.zero_add, Nat.reduceAdd, Vb.ln0, Vb.ln1, Vb.ln2, Vb.ln3, Vb.ln4, Vb.ln5, Vb.ln6, if_true, Vb.newObj, Vb.it_tup, Vb.it_ref, Vb.it_str, Vb.ty_join, Vb.ty_split, Vb.ty_append, Vb.ty_extend, Vb.ty_pop, Option.isSome_some, List.map_cons, List.map_nil, Bool.false_eq_true, if_false, Vb.tr_bl, Vb.wipeL, decide_true, decide_false, Bool.not_true, Bool.not_false, Vb.b_add, Vb.b_sub, Vb.c_lt, Vb.c_le, Vb.c_gt, Vb.c_ge, Vb.c_eq_int, Vb.c_ne_int, Vb.c_isn_non, Vb.c_isn_int, Vb.c_isn_tup, Vb.c_notn_non, Vb.c_notn_int, Vb.c_notn_tup, Vb.ix_tup, Vb.bi_list_tup, Vb.isi_int_non, Vb.isi_int_bl, Vb.isi_int_int, Vb.isi_int_str, Vb.isi_int_tup, Vb.isi_int_ref, Vb.isi_bool_non, Vb.isi_bool_bl, Vb.isi_bool_int, Vb.isi_bool_str, Vb.isi_bool_tup, Vb.isi_bool_ref, Vb.isi_str_non, Vb.isi_str_bl, Vb.isi_str_int, Vb.isi_str_str, Vb.isi_str_tup, Vb.isi_str_ref, Vb.isi_tup_non, Vb.isi_tup_bl, Vb.isi_tup_int, Vb.isi_tup_str, Vb.isi_tup_tup, Vb.isi_tup_ref, Vb.isi_lst_non, Vb.isi_lst_bl, Vb.isi_lst_int, Vb.isi_lst_str, Vb.isi_lst_tup, Vb.isi_lst_ref]
    have e5 := Keep.get (S := []) (.push (MO.lst [.str "break", .str (numP b), .str (ownS o), .str k, .str (numP g)])) e4 (by simp)
    rw [bm_append e5 (by
      have := hs.1
      have big : 100 < sizeLine := by decide
      simp [stR]
      omega)]
    try simp only [Vb.execs, Vb.exec, Vb.evalE, Vb.evalEs, Vb.evalT, Vb.evalI, Vb.evalO, Vb.evalOT, Vb.asgS, Vb.bind_ok, Vb.bind_assoc, Vb.then_ok, Vb.then_bind, Vb.next_then, Vb.next_next, Vb.next_nx, Vb.next_rt, Vb.next_bk, Vb.next_ct, Vb.fin_then, Vb.fin_rt, Vb.fin_nx, Vb.opt_some, Vb.cb_fn, Vb.cb_cls, Vb.gl0, Vb.gls, List.getElem?_cons_zero, List.getElem?_cons_succ, List.set_cons_zero, List.set_cons_succ, Vb.storeTg, Vb.storeAll, Option.map_some, List.length_cons, List.length_nil, Nat.zero_add, Nat.reduceAdd, Vb.ln0, Vb.ln1, Vb.ln2, Vb.ln3, Vb.ln4, Vb.ln5, Vb.ln6, if_true, Vb.newObj, Vb.it_tup, Vb.it_ref, Vb.it_str, Vb.ty_join, Vb.ty_split, Vb.ty_append, Vb.ty_extend, Vb.ty_pop, Option.isSome_some, List.map_cons, List.map_nil, Bool.false_eq_true, if_false, Vb.tr_bl, Vb.wipeL, decide_true, decide_false, Bool.not_true, Bool.not_false, Vb.b_add, Vb.b_sub, Vb.c_lt, Vb.c_le, Vb.c_gt, Vb.c_ge, Vb.c_eq_int, Vb.c_ne_int, Vb.c_isn_non, Vb.c_isn_int, Vb.c_isn_tup, Vb.c_notn_non, Vb.c_notn_int, Vb.c_notn_tup, Vb.ix_tup, Vb.bi_list_tup, Vb.isi_int_non, Vb.isi_int_bl, Vb.isi_int_int, Vb.isi_int_str, Vb.isi_int_tup, Vb.isi_int_ref, Vb.isi_bool_non, Vb.isi_bool_bl, Vb.isi_bool_int, Vb.isi_bool_str, Vb.isi_bool_tup, Vb.isi_bool_ref, Vb.isi_str_non, Vb.isi_str_bl, Vb.isi_str_int, Vb.isi_str_str, Vb.isi_str_tup, Vb.isi_str_ref, Vb.isi_tup_non, Vb.isi_tup_bl, Vb.isi_tup_int, Vb.isi_tup_str, Vb.isi_tup_tup, Vb.isi_tup_ref, Vb.isi_lst_non, Vb.isi_lst_bl, Vb.isi_lst_int, Vb.isi_lst_str, Vb.isi_lst_tup, Vb.isi_lst_ref]
    rw [rows_join (ws := rowsR vs (.tup [b, o, .str k, g])) (by rw [get_set e5]; simp [rowsR, breakS]) (by omega) le.2]
    try simp only [Vb.execs, Vb.exec, Vb.evalE, Vb.evalEs, Vb.evalT, Vb.evalI, Vb.evalO, Vb.evalOT, Vb.asgS, Vb.bind_ok, Vb.bind_assoc, Vb.then_ok, Vb.then_bind, Vb.next_then, Vb.next_next, Vb.next_nx, Vb.next_rt, Vb.next_bk, Vb.next_ct, Vb.fin_then, Vb.fin_rt, Vb.fin_nx, Vb.opt_some, Vb.cb_fn, Vb.cb_cls, Vb.gl0, Vb.gls, List.getElem?_cons_zero, List.getElem?_cons_succ, List.set_cons_zero, List.set_cons_succ, Vb.storeTg, Vb.storeAll, Option.map_some, List.length_cons, List.length_nil, Nat.zero_add, Nat.reduceAdd, Vb.ln0, Vb.ln1, Vb.ln2, Vb.ln3, Vb.ln4, Vb.ln5, Vb.ln6, if_true, Vb.newObj, Vb.it_tup, Vb.it_ref, Vb.it_str, Vb.ty_join, Vb.ty_split, Vb.ty_append, Vb.ty_extend, Vb.ty_pop, Option.isSome_some, List.map_cons, List.map_nil, Bool.false_eq_true, if_false, Vb.tr_bl, Vb.wipeL, decide_true, decide_false, Bool.not_true, Bool.not_false, Vb.b_add, Vb.b_sub, Vb.c_lt, Vb.c_le, Vb.c_gt, Vb.c_ge, Vb.c_eq_int, Vb.c_ne_int, Vb.c_isn_non, Vb.c_isn_int, Vb.c_isn_tup, Vb.c_notn_non, Vb.c_notn_int, Vb.c_notn_tup, Vb.ix_tup, Vb.bi_list_tup, Vb.isi_int_non, Vb.isi_int_bl, Vb.isi_int_int, Vb.isi_int_str, Vb.isi_int_tup, Vb.isi_int_ref, Vb.isi_bool_non, Vb.isi_bool_bl, Vb.isi_bool_int, Vb.isi_bool_str, Vb.isi_bool_tup, Vb.isi_bool_ref, Vb.isi_str_non, Vb.isi_str_bl, Vb.isi_str_int, Vb.isi_str_str, Vb.isi_str_tup, Vb.isi_str_ref, Vb.isi_tup_non, Vb.isi_tup_bl, Vb.isi_tup_int, Vb.isi_tup_str, Vb.isi_tup_tup, Vb.isi_tup_ref, Vb.isi_lst_non, Vb.isi_lst_bl, Vb.isi_lst_int, Vb.isi_lst_str, Vb.isi_lst_tup, Vb.isi_lst_ref]
    exact .ret ⟨rfl, (k4.trans (.push _)).put (.inr nl) _⟩
theorem sp34 {n q : Nat} {h : MH} {vs : List PV} {f : PV} (e : h[q]? = some (.lst vs)) (hs : States vs) (hf : IsFound f) : Ok (callF Pr (n + 13) 34 [.ref q, f] h) fun r h' => ∃ w, r = .ref w ∧ h'[w]? = some (.lst ((rowsR vs f).map .str)) ∧ Keep [] h h' := by
  rw [callF_at (d := d34) rfl rfl]
  show Ok (finF (Vb.execs (cbK Pr (n + 12)) Pr.xt Pr.wl b34 [some (.ref q), some f, none, none] h)) _
  unfold b34
  have e1 : (h ++ [MO.lst [PV.str "run"]])[q]? = some (.lst vs) := Keep.get (S := []) (.push _) e (by simp)
  have e2 : (h ++ [MO.lst [PV.str "run"]])[h.length]? = some (.lst [PV.str "run"]) := get_new
  have k0 : Keep [] h (h ++ [MO.lst [PV.str "run"]]) := .push _
  try simp only [Vb.execs, Vb.exec, Vb.evalE, Vb.evalEs, Vb.evalT, Vb.evalI, Vb.evalO, Vb.evalOT, Vb.asgS, Vb.bind_ok, Vb.bind_assoc, Vb.then_ok, Vb.then_bind, Vb.next_then, Vb.next_next, Vb.next_nx, Vb.next_rt, Vb.next_bk, Vb.next_ct, Vb.fin_then, Vb.fin_rt, Vb.fin_nx, Vb.opt_some, Vb.cb_fn, Vb.cb_cls, Vb.gl0, Vb.gls, List.getElem?_cons_zero, List.getElem?_cons_succ, List.set_cons_zero, List.set_cons_succ, Vb.storeTg, Vb.storeAll, Option.map_some, List.length_cons, List.length_nil, Nat.zero_add, Nat.reduceAdd, Vb.ln0, Vb.ln1, Vb.ln2, Vb.ln3, Vb.ln4, Vb.ln5, Vb.ln6, if_true, Vb.newObj, Vb.it_tup, Vb.it_ref, Vb.it_str, Vb.ty_join, Vb.ty_split, Vb.ty_append, Vb.ty_extend, Vb.ty_pop, Option.isSome_some, List.map_cons, List.map_nil, Bool.false_eq_true, if_false, Vb.tr_bl, Vb.wipeL, decide_true, decide_false, Bool.not_true, Bool.not_false, Vb.b_add, Vb.b_sub, Vb.c_lt, Vb.c_le, Vb.c_gt, Vb.c_ge, Vb.c_eq_int, Vb.c_ne_int, Vb.c_isn_non, Vb.c_isn_int, Vb.c_isn_tup, Vb.c_notn_non, Vb.c_notn_int, Vb.c_notn_tup, Vb.ix_tup, Vb.bi_list_tup, Vb.isi_int_non, Vb.isi_int_bl, Vb.isi_int_int, Vb.isi_int_str, Vb.isi_int_tup, Vb.isi_int_ref, Vb.isi_bool_non, Vb.isi_bool_bl, Vb.isi_bool_int, Vb.isi_bool_str, Vb.isi_bool_tup, Vb.isi_bool_ref, Vb.isi_str_non, Vb.isi_str_bl, Vb.isi_str_int, Vb.isi_str_str, Vb.isi_str_tup, Vb.isi_str_ref, Vb.isi_tup_non, Vb.isi_tup_bl, Vb.isi_tup_int, Vb.isi_tup_str, Vb.isi_tup_tup, Vb.isi_tup_ref, Vb.isi_lst_non, Vb.isi_lst_bl, Vb.isi_lst_int, Vb.isi_lst_str, Vb.isi_lst_tup, Vb.isi_lst_ref, seq_of e1]
  generalize h ++ [MO.lst [PV.str "run"]] = H at e1 e2 k0
  refine Ok.bind (lc_states (n := n) (fnum := 2) (fun h1 k => by show h1[q]? = H[q]?; rw [k.get e1 (by simp), e1]) hs fun v h1 hv => Ok.bind (sp31 8 v (n + 12) h1 (isSt_T hv).1 (isSt_T hv).2 (by omega)) ?_) ?_
  · rintro _ h2 ⟨rfl, k2⟩
    exact .ret ⟨rfl, k2⟩
  rintro _ h2 ⟨rfl, e3, k2⟩
  rw [bin_lists (k2.get e2 (by simp)) e3 (line_ok (by have := hs.1; simp [stR]; omega))]
  rcases hf with rfl | ⟨b, o, k, g, rfl, hb, ho, hk, hg⟩
  · try simp only [Vb.execs, Vb.exec, Vb.evalE, Vb.evalEs, Vb.evalT, Vb.evalI, Vb.evalO, Vb.evalOT, Vb.asgS, Vb.bind_ok, Vb.bind_assoc, Vb.then_ok, Vb.then_bind, Vb.next_then, Vb.next_next, Vb.next_nx, Vb.next_rt, Vb.next_bk, Vb.next_ct, Vb.fin_then, Vb.fin_rt, Vb.fin_nx, Vb.opt_some, Vb.cb_fn, Vb.cb_cls, Vb.gl0, Vb.gls, List.getElem?_cons_zero, List.getElem?_cons_succ, List.set_cons_zero, List.set_cons_succ, Vb.storeTg, Vb.storeAll, Option.map_some, List.length_cons, List.length_nil, Nat.zero_add, Nat.reduceAdd, Vb.ln0, Vb.ln1, Vb.ln2, Vb.ln3, Vb.ln4, Vb.ln5, Vb.ln6, if_true, Vb.newObj, Vb.it_tup, Vb.it_ref, Vb.it_str, Vb.ty_join, Vb.ty_split, Vb.ty_append, Vb.ty_extend, Vb.ty_pop, Option.isSome_some, List.map_cons, List.map_nil, Bool.false_eq_true, if_false, Vb.tr_bl, Vb.wipeL, decide_true, decide_false, Bool.not_true, Bool.not_false, Vb.b_add, Vb.b_sub, Vb.c_lt, Vb.c_le, Vb.c_gt, Vb.c_ge, Vb.c_eq_int, Vb.c_ne_int, Vb.c_isn_non, Vb.c_isn_int, Vb.c_isn_tup, Vb.c_notn_non, Vb.c_notn_int, Vb.c_notn_tup, Vb.ix_tup, Vb.bi_list_tup, Vb.isi_int_non, Vb.isi_int_bl, Vb.isi_int_int, Vb.isi_int_str, Vb.isi_int_tup, Vb.isi_int_ref, Vb.isi_bool_non, Vb.isi_bool_bl, Vb.isi_bool_int, Vb.isi_bool_str, Vb.isi_bool_tup, Vb.isi_bool_ref, Vb.isi_str_non, Vb.isi_str_bl, Vb.isi_str_int, Vb.isi_str_str, Vb.isi_str_tup, Vb.isi_str_ref, Vb.isi_tup_non, Vb.isi_tup_bl, Vb.isi_tup_int, Vb.isi_tup_str, Vb.isi_tup_tup, Vb.isi_tup_ref, Vb.isi_lst_non, Vb.isi_lst_bl, Vb.isi_lst_int, Vb.isi_lst_str, Vb.isi_lst_tup, Vb.isi_lst_ref]
    exact .ret ⟨_, rfl, get_new, k0.trans (k2.trans (.push _))⟩
  · have e4 : (h2 ++ [MO.lst ([PV.str "run"] ++ (stR vs).map PV.str)])[h2.length]? = some (.lst ([PV.str "run"] ++ (stR vs).map PV.str)) := get_new
    have k4 : Keep [] h (h2 ++ [MO.lst ([PV.str "run"] ++ (stR vs).map PV.str)]) := k0.trans (k2.trans (.push _))
    try simp only [Vb.execs, Vb.exec, Vb.evalE, Vb.evalEs, Vb.evalT, Vb.evalI, Vb.evalO, Vb.evalOT, Vb.asgS, Vb.bind_ok, Vb.bind_assoc, Vb.then_ok, Vb.then_bind, Vb.next_then, Vb.next_next, Vb.next_nx, Vb.next_rt, Vb.next_bk, Vb.next_ct, Vb.fin_then, Vb.fin_rt, Vb.fin_nx, Vb.opt_some, Vb.cb_fn, Vb.cb_cls, Vb.gl0, Vb.gls, List.getElem?_cons_zero, List.getElem?_cons_succ, List.set_cons_zero, List.set_cons_succ, Vb.storeTg, Vb.storeAll, Option.map_some, List.length_cons, List.length_nil, Nat.zero_add, Nat.reduceAdd, Vb.ln0, Vb.ln1, Vb.ln2, Vb.ln3, Vb.ln4, Vb.ln5, Vb.ln6, if_true, Vb.newObj, Vb.it_tup, Vb.it_ref, Vb.it_str, Vb.ty_join, Vb.ty_split, Vb.ty_append, Vb.ty_extend, Vb.ty_pop, Option.isSome_some, List.map_cons, List.map_nil, Bool.false_eq_true, if_false, Vb.tr_bl, Vb.wipeL, decide_true, decide_false, Bool.not_true, Bool.not_false, Vb.b_add, Vb.b_sub, Vb.c_lt, Vb.c_le, Vb.c_gt, Vb.c_ge, Vb.c_eq_int, Vb.c_ne_int, Vb.c_isn_non, Vb.c_isn_int, Vb.c_isn_tup, Vb.c_notn_non, Vb.c_notn_int, Vb.c_notn_tup, Vb.ix_tup, Vb.bi_list_tup, Vb.isi_int_non, Vb.isi_int_bl, Vb.isi_int_int, Vb.isi_int_str, Vb.isi_int_tup, Vb.isi_int_ref, Vb.isi_bool_non, Vb.isi_bool_bl, Vb.isi_bool_int, Vb.isi_bool_str, Vb.isi_bool_tup, Vb.isi_bool_ref, Vb.isi_str_non, Vb.isi_str_bl, Vb.isi_str_int, Vb.isi_str_str, Vb.isi_str_tup, Vb.isi_str_ref, Vb.isi_tup_non, Vb.isi_tup_bl, Vb.isi_tup_int, Vb.isi_tup_str, Vb.isi_tup_tup, Vb.isi_tup_ref, Vb.isi_lst_non, Vb.isi_lst_bl, Vb.isi_lst_int, Vb.isi_lst_str, Vb.isi_lst_tup, Vb.isi_lst_ref]
    generalize (h2 ++ [MO.lst ([PV.str "run"] ++ (stR vs).map PV.str)]) = h3 at e4 k4
    generalize h2.length = w at e4
    try simp only [Vb.execs, Vb.exec, Vb.evalE, Vb.evalEs, Vb.evalT, Vb.evalI, Vb.evalO, Vb.evalOT, Vb.asgS, Vb.bind_ok, Vb.bind_assoc, Vb.then_ok, Vb.then_bind, Vb.next_then, Vb.next_next, Vb.next_nx, Vb.next_rt, Vb.next_bk, Vb.next_ct, Vb.fin_then, Vb.fin_rt, Vb.fin_nx, Vb.opt_some, Vb.cb_fn, Vb.cb_cls, Vb.gl0, Vb.gls, List.getElem?_cons_zero, List.getElem?_cons_succ, List.set_cons_zero, List.set_cons_succ, Vb.storeTg, Vb.storeAll, Option.map_some, List.length_cons, List.length_nil, Nat.zero_add, Nat.reduceAdd, Vb.ln0, Vb.ln1, Vb.ln2, Vb.ln3, Vb.ln4, Vb.ln5, Vb.ln6, if_true, Vb.newObj, Vb.it_tup, Vb.it_ref, Vb.it_str, Vb.ty_join, Vb.ty_split, Vb.ty_append, Vb.ty_extend, Vb.ty_pop, Option.isSome_some, List.map_cons, List.map_nil, Bool.false_eq_true, if_false, Vb.tr_bl, Vb.wipeL, decide_true, decide_false, Bool.not_true, Bool.not_false, Vb.b_add, Vb.b_sub, Vb.c_lt, Vb.c_le, Vb.c_gt, Vb.c_ge, Vb.c_eq_int, Vb.c_ne_int, Vb.c_isn_non, Vb.c_isn_int, Vb.c_isn_tup, Vb.c_notn_non, Vb.c_notn_int, Vb.c_notn_tup, Vb.ix_tup, Vb.bi_list_tup, Vb.isi_int_non, Vb.isi_int_bl, Vb.isi_int_int, Vb.isi_int_str, Vb.isi_int_tup, Vb.isi_int_ref, Vb.isi_bool_non, Vb.isi_bool_bl, Vb.isi_bool_int, Vb.isi_bool_str, Vb.isi_bool_tup, Vb.isi_bool_ref, Vb.isi_str_non, Vb.isi_str_bl, Vb.isi_str_int, Vb.isi_str_str, Vb.isi_str_tup, Vb.isi_str_ref, Vb.isi_tup_non, Vb.isi_tup_bl, Vb.isi_tup_int, Vb.isi_tup_str, Vb.isi_tup_tup, Vb.isi_tup_ref, Vb.isi_lst_non, Vb.isi_lst_bl, Vb.isi_lst_int, Vb.isi_lst_str, Vb.isi_lst_tup, Vb.isi_lst_ref, at40, at41, at42, at43, str_small hb, str_small hg, sp32 h3 ho]
    rw [join5 (by
      have a := own_le ho
      have c := num_le hg
      have d := num_le hb
      have e := len_kind hk
      rw [len_break]
      omega)]
    try simp only [Vb.execs, Vb.exec, Vb.evalE, Vb.evalEs, Vb.evalT, Vb.evalI, Vb.evalO, Vb.evalOT, Vb.asgS, Vb.bind_ok, Vb.bind_assoc, Vb.then_ok, Vb.then_bind, Vb.next_then, Vb.next_next, Vb.next_nx, Vb.next_rt, Vb.next_bk, Vb.next_ct, Vb.fin_then, Vb.fin_rt, Vb.fin_nx, Vb.opt_some, Vb.cb_fn, Vb.cb_cls, Vb.gl0, Vb.gls, List.getElem?_cons_zero, List.getElem?_cons_succ, List.set_cons_zero, List.set_cons_succ, Vb.storeTg, Vb.storeAll, Option.map_some, List.length_cons, List.length_nil, Nat.zero_add, Nat.reduceAdd, Vb.ln0, Vb.ln1, Vb.ln2, Vb.ln3, Vb.ln4, Vb.ln5, Vb.ln6, if_true, Vb.newObj, Vb.it_tup, Vb.it_ref, Vb.it_str, Vb.ty_join, Vb.ty_split, Vb.ty_append, Vb.ty_extend, Vb.ty_pop, Option.isSome_some, List.map_cons, List.map_nil, Bool.false_eq_true, if_false, Vb.tr_bl, Vb.wipeL, decide_true, decide_false, Bool.not_true, Bool.not_false, Vb.b_add, Vb.b_sub, Vb.c_lt, Vb.c_le, Vb.c_gt, Vb.c_ge, Vb.c_eq_int, Vb.c_ne_int, Vb.c_isn_non, Vb.c_isn_int, Vb.c_isn_tup, Vb.c_notn_non, Vb.c_notn_int, Vb.c_notn_tup, Vb.ix_tup, Vb.bi_list_tup, Vb.isi_int_non, Vb.isi_int_bl, Vb.isi_int_int, Vb.isi_int_str, Vb.isi_int_tup, Vb.isi_int_ref, Vb.isi_bool_non, Vb.isi_bool_bl, Vb.isi_bool_int, Vb.isi_bool_str, Vb.isi_bool_tup, Vb.isi_bool_ref, Vb.isi_str_non, Vb.isi_str_bl, Vb.isi_str_int, Vb.isi_str_str, Vb.isi_str_tup, Vb.isi_str_ref, Vb.isi_tup_non, Vb.isi_tup_bl, Vb.isi_tup_int, Vb.isi_tup_str, Vb.isi_tup_tup, Vb.isi_tup_ref, Vb.isi_lst_non, Vb.isi_lst_bl, Vb.isi_lst_int, Vb.isi_lst_str, Vb.isi_lst_tup, Vb.isi_lst_ref]
    have e5 := Keep.get (S := []) (.push (MO.lst [.str (Txt.join " " ["break", numP b, ownS o, k, numP g])])) (Keep.get (S := []) (.push (MO.lst [.str "break", .str (numP b), .str (ownS o), .str k, .str (numP g)])) e4 (by simp)) (by simp)
    rw [bin_lists e5 get_new (line_ok (by have := hs.1; simp [stR]; omega))]
    try simp only [Vb.execs, Vb.exec, Vb.evalE, Vb.evalEs, Vb.evalT, Vb.evalI, Vb.evalO, Vb.evalOT, Vb.asgS, Vb.bind_ok, Vb.bind_assoc, Vb.then_ok, Vb.then_bind, Vb.next_then, Vb.next_next, Vb.next_nx, Vb.next_rt, Vb.next_bk, Vb.next_ct, Vb.fin_then, Vb.fin_rt, Vb.fin_nx, Vb.opt_some, Vb.cb_fn, Vb.cb_cls, Vb.gl0, Vb.gls, List.getElem?_cons_zero, List.getElem?_cons_succ, List.set_cons_zero, List.set_cons_succ, Vb.storeTg, Vb.storeAll, Option.map_some, List.length_cons, List.length_nil, Nat.zero_add, Nat.reduceAdd, Vb.ln0, Vb.ln1, Vb.ln2, Vb.ln3, Vb.ln4, Vb.ln5, Vb.ln6, if_true, Vb.newObj, Vb.it_tup, Vb.it_ref, Vb.it_str, Vb.ty_join, Vb.ty_split, Vb.ty_append, Vb.ty_extend, Vb.ty_pop, Option.isSome_some, List.map_cons, List.map_nil, Bool.false_eq_true, if_false, Vb.tr_bl, Vb.wipeL, decide_true, decide_false, Bool.not_true, Bool.not_false, Vb.b_add, Vb.b_sub, Vb.c_lt, Vb.c_le, Vb.c_gt, Vb.c_ge, Vb.c_eq_int, Vb.c_ne_int, Vb.c_isn_non, Vb.c_isn_int, Vb.c_isn_tup, Vb.c_notn_non, Vb.c_notn_int, Vb.c_notn_tup, Vb.ix_tup, Vb.bi_list_tup, Vb.isi_int_non, Vb.isi_int_bl, Vb.isi_int_int, Vb.isi_int_str, Vb.isi_int_tup, Vb.isi_int_ref, Vb.isi_bool_non, Vb.isi_bool_bl, Vb.isi_bool_int, Vb.isi_bool_str, Vb.isi_bool_tup, Vb.isi_bool_ref, Vb.isi_str_non, Vb.isi_str_bl, Vb.isi_str_int, Vb.isi_str_str, Vb.isi_str_tup, Vb.isi_str_ref, Vb.isi_tup_non, Vb.isi_tup_bl, Vb.isi_tup_int, Vb.isi_tup_str, Vb.isi_tup_tup, Vb.isi_tup_ref, Vb.isi_lst_non, Vb.isi_lst_bl, Vb.isi_lst_int, Vb.isi_lst_str, Vb.isi_lst_tup, Vb.isi_lst_ref]
    exact .ret ⟨_, rfl, by rw [get_new]; simp [rowsR, breakS], ((k4.trans (.push _)).trans (.push _)).trans (.push _)⟩
end V87

set_option Elab.async false
set_option linter.all false
set_option maxRecDepth 100000
set_option maxHeartbeats 2000000
namespace V87
open PySem Vb
theorem split1 {x : Str} (hx : 32 ∉ TL.tl x) : Txt.split x " " = [x] := by
  have := TL.split_join (y := " ") (s := 32) (S := []) (by decide +kernel) (by decide +kernel) (parts := [x]) (by simp) fun p hp => by rw [List.mem_singleton.mp hp]; exact hx
  rwa [TL.join_eq] at this
theorem splitW {ws : List Str} (hn : ws ≠ []) (hx : ∀ w ∈ ws, 32 ∉ TL.tl w) : Txt.split (Txt.join " " ws) " " = ws := TL.split_join (y := " ") (s := 32) (S := []) (by decide +kernel) (by decide +kernel) hn hx
theorem free_numP {g : PV} (hg : Small g) {c : Nat} (hc : c < 48) : c ∉ TL.tl (numP g) := by
  obtain ⟨i, rfl, h0, h1⟩ := hg
  show c ∉ TL.tl (numS i)
  rw [tl_numS h0]
  exact TL.numL_free (.inl hc)
theorem in_aw {x : Str} {h : MH} (hx : x = "alone" ∨ x = "whole") : cmpS .in_ (.str x) (.tup [.str "alone", .str "whole"]) h = some true := by
  rcases hx with rfl | rfl
  · exact congrArg some (show L2.inV (.str "alone") [.str "alone", .str "whole"] = true by decide +kernel)
  · exact congrArg some (show L2.inV (.str "whole") [.str "alone", .str "whole"] = true by decide +kernel)
theorem in_fl {h : MH} : cmpS .in_ (.str "follows") (.tup [.str "alone", .str "whole"]) h = some false := congrArg some (show L2.inV (.str "follows") [.str "alone", .str "whole"] = false by decide +kernel)
theorem own_int {o : PV} (h : Owner o) : ∃ i, o = .int i := by
  rcases h with rfl | ⟨i, rfl, _⟩
  · exact ⟨_, rfl⟩
  · exact ⟨_, rfl⟩
theorem non_goal {o g : PV} {h : MH} (ho : Owner o) (hg : Small g) : cmpS .in_ .non (.tup [o, g]) h = some false := by
  obtain ⟨i, rfl⟩ := own_int ho
  obtain ⟨j, rfl, _⟩ := hg
  exact congrArg some (show L2.inV .non [.int i, .int j] = false by simp [L2.inV, L2.eqV])
theorem non_found {b o g : PV} {k : Str} {h : MH} (hb : Small b) (ho : Owner o) (hg : Small g) : cmpS .in_ .non (.tup [b, o, .str k, g]) h = some false := by
  obtain ⟨i, rfl⟩ := own_int ho
  obtain ⟨j, rfl, _⟩ := hg
  obtain ⟨l, rfl, _⟩ := hb
  exact congrArg some (show L2.inV .non [.int l, .int i, .str k, .int j] = false by simp [L2.inV, L2.eqV])
theorem nin_kind {k : Str} {h : MH} (hk : k = "need" ∨ k = "promise") : cmpS .nin (.str k) (.tup [.str "need", .str "promise"]) h = some false := by
  rcases hk with rfl | rfl
  · exact congrArg some (show (!L2.inV (.str "need") [.str "need", .str "promise"]) = false by decide +kernel)
  · exact congrArg some (show (!L2.inV (.str "promise") [.str "need", .str "promise"]) = false by decide +kernel)
theorem at1_0 {α : Type} {a : α} : L2.atI [a] 0 = some a := rfl
theorem sp10a {n : Nat} {h : MH} {x : Str} (hx : x = "alone" ∨ x = "whole") : Ok (callF Pr (n + 5) 10 [.str x] h) fun r h' => r = .tup [.str x] ∧ Keep [] h h' := by
  have fr : 32 ∉ TL.tl x := by rcases hx with rfl | rfl <;> decide +kernel
  have ln : x.length + 2 ≤ sizeLine := by rcases hx with rfl | rfl <;> decide +kernel
  rw [callF_at (d := d10) rfl rfl]
  show Ok (finF (Vb.execs (cbK Pr (n + 4)) Pr.xt Pr.wl b10 [some (.str x), none, none] h)) _
  unfold b10
  have e : (h ++ [MO.lst [PV.str x]])[h.length]? = some (.lst [.str x]) := get_new
  try simp only [Vb.execs, Vb.exec, Vb.evalE, Vb.evalEs, Vb.evalT, Vb.evalI, Vb.evalO, Vb.evalOT, Vb.asgS, Vb.bind_ok, Vb.bind_assoc, Vb.then_ok, Vb.then_bind, Vb.next_then, Vb.next_next, Vb.next_nx, Vb.next_rt, Vb.next_bk, Vb.next_ct, Vb.fin_then, Vb.fin_rt, Vb.fin_nx, Vb.opt_some, Vb.cb_fn, Vb.cb_cls, Vb.gl0, Vb.gls, List.getElem?_cons_zero, List.getElem?_cons_succ, List.set_cons_zero, List.set_cons_succ, Vb.storeTg, Vb.storeAll, Option.map_some, List.length_cons, List.length_nil, Nat.zero_add, Nat.reduceAdd, Vb.ln0, Vb.ln1, Vb.ln2, Vb.ln3, Vb.ln4, Vb.ln5, Vb.ln6, if_true, Vb.newObj, Vb.it_tup, Vb.it_ref, Vb.it_str, Vb.ty_join, Vb.ty_split, Vb.ty_append, Vb.ty_extend, Vb.ty_pop, Option.isSome_some, List.map_cons, List.map_nil, Bool.false_eq_true, if_false, Vb.tr_bl, Vb.wipeL, decide_true, decide_false, Bool.not_true, Bool.not_false, Vb.b_add, Vb.b_sub, Vb.c_lt, Vb.c_le, Vb.c_gt, Vb.c_ge, Vb.c_eq_int, Vb.c_ne_int, Vb.c_isn_non, Vb.c_isn_int, Vb.c_isn_tup, Vb.c_notn_non, Vb.c_notn_int, Vb.c_notn_tup, Vb.ix_tup, Vb.bi_list_tup, Vb.isi_int_non, Vb.isi_int_bl, Vb.isi_int_int, Vb.isi_int_str, Vb.isi_int_tup, Vb.isi_int_ref, Vb.isi_bool_non, Vb.isi_bool_bl, Vb.isi_bool_int, Vb.isi_bool_str, Vb.isi_bool_tup, Vb.isi_bool_ref, Vb.isi_str_non, Vb.isi_str_bl, Vb.isi_str_int, Vb.isi_str_str, Vb.isi_str_tup, Vb.isi_str_ref, Vb.isi_tup_non, Vb.isi_tup_bl, Vb.isi_tup_int, Vb.isi_tup_str, Vb.isi_tup_tup, Vb.isi_tup_ref, Vb.isi_lst_non, Vb.isi_lst_bl, Vb.isi_lst_int, Vb.isi_lst_str, Vb.isi_lst_tup, Vb.isi_lst_ref, bm_split (x := x) (y := " ") (by decide +kernel) ln, split1 fr, ix_ref e, at1_0, in_aw hx, bi_len_ref e, show decide (((1 : Nat) : Int) = 1) = true from rfl]
  exact .ret ⟨rfl, .push _⟩
theorem sp10g {n : Nat} {h : MH} {o g : PV} (ho : Owner o) (hg : Small g) : Ok (callF Pr (n + 5) 10 [.str (headG o g)] h) fun r h' => r = .tup [.str "follows", .tup [o, g]] ∧ Keep [] h h' := by
  have sp : Txt.split (headG o g) " " = ([("follows" : Str), ownS o, numP g] : List Str) := splitW (ws := [("follows" : Str), ownS o, numP g]) (by simp) fun w hw => by
    simp only [List.mem_cons, List.not_mem_nil, or_false] at hw
    rcases hw with rfl | rfl | rfl
    · decide +kernel
    · exact own_free ho (by decide)
    · exact free_numP hg (by decide)
  rw [callF_at (d := d10) rfl rfl]
  show Ok (finF (Vb.execs (cbK Pr (n + 4)) Pr.xt Pr.wl b10 [some (.str (headG o g)), none, none] h)) _
  unfold b10
  have e : (h ++ [MO.lst [PV.str "follows", .str (ownS o), .str (numP g)]])[h.length]? = some (.lst [.str "follows", .str (ownS o), .str (numP g)]) := get_new
  have k0 : Keep [] h (h ++ [MO.lst [PV.str "follows", .str (ownS o), .str (numP g)]]) := .push _
  try simp only [Vb.execs, Vb.exec, Vb.evalE, Vb.evalEs, Vb.evalT, Vb.evalI, Vb.evalO, Vb.evalOT, Vb.asgS, Vb.bind_ok, Vb.bind_assoc, Vb.then_ok, Vb.then_bind, Vb.next_then, Vb.next_next, Vb.next_nx, Vb.next_rt, Vb.next_bk, Vb.next_ct, Vb.fin_then, Vb.fin_rt, Vb.fin_nx, Vb.opt_some, Vb.cb_fn, Vb.cb_cls, Vb.gl0, Vb.gls, List.getElem?_cons_zero, List.getElem?_cons_succ, List.set_cons_zero, List.set_cons_succ, Vb.storeTg, Vb.storeAll, Option.map_some, List.length_cons, List.length_nil, Nat.zero_add, Nat.reduceAdd, Vb.ln0, Vb.ln1, Vb.ln2, Vb.ln3, Vb.ln4, Vb.ln5, Vb.ln6, if_true, Vb.newObj, Vb.it_tup, Vb.it_ref, Vb.it_str, Vb.ty_join, Vb.ty_split, Vb.ty_append, Vb.ty_extend, Vb.ty_pop, Option.isSome_some, List.map_cons, List.map_nil, Bool.false_eq_true, if_false, Vb.tr_bl, Vb.wipeL, decide_true, decide_false, Bool.not_true, Bool.not_false, Vb.b_add, Vb.b_sub, Vb.c_lt, Vb.c_le, Vb.c_gt, Vb.c_ge, Vb.c_eq_int, Vb.c_ne_int, Vb.c_isn_non, Vb.c_isn_int, Vb.c_isn_tup, Vb.c_notn_non, Vb.c_notn_int, Vb.c_notn_tup, Vb.ix_tup, Vb.bi_list_tup, Vb.isi_int_non, Vb.isi_int_bl, Vb.isi_int_int, Vb.isi_int_str, Vb.isi_int_tup, Vb.isi_int_ref, Vb.isi_bool_non, Vb.isi_bool_bl, Vb.isi_bool_int, Vb.isi_bool_str, Vb.isi_bool_tup, Vb.isi_bool_ref, Vb.isi_str_non, Vb.isi_str_bl, Vb.isi_str_int, Vb.isi_str_str, Vb.isi_str_tup, Vb.isi_str_ref, Vb.isi_tup_non, Vb.isi_tup_bl, Vb.isi_tup_int, Vb.isi_tup_str, Vb.isi_tup_tup, Vb.isi_tup_ref, Vb.isi_lst_non, Vb.isi_lst_bl, Vb.isi_lst_int, Vb.isi_lst_str, Vb.isi_lst_tup, Vb.isi_lst_ref, bm_split (x := headG o g) (y := " ") (by decide +kernel) (line_ok (by have := head_le ho hg; omega)), sp]
  generalize h ++ [MO.lst [PV.str "follows", .str (ownS o), .str (numP g)]] = H at e k0
  try simp only [Vb.execs, Vb.exec, Vb.evalE, Vb.evalEs, Vb.evalT, Vb.evalI, Vb.evalO, Vb.evalOT, Vb.asgS, Vb.bind_ok, Vb.bind_assoc, Vb.then_ok, Vb.then_bind, Vb.next_then, Vb.next_next, Vb.next_nx, Vb.next_rt, Vb.next_bk, Vb.next_ct, Vb.fin_then, Vb.fin_rt, Vb.fin_nx, Vb.opt_some, Vb.cb_fn, Vb.cb_cls, Vb.gl0, Vb.gls, List.getElem?_cons_zero, List.getElem?_cons_succ, List.set_cons_zero, List.set_cons_succ, Vb.storeTg, Vb.storeAll, Option.map_some, List.length_cons, List.length_nil, Nat.zero_add, Nat.reduceAdd, Vb.ln0, Vb.ln1, Vb.ln2, Vb.ln3, Vb.ln4, Vb.ln5, Vb.ln6, if_true, Vb.newObj, Vb.it_tup, Vb.it_ref, Vb.it_str, Vb.ty_join, Vb.ty_split, Vb.ty_append, Vb.ty_extend, Vb.ty_pop, Option.isSome_some, List.map_cons, List.map_nil, Bool.false_eq_true, if_false, Vb.tr_bl, Vb.wipeL, decide_true, decide_false, Bool.not_true, Bool.not_false, Vb.b_add, Vb.b_sub, Vb.c_lt, Vb.c_le, Vb.c_gt, Vb.c_ge, Vb.c_eq_int, Vb.c_ne_int, Vb.c_isn_non, Vb.c_isn_int, Vb.c_isn_tup, Vb.c_notn_non, Vb.c_notn_int, Vb.c_notn_tup, Vb.ix_tup, Vb.bi_list_tup, Vb.isi_int_non, Vb.isi_int_bl, Vb.isi_int_int, Vb.isi_int_str, Vb.isi_int_tup, Vb.isi_int_ref, Vb.isi_bool_non, Vb.isi_bool_bl, Vb.isi_bool_int, Vb.isi_bool_str, Vb.isi_bool_tup, Vb.isi_bool_ref, Vb.isi_str_non, Vb.isi_str_bl, Vb.isi_str_int, Vb.isi_str_str, Vb.isi_str_tup, Vb.isi_str_ref, Vb.isi_tup_non, Vb.isi_tup_bl, Vb.isi_tup_int, Vb.isi_tup_str, Vb.isi_tup_tup, Vb.isi_tup_ref, Vb.isi_lst_non, Vb.isi_lst_bl, Vb.isi_lst_int, Vb.isi_lst_str, Vb.isi_lst_tup, Vb.isi_lst_ref, ix_ref e, at0, at1, at2, in_fl, c_ne_str (okS (x := "follows")) (okS (x := "follows")), decide_eq_true (rfl : ("follows" : Str) = "follows"), bi_len_ref e, show decide (((3 : Nat) : Int) = 3) = true from rfl]
  refine Ok.bind (sp7 (n := n + 2) H ho) ?_
  rintro _ h1 ⟨rfl, k1⟩
  try simp only [Vb.execs, Vb.exec, Vb.evalE, Vb.evalEs, Vb.evalT, Vb.evalI, Vb.evalO, Vb.evalOT, Vb.asgS, Vb.bind_ok, Vb.bind_assoc, Vb.then_ok, Vb.then_bind, Vb.next_then, Vb.next_next, Vb.next_nx, Vb.next_rt, Vb.next_bk, Vb.next_ct, Vb.fin_then, Vb.fin_rt, Vb.fin_nx, Vb.opt_some, Vb.cb_fn, Vb.cb_cls, Vb.gl0, Vb.gls, List.getElem?_cons_zero, List.getElem?_cons_succ, List.set_cons_zero, List.set_cons_succ, Vb.storeTg, Vb.storeAll, Option.map_some, List.length_cons, List.length_nil, Nat.zero_add, Nat.reduceAdd, Vb.ln0, Vb.ln1, Vb.ln2, Vb.ln3, Vb.ln4, Vb.ln5, Vb.ln6, if_true, Vb.newObj, Vb.it_tup, Vb.it_ref, Vb.it_str, Vb.ty_join, Vb.ty_split, Vb.ty_append, Vb.ty_extend, Vb.ty_pop, Option.isSome_some, List.map_cons, List.map_nil, Bool.false_eq_true, if_false, Vb.tr_bl, Vb.wipeL, decide_true, decide_false, Bool.not_true, Bool.not_false, Vb.b_add, Vb.b_sub, Vb.c_lt, Vb.c_le, Vb.c_gt, Vb.c_ge, Vb.c_eq_int, Vb.c_ne_int, Vb.c_isn_non, Vb.c_isn_int, Vb.c_isn_tup, Vb.c_notn_non, Vb.c_notn_int, Vb.c_notn_tup, Vb.ix_tup, Vb.bi_list_tup, Vb.isi_int_non, Vb.isi_int_bl, Vb.isi_int_int, Vb.isi_int_str, Vb.isi_int_tup, Vb.isi_int_ref, Vb.isi_bool_non, Vb.isi_bool_bl, Vb.isi_bool_int, Vb.isi_bool_str, Vb.isi_bool_tup, Vb.isi_bool_ref, Vb.isi_str_non, Vb.isi_str_bl, Vb.isi_str_int, Vb.isi_str_str, Vb.isi_str_tup, Vb.isi_str_ref, Vb.isi_tup_non, Vb.isi_tup_bl, Vb.isi_tup_int, Vb.isi_tup_str, Vb.isi_tup_tup, Vb.isi_tup_ref, Vb.isi_lst_non, Vb.isi_lst_bl, Vb.isi_lst_int, Vb.isi_lst_str, Vb.isi_lst_tup, Vb.isi_lst_ref, ix_ref (k1.get e (by simp)), at2]
  obtain ⟨i, rfl, i0, i1⟩ := hg
  refine Ok.bind (sp3 (n + 3) h1 i i0 i1) ?_
  rintro _ h2 ⟨rfl, k2⟩
  try simp only [Vb.execs, Vb.exec, Vb.evalE, Vb.evalEs, Vb.evalT, Vb.evalI, Vb.evalO, Vb.evalOT, Vb.asgS, Vb.bind_ok, Vb.bind_assoc, Vb.then_ok, Vb.then_bind, Vb.next_then, Vb.next_next, Vb.next_nx, Vb.next_rt, Vb.next_bk, Vb.next_ct, Vb.fin_then, Vb.fin_rt, Vb.fin_nx, Vb.opt_some, Vb.cb_fn, Vb.cb_cls, Vb.gl0, Vb.gls, List.getElem?_cons_zero, List.getElem?_cons_succ, List.set_cons_zero, List.set_cons_succ, Vb.storeTg, Vb.storeAll, Option.map_some, List.length_cons, List.length_nil, Nat.zero_add, Nat.reduceAdd, Vb.ln0, Vb.ln1, Vb.ln2, Vb.ln3, Vb.ln4, Vb.ln5, Vb.ln6, if_true, Vb.newObj, Vb.it_tup, Vb.it_ref, Vb.it_str, Vb.ty_join, Vb.ty_split, Vb.ty_append, Vb.ty_extend, Vb.ty_pop, Option.isSome_some, List.map_cons, List.map_nil, Bool.false_eq_true, if_false, Vb.tr_bl, Vb.wipeL, decide_true, decide_false, Bool.not_true, Bool.not_false, Vb.b_add, Vb.b_sub, Vb.c_lt, Vb.c_le, Vb.c_gt, Vb.c_ge, Vb.c_eq_int, Vb.c_ne_int, Vb.c_isn_non, Vb.c_isn_int, Vb.c_isn_tup, Vb.c_notn_non, Vb.c_notn_int, Vb.c_notn_tup, Vb.ix_tup, Vb.bi_list_tup, Vb.isi_int_non, Vb.isi_int_bl, Vb.isi_int_int, Vb.isi_int_str, Vb.isi_int_tup, Vb.isi_int_ref, Vb.isi_bool_non, Vb.isi_bool_bl, Vb.isi_bool_int, Vb.isi_bool_str, Vb.isi_bool_tup, Vb.isi_bool_ref, Vb.isi_str_non, Vb.isi_str_bl, Vb.isi_str_int, Vb.isi_str_str, Vb.isi_str_tup, Vb.isi_str_ref, Vb.isi_tup_non, Vb.isi_tup_bl, Vb.isi_tup_int, Vb.isi_tup_str, Vb.isi_tup_tup, Vb.isi_tup_ref, Vb.isi_lst_non, Vb.isi_lst_bl, Vb.isi_lst_int, Vb.isi_lst_str, Vb.isi_lst_tup, Vb.isi_lst_ref, non_goal (h := h2) ho ⟨i, rfl, i0, i1⟩]
  exact .ret ⟨rfl, k0.trans (k1.trans k2)⟩
theorem at50 {α : Type} {a b c d e : α} : L2.atI [a, b, c, d, e] 0 = some a := rfl
theorem at51 {α : Type} {a b c d e : α} : L2.atI [a, b, c, d, e] 1 = some b := rfl
theorem at52 {α : Type} {a b c d e : α} : L2.atI [a, b, c, d, e] 2 = some c := rfl
theorem at53 {α : Type} {a b c d e : α} : L2.atI [a, b, c, d, e] 3 = some d := rfl
theorem at54 {α : Type} {a b c d e : α} : L2.atI [a, b, c, d, e] 4 = some e := rfl
theorem sp11 {n : Nat} {h : MH} {b o g : PV} {k : Str} (hb : Small b) (ho : Owner o) (hg : Small g) (hk : k = "need" ∨ k = "promise") : Ok (callF Pr (n + 5) 11 [.str (breakS b o g k)] h) fun r h' => r = .tup [b, o, .str k, g] ∧ Keep [] h h' := by
  have sp : Txt.split (breakS b o g k) " " = ([("break" : Str), numP b, ownS o, k, numP g] : List Str) := splitW (ws := [("break" : Str), numP b, ownS o, k, numP g]) (by simp) fun w hw => by
    simp only [List.mem_cons, List.not_mem_nil, or_false] at hw
    rcases hw with rfl | rfl | rfl | rfl | rfl
    · decide +kernel
    · exact free_numP hb (by decide)
    · exact own_free ho (by decide)
    · rcases hk with rfl | rfl <;> decide +kernel
    · exact free_numP hg (by decide)
  rw [callF_at (d := d11) rfl rfl]
  show Ok (finF (Vb.execs (cbK Pr (n + 4)) Pr.xt Pr.wl b11 [some (.str (breakS b o g k)), none, none] h)) _
  unfold b11
  have e : (h ++ [MO.lst [PV.str "break", .str (numP b), .str (ownS o), .str k, .str (numP g)]])[h.length]? = some (.lst [.str "break", .str (numP b), .str (ownS o), .str k, .str (numP g)]) := get_new
  have k0 : Keep [] h (h ++ [MO.lst [PV.str "break", .str (numP b), .str (ownS o), .str k, .str (numP g)]]) := .push _
  try simp only [Vb.execs, Vb.exec, Vb.evalE, Vb.evalEs, Vb.evalT, Vb.evalI, Vb.evalO, Vb.evalOT, Vb.asgS, Vb.bind_ok, Vb.bind_assoc, Vb.then_ok, Vb.then_bind, Vb.next_then, Vb.next_next, Vb.next_nx, Vb.next_rt, Vb.next_bk, Vb.next_ct, Vb.fin_then, Vb.fin_rt, Vb.fin_nx, Vb.opt_some, Vb.cb_fn, Vb.cb_cls, Vb.gl0, Vb.gls, List.getElem?_cons_zero, List.getElem?_cons_succ, List.set_cons_zero, List.set_cons_succ, Vb.storeTg, Vb.storeAll, Option.map_some, List.length_cons, List.length_nil, Nat.zero_add, Nat.reduceAdd, Vb.ln0, Vb.ln1, Vb.ln2, Vb.ln3, Vb.ln4, Vb.ln5, Vb.ln6, if_true, Vb.newObj, Vb.it_tup, Vb.it_ref, Vb.it_str, Vb.ty_join, Vb.ty_split, Vb.ty_append, Vb.ty_extend, Vb.ty_pop, Option.isSome_some, List.map_cons, List.map_nil, Bool.false_eq_true, if_false, Vb.tr_bl, Vb.wipeL, decide_true, decide_false, Bool.not_true, Bool.not_false, Vb.b_add, Vb.b_sub, Vb.c_lt, Vb.c_le, Vb.c_gt, Vb.c_ge, Vb.c_eq_int, Vb.c_ne_int, Vb.c_isn_non, Vb.c_isn_int, Vb.c_isn_tup, Vb.c_notn_non, Vb.c_notn_int, Vb.c_notn_tup, Vb.ix_tup, Vb.bi_list_tup, Vb.isi_int_non, Vb.isi_int_bl, Vb.isi_int_int, Vb.isi_int_str, Vb.isi_int_tup, Vb.isi_int_ref, Vb.isi_bool_non, Vb.isi_bool_bl, Vb.isi_bool_int, Vb.isi_bool_str, Vb.isi_bool_tup, Vb.isi_bool_ref, Vb.isi_str_non, Vb.isi_str_bl, Vb.isi_str_int, Vb.isi_str_str, Vb.isi_str_tup, Vb.isi_str_ref, Vb.isi_tup_non, Vb.isi_tup_bl, Vb.isi_tup_int, Vb.isi_tup_str, Vb.isi_tup_tup, Vb.isi_tup_ref, Vb.isi_lst_non, Vb.isi_lst_bl, Vb.isi_lst_int, Vb.isi_lst_str, Vb.isi_lst_tup, Vb.isi_lst_ref, bm_split (x := breakS b o g k) (y := " ") (by decide +kernel) (line_ok (by have := break_le hb ho hg hk; omega)), sp]
  generalize h ++ [MO.lst [PV.str "break", .str (numP b), .str (ownS o), .str k, .str (numP g)]] = H at e k0
  try simp only [Vb.execs, Vb.exec, Vb.evalE, Vb.evalEs, Vb.evalT, Vb.evalI, Vb.evalO, Vb.evalOT, Vb.asgS, Vb.bind_ok, Vb.bind_assoc, Vb.then_ok, Vb.then_bind, Vb.next_then, Vb.next_next, Vb.next_nx, Vb.next_rt, Vb.next_bk, Vb.next_ct, Vb.fin_then, Vb.fin_rt, Vb.fin_nx, Vb.opt_some, Vb.cb_fn, Vb.cb_cls, Vb.gl0, Vb.gls, List.getElem?_cons_zero, List.getElem?_cons_succ, List.set_cons_zero, List.set_cons_succ, Vb.storeTg, Vb.storeAll, Option.map_some, List.length_cons, List.length_nil, Nat.zero_add, Nat.reduceAdd, Vb.ln0, Vb.ln1, Vb.ln2, Vb.ln3, Vb.ln4, Vb.ln5, Vb.ln6, if_true, Vb.newObj, Vb.it_tup, Vb.it_ref, Vb.it_str, Vb.ty_join, Vb.ty_split, Vb.ty_append, Vb.ty_extend, Vb.ty_pop, Option.isSome_some, List.map_cons, List.map_nil, Bool.false_eq_true, if_false, Vb.tr_bl, Vb.wipeL, decide_true, decide_false, Bool.not_true, Bool.not_false, Vb.b_add, Vb.b_sub, Vb.c_lt, Vb.c_le, Vb.c_gt, Vb.c_ge, Vb.c_eq_int, Vb.c_ne_int, Vb.c_isn_non, Vb.c_isn_int, Vb.c_isn_tup, Vb.c_notn_non, Vb.c_notn_int, Vb.c_notn_tup, Vb.ix_tup, Vb.bi_list_tup, Vb.isi_int_non, Vb.isi_int_bl, Vb.isi_int_int, Vb.isi_int_str, Vb.isi_int_tup, Vb.isi_int_ref, Vb.isi_bool_non, Vb.isi_bool_bl, Vb.isi_bool_int, Vb.isi_bool_str, Vb.isi_bool_tup, Vb.isi_bool_ref, Vb.isi_str_non, Vb.isi_str_bl, Vb.isi_str_int, Vb.isi_str_str, Vb.isi_str_tup, Vb.isi_str_ref, Vb.isi_tup_non, Vb.isi_tup_bl, Vb.isi_tup_int, Vb.isi_tup_str, Vb.isi_tup_tup, Vb.isi_tup_ref, Vb.isi_lst_non, Vb.isi_lst_bl, Vb.isi_lst_int, Vb.isi_lst_str, Vb.isi_lst_tup, Vb.isi_lst_ref, ix_ref e, at50, at51, at52, at53, at54, c_ne_str (okS (x := "break")) (okS (x := "break")), decide_eq_true (rfl : ("break" : Str) = "break"), bi_len_ref e, show decide (((5 : Nat) : Int) = 5) = true from rfl, nin_kind (h := H) hk]
  obtain ⟨i, rfl, i0, i1⟩ := hb
  refine Ok.bind (sp3 (n + 3) H i i0 i1) ?_
  rintro _ h1 ⟨rfl, k1⟩
  try simp only [Vb.execs, Vb.exec, Vb.evalE, Vb.evalEs, Vb.evalT, Vb.evalI, Vb.evalO, Vb.evalOT, Vb.asgS, Vb.bind_ok, Vb.bind_assoc, Vb.then_ok, Vb.then_bind, Vb.next_then, Vb.next_next, Vb.next_nx, Vb.next_rt, Vb.next_bk, Vb.next_ct, Vb.fin_then, Vb.fin_rt, Vb.fin_nx, Vb.opt_some, Vb.cb_fn, Vb.cb_cls, Vb.gl0, Vb.gls, List.getElem?_cons_zero, List.getElem?_cons_succ, List.set_cons_zero, List.set_cons_succ, Vb.storeTg, Vb.storeAll, Option.map_some, List.length_cons, List.length_nil, Nat.zero_add, Nat.reduceAdd, Vb.ln0, Vb.ln1, Vb.ln2, Vb.ln3, Vb.ln4, Vb.ln5, Vb.ln6, if_true, Vb.newObj, Vb.it_tup, Vb.it_ref, Vb.it_str, Vb.ty_join, Vb.ty_split, Vb.ty_append, Vb.ty_extend, Vb.ty_pop, Option.isSome_some, List.map_cons, List.map_nil, Bool.false_eq_true, if_false, Vb.tr_bl, Vb.wipeL, decide_true, decide_false, Bool.not_true, Bool.not_false, Vb.b_add, Vb.b_sub, Vb.c_lt, Vb.c_le, Vb.c_gt, Vb.c_ge, Vb.c_eq_int, Vb.c_ne_int, Vb.c_isn_non, Vb.c_isn_int, Vb.c_isn_tup, Vb.c_notn_non, Vb.c_notn_int, Vb.c_notn_tup, Vb.ix_tup, Vb.bi_list_tup, Vb.isi_int_non, Vb.isi_int_bl, Vb.isi_int_int, Vb.isi_int_str, Vb.isi_int_tup, Vb.isi_int_ref, Vb.isi_bool_non, Vb.isi_bool_bl, Vb.isi_bool_int, Vb.isi_bool_str, Vb.isi_bool_tup, Vb.isi_bool_ref, Vb.isi_str_non, Vb.isi_str_bl, Vb.isi_str_int, Vb.isi_str_str, Vb.isi_str_tup, Vb.isi_str_ref, Vb.isi_tup_non, Vb.isi_tup_bl, Vb.isi_tup_int, Vb.isi_tup_str, Vb.isi_tup_tup, Vb.isi_tup_ref, Vb.isi_lst_non, Vb.isi_lst_bl, Vb.isi_lst_int, Vb.isi_lst_str, Vb.isi_lst_tup, Vb.isi_lst_ref, ix_ref (k1.get e (by simp)), at52]
  refine Ok.bind (sp7 (n := n + 2) h1 ho) ?_
  rintro _ h2 ⟨rfl, k2⟩
  try simp only [Vb.execs, Vb.exec, Vb.evalE, Vb.evalEs, Vb.evalT, Vb.evalI, Vb.evalO, Vb.evalOT, Vb.asgS, Vb.bind_ok, Vb.bind_assoc, Vb.then_ok, Vb.then_bind, Vb.next_then, Vb.next_next, Vb.next_nx, Vb.next_rt, Vb.next_bk, Vb.next_ct, Vb.fin_then, Vb.fin_rt, Vb.fin_nx, Vb.opt_some, Vb.cb_fn, Vb.cb_cls, Vb.gl0, Vb.gls, List.getElem?_cons_zero, List.getElem?_cons_succ, List.set_cons_zero, List.set_cons_succ, Vb.storeTg, Vb.storeAll, Option.map_some, List.length_cons, List.length_nil, Nat.zero_add, Nat.reduceAdd, Vb.ln0, Vb.ln1, Vb.ln2, Vb.ln3, Vb.ln4, Vb.ln5, Vb.ln6, if_true, Vb.newObj, Vb.it_tup, Vb.it_ref, Vb.it_str, Vb.ty_join, Vb.ty_split, Vb.ty_append, Vb.ty_extend, Vb.ty_pop, Option.isSome_some, List.map_cons, List.map_nil, Bool.false_eq_true, if_false, Vb.tr_bl, Vb.wipeL, decide_true, decide_false, Bool.not_true, Bool.not_false, Vb.b_add, Vb.b_sub, Vb.c_lt, Vb.c_le, Vb.c_gt, Vb.c_ge, Vb.c_eq_int, Vb.c_ne_int, Vb.c_isn_non, Vb.c_isn_int, Vb.c_isn_tup, Vb.c_notn_non, Vb.c_notn_int, Vb.c_notn_tup, Vb.ix_tup, Vb.bi_list_tup, Vb.isi_int_non, Vb.isi_int_bl, Vb.isi_int_int, Vb.isi_int_str, Vb.isi_int_tup, Vb.isi_int_ref, Vb.isi_bool_non, Vb.isi_bool_bl, Vb.isi_bool_int, Vb.isi_bool_str, Vb.isi_bool_tup, Vb.isi_bool_ref, Vb.isi_str_non, Vb.isi_str_bl, Vb.isi_str_int, Vb.isi_str_str, Vb.isi_str_tup, Vb.isi_str_ref, Vb.isi_tup_non, Vb.isi_tup_bl, Vb.isi_tup_int, Vb.isi_tup_str, Vb.isi_tup_tup, Vb.isi_tup_ref, Vb.isi_lst_non, Vb.isi_lst_bl, Vb.isi_lst_int, Vb.isi_lst_str, Vb.isi_lst_tup, Vb.isi_lst_ref, ix_ref ((k1.trans k2).get e (by simp)), at53, at54]
  obtain ⟨j, rfl, j0, j1⟩ := hg
  refine Ok.bind (sp3 (n + 3) h2 j j0 j1) ?_
  rintro _ h3 ⟨rfl, k3⟩
  try simp only [Vb.execs, Vb.exec, Vb.evalE, Vb.evalEs, Vb.evalT, Vb.evalI, Vb.evalO, Vb.evalOT, Vb.asgS, Vb.bind_ok, Vb.bind_assoc, Vb.then_ok, Vb.then_bind, Vb.next_then, Vb.next_next, Vb.next_nx, Vb.next_rt, Vb.next_bk, Vb.next_ct, Vb.fin_then, Vb.fin_rt, Vb.fin_nx, Vb.opt_some, Vb.cb_fn, Vb.cb_cls, Vb.gl0, Vb.gls, List.getElem?_cons_zero, List.getElem?_cons_succ, List.set_cons_zero, List.set_cons_succ, Vb.storeTg, Vb.storeAll, Option.map_some, List.length_cons, List.length_nil, Nat.zero_add, Nat.reduceAdd, Vb.ln0, Vb.ln1, Vb.ln2, Vb.ln3, Vb.ln4, Vb.ln5, Vb.ln6, if_true, Vb.newObj, Vb.it_tup, Vb.it_ref, Vb.it_str, Vb.ty_join, Vb.ty_split, Vb.ty_append, Vb.ty_extend, Vb.ty_pop, Option.isSome_some, List.map_cons, List.map_nil, Bool.false_eq_true, if_false, Vb.tr_bl, Vb.wipeL, decide_true, decide_false, Bool.not_true, Bool.not_false, Vb.b_add, Vb.b_sub, Vb.c_lt, Vb.c_le, Vb.c_gt, Vb.c_ge, Vb.c_eq_int, Vb.c_ne_int, Vb.c_isn_non, Vb.c_isn_int, Vb.c_isn_tup, Vb.c_notn_non, Vb.c_notn_int, Vb.c_notn_tup, Vb.ix_tup, Vb.bi_list_tup, Vb.isi_int_non, Vb.isi_int_bl, Vb.isi_int_int, Vb.isi_int_str, Vb.isi_int_tup, Vb.isi_int_ref, Vb.isi_bool_non, Vb.isi_bool_bl, Vb.isi_bool_int, Vb.isi_bool_str, Vb.isi_bool_tup, Vb.isi_bool_ref, Vb.isi_str_non, Vb.isi_str_bl, Vb.isi_str_int, Vb.isi_str_str, Vb.isi_str_tup, Vb.isi_str_ref, Vb.isi_tup_non, Vb.isi_tup_bl, Vb.isi_tup_int, Vb.isi_tup_str, Vb.isi_tup_tup, Vb.isi_tup_ref, Vb.isi_lst_non, Vb.isi_lst_bl, Vb.isi_lst_int, Vb.isi_lst_str, Vb.isi_lst_tup, Vb.isi_lst_ref, non_found (h := h3) (k := k) ⟨i, rfl, i0, i1⟩ ho ⟨j, rfl, j0, j1⟩]
  exact .ret ⟨rfl, k0.trans ((k1.trans k2).trans k3)⟩
end V87

set_option Elab.async false
set_option linter.all false
set_option maxRecDepth 100000
set_option maxHeartbeats 2000000
namespace V87
open PySem Vb
/-- a row that begins by a word that no thing has -/
def BadRow (row : Str) : Prop := ∃ w ws, Txt.split row " " = w :: ws ∧ 4 < w.length ∧ w.length < 100 ∧ PyData.strOk w = true ∧ row.length ≤ 1000000
theorem sp3n {n : Nat} {h : MH} {w : Str} (hl : 4 < w.length) (hm : w.length < 100) : callF Pr (n + 1) 3 [.str w] h = .ok .non h := by
  rw [callF_at (d := d3) rfl rfl]
  show finF (Vb.execs (cbK Pr n) Pr.xt Pr.wl b3 [some (.str w), none] h) = _
  unfold b3
  try simp only [Vb.execs, Vb.exec, Vb.evalE, Vb.evalEs, Vb.evalT, Vb.evalI, Vb.evalO, Vb.evalOT, Vb.asgS, Vb.bind_ok, Vb.bind_assoc, Vb.then_ok, Vb.then_bind, Vb.next_then, Vb.next_next, Vb.next_nx, Vb.next_rt, Vb.next_bk, Vb.next_ct, Vb.fin_then, Vb.fin_rt, Vb.fin_nx, Vb.opt_some, Vb.cb_fn, Vb.cb_cls, Vb.gl0, Vb.gls, List.getElem?_cons_zero, List.getElem?_cons_succ, List.set_cons_zero, List.set_cons_succ, Vb.storeTg, Vb.storeAll, Option.map_some, List.length_cons, List.length_nil, Nat.zero_add, Nat.reduceAdd, Vb.ln0, Vb.ln1, Vb.ln2, Vb.ln3, Vb.ln4, Vb.ln5, Vb.ln6, if_true, Vb.newObj, Vb.it_tup, Vb.it_ref, Vb.it_str, Vb.ty_join, Vb.ty_split, Vb.ty_append, Vb.ty_extend, Vb.ty_pop, Option.isSome_some, List.map_cons, List.map_nil, Bool.false_eq_true, if_false, Vb.tr_bl, Vb.wipeL, decide_true, decide_false, Bool.not_true, Bool.not_false, Vb.b_add, Vb.b_sub, Vb.c_lt, Vb.c_le, Vb.c_gt, Vb.c_ge, Vb.c_eq_int, Vb.c_ne_int, Vb.c_isn_non, Vb.c_isn_int, Vb.c_isn_tup, Vb.c_notn_non, Vb.c_notn_int, Vb.c_notn_tup, Vb.ix_tup, Vb.bi_list_tup, Vb.isi_int_non, Vb.isi_int_bl, Vb.isi_int_int, Vb.isi_int_str, Vb.isi_int_tup, Vb.isi_int_ref, Vb.isi_bool_non, Vb.isi_bool_bl, Vb.isi_bool_int, Vb.isi_bool_str, Vb.isi_bool_tup, Vb.isi_bool_ref, Vb.isi_str_non, Vb.isi_str_bl, Vb.isi_str_int, Vb.isi_str_str, Vb.isi_str_tup, Vb.isi_str_ref, Vb.isi_tup_non, Vb.isi_tup_bl, Vb.isi_tup_int, Vb.isi_tup_str, Vb.isi_tup_tup, Vb.isi_tup_ref, Vb.isi_lst_non, Vb.isi_lst_bl, Vb.isi_lst_int, Vb.isi_lst_str, Vb.isi_lst_tup, Vb.isi_lst_ref, bi_len_str (x := w) (h := h) (line_ok (by omega)), decide_eq_true (show (1 : Int) ≤ w.length by omega), decide_eq_false (show ¬ ((w.length : Int) ≤ 4) by omega)]
theorem has_none {h : MH} {r : Nat} (e : h[r]? = some (.lst [.non])) : cmpS .in_ .non (.ref r) h = some true := by
  have b : cmpData h (.ref r) = some (.list [.none]) := by
    unfold cmpData
    have a : data h deepest (.ref r) = some (.list [.none]) := by
      show (match seqAt h r with
        | some xs => (optAll (data h 23) xs).map PyData.list
        | none => none) = _
      rw [seq_of e]
      rfl
    rw [a]
    rfl
  show (match cmpData h .non, cmpData h (.ref r) with
    | some d, some (.list ds) => some (ds.any fun z => PyData.eqv z d)
    | _, _ => none) = _
  rw [b, d_non]
  rfl
theorem ne_len {a b : Str} (h : a.length ≠ b.length) : a ≠ b := fun e => h (by rw [e])
theorem sp4n {k : Nat} {row : Str} (h : MH) (hb : BadRow row) (hk : 3 ≤ k) : Ok (callF Pr k 4 [.str row] h) fun r h' => r = .non ∧ Keep [] h h' := by
  obtain ⟨n, rfl⟩ : ∃ n, k = n + 2 := ⟨k - 2, by omega⟩
  obtain ⟨w, ws, hs, h4, h5, hok, hl⟩ := hb
  rw [callF_at (d := d4) rfl rfl]
  show Ok (finF (Vb.execs (cbK Pr (n + 1)) Pr.xt Pr.wl b4 [some (.str row), none, none, none] h)) _
  rw [b4_eq]
  try simp only [Vb.execs, Vb.exec, Vb.evalE, Vb.evalEs, Vb.evalT, Vb.evalI, Vb.evalO, Vb.evalOT, Vb.asgS, Vb.bind_ok, Vb.bind_assoc, Vb.then_ok, Vb.then_bind, Vb.next_then, Vb.next_next, Vb.next_nx, Vb.next_rt, Vb.next_bk, Vb.next_ct, Vb.fin_then, Vb.fin_rt, Vb.fin_nx, Vb.opt_some, Vb.cb_fn, Vb.cb_cls, Vb.gl0, Vb.gls, List.getElem?_cons_zero, List.getElem?_cons_succ, List.set_cons_zero, List.set_cons_succ, Vb.storeTg, Vb.storeAll, Option.map_some, List.length_cons, List.length_nil, Nat.zero_add, Nat.reduceAdd, Vb.ln0, Vb.ln1, Vb.ln2, Vb.ln3, Vb.ln4, Vb.ln5, Vb.ln6, if_true, Vb.newObj, Vb.it_tup, Vb.it_ref, Vb.it_str, Vb.ty_join, Vb.ty_split, Vb.ty_append, Vb.ty_extend, Vb.ty_pop, Option.isSome_some, List.map_cons, List.map_nil, Bool.false_eq_true, if_false, Vb.tr_bl, Vb.wipeL, decide_true, decide_false, Bool.not_true, Bool.not_false, Vb.b_add, Vb.b_sub, Vb.c_lt, Vb.c_le, Vb.c_gt, Vb.c_ge, Vb.c_eq_int, Vb.c_ne_int, Vb.c_isn_non, Vb.c_isn_int, Vb.c_isn_tup, Vb.c_notn_non, Vb.c_notn_int, Vb.c_notn_tup, Vb.ix_tup, Vb.bi_list_tup, Vb.isi_int_non, Vb.isi_int_bl, Vb.isi_int_int, Vb.isi_int_str, Vb.isi_int_tup, Vb.isi_int_ref, Vb.isi_bool_non, Vb.isi_bool_bl, Vb.isi_bool_int, Vb.isi_bool_str, Vb.isi_bool_tup, Vb.isi_bool_ref, Vb.isi_str_non, Vb.isi_str_bl, Vb.isi_str_int, Vb.isi_str_str, Vb.isi_str_tup, Vb.isi_str_ref, Vb.isi_tup_non, Vb.isi_tup_bl, Vb.isi_tup_int, Vb.isi_tup_str, Vb.isi_tup_tup, Vb.isi_tup_ref, Vb.isi_lst_non, Vb.isi_lst_bl, Vb.isi_lst_int, Vb.isi_lst_str, Vb.isi_lst_tup, Vb.isi_lst_ref, bm_split (x := row) (y := " ") (by decide +kernel) (line_ok (by omega)), hs]
  rw [seq_of get_new]
  try simp only [Vb.execs, Vb.exec, Vb.evalE, Vb.evalEs, Vb.evalT, Vb.evalI, Vb.evalO, Vb.evalOT, Vb.asgS, Vb.bind_ok, Vb.bind_assoc, Vb.then_ok, Vb.then_bind, Vb.next_then, Vb.next_next, Vb.next_nx, Vb.next_rt, Vb.next_bk, Vb.next_ct, Vb.fin_then, Vb.fin_rt, Vb.fin_nx, Vb.opt_some, Vb.cb_fn, Vb.cb_cls, Vb.gl0, Vb.gls, List.getElem?_cons_zero, List.getElem?_cons_succ, List.set_cons_zero, List.set_cons_succ, Vb.storeTg, Vb.storeAll, Option.map_some, List.length_cons, List.length_nil, Nat.zero_add, Nat.reduceAdd, Vb.ln0, Vb.ln1, Vb.ln2, Vb.ln3, Vb.ln4, Vb.ln5, Vb.ln6, if_true, Vb.newObj, Vb.it_tup, Vb.it_ref, Vb.it_str, Vb.ty_join, Vb.ty_split, Vb.ty_append, Vb.ty_extend, Vb.ty_pop, Option.isSome_some, List.map_cons, List.map_nil, Bool.false_eq_true, if_false, Vb.tr_bl, Vb.wipeL, decide_true, decide_false, Bool.not_true, Bool.not_false, Vb.b_add, Vb.b_sub, Vb.c_lt, Vb.c_le, Vb.c_gt, Vb.c_ge, Vb.c_eq_int, Vb.c_ne_int, Vb.c_isn_non, Vb.c_isn_int, Vb.c_isn_tup, Vb.c_notn_non, Vb.c_notn_int, Vb.c_notn_tup, Vb.ix_tup, Vb.bi_list_tup, Vb.isi_int_non, Vb.isi_int_bl, Vb.isi_int_int, Vb.isi_int_str, Vb.isi_int_tup, Vb.isi_int_ref, Vb.isi_bool_non, Vb.isi_bool_bl, Vb.isi_bool_int, Vb.isi_bool_str, Vb.isi_bool_tup, Vb.isi_bool_ref, Vb.isi_str_non, Vb.isi_str_bl, Vb.isi_str_int, Vb.isi_str_str, Vb.isi_str_tup, Vb.isi_str_ref, Vb.isi_tup_non, Vb.isi_tup_bl, Vb.isi_tup_int, Vb.isi_tup_str, Vb.isi_tup_tup, Vb.isi_tup_ref, Vb.isi_lst_non, Vb.isi_lst_bl, Vb.isi_lst_int, Vb.isi_lst_str, Vb.isi_lst_tup, Vb.isi_lst_ref]
  have e0 : (h ++ [MO.lst []])[h.length]? = some (.lst []) := get_new
  have e1 : ((h ++ [MO.lst []]) ++ [MO.lst [PV.ref h.length]])[(h ++ [MO.lst []]).length]? = some (.lst [.ref h.length]) := get_new
  have e1' := Keep.get (S := []) (.push (MO.lst (PV.str w :: ws.map PV.str))) e1 (by simp)
  have e0' := Keep.get (S := []) (.push (MO.lst (PV.str w :: ws.map PV.str))) (Keep.get (S := []) (.push (MO.lst [PV.ref h.length])) e0 (by simp)) (by simp)
  have kp : Keep [] h (((h ++ [MO.lst []]) ++ [MO.lst [PV.ref h.length]]) ++ [MO.lst (PV.str w :: ws.map PV.str)]) := ((Keep.push _).trans (.push _)).trans (.push _)
  generalize (((h ++ [MO.lst []]) ++ [MO.lst [PV.ref h.length]]) ++ [MO.lst (PV.str w :: ws.map PV.str)]) = H at *
  generalize ((h ++ [MO.lst []]) ++ [MO.lst [PV.ref h.length]]).length = q at *
  generalize hL : (h ++ [MO.lst []]).length = L at *
  have hLn : L = h.length + 1 := by rw [← hL]; simp
  rw [for_cons (show sameSeq (.ref q) H H from rfl)]
  have n1 : w ≠ "(" := ne_len (by rw [show ("(" : Str).length = 1 by decide +kernel]; omega)
  have n2 : w ≠ ")" := ne_len (by rw [show (")" : Str).length = 1 by decide +kernel]; omega)
  have body : Vb.execs (cbK Pr (n + 1)) Pr.xt Pr.wl bw4 [some (.str row), some (.ref L), some (.str w), none] H = .ok (.rt .non) (H.set h.length (.lst [.non])) := by
    rw [show bw4 = [bs1, bs2] from rfl, exs_cons]
    have f0 : (H.set h.length (.lst [.non]))[h.length]? = some (.lst [.non]) := get_set e0'
    have f1 : (H.set h.length (.lst [.non]))[L]? = some (.lst [.ref h.length]) := get_put e1' (by omega)
    unfold bs1 bs2
    have la : L2.atI [PV.ref h.length] (-1) = some (.ref h.length) := rfl
    try simp only [Vb.execs, Vb.exec, Vb.evalE, Vb.evalEs, Vb.evalT, Vb.evalI, Vb.evalO, Vb.evalOT, Vb.asgS, Vb.bind_ok, Vb.bind_assoc, Vb.then_ok, Vb.then_bind, Vb.next_then, Vb.next_next, Vb.next_nx, Vb.next_rt, Vb.next_bk, Vb.next_ct, Vb.fin_then, Vb.fin_rt, Vb.fin_nx, Vb.opt_some, Vb.cb_fn, Vb.cb_cls, Vb.gl0, Vb.gls, List.getElem?_cons_zero, List.getElem?_cons_succ, List.set_cons_zero, List.set_cons_succ, Vb.storeTg, Vb.storeAll, Option.map_some, List.length_cons, List.length_nil, Nat.zero_add, Nat.reduceAdd, Vb.ln0, Vb.ln1, Vb.ln2, Vb.ln3, Vb.ln4, Vb.ln5, Vb.ln6, if_true, Vb.newObj, Vb.it_tup, Vb.it_ref, Vb.it_str, Vb.ty_join, Vb.ty_split, Vb.ty_append, Vb.ty_extend, Vb.ty_pop, Option.isSome_some, List.map_cons, List.map_nil, Bool.false_eq_true, if_false, Vb.tr_bl, Vb.wipeL, decide_true, decide_false, Bool.not_true, Bool.not_false, Vb.b_add, Vb.b_sub, Vb.c_lt, Vb.c_le, Vb.c_gt, Vb.c_ge, Vb.c_eq_int, Vb.c_ne_int, Vb.c_isn_non, Vb.c_isn_int, Vb.c_isn_tup, Vb.c_notn_non, Vb.c_notn_int, Vb.c_notn_tup, Vb.ix_tup, Vb.bi_list_tup, Vb.isi_int_non, Vb.isi_int_bl, Vb.isi_int_int, Vb.isi_int_str, Vb.isi_int_tup, Vb.isi_int_ref, Vb.isi_bool_non, Vb.isi_bool_bl, Vb.isi_bool_int, Vb.isi_bool_str, Vb.isi_bool_tup, Vb.isi_bool_ref, Vb.isi_str_non, Vb.isi_str_bl, Vb.isi_str_int, Vb.isi_str_str, Vb.isi_str_tup, Vb.isi_str_ref, Vb.isi_tup_non, Vb.isi_tup_bl, Vb.isi_tup_int, Vb.isi_tup_str, Vb.isi_tup_tup, Vb.isi_tup_ref, Vb.isi_lst_non, Vb.isi_lst_bl, Vb.isi_lst_int, Vb.isi_lst_str, Vb.isi_lst_tup, Vb.isi_lst_ref, c_eq_str hok okO, decide_eq_false n1, c_eq_str hok okC, decide_eq_false n2, ix_ref e1', la, seq_of e0', sp3n (n := n) (h := H) h4 h5, bm_append e0' (show ([] : List PV).length < sizeLine by decide), List.nil_append, bi_len_ref f1, show decide ((1 : Int) + 8 < ((1 : Nat) : Int)) = false from rfl, ix_ref f1, has_none f0]
  try simp only [Vb.execs, Vb.exec, Vb.evalE, Vb.evalEs, Vb.evalT, Vb.evalI, Vb.evalO, Vb.evalOT, Vb.asgS, Vb.bind_ok, Vb.bind_assoc, Vb.then_ok, Vb.then_bind, Vb.next_then, Vb.next_next, Vb.next_nx, Vb.next_rt, Vb.next_bk, Vb.next_ct, Vb.fin_then, Vb.fin_rt, Vb.fin_nx, Vb.opt_some, Vb.cb_fn, Vb.cb_cls, Vb.gl0, Vb.gls, List.getElem?_cons_zero, List.getElem?_cons_succ, List.set_cons_zero, List.set_cons_succ, Vb.storeTg, Vb.storeAll, Option.map_some, List.length_cons, List.length_nil, Nat.zero_add, Nat.reduceAdd, Vb.ln0, Vb.ln1, Vb.ln2, Vb.ln3, Vb.ln4, Vb.ln5, Vb.ln6, if_true, Vb.newObj, Vb.it_tup, Vb.it_ref, Vb.it_str, Vb.ty_join, Vb.ty_split, Vb.ty_append, Vb.ty_extend, Vb.ty_pop, Option.isSome_some, List.map_cons, List.map_nil, Bool.false_eq_true, if_false, Vb.tr_bl, Vb.wipeL, decide_true, decide_false, Bool.not_true, Bool.not_false, Vb.b_add, Vb.b_sub, Vb.c_lt, Vb.c_le, Vb.c_gt, Vb.c_ge, Vb.c_eq_int, Vb.c_ne_int, Vb.c_isn_non, Vb.c_isn_int, Vb.c_isn_tup, Vb.c_notn_non, Vb.c_notn_int, Vb.c_notn_tup, Vb.ix_tup, Vb.bi_list_tup, Vb.isi_int_non, Vb.isi_int_bl, Vb.isi_int_int, Vb.isi_int_str, Vb.isi_int_tup, Vb.isi_int_ref, Vb.isi_bool_non, Vb.isi_bool_bl, Vb.isi_bool_int, Vb.isi_bool_str, Vb.isi_bool_tup, Vb.isi_bool_ref, Vb.isi_str_non, Vb.isi_str_bl, Vb.isi_str_int, Vb.isi_str_str, Vb.isi_str_tup, Vb.isi_str_ref, Vb.isi_tup_non, Vb.isi_tup_bl, Vb.isi_tup_int, Vb.isi_tup_str, Vb.isi_tup_tup, Vb.isi_tup_ref, Vb.isi_lst_non, Vb.isi_lst_bl, Vb.isi_lst_int, Vb.isi_lst_str, Vb.isi_lst_tup, Vb.isi_lst_ref, body]
  exact .ret ⟨rfl, kp.put (.inr (Nat.le_refl _)) _⟩
/-! ### the reader of rows -/
structure Rd (R q : Nat) (rows : List Str) (a : Nat) (h : MH) : Prop where
  ob : h[R]? = some (.ins 0 [(0, .ref q), (1, .int a)])
  rw_ : h[q]? = some (.lst (rows.map .str))
theorem Rd.ne {R q : Nat} {rows : List Str} {a : Nat} {h : MH} (d : Rd R q rows a h) : q ≠ R := fun e => by
  have := d.rw_
  rw [e, d.ob] at this
  cases this
theorem Rd.keep {R q : Nat} {rows : List Str} {a : Nat} {h h' : MH} {S : List Nat} (d : Rd R q rows a h) (k : Keep S h h') (z : R ∉ S) (z2 : q ∉ S) : Rd R q rows a h' := ⟨k.get d.ob z, k.get d.rw_ z2⟩
theorem Rd.move {R q : Nat} {rows : List Str} {a b : Nat} {h : MH} (d : Rd R q rows a h) : Rd R q rows b (h.set R (.ins 0 [(0, .ref q), (1, .int b)])) := ⟨get_set d.ob, get_put d.rw_ d.ne⟩
theorem Rd.put {R q p : Nat} {rows : List Str} {a : Nat} {h : MH} {o : MO} (d : Rd R q rows a h) (z : R ≠ p) (z2 : q ≠ p) : Rd R q rows a (h.set p o) := ⟨get_put d.ob z, get_put d.rw_ z2⟩
section
variable {R q a n : Nat} {rows : List Str} {h : MH}
theorem at_rows (d : Rd R q rows a h) : attrS (cbK Pr n) h 0 (.ref R) = some (.ref q) := by
  simp only [attrS, d.ob]
  rfl
theorem at_at (d : Rd R q rows a h) : attrS (cbK Pr n) h 1 (.ref R) = some (.int a) := by
  simp only [attrS, d.ob]
  rfl
theorem me0 (d : Rd R q rows a h) : methOf (cbK Pr n) h 0 (.ref R) = some 13 := by simp only [methOf, d.ob]; rfl
theorem me1 (d : Rd R q rows a h) : methOf (cbK Pr n) h 1 (.ref R) = some 14 := by simp only [methOf, d.ob]; rfl
theorem me2 (d : Rd R q rows a h) : methOf (cbK Pr n) h 2 (.ref R) = some 15 := by simp only [methOf, d.ob]; rfl
theorem me3 (d : Rd R q rows a h) : methOf (cbK Pr n) h 3 (.ref R) = some 16 := by simp only [methOf, d.ob]; rfl
theorem me4 (d : Rd R q rows a h) : methOf (cbK Pr n) h 4 (.ref R) = some 17 := by simp only [methOf, d.ob]; rfl
theorem set_at1 (d : Rd R q rows a h) (b : Nat) : setAttrS (cbK Pr n) R 1 (.int b) h = some (h.set R (.ins 0 [(0, .ref q), (1, .int b)])) := by
  simp only [setAttrS, d.ob]
  rfl
theorem aug_at (d : Rd R q rows a h) {lo : Lo} {o : E} (ho : evalE (cbK Pr n) o lo h = .ok (.ref R) h) : Vb.exec (cbK Pr n) Pr.xt Pr.wl (.augA o 1 .add (.cst (.int 1))) lo h = .ok (.nx lo) (h.set R (.ins 0 [(0, .ref q), (1, .int (a + 1 : Nat))])) := by
  rw [Vb.exec, ho]
  simp only [then_ok, at_at d, evalE, augS, d.ob]
  rfl
theorem sp13 (d : Rd R q rows a h) : callF Pr (n + 1) 13 [.ref R] h = .ok (.bl (decide (a = rows.length))) h := by
  rw [callF_at (d := d13) rfl rfl]
  show finF (Vb.execs (cbK Pr n) Pr.xt Pr.wl b13 [some (.ref R)] h) = _
  unfold b13
  try simp only [Vb.execs, Vb.exec, Vb.evalE, Vb.evalEs, Vb.evalT, Vb.evalI, Vb.evalO, Vb.evalOT, Vb.asgS, Vb.bind_ok, Vb.bind_assoc, Vb.then_ok, Vb.then_bind, Vb.next_then, Vb.next_next, Vb.next_nx, Vb.next_rt, Vb.next_bk, Vb.next_ct, Vb.fin_then, Vb.fin_rt, Vb.fin_nx, Vb.opt_some, Vb.cb_fn, Vb.cb_cls, Vb.gl0, Vb.gls, List.getElem?_cons_zero, List.getElem?_cons_succ, List.set_cons_zero, List.set_cons_succ, Vb.storeTg, Vb.storeAll, Option.map_some, List.length_cons, List.length_nil, Nat.zero_add, Nat.reduceAdd, Vb.ln0, Vb.ln1, Vb.ln2, Vb.ln3, Vb.ln4, Vb.ln5, Vb.ln6, if_true, Vb.newObj, Vb.it_tup, Vb.it_ref, Vb.it_str, Vb.ty_join, Vb.ty_split, Vb.ty_append, Vb.ty_extend, Vb.ty_pop, Option.isSome_some, List.map_cons, List.map_nil, Bool.false_eq_true, if_false, Vb.tr_bl, Vb.wipeL, decide_true, decide_false, Bool.not_true, Bool.not_false, Vb.b_add, Vb.b_sub, Vb.c_lt, Vb.c_le, Vb.c_gt, Vb.c_ge, Vb.c_eq_int, Vb.c_ne_int, Vb.c_isn_non, Vb.c_isn_int, Vb.c_isn_tup, Vb.c_notn_non, Vb.c_notn_int, Vb.c_notn_tup, Vb.ix_tup, Vb.bi_list_tup, Vb.isi_int_non, Vb.isi_int_bl, Vb.isi_int_int, Vb.isi_int_str, Vb.isi_int_tup, Vb.isi_int_ref, Vb.isi_bool_non, Vb.isi_bool_bl, Vb.isi_bool_int, Vb.isi_bool_str, Vb.isi_bool_tup, Vb.isi_bool_ref, Vb.isi_str_non, Vb.isi_str_bl, Vb.isi_str_int, Vb.isi_str_str, Vb.isi_str_tup, Vb.isi_str_ref, Vb.isi_tup_non, Vb.isi_tup_bl, Vb.isi_tup_int, Vb.isi_tup_str, Vb.isi_tup_tup, Vb.isi_tup_ref, Vb.isi_lst_non, Vb.isi_lst_bl, Vb.isi_lst_int, Vb.isi_lst_str, Vb.isi_lst_tup, Vb.isi_lst_ref, at_rows d, at_at d, bi_len_ref d.rw_, List.length_map]
  by_cases c : a = rows.length
  · rw [decide_eq_true c, decide_eq_true (by rw [c])]
  · rw [decide_eq_false c, decide_eq_false (by omega)]
theorem sp14 : callF Pr (n + 1) 14 [.ref R, .bl true] h = .ok .non h := by
  rw [callF_at (d := d14) rfl rfl]
  show finF (Vb.execs (cbK Pr n) Pr.xt Pr.wl b14 [some (.ref R), some (.bl true)] h) = _
  unfold b14
  try simp only [Vb.execs, Vb.exec, Vb.evalE, Vb.evalEs, Vb.evalT, Vb.evalI, Vb.evalO, Vb.evalOT, Vb.asgS, Vb.bind_ok, Vb.bind_assoc, Vb.then_ok, Vb.then_bind, Vb.next_then, Vb.next_next, Vb.next_nx, Vb.next_rt, Vb.next_bk, Vb.next_ct, Vb.fin_then, Vb.fin_rt, Vb.fin_nx, Vb.opt_some, Vb.cb_fn, Vb.cb_cls, Vb.gl0, Vb.gls, List.getElem?_cons_zero, List.getElem?_cons_succ, List.set_cons_zero, List.set_cons_succ, Vb.storeTg, Vb.storeAll, Option.map_some, List.length_cons, List.length_nil, Nat.zero_add, Nat.reduceAdd, Vb.ln0, Vb.ln1, Vb.ln2, Vb.ln3, Vb.ln4, Vb.ln5, Vb.ln6, if_true, Vb.newObj, Vb.it_tup, Vb.it_ref, Vb.it_str, Vb.ty_join, Vb.ty_split, Vb.ty_append, Vb.ty_extend, Vb.ty_pop, Option.isSome_some, List.map_cons, List.map_nil, Bool.false_eq_true, if_false, Vb.tr_bl, Vb.wipeL, decide_true, decide_false, Bool.not_true, Bool.not_false, Vb.b_add, Vb.b_sub, Vb.c_lt, Vb.c_le, Vb.c_gt, Vb.c_ge, Vb.c_eq_int, Vb.c_ne_int, Vb.c_isn_non, Vb.c_isn_int, Vb.c_isn_tup, Vb.c_notn_non, Vb.c_notn_int, Vb.c_notn_tup, Vb.ix_tup, Vb.bi_list_tup, Vb.isi_int_non, Vb.isi_int_bl, Vb.isi_int_int, Vb.isi_int_str, Vb.isi_int_tup, Vb.isi_int_ref, Vb.isi_bool_non, Vb.isi_bool_bl, Vb.isi_bool_int, Vb.isi_bool_str, Vb.isi_bool_tup, Vb.isi_bool_ref, Vb.isi_str_non, Vb.isi_str_bl, Vb.isi_str_int, Vb.isi_str_str, Vb.isi_str_tup, Vb.isi_str_ref, Vb.isi_tup_non, Vb.isi_tup_bl, Vb.isi_tup_int, Vb.isi_tup_str, Vb.isi_tup_tup, Vb.isi_tup_ref, Vb.isi_lst_non, Vb.isi_lst_bl, Vb.isi_lst_int, Vb.isi_lst_str, Vb.isi_lst_tup, Vb.isi_lst_ref]
end
end V87

set_option Elab.async false
set_option linter.all false
set_option maxRecDepth 100000
set_option maxHeartbeats 2000000
namespace V87
open PySem Vb
/-- rows that may be joined and split again -/
structure RowsOk (rows : List Str) : Prop where
  ne : rows ≠ []
  free : ∀ r ∈ rows, 10 ∉ TL.tl r
  few : rows.length ≤ 43
  small : ∀ r ∈ rows, r.length ≤ 300000
theorem back_nl {rows : List Str} (ok : RowsOk rows) : Txt.split (Txt.join "\n" rows) "\n" = rows := TL.split_join (y := "\n") (s := 10) (S := []) (by decide +kernel) (by decide +kernel) ok.ne ok.free
theorem len_rows {rows : List Str} (ok : RowsOk rows) : (Txt.join "\n" rows).length + 2 ≤ sizeLine := by
  have a := join_len (s := "\n") (ws := rows)
  have b := sum_rows ok.few ok.small len_nl
  have c : 43 * (300000 + 1) + 2 ≤ sizeLine := by decide
  omega
theorem sp12 {n R : Nat} {h : MH} {rows : List Str} (ok : RowsOk rows) (e : h[R]? = some (.ins 0 [])) : Ok (callF Pr (n + 1) 12 [.ref R, .str (Txt.join "\n" rows)] h) fun r h' => r = .non ∧ Rd R h.length rows 0 h' ∧ Keep [R] h h' := by
  rw [callF_at (d := d12) rfl rfl]
  show Ok (finF (Vb.execs (cbK Pr n) Pr.xt Pr.wl b12 [some (.ref R), some (.str (Txt.join "\n" rows))] h)) _
  unfold b12
  try simp only [Vb.execs, Vb.exec, Vb.evalE, Vb.evalEs, Vb.evalT, Vb.evalI, Vb.evalO, Vb.evalOT, Vb.asgS, Vb.bind_ok, Vb.bind_assoc, Vb.then_ok, Vb.then_bind, Vb.next_then, Vb.next_next, Vb.next_nx, Vb.next_rt, Vb.next_bk, Vb.next_ct, Vb.fin_then, Vb.fin_rt, Vb.fin_nx, Vb.opt_some, Vb.cb_fn, Vb.cb_cls, Vb.gl0, Vb.gls, List.getElem?_cons_zero, List.getElem?_cons_succ, List.set_cons_zero, List.set_cons_succ, Vb.storeTg, Vb.storeAll, Option.map_some, List.length_cons, List.length_nil, Nat.zero_add, Nat.reduceAdd, Vb.ln0, Vb.ln1, Vb.ln2, Vb.ln3, Vb.ln4, Vb.ln5, Vb.ln6, if_true, Vb.newObj, Vb.it_tup, Vb.it_ref, Vb.it_str, Vb.ty_join, Vb.ty_split, Vb.ty_append, Vb.ty_extend, Vb.ty_pop, Option.isSome_some, List.map_cons, List.map_nil, Bool.false_eq_true, if_false, Vb.tr_bl, Vb.wipeL, decide_true, decide_false, Bool.not_true, Bool.not_false, Vb.b_add, Vb.b_sub, Vb.c_lt, Vb.c_le, Vb.c_gt, Vb.c_ge, Vb.c_eq_int, Vb.c_ne_int, Vb.c_isn_non, Vb.c_isn_int, Vb.c_isn_tup, Vb.c_notn_non, Vb.c_notn_int, Vb.c_notn_tup, Vb.ix_tup, Vb.bi_list_tup, Vb.isi_int_non, Vb.isi_int_bl, Vb.isi_int_int, Vb.isi_int_str, Vb.isi_int_tup, Vb.isi_int_ref, Vb.isi_bool_non, Vb.isi_bool_bl, Vb.isi_bool_int, Vb.isi_bool_str, Vb.isi_bool_tup, Vb.isi_bool_ref, Vb.isi_str_non, Vb.isi_str_bl, Vb.isi_str_int, Vb.isi_str_str, Vb.isi_str_tup, Vb.isi_str_ref, Vb.isi_tup_non, Vb.isi_tup_bl, Vb.isi_tup_int, Vb.isi_tup_str, Vb.isi_tup_tup, Vb.isi_tup_ref, Vb.isi_lst_non, Vb.isi_lst_bl, Vb.isi_lst_int, Vb.isi_lst_str, Vb.isi_lst_tup, Vb.isi_lst_ref, bm_split (x := Txt.join "\n" rows) (y := "\n") (by decide +kernel) (len_rows ok), back_nl ok]
  have e1 : (h ++ [MO.lst (rows.map PV.str)])[R]? = some (.ins 0 []) := Keep.get (S := []) (.push _) e (by simp)
  have e2 : (h ++ [MO.lst (rows.map PV.str)])[h.length]? = some (.lst (rows.map .str)) := get_new
  have lt := lt_of_get e
  have s1 : setAttrS (cbK Pr n) R 0 (.ref h.length) (h ++ [MO.lst (rows.map PV.str)]) = some ((h ++ [MO.lst (rows.map PV.str)]).set R (.ins 0 [(0, .ref h.length)])) := by
    simp only [setAttrS, e1]
    rfl
  rw [s1]
  try simp only [Vb.execs, Vb.exec, Vb.evalE, Vb.evalEs, Vb.evalT, Vb.evalI, Vb.evalO, Vb.evalOT, Vb.asgS, Vb.bind_ok, Vb.bind_assoc, Vb.then_ok, Vb.then_bind, Vb.next_then, Vb.next_next, Vb.next_nx, Vb.next_rt, Vb.next_bk, Vb.next_ct, Vb.fin_then, Vb.fin_rt, Vb.fin_nx, Vb.opt_some, Vb.cb_fn, Vb.cb_cls, Vb.gl0, Vb.gls, List.getElem?_cons_zero, List.getElem?_cons_succ, List.set_cons_zero, List.set_cons_succ, Vb.storeTg, Vb.storeAll, Option.map_some, List.length_cons, List.length_nil, Nat.zero_add, Nat.reduceAdd, Vb.ln0, Vb.ln1, Vb.ln2, Vb.ln3, Vb.ln4, Vb.ln5, Vb.ln6, if_true, Vb.newObj, Vb.it_tup, Vb.it_ref, Vb.it_str, Vb.ty_join, Vb.ty_split, Vb.ty_append, Vb.ty_extend, Vb.ty_pop, Option.isSome_some, List.map_cons, List.map_nil, Bool.false_eq_true, if_false, Vb.tr_bl, Vb.wipeL, decide_true, decide_false, Bool.not_true, Bool.not_false, Vb.b_add, Vb.b_sub, Vb.c_lt, Vb.c_le, Vb.c_gt, Vb.c_ge, Vb.c_eq_int, Vb.c_ne_int, Vb.c_isn_non, Vb.c_isn_int, Vb.c_isn_tup, Vb.c_notn_non, Vb.c_notn_int, Vb.c_notn_tup, Vb.ix_tup, Vb.bi_list_tup, Vb.isi_int_non, Vb.isi_int_bl, Vb.isi_int_int, Vb.isi_int_str, Vb.isi_int_tup, Vb.isi_int_ref, Vb.isi_bool_non, Vb.isi_bool_bl, Vb.isi_bool_int, Vb.isi_bool_str, Vb.isi_bool_tup, Vb.isi_bool_ref, Vb.isi_str_non, Vb.isi_str_bl, Vb.isi_str_int, Vb.isi_str_str, Vb.isi_str_tup, Vb.isi_str_ref, Vb.isi_tup_non, Vb.isi_tup_bl, Vb.isi_tup_int, Vb.isi_tup_str, Vb.isi_tup_tup, Vb.isi_tup_ref, Vb.isi_lst_non, Vb.isi_lst_bl, Vb.isi_lst_int, Vb.isi_lst_str, Vb.isi_lst_tup, Vb.isi_lst_ref]
  have e3 : ((h ++ [MO.lst (rows.map PV.str)]).set R (.ins 0 [(0, .ref h.length)]))[R]? = some (.ins 0 [(0, .ref h.length)]) := get_set e1
  have s2 : setAttrS (cbK Pr n) R 1 (.int 0) ((h ++ [MO.lst (rows.map PV.str)]).set R (.ins 0 [(0, .ref h.length)])) = some (((h ++ [MO.lst (rows.map PV.str)]).set R (.ins 0 [(0, .ref h.length)])).set R (.ins 0 [(0, .ref h.length), (1, .int 0)])) := by
    simp only [setAttrS, e3]
    rfl
  rw [s2]
  try simp only [Vb.execs, Vb.exec, Vb.evalE, Vb.evalEs, Vb.evalT, Vb.evalI, Vb.evalO, Vb.evalOT, Vb.asgS, Vb.bind_ok, Vb.bind_assoc, Vb.then_ok, Vb.then_bind, Vb.next_then, Vb.next_next, Vb.next_nx, Vb.next_rt, Vb.next_bk, Vb.next_ct, Vb.fin_then, Vb.fin_rt, Vb.fin_nx, Vb.opt_some, Vb.cb_fn, Vb.cb_cls, Vb.gl0, Vb.gls, List.getElem?_cons_zero, List.getElem?_cons_succ, List.set_cons_zero, List.set_cons_succ, Vb.storeTg, Vb.storeAll, Option.map_some, List.length_cons, List.length_nil, Nat.zero_add, Nat.reduceAdd, Vb.ln0, Vb.ln1, Vb.ln2, Vb.ln3, Vb.ln4, Vb.ln5, Vb.ln6, if_true, Vb.newObj, Vb.it_tup, Vb.it_ref, Vb.it_str, Vb.ty_join, Vb.ty_split, Vb.ty_append, Vb.ty_extend, Vb.ty_pop, Option.isSome_some, List.map_cons, List.map_nil, Bool.false_eq_true, if_false, Vb.tr_bl, Vb.wipeL, decide_true, decide_false, Bool.not_true, Bool.not_false, Vb.b_add, Vb.b_sub, Vb.c_lt, Vb.c_le, Vb.c_gt, Vb.c_ge, Vb.c_eq_int, Vb.c_ne_int, Vb.c_isn_non, Vb.c_isn_int, Vb.c_isn_tup, Vb.c_notn_non, Vb.c_notn_int, Vb.c_notn_tup, Vb.ix_tup, Vb.bi_list_tup, Vb.isi_int_non, Vb.isi_int_bl, Vb.isi_int_int, Vb.isi_int_str, Vb.isi_int_tup, Vb.isi_int_ref, Vb.isi_bool_non, Vb.isi_bool_bl, Vb.isi_bool_int, Vb.isi_bool_str, Vb.isi_bool_tup, Vb.isi_bool_ref, Vb.isi_str_non, Vb.isi_str_bl, Vb.isi_str_int, Vb.isi_str_str, Vb.isi_str_tup, Vb.isi_str_ref, Vb.isi_tup_non, Vb.isi_tup_bl, Vb.isi_tup_int, Vb.isi_tup_str, Vb.isi_tup_tup, Vb.isi_tup_ref, Vb.isi_lst_non, Vb.isi_lst_bl, Vb.isi_lst_int, Vb.isi_lst_str, Vb.isi_lst_tup, Vb.isi_lst_ref]
  exact .ret ⟨rfl, ⟨get_set e3, get_put (get_put e2 (by omega)) (by omega)⟩, (Keep.push _).trans ((Keep.set (.inl (by simp)) _).trans (.set (.inl (by simp)) _))⟩
/-- Reading(text) -/
theorem mk_ {n : Nat} {h : MH} {rows : List Str} {lo : Lo} {e : E} (ok : RowsOk rows) (he : evalE (cbK Pr (n + 2)) e lo h = .ok (.str (Txt.join "\n" rows)) h) : Ok (evalE (cbK Pr (n + 2)) (.mk 0 [e]) lo h) fun r h' => ∃ R q, r = .ref R ∧ h.length ≤ R ∧ h.length ≤ q ∧ Rd R q rows 0 h' ∧ Keep [] h h' := by
  have e1 : evalE (cbK Pr (n + 2)) (.mk 0 [e]) lo h = (callF Pr (n + 1) 12 [.ref h.length, .str (Txt.join "\n" rows)] (h ++ [.ins 0 []])).bind fun r h2 => match r with
      | .non => .ok (.ref h.length) h2
      | _ => .no := by
    simp only [evalE, evalEs, he, bind_ok]
    rfl
  rw [e1]
  refine Ok.bind (sp12 ok get_new) ?_
  rintro _ h2 ⟨rfl, d, k⟩
  exact .ret ⟨_, _, rfl, Nat.le_refl _, by simp, d, (Keep.push _).go k fun x hx => .inr (by rw [List.mem_singleton.mp hx]; exact Nat.le_refl _)⟩
/-- what stands behind the tuples -/
def Rest (rest : List Str) : Prop := rest = [] ∨ ∃ row r, rest = row :: r ∧ BadRow row
theorem drop_get {rows : List Str} {a : Nat} {x : Str} {r : List Str} (e : rows.drop a = x :: r) : rows[a]? = some x ∧ rows.drop (a + 1) = r ∧ a < rows.length := by
  have lt : a < rows.length := by
    by_cases c : a < rows.length
    · exact c
    · rw [List.drop_eq_nil_of_le (by omega)] at e; cases e
  rw [List.drop_eq_getElem_cons lt] at e
  simp only [List.cons.injEq] at e
  exact ⟨by rw [List.getElem?_eq_getElem lt, e.1], e.2, lt⟩
theorem ix_row {rows : List Str} {a q : Nat} {x : Str} {h : MH} (e : h[q]? = some (.lst (rows.map .str))) (g : rows[a]? = some x) : idxS (.ref q) (.int a) h = some (.str x) := by
  rw [ix_ref e]
  have lt : a < rows.length := (List.getElem?_eq_some_iff.mp g).1
  unfold L2.atI L2.ixN
  rw [if_pos (by omega), if_pos (by rw [List.length_map]; omega)]
  simp [g]
theorem isSt_tup {v : PV} (h : IsSt v) : ∃ xs, v = .tup xs := h.1
theorem sp15 {n R q a : Nat} {rows : List Str} {h : MH} {vs : List PV} {rest : List Str} (d : Rd R q rows a h) (hr : rows.drop a = stR vs ++ rest) (hs : States vs) (hrest : Rest rest) (few : rows.length ≤ 43) (ha : a ≤ rows.length) :
    Ok (callF Pr (n + 5) 15 [.ref R] h) fun r h' => r = .tup vs ∧ Rd R q rows (a + vs.length) h' ∧ Keep [R] h h' := by
  rw [callF_at (d := d15) rfl rfl]
  show Ok (finF (Vb.execs (cbK Pr (n + 4)) Pr.xt Pr.wl b15 [some (.ref R), none, none] h)) _
  unfold b15
  have k0 : Keep [] h (h ++ [MO.lst []]) := .push _
  have f0 : (h ++ [MO.lst []])[h.length]? = some (.lst []) := get_new
  have d0 : Rd R q rows a (h ++ [MO.lst []]) := d.keep k0 (by simp) (by simp)
  have rl := lt_of_get d.ob
  have ql := lt_of_get d.rw_
  try simp only [Vb.execs, Vb.exec, Vb.evalE, Vb.evalEs, Vb.evalT, Vb.evalI, Vb.evalO, Vb.evalOT, Vb.asgS, Vb.bind_ok, Vb.bind_assoc, Vb.then_ok, Vb.then_bind, Vb.next_then, Vb.next_next, Vb.next_nx, Vb.next_rt, Vb.next_bk, Vb.next_ct, Vb.fin_then, Vb.fin_rt, Vb.fin_nx, Vb.opt_some, Vb.cb_fn, Vb.cb_cls, Vb.gl0, Vb.gls, List.getElem?_cons_zero, List.getElem?_cons_succ, List.set_cons_zero, List.set_cons_succ, Vb.storeTg, Vb.storeAll, Option.map_some, List.length_cons, List.length_nil, Nat.zero_add, Nat.reduceAdd, Vb.ln0, Vb.ln1, Vb.ln2, Vb.ln3, Vb.ln4, Vb.ln5, Vb.ln6, if_true, Vb.newObj, Vb.it_tup, Vb.it_ref, Vb.it_str, Vb.ty_join, Vb.ty_split, Vb.ty_append, Vb.ty_extend, Vb.ty_pop, Option.isSome_some, List.map_cons, List.map_nil, Bool.false_eq_true, if_false, Vb.tr_bl, Vb.wipeL, decide_true, decide_false, Bool.not_true, Bool.not_false, Vb.b_add, Vb.b_sub, Vb.c_lt, Vb.c_le, Vb.c_gt, Vb.c_ge, Vb.c_eq_int, Vb.c_ne_int, Vb.c_isn_non, Vb.c_isn_int, Vb.c_isn_tup, Vb.c_notn_non, Vb.c_notn_int, Vb.c_notn_tup, Vb.ix_tup, Vb.bi_list_tup, Vb.isi_int_non, Vb.isi_int_bl, Vb.isi_int_int, Vb.isi_int_str, Vb.isi_int_tup, Vb.isi_int_ref, Vb.isi_bool_non, Vb.isi_bool_bl, Vb.isi_bool_int, Vb.isi_bool_str, Vb.isi_bool_tup, Vb.isi_bool_ref, Vb.isi_str_non, Vb.isi_str_bl, Vb.isi_str_int, Vb.isi_str_str, Vb.isi_str_tup, Vb.isi_str_ref, Vb.isi_tup_non, Vb.isi_tup_bl, Vb.isi_tup_int, Vb.isi_tup_str, Vb.isi_tup_tup, Vb.isi_tup_ref, Vb.isi_lst_non, Vb.isi_lst_bl, Vb.isi_lst_int, Vb.isi_lst_str, Vb.isi_lst_tup, Vb.isi_lst_ref]
  generalize h ++ [MO.lst []] = H at k0 f0 d0
  have vl := hs.1
  refine SOk.finN (while_inv (fun m lo h1 => ∃ don todo z, vs = don ++ todo ∧ m = todo.length + 1 ∧ lo = [some (.ref R), some (.ref h.length), z] ∧ h1[h.length]? = some (.lst don) ∧ Rd R q rows (a + don.length) h1 ∧ Keep [R] h h1 ∧ rows.drop (a + don.length) = stR todo ++ rest)
    (fun lo h1 => ∃ z, lo = [some (.ref R), some (.ref h.length), z] ∧ h1[h.length]? = some (.lst vs) ∧ Rd R q rows (a + vs.length) h1 ∧ Keep [R] h h1) (fun _ _ => False) ?_ 1000000 (vs.length + 1) (by omega) _ _ ⟨[], vs, none, rfl, rfl, rfl, f0, d0, k0.weak (by simp), hr⟩) ?_
  · rintro m lo h1 ⟨don, todo, z, ev, rfl, rfl, f1, d1, k1, hd⟩
    try simp only [Vb.execs, Vb.exec, Vb.evalE, Vb.evalEs, Vb.evalT, Vb.evalI, Vb.evalO, Vb.evalOT, Vb.asgS, Vb.bind_ok, Vb.bind_assoc, Vb.then_ok, Vb.then_bind, Vb.next_then, Vb.next_next, Vb.next_nx, Vb.next_rt, Vb.next_bk, Vb.next_ct, Vb.fin_then, Vb.fin_rt, Vb.fin_nx, Vb.opt_some, Vb.cb_fn, Vb.cb_cls, Vb.gl0, Vb.gls, List.getElem?_cons_zero, List.getElem?_cons_succ, List.set_cons_zero, List.set_cons_succ, Vb.storeTg, Vb.storeAll, Option.map_some, List.length_cons, List.length_nil, Nat.zero_add, Nat.reduceAdd, Vb.ln0, Vb.ln1, Vb.ln2, Vb.ln3, Vb.ln4, Vb.ln5, Vb.ln6, if_true, Vb.newObj, Vb.it_tup, Vb.it_ref, Vb.it_str, Vb.ty_join, Vb.ty_split, Vb.ty_append, Vb.ty_extend, Vb.ty_pop, Option.isSome_some, List.map_cons, List.map_nil, Bool.false_eq_true, if_false, Vb.tr_bl, Vb.wipeL, decide_true, decide_false, Bool.not_true, Bool.not_false, Vb.b_add, Vb.b_sub, Vb.c_lt, Vb.c_le, Vb.c_gt, Vb.c_ge, Vb.c_eq_int, Vb.c_ne_int, Vb.c_isn_non, Vb.c_isn_int, Vb.c_isn_tup, Vb.c_notn_non, Vb.c_notn_int, Vb.c_notn_tup, Vb.ix_tup, Vb.bi_list_tup, Vb.isi_int_non, Vb.isi_int_bl, Vb.isi_int_int, Vb.isi_int_str, Vb.isi_int_tup, Vb.isi_int_ref, Vb.isi_bool_non, Vb.isi_bool_bl, Vb.isi_bool_int, Vb.isi_bool_str, Vb.isi_bool_tup, Vb.isi_bool_ref, Vb.isi_str_non, Vb.isi_str_bl, Vb.isi_str_int, Vb.isi_str_str, Vb.isi_str_tup, Vb.isi_str_ref, Vb.isi_tup_non, Vb.isi_tup_bl, Vb.isi_tup_int, Vb.isi_tup_str, Vb.isi_tup_tup, Vb.isi_tup_ref, Vb.isi_lst_non, Vb.isi_lst_bl, Vb.isi_lst_int, Vb.isi_lst_str, Vb.isi_lst_tup, Vb.isi_lst_ref, me0 d1, sp13 (n := n + 3) d1]
    by_cases over : a + don.length = rows.length
    · -- no row is left
      have none_ : todo = [] ∧ rest = [] := by
        rw [List.drop_eq_nil_of_le (by omega)] at hd
        have := List.append_eq_nil_iff.mp hd.symm
        exact ⟨List.map_eq_nil_iff.mp this.1, this.2⟩
      obtain ⟨rfl, rfl⟩ := none_
      rw [List.append_nil] at ev
      subst ev
      simp only [decide_eq_true over, Bool.not_true]
      refine .ret ?_
      rw [if_neg Bool.false_ne_true]
      exact ⟨z, rfl, f1, d1, k1⟩
    · simp only [decide_eq_false over, Bool.not_false]
      refine .ret ?_
      rw [if_pos rfl]
      refine ⟨by omega, ?_⟩
      cases todo with
      | nil =>
        -- a row that is none
        rw [List.append_nil] at ev
        subst ev
        rcases hrest with rfl | ⟨row, r, rfl, bad⟩
        · have := congrArg List.length hd
          simp only [List.length_drop, stR, List.map_nil, List.nil_append, List.length_nil] at this
          have lt : a + vs.length ≤ rows.length := by
            have := congrArg List.length hr
            simp only [List.length_drop, stR, List.length_append, List.length_map, List.length_nil] at this
            omega
          omega
        · obtain ⟨g1, _, _⟩ := drop_get (show rows.drop (a + vs.length) = row :: r from hd)
          try simp only [Vb.execs, Vb.exec, Vb.evalE, Vb.evalEs, Vb.evalT, Vb.evalI, Vb.evalO, Vb.evalOT, Vb.asgS, Vb.bind_ok, Vb.bind_assoc, Vb.then_ok, Vb.then_bind, Vb.next_then, Vb.next_next, Vb.next_nx, Vb.next_rt, Vb.next_bk, Vb.next_ct, Vb.fin_then, Vb.fin_rt, Vb.fin_nx, Vb.opt_some, Vb.cb_fn, Vb.cb_cls, Vb.gl0, Vb.gls, List.getElem?_cons_zero, List.getElem?_cons_succ, List.set_cons_zero, List.set_cons_succ, Vb.storeTg, Vb.storeAll, Option.map_some, List.length_cons, List.length_nil, Nat.zero_add, Nat.reduceAdd, Vb.ln0, Vb.ln1, Vb.ln2, Vb.ln3, Vb.ln4, Vb.ln5, Vb.ln6, if_true, Vb.newObj, Vb.it_tup, Vb.it_ref, Vb.it_str, Vb.ty_join, Vb.ty_split, Vb.ty_append, Vb.ty_extend, Vb.ty_pop, Option.isSome_some, List.map_cons, List.map_nil, Bool.false_eq_true, if_false, Vb.tr_bl, Vb.wipeL, decide_true, decide_false, Bool.not_true, Bool.not_false, Vb.b_add, Vb.b_sub, Vb.c_lt, Vb.c_le, Vb.c_gt, Vb.c_ge, Vb.c_eq_int, Vb.c_ne_int, Vb.c_isn_non, Vb.c_isn_int, Vb.c_isn_tup, Vb.c_notn_non, Vb.c_notn_int, Vb.c_notn_tup, Vb.ix_tup, Vb.bi_list_tup, Vb.isi_int_non, Vb.isi_int_bl, Vb.isi_int_int, Vb.isi_int_str, Vb.isi_int_tup, Vb.isi_int_ref, Vb.isi_bool_non, Vb.isi_bool_bl, Vb.isi_bool_int, Vb.isi_bool_str, Vb.isi_bool_tup, Vb.isi_bool_ref, Vb.isi_str_non, Vb.isi_str_bl, Vb.isi_str_int, Vb.isi_str_str, Vb.isi_str_tup, Vb.isi_str_ref, Vb.isi_tup_non, Vb.isi_tup_bl, Vb.isi_tup_int, Vb.isi_tup_str, Vb.isi_tup_tup, Vb.isi_tup_ref, Vb.isi_lst_non, Vb.isi_lst_bl, Vb.isi_lst_int, Vb.isi_lst_str, Vb.isi_lst_tup, Vb.isi_lst_ref, at_rows d1, at_at d1, ix_row d1.rw_ g1]
          refine SOk.then_ (sp4n h1 bad (by omega)) ?_
          rintro _ h2 ⟨rfl, k2⟩
          try simp only [Vb.execs, Vb.exec, Vb.evalE, Vb.evalEs, Vb.evalT, Vb.evalI, Vb.evalO, Vb.evalOT, Vb.asgS, Vb.bind_ok, Vb.bind_assoc, Vb.then_ok, Vb.then_bind, Vb.next_then, Vb.next_next, Vb.next_nx, Vb.next_rt, Vb.next_bk, Vb.next_ct, Vb.fin_then, Vb.fin_rt, Vb.fin_nx, Vb.opt_some, Vb.cb_fn, Vb.cb_cls, Vb.gl0, Vb.gls, List.getElem?_cons_zero, List.getElem?_cons_succ, List.set_cons_zero, List.set_cons_succ, Vb.storeTg, Vb.storeAll, Option.map_some, List.length_cons, List.length_nil, Nat.zero_add, Nat.reduceAdd, Vb.ln0, Vb.ln1, Vb.ln2, Vb.ln3, Vb.ln4, Vb.ln5, Vb.ln6, if_true, Vb.newObj, Vb.it_tup, Vb.it_ref, Vb.it_str, Vb.ty_join, Vb.ty_split, Vb.ty_append, Vb.ty_extend, Vb.ty_pop, Option.isSome_some, List.map_cons, List.map_nil, Bool.false_eq_true, if_false, Vb.tr_bl, Vb.wipeL, decide_true, decide_false, Bool.not_true, Bool.not_false, Vb.b_add, Vb.b_sub, Vb.c_lt, Vb.c_le, Vb.c_gt, Vb.c_ge, Vb.c_eq_int, Vb.c_ne_int, Vb.c_isn_non, Vb.c_isn_int, Vb.c_isn_tup, Vb.c_notn_non, Vb.c_notn_int, Vb.c_notn_tup, Vb.ix_tup, Vb.bi_list_tup, Vb.isi_int_non, Vb.isi_int_bl, Vb.isi_int_int, Vb.isi_int_str, Vb.isi_int_tup, Vb.isi_int_ref, Vb.isi_bool_non, Vb.isi_bool_bl, Vb.isi_bool_int, Vb.isi_bool_str, Vb.isi_bool_tup, Vb.isi_bool_ref, Vb.isi_str_non, Vb.isi_str_bl, Vb.isi_str_int, Vb.isi_str_str, Vb.isi_str_tup, Vb.isi_str_ref, Vb.isi_tup_non, Vb.isi_tup_bl, Vb.isi_tup_int, Vb.isi_tup_str, Vb.isi_tup_tup, Vb.isi_tup_ref, Vb.isi_lst_non, Vb.isi_lst_bl, Vb.isi_lst_int, Vb.isi_lst_str, Vb.isi_lst_tup, Vb.isi_lst_ref]
          exact .ret ⟨_, rfl, k2.get f1 (by simp), d1.keep k2 (by simp) (by simp), k1.trans (k2.weak (by simp))⟩
      | cons x todo =>
        have hx : IsSt x := hs.2 x (by rw [ev]; simp)
        obtain ⟨g1, g2, g3⟩ := drop_get (show rows.drop (a + don.length) = txt x :: (stR todo ++ rest) from hd)
        try simp only [Vb.execs, Vb.exec, Vb.evalE, Vb.evalEs, Vb.evalT, Vb.evalI, Vb.evalO, Vb.evalOT, Vb.asgS, Vb.bind_ok, Vb.bind_assoc, Vb.then_ok, Vb.then_bind, Vb.next_then, Vb.next_next, Vb.next_nx, Vb.next_rt, Vb.next_bk, Vb.next_ct, Vb.fin_then, Vb.fin_rt, Vb.fin_nx, Vb.opt_some, Vb.cb_fn, Vb.cb_cls, Vb.gl0, Vb.gls, List.getElem?_cons_zero, List.getElem?_cons_succ, List.set_cons_zero, List.set_cons_succ, Vb.storeTg, Vb.storeAll, Option.map_some, List.length_cons, List.length_nil, Nat.zero_add, Nat.reduceAdd, Vb.ln0, Vb.ln1, Vb.ln2, Vb.ln3, Vb.ln4, Vb.ln5, Vb.ln6, if_true, Vb.newObj, Vb.it_tup, Vb.it_ref, Vb.it_str, Vb.ty_join, Vb.ty_split, Vb.ty_append, Vb.ty_extend, Vb.ty_pop, Option.isSome_some, List.map_cons, List.map_nil, Bool.false_eq_true, if_false, Vb.tr_bl, Vb.wipeL, decide_true, decide_false, Bool.not_true, Bool.not_false, Vb.b_add, Vb.b_sub, Vb.c_lt, Vb.c_le, Vb.c_gt, Vb.c_ge, Vb.c_eq_int, Vb.c_ne_int, Vb.c_isn_non, Vb.c_isn_int, Vb.c_isn_tup, Vb.c_notn_non, Vb.c_notn_int, Vb.c_notn_tup, Vb.ix_tup, Vb.bi_list_tup, Vb.isi_int_non, Vb.isi_int_bl, Vb.isi_int_int, Vb.isi_int_str, Vb.isi_int_tup, Vb.isi_int_ref, Vb.isi_bool_non, Vb.isi_bool_bl, Vb.isi_bool_int, Vb.isi_bool_str, Vb.isi_bool_tup, Vb.isi_bool_ref, Vb.isi_str_non, Vb.isi_str_bl, Vb.isi_str_int, Vb.isi_str_str, Vb.isi_str_tup, Vb.isi_str_ref, Vb.isi_tup_non, Vb.isi_tup_bl, Vb.isi_tup_int, Vb.isi_tup_str, Vb.isi_tup_tup, Vb.isi_tup_ref, Vb.isi_lst_non, Vb.isi_lst_bl, Vb.isi_lst_int, Vb.isi_lst_str, Vb.isi_lst_tup, Vb.isi_lst_ref, at_rows d1, at_at d1, ix_row d1.rw_ g1]
        refine SOk.then_ (sp4 (d := 8) (v := x) h1 (isSt_T hx).1 (by decide) (isSt_T hx).2 (by omega)) ?_
        rintro _ h2 ⟨rfl, k2⟩
        obtain ⟨xs, ex⟩ := isSt_tup hx
        have d2 := d1.keep k2 (by simp) (by simp)
        have f2 := k2.get f1 (by simp)
        subst ex
        try simp only [Vb.execs, Vb.exec, Vb.evalE, Vb.evalEs, Vb.evalT, Vb.evalI, Vb.evalO, Vb.evalOT, Vb.asgS, Vb.bind_ok, Vb.bind_assoc, Vb.then_ok, Vb.then_bind, Vb.next_then, Vb.next_next, Vb.next_nx, Vb.next_rt, Vb.next_bk, Vb.next_ct, Vb.fin_then, Vb.fin_rt, Vb.fin_nx, Vb.opt_some, Vb.cb_fn, Vb.cb_cls, Vb.gl0, Vb.gls, List.getElem?_cons_zero, List.getElem?_cons_succ, List.set_cons_zero, List.set_cons_succ, Vb.storeTg, Vb.storeAll, Option.map_some, List.length_cons, List.length_nil, Nat.zero_add, Nat.reduceAdd, Vb.ln0, Vb.ln1, Vb.ln2, Vb.ln3, Vb.ln4, Vb.ln5, Vb.ln6, if_true, Vb.newObj, Vb.it_tup, Vb.it_ref, Vb.it_str, Vb.ty_join, Vb.ty_split, Vb.ty_append, Vb.ty_extend, Vb.ty_pop, Option.isSome_some, List.map_cons, List.map_nil, Bool.false_eq_true, if_false, Vb.tr_bl, Vb.wipeL, decide_true, decide_false, Bool.not_true, Bool.not_false, Vb.b_add, Vb.b_sub, Vb.c_lt, Vb.c_le, Vb.c_gt, Vb.c_ge, Vb.c_eq_int, Vb.c_ne_int, Vb.c_isn_non, Vb.c_isn_int, Vb.c_isn_tup, Vb.c_notn_non, Vb.c_notn_int, Vb.c_notn_tup, Vb.ix_tup, Vb.bi_list_tup, Vb.isi_int_non, Vb.isi_int_bl, Vb.isi_int_int, Vb.isi_int_str, Vb.isi_int_tup, Vb.isi_int_ref, Vb.isi_bool_non, Vb.isi_bool_bl, Vb.isi_bool_int, Vb.isi_bool_str, Vb.isi_bool_tup, Vb.isi_bool_ref, Vb.isi_str_non, Vb.isi_str_bl, Vb.isi_str_int, Vb.isi_str_str, Vb.isi_str_tup, Vb.isi_str_ref, Vb.isi_tup_non, Vb.isi_tup_bl, Vb.isi_tup_int, Vb.isi_tup_str, Vb.isi_tup_tup, Vb.isi_tup_ref, Vb.isi_lst_non, Vb.isi_lst_bl, Vb.isi_lst_int, Vb.isi_lst_str, Vb.isi_lst_tup, Vb.isi_lst_ref, seq_of f2]
        rw [bm_append f2 (by
          have := congrArg List.length ev
          simp only [List.length_append, List.length_cons] at this
          have big : 100 < sizeLine := by decide
          omega)]
        try simp only [Vb.execs, Vb.exec, Vb.evalE, Vb.evalEs, Vb.evalT, Vb.evalI, Vb.evalO, Vb.evalOT, Vb.asgS, Vb.bind_ok, Vb.bind_assoc, Vb.then_ok, Vb.then_bind, Vb.next_then, Vb.next_next, Vb.next_nx, Vb.next_rt, Vb.next_bk, Vb.next_ct, Vb.fin_then, Vb.fin_rt, Vb.fin_nx, Vb.opt_some, Vb.cb_fn, Vb.cb_cls, Vb.gl0, Vb.gls, List.getElem?_cons_zero, List.getElem?_cons_succ, List.set_cons_zero, List.set_cons_succ, Vb.storeTg, Vb.storeAll, Option.map_some, List.length_cons, List.length_nil, Nat.zero_add, Nat.reduceAdd, Vb.ln0, Vb.ln1, Vb.ln2, Vb.ln3, Vb.ln4, Vb.ln5, Vb.ln6, if_true, Vb.newObj, Vb.it_tup, Vb.it_ref, Vb.it_str, Vb.ty_join, Vb.ty_split, Vb.ty_append, Vb.ty_extend, Vb.ty_pop, Option.isSome_some, List.map_cons, List.map_nil, Bool.false_eq_true, if_false, Vb.tr_bl, Vb.wipeL, decide_true, decide_false, Bool.not_true, Bool.not_false, Vb.b_add, Vb.b_sub, Vb.c_lt, Vb.c_le, Vb.c_gt, Vb.c_ge, Vb.c_eq_int, Vb.c_ne_int, Vb.c_isn_non, Vb.c_isn_int, Vb.c_isn_tup, Vb.c_notn_non, Vb.c_notn_int, Vb.c_notn_tup, Vb.ix_tup, Vb.bi_list_tup, Vb.isi_int_non, Vb.isi_int_bl, Vb.isi_int_int, Vb.isi_int_str, Vb.isi_int_tup, Vb.isi_int_ref, Vb.isi_bool_non, Vb.isi_bool_bl, Vb.isi_bool_int, Vb.isi_bool_str, Vb.isi_bool_tup, Vb.isi_bool_ref, Vb.isi_str_non, Vb.isi_str_bl, Vb.isi_str_int, Vb.isi_str_str, Vb.isi_str_tup, Vb.isi_str_ref, Vb.isi_tup_non, Vb.isi_tup_bl, Vb.isi_tup_int, Vb.isi_tup_str, Vb.isi_tup_tup, Vb.isi_tup_ref, Vb.isi_lst_non, Vb.isi_lst_bl, Vb.isi_lst_int, Vb.isi_lst_str, Vb.isi_lst_tup, Vb.isi_lst_ref]
        have d3 : Rd R q rows (a + don.length) (h2.set h.length (.lst (don ++ [.tup xs]))) := d2.put (by omega) (by omega)
        have ea := aug_at (n := n + 4) (lo := [some (.ref R), some (.ref h.length), some (.tup xs)]) (o := .var 0) d3 rfl
        rw [Vb.exec] at ea
        simp only [Vb.evalE, Vb.gl0, Vb.opt_some, Vb.then_ok] at ea
        rw [ea]
        try simp only [Vb.execs, Vb.exec, Vb.evalE, Vb.evalEs, Vb.evalT, Vb.evalI, Vb.evalO, Vb.evalOT, Vb.asgS, Vb.bind_ok, Vb.bind_assoc, Vb.then_ok, Vb.then_bind, Vb.next_then, Vb.next_next, Vb.next_nx, Vb.next_rt, Vb.next_bk, Vb.next_ct, Vb.fin_then, Vb.fin_rt, Vb.fin_nx, Vb.opt_some, Vb.cb_fn, Vb.cb_cls, Vb.gl0, Vb.gls, List.getElem?_cons_zero, List.getElem?_cons_succ, List.set_cons_zero, List.set_cons_succ, Vb.storeTg, Vb.storeAll, Option.map_some, List.length_cons, List.length_nil, Nat.zero_add, Nat.reduceAdd, Vb.ln0, Vb.ln1, Vb.ln2, Vb.ln3, Vb.ln4, Vb.ln5, Vb.ln6, if_true, Vb.newObj, Vb.it_tup, Vb.it_ref, Vb.it_str, Vb.ty_join, Vb.ty_split, Vb.ty_append, Vb.ty_extend, Vb.ty_pop, Option.isSome_some, List.map_cons, List.map_nil, Bool.false_eq_true, if_false, Vb.tr_bl, Vb.wipeL, decide_true, decide_false, Bool.not_true, Bool.not_false, Vb.b_add, Vb.b_sub, Vb.c_lt, Vb.c_le, Vb.c_gt, Vb.c_ge, Vb.c_eq_int, Vb.c_ne_int, Vb.c_isn_non, Vb.c_isn_int, Vb.c_isn_tup, Vb.c_notn_non, Vb.c_notn_int, Vb.c_notn_tup, Vb.ix_tup, Vb.bi_list_tup, Vb.isi_int_non, Vb.isi_int_bl, Vb.isi_int_int, Vb.isi_int_str, Vb.isi_int_tup, Vb.isi_int_ref, Vb.isi_bool_non, Vb.isi_bool_bl, Vb.isi_bool_int, Vb.isi_bool_str, Vb.isi_bool_tup, Vb.isi_bool_ref, Vb.isi_str_non, Vb.isi_str_bl, Vb.isi_str_int, Vb.isi_str_str, Vb.isi_str_tup, Vb.isi_str_ref, Vb.isi_tup_non, Vb.isi_tup_bl, Vb.isi_tup_int, Vb.isi_tup_str, Vb.isi_tup_tup, Vb.isi_tup_ref, Vb.isi_lst_non, Vb.isi_lst_bl, Vb.isi_lst_int, Vb.isi_lst_str, Vb.isi_lst_tup, Vb.isi_lst_ref]
        refine .ret ⟨todo.length + 1, by simp, don ++ [.tup xs], todo, some (.tup xs), by rw [ev]; simp, rfl, rfl, ?_, ?_, ?_, ?_⟩
        · exact get_put (get_set f2) (by omega)
        · have e : a + (don ++ [PV.tup xs]).length = a + don.length + 1 := by simp; omega
          rw [e]
          exact d3.move
        · exact ((k1.trans (k2.weak (by simp))).put (.inr (Nat.le_refl _)) _).put (.inl (by simp)) _
        · have e : a + (don ++ [PV.tup xs]).length = a + don.length + 1 := by simp; omega
          rw [e]
          exact g2
  · rintro fl h2 qq
    cases fl with
    | nx lo =>
      obtain ⟨z, rfl, f1, d1, k1⟩ := qq
      try simp only [Vb.execs, Vb.exec, Vb.evalE, Vb.evalEs, Vb.evalT, Vb.evalI, Vb.evalO, Vb.evalOT, Vb.asgS, Vb.bind_ok, Vb.bind_assoc, Vb.then_ok, Vb.then_bind, Vb.next_then, Vb.next_next, Vb.next_nx, Vb.next_rt, Vb.next_bk, Vb.next_ct, Vb.fin_then, Vb.fin_rt, Vb.fin_nx, Vb.opt_some, Vb.cb_fn, Vb.cb_cls, Vb.gl0, Vb.gls, List.getElem?_cons_zero, List.getElem?_cons_succ, List.set_cons_zero, List.set_cons_succ, Vb.storeTg, Vb.storeAll, Option.map_some, List.length_cons, List.length_nil, Nat.zero_add, Nat.reduceAdd, Vb.ln0, Vb.ln1, Vb.ln2, Vb.ln3, Vb.ln4, Vb.ln5, Vb.ln6, if_true, Vb.newObj, Vb.it_tup, Vb.it_ref, Vb.it_str, Vb.ty_join, Vb.ty_split, Vb.ty_append, Vb.ty_extend, Vb.ty_pop, Option.isSome_some, List.map_cons, List.map_nil, Bool.false_eq_true, if_false, Vb.tr_bl, Vb.wipeL, decide_true, decide_false, Bool.not_true, Bool.not_false, Vb.b_add, Vb.b_sub, Vb.c_lt, Vb.c_le, Vb.c_gt, Vb.c_ge, Vb.c_eq_int, Vb.c_ne_int, Vb.c_isn_non, Vb.c_isn_int, Vb.c_isn_tup, Vb.c_notn_non, Vb.c_notn_int, Vb.c_notn_tup, Vb.ix_tup, Vb.bi_list_tup, Vb.isi_int_non, Vb.isi_int_bl, Vb.isi_int_int, Vb.isi_int_str, Vb.isi_int_tup, Vb.isi_int_ref, Vb.isi_bool_non, Vb.isi_bool_bl, Vb.isi_bool_int, Vb.isi_bool_str, Vb.isi_bool_tup, Vb.isi_bool_ref, Vb.isi_str_non, Vb.isi_str_bl, Vb.isi_str_int, Vb.isi_str_str, Vb.isi_str_tup, Vb.isi_str_ref, Vb.isi_tup_non, Vb.isi_tup_bl, Vb.isi_tup_int, Vb.isi_tup_str, Vb.isi_tup_tup, Vb.isi_tup_ref, Vb.isi_lst_non, Vb.isi_lst_bl, Vb.isi_lst_int, Vb.isi_lst_str, Vb.isi_lst_tup, Vb.isi_lst_ref]
      rw [bi_tuple f1]
      try simp only [Vb.execs, Vb.exec, Vb.evalE, Vb.evalEs, Vb.evalT, Vb.evalI, Vb.evalO, Vb.evalOT, Vb.asgS, Vb.bind_ok, Vb.bind_assoc, Vb.then_ok, Vb.then_bind, Vb.next_then, Vb.next_next, Vb.next_nx, Vb.next_rt, Vb.next_bk, Vb.next_ct, Vb.fin_then, Vb.fin_rt, Vb.fin_nx, Vb.opt_some, Vb.cb_fn, Vb.cb_cls, Vb.gl0, Vb.gls, List.getElem?_cons_zero, List.getElem?_cons_succ, List.set_cons_zero, List.set_cons_succ, Vb.storeTg, Vb.storeAll, Option.map_some, List.length_cons, List.length_nil, Nat.zero_add, Nat.reduceAdd, Vb.ln0, Vb.ln1, Vb.ln2, Vb.ln3, Vb.ln4, Vb.ln5, Vb.ln6, if_true, Vb.newObj, Vb.it_tup, Vb.it_ref, Vb.it_str, Vb.ty_join, Vb.ty_split, Vb.ty_append, Vb.ty_extend, Vb.ty_pop, Option.isSome_some, List.map_cons, List.map_nil, Bool.false_eq_true, if_false, Vb.tr_bl, Vb.wipeL, decide_true, decide_false, Bool.not_true, Bool.not_false, Vb.b_add, Vb.b_sub, Vb.c_lt, Vb.c_le, Vb.c_gt, Vb.c_ge, Vb.c_eq_int, Vb.c_ne_int, Vb.c_isn_non, Vb.c_isn_int, Vb.c_isn_tup, Vb.c_notn_non, Vb.c_notn_int, Vb.c_notn_tup, Vb.ix_tup, Vb.bi_list_tup, Vb.isi_int_non, Vb.isi_int_bl, Vb.isi_int_int, Vb.isi_int_str, Vb.isi_int_tup, Vb.isi_int_ref, Vb.isi_bool_non, Vb.isi_bool_bl, Vb.isi_bool_int, Vb.isi_bool_str, Vb.isi_bool_tup, Vb.isi_bool_ref, Vb.isi_str_non, Vb.isi_str_bl, Vb.isi_str_int, Vb.isi_str_str, Vb.isi_str_tup, Vb.isi_str_ref, Vb.isi_tup_non, Vb.isi_tup_bl, Vb.isi_tup_int, Vb.isi_tup_str, Vb.isi_tup_tup, Vb.isi_tup_ref, Vb.isi_lst_non, Vb.isi_lst_bl, Vb.isi_lst_int, Vb.isi_lst_str, Vb.isi_lst_tup, Vb.isi_lst_ref]
      exact .ret ⟨rfl, d1, k1⟩
    | _ => exact qq.elim
end V87

set_option Elab.async false
set_option linter.all false
set_option maxRecDepth 100000
set_option maxHeartbeats 2000000
namespace V87
open PySem Vb
theorem mem_joinL {S : List Nat} {c : Nat} : ∀ {ps : List (List Nat)}, c ∈ TL.joinL S ps → c ∈ S ∨ ∃ p ∈ ps, c ∈ p
  | [], h => by cases h
  | [p], h => .inr ⟨p, by simp, h⟩
  | p :: q :: r, h => by
    have h' : c ∈ p ++ (S ++ TL.joinL S (q :: r)) := h
    rcases List.mem_append.mp h' with h' | h'
    · exact .inr ⟨p, by simp, h'⟩
    · rcases List.mem_append.mp h' with h' | h'
      · exact .inl h'
      · rcases mem_joinL h' with z | ⟨x, hx, z⟩
        · exact .inl z
        · exact .inr ⟨x, List.mem_cons_of_mem _ hx, z⟩
theorem mem_join {s : Str} {ws : List Str} {c : Nat} (h : c ∈ TL.tl (Txt.join s ws)) : c ∈ TL.tl s ∨ ∃ w ∈ ws, c ∈ TL.tl w := by
  rw [TL.join_eq, TL.tl_join] at h
  rcases mem_joinL h with z | ⟨p, hp, z⟩
  · exact .inl z
  · obtain ⟨w, hw, rfl⟩ := List.mem_map.mp hp
    exact .inr ⟨w, hw, z⟩
theorem tl_sp : TL.tl (" " : Str) = [32] := by decide +kernel
theorem txt_free {v : PV} (h : IsSt v) : 10 ∉ TL.tl (txt v) := fun hc => by
  rcases mem_join hc with z | ⟨w, hw, z⟩
  · rw [tl_sp] at z; simp at z
  · rcases wT_mem 8 v h.2.1 w hw with rfl | rfl | ⟨i, rfl, i0, _⟩
    · rw [tlO] at z; simp at z
    · rw [tlC] at z; simp at z
    · rw [tl_numS i0] at z; exact TL.numL_free (.inl (by decide)) z
theorem head_free {o g : PV} (ho : Owner o) (hg : Small g) : 10 ∉ TL.tl (headG o g) := fun hc => by
  rcases mem_join hc with z | ⟨w, hw, z⟩
  · rw [tl_sp] at z; simp at z
  · simp only [List.mem_cons, List.not_mem_nil, or_false] at hw
    rcases hw with rfl | rfl | rfl
    · revert z; decide +kernel
    · exact own_free ho (by decide) z
    · exact free_numP hg (by decide) z
theorem break_free {b o g : PV} {k : Str} (hb : Small b) (ho : Owner o) (hg : Small g) (hk : k = "need" ∨ k = "promise") : 10 ∉ TL.tl (breakS b o g k) := fun hc => by
  rcases mem_join hc with z | ⟨w, hw, z⟩
  · rw [tl_sp] at z; simp at z
  · simp only [List.mem_cons, List.not_mem_nil, or_false] at hw
    rcases hw with rfl | rfl | rfl | rfl | rfl
    · revert z; decide +kernel
    · exact free_numP hb (by decide) z
    · exact own_free ho (by decide) z
    · revert z; rcases hk with rfl | rfl <;> decide +kernel
    · exact free_numP hg (by decide) z
/-- a row's first word -/
def FW (row w : Str) : Prop := (∃ ws, Txt.split row " " = w :: ws) ∧ PyData.strOk w = true ∧ row.length ≤ 1000000
theorem fw_bad {row w : Str} (f : FW row w) (h4 : 4 < w.length) (h5 : w.length < 100) : BadRow row := let ⟨⟨ws, e⟩, a, b⟩ := f; ⟨w, ws, e, h4, h5, a, b⟩
theorem fw_kind {x : Str} (hx : x = "alone" ∨ x = "whole") : FW x x := by
  have fr : 32 ∉ TL.tl x := by rcases hx with rfl | rfl <;> decide +kernel
  refine ⟨⟨[], split1 fr⟩, ?_, ?_⟩
  · rcases hx with rfl | rfl <;> decide +kernel
  · rcases hx with rfl | rfl <;> decide +kernel
theorem fw_head {o g : PV} (ho : Owner o) (hg : Small g) : FW (headG o g) "follows" := by
  refine ⟨⟨[ownS o, numP g], splitW (ws := [("follows" : Str), ownS o, numP g]) (by simp) fun w hw => ?_⟩, okS, by have := head_le ho hg; omega⟩
  simp only [List.mem_cons, List.not_mem_nil, or_false] at hw
  rcases hw with rfl | rfl | rfl
  · decide +kernel
  · exact own_free ho (by decide)
  · exact free_numP hg (by decide)
theorem fw_break {b o g : PV} {k : Str} (hb : Small b) (ho : Owner o) (hg : Small g) (hk : k = "need" ∨ k = "promise") : FW (breakS b o g k) "break" := by
  refine ⟨⟨[numP b, ownS o, k, numP g], splitW (ws := [("break" : Str), numP b, ownS o, k, numP g]) (by simp) fun w hw => ?_⟩, okS, by have := break_le hb ho hg hk; omega⟩
  simp only [List.mem_cons, List.not_mem_nil, or_false] at hw
  rcases hw with rfl | rfl | rfl | rfl | rfl
  · decide +kernel
  · exact free_numP hb (by decide)
  · exact own_free ho (by decide)
  · rcases hk with rfl | rfl <;> decide +kernel
  · exact free_numP hg (by decide)
/-- the first word of a paper of one kind -/
def Kind1 (p : PV) (w : Str) : Prop := (w = "alone" ∧ IsAlone p) ∨ (w = "whole" ∧ ∃ vs, p = .tup [.str "whole", .tup vs] ∧ States vs) ∨ (w = "follows" ∧ IsGoal p)
theorem one_form {p : PV} {w : Str} (hp : Kind1 p w) : ∃ hrow hd vs, rows1 p = hrow :: stR vs ∧ p = .tup (hd ++ [.tup vs]) ∧ hd.length ≤ 2 ∧ States vs ∧ FW hrow w ∧ BadRow hrow ∧ 10 ∉ TL.tl hrow ∧
    ∀ n h, Ok (callF Pr (n + 5) 10 [.str hrow] h) fun r h' => r = .tup hd ∧ Keep [] h h' := by
  have l1 : 4 < ("alone" : Str).length ∧ ("alone" : Str).length < 100 := by decide +kernel
  have l2 : 4 < ("whole" : Str).length ∧ ("whole" : Str).length < 100 := by decide +kernel
  have l3 : 4 < ("follows" : Str).length ∧ ("follows" : Str).length < 100 := by decide +kernel
  rcases hp with ⟨rfl, vs, rfl, hs⟩ | ⟨rfl, vs, rfl, hs⟩ | ⟨rfl, o, g, vs, rfl, ho, hg, hs⟩
  · exact ⟨_, [.str "alone"], vs, rfl, rfl, by decide, hs, fw_kind (.inl rfl), fw_bad (fw_kind (.inl rfl)) l1.1 l1.2, by decide +kernel, fun n h => sp10a (.inl rfl)⟩
  · exact ⟨_, [.str "whole"], vs, rfl, rfl, by decide, hs, fw_kind (.inr rfl), fw_bad (fw_kind (.inr rfl)) l2.1 l2.2, by decide +kernel, fun n h => sp10a (.inr rfl)⟩
  · exact ⟨_, [.str "follows", .tup [o, g]], vs, rfl, rfl, by simp, hs, fw_head ho hg, fw_bad (fw_head ho hg) l3.1 l3.2, head_free ho hg, fun n h => sp10g ho hg⟩
theorem sp16 {n R q a : Nat} {rows : List Str} {h : MH} {p : PV} {w : Str} {rest : List Str} (d : Rd R q rows a h) (hr : rows.drop a = rows1 p ++ rest) (hp : Kind1 p w) (hrest : Rest rest) (few : rows.length ≤ 43) :
    Ok (callF Pr (n + 6) 16 [.ref R] h) fun r h' => r = p ∧ Rd R q rows (a + (rows1 p).length) h' ∧ Keep [R] h h' := by
  obtain ⟨hrow, hd, vs, e1, e2, hl, hs, fw, bad, _, s10⟩ := one_form hp
  rw [e1] at hr
  obtain ⟨g1, g2, g3⟩ := drop_get (show rows.drop a = hrow :: (stR vs ++ rest) from hr)
  rw [callF_at (d := d16) rfl rfl]
  show Ok (finF (Vb.execs (cbK Pr (n + 5)) Pr.xt Pr.wl b16 [some (.ref R), none] h)) _
  unfold b16
  try simp only [Vb.execs, Vb.exec, Vb.evalE, Vb.evalEs, Vb.evalT, Vb.evalI, Vb.evalO, Vb.evalOT, Vb.asgS, Vb.bind_ok, Vb.bind_assoc, Vb.then_ok, Vb.then_bind, Vb.next_then, Vb.next_next, Vb.next_nx, Vb.next_rt, Vb.next_bk, Vb.next_ct, Vb.fin_then, Vb.fin_rt, Vb.fin_nx, Vb.opt_some, Vb.cb_fn, Vb.cb_cls, Vb.gl0, Vb.gls, List.getElem?_cons_zero, List.getElem?_cons_succ, List.set_cons_zero, List.set_cons_succ, Vb.storeTg, Vb.storeAll, Option.map_some, List.length_cons, List.length_nil, Nat.zero_add, Nat.reduceAdd, Vb.ln0, Vb.ln1, Vb.ln2, Vb.ln3, Vb.ln4, Vb.ln5, Vb.ln6, if_true, Vb.newObj, Vb.it_tup, Vb.it_ref, Vb.it_str, Vb.ty_join, Vb.ty_split, Vb.ty_append, Vb.ty_extend, Vb.ty_pop, Option.isSome_some, List.map_cons, List.map_nil, Bool.false_eq_true, if_false, Vb.tr_bl, Vb.wipeL, decide_true, decide_false, Bool.not_true, Bool.not_false, Vb.b_add, Vb.b_sub, Vb.c_lt, Vb.c_le, Vb.c_gt, Vb.c_ge, Vb.c_eq_int, Vb.c_ne_int, Vb.c_isn_non, Vb.c_isn_int, Vb.c_isn_tup, Vb.c_notn_non, Vb.c_notn_int, Vb.c_notn_tup, Vb.ix_tup, Vb.bi_list_tup, Vb.isi_int_non, Vb.isi_int_bl, Vb.isi_int_int, Vb.isi_int_str, Vb.isi_int_tup, Vb.isi_int_ref, Vb.isi_bool_non, Vb.isi_bool_bl, Vb.isi_bool_int, Vb.isi_bool_str, Vb.isi_bool_tup, Vb.isi_bool_ref, Vb.isi_str_non, Vb.isi_str_bl, Vb.isi_str_int, Vb.isi_str_str, Vb.isi_str_tup, Vb.isi_str_ref, Vb.isi_tup_non, Vb.isi_tup_bl, Vb.isi_tup_int, Vb.isi_tup_str, Vb.isi_tup_tup, Vb.isi_tup_ref, Vb.isi_lst_non, Vb.isi_lst_bl, Vb.isi_lst_int, Vb.isi_lst_str, Vb.isi_lst_tup, Vb.isi_lst_ref, at_rows d, at_at d, ix_row d.rw_ g1]
  refine Ok.bind (s10 n h) ?_
  rintro _ h1 ⟨rfl, k1⟩
  have d1 := d.keep k1 (by simp) (by simp)
  try simp only [Vb.execs, Vb.exec, Vb.evalE, Vb.evalEs, Vb.evalT, Vb.evalI, Vb.evalO, Vb.evalOT, Vb.asgS, Vb.bind_ok, Vb.bind_assoc, Vb.then_ok, Vb.then_bind, Vb.next_then, Vb.next_next, Vb.next_nx, Vb.next_rt, Vb.next_bk, Vb.next_ct, Vb.fin_then, Vb.fin_rt, Vb.fin_nx, Vb.opt_some, Vb.cb_fn, Vb.cb_cls, Vb.gl0, Vb.gls, List.getElem?_cons_zero, List.getElem?_cons_succ, List.set_cons_zero, List.set_cons_succ, Vb.storeTg, Vb.storeAll, Option.map_some, List.length_cons, List.length_nil, Nat.zero_add, Nat.reduceAdd, Vb.ln0, Vb.ln1, Vb.ln2, Vb.ln3, Vb.ln4, Vb.ln5, Vb.ln6, if_true, Vb.newObj, Vb.it_tup, Vb.it_ref, Vb.it_str, Vb.ty_join, Vb.ty_split, Vb.ty_append, Vb.ty_extend, Vb.ty_pop, Option.isSome_some, List.map_cons, List.map_nil, Bool.false_eq_true, if_false, Vb.tr_bl, Vb.wipeL, decide_true, decide_false, Bool.not_true, Bool.not_false, Vb.b_add, Vb.b_sub, Vb.c_lt, Vb.c_le, Vb.c_gt, Vb.c_ge, Vb.c_eq_int, Vb.c_ne_int, Vb.c_isn_non, Vb.c_isn_int, Vb.c_isn_tup, Vb.c_notn_non, Vb.c_notn_int, Vb.c_notn_tup, Vb.ix_tup, Vb.bi_list_tup, Vb.isi_int_non, Vb.isi_int_bl, Vb.isi_int_int, Vb.isi_int_str, Vb.isi_int_tup, Vb.isi_int_ref, Vb.isi_bool_non, Vb.isi_bool_bl, Vb.isi_bool_int, Vb.isi_bool_str, Vb.isi_bool_tup, Vb.isi_bool_ref, Vb.isi_str_non, Vb.isi_str_bl, Vb.isi_str_int, Vb.isi_str_str, Vb.isi_str_tup, Vb.isi_str_ref, Vb.isi_tup_non, Vb.isi_tup_bl, Vb.isi_tup_int, Vb.isi_tup_str, Vb.isi_tup_tup, Vb.isi_tup_ref, Vb.isi_lst_non, Vb.isi_lst_bl, Vb.isi_lst_int, Vb.isi_lst_str, Vb.isi_lst_tup, Vb.isi_lst_ref, me1 d1, sp14 (n := n + 4)]
  have ea := aug_at (n := n + 5) (lo := [some (.ref R), some (.tup hd)]) (o := .var 0) d1 rfl
  rw [Vb.exec] at ea
  simp only [Vb.evalE, Vb.gl0, Vb.opt_some, Vb.then_ok] at ea
  rw [ea]
  try simp only [Vb.execs, Vb.exec, Vb.evalE, Vb.evalEs, Vb.evalT, Vb.evalI, Vb.evalO, Vb.evalOT, Vb.asgS, Vb.bind_ok, Vb.bind_assoc, Vb.then_ok, Vb.then_bind, Vb.next_then, Vb.next_next, Vb.next_nx, Vb.next_rt, Vb.next_bk, Vb.next_ct, Vb.fin_then, Vb.fin_rt, Vb.fin_nx, Vb.opt_some, Vb.cb_fn, Vb.cb_cls, Vb.gl0, Vb.gls, List.getElem?_cons_zero, List.getElem?_cons_succ, List.set_cons_zero, List.set_cons_succ, Vb.storeTg, Vb.storeAll, Option.map_some, List.length_cons, List.length_nil, Nat.zero_add, Nat.reduceAdd, Vb.ln0, Vb.ln1, Vb.ln2, Vb.ln3, Vb.ln4, Vb.ln5, Vb.ln6, if_true, Vb.newObj, Vb.it_tup, Vb.it_ref, Vb.it_str, Vb.ty_join, Vb.ty_split, Vb.ty_append, Vb.ty_extend, Vb.ty_pop, Option.isSome_some, List.map_cons, List.map_nil, Bool.false_eq_true, if_false, Vb.tr_bl, Vb.wipeL, decide_true, decide_false, Bool.not_true, Bool.not_false, Vb.b_add, Vb.b_sub, Vb.c_lt, Vb.c_le, Vb.c_gt, Vb.c_ge, Vb.c_eq_int, Vb.c_ne_int, Vb.c_isn_non, Vb.c_isn_int, Vb.c_isn_tup, Vb.c_notn_non, Vb.c_notn_int, Vb.c_notn_tup, Vb.ix_tup, Vb.bi_list_tup, Vb.isi_int_non, Vb.isi_int_bl, Vb.isi_int_int, Vb.isi_int_str, Vb.isi_int_tup, Vb.isi_int_ref, Vb.isi_bool_non, Vb.isi_bool_bl, Vb.isi_bool_int, Vb.isi_bool_str, Vb.isi_bool_tup, Vb.isi_bool_ref, Vb.isi_str_non, Vb.isi_str_bl, Vb.isi_str_int, Vb.isi_str_str, Vb.isi_str_tup, Vb.isi_str_ref, Vb.isi_tup_non, Vb.isi_tup_bl, Vb.isi_tup_int, Vb.isi_tup_str, Vb.isi_tup_tup, Vb.isi_tup_ref, Vb.isi_lst_non, Vb.isi_lst_bl, Vb.isi_lst_int, Vb.isi_lst_str, Vb.isi_lst_tup, Vb.isi_lst_ref]
  have d2 : Rd R q rows (a + 1) (h1.set R (.ins 0 [(0, .ref q), (1, .int (a + 1 : Nat))])) := d1.move
  have k2 : Keep [R] h (h1.set R (.ins 0 [(0, .ref q), (1, .int (a + 1 : Nat))])) := (k1.weak (by simp)).put (.inl (by simp)) _
  generalize h1.set R (.ins 0 [(0, .ref q), (1, .int (a + 1 : Nat))]) = h2 at d2 k2
  try simp only [Vb.execs, Vb.exec, Vb.evalE, Vb.evalEs, Vb.evalT, Vb.evalI, Vb.evalO, Vb.evalOT, Vb.asgS, Vb.bind_ok, Vb.bind_assoc, Vb.then_ok, Vb.then_bind, Vb.next_then, Vb.next_next, Vb.next_nx, Vb.next_rt, Vb.next_bk, Vb.next_ct, Vb.fin_then, Vb.fin_rt, Vb.fin_nx, Vb.opt_some, Vb.cb_fn, Vb.cb_cls, Vb.gl0, Vb.gls, List.getElem?_cons_zero, List.getElem?_cons_succ, List.set_cons_zero, List.set_cons_succ, Vb.storeTg, Vb.storeAll, Option.map_some, List.length_cons, List.length_nil, Nat.zero_add, Nat.reduceAdd, Vb.ln0, Vb.ln1, Vb.ln2, Vb.ln3, Vb.ln4, Vb.ln5, Vb.ln6, if_true, Vb.newObj, Vb.it_tup, Vb.it_ref, Vb.it_str, Vb.ty_join, Vb.ty_split, Vb.ty_append, Vb.ty_extend, Vb.ty_pop, Option.isSome_some, List.map_cons, List.map_nil, Bool.false_eq_true, if_false, Vb.tr_bl, Vb.wipeL, decide_true, decide_false, Bool.not_true, Bool.not_false, Vb.b_add, Vb.b_sub, Vb.c_lt, Vb.c_le, Vb.c_gt, Vb.c_ge, Vb.c_eq_int, Vb.c_ne_int, Vb.c_isn_non, Vb.c_isn_int, Vb.c_isn_tup, Vb.c_notn_non, Vb.c_notn_int, Vb.c_notn_tup, Vb.ix_tup, Vb.bi_list_tup, Vb.isi_int_non, Vb.isi_int_bl, Vb.isi_int_int, Vb.isi_int_str, Vb.isi_int_tup, Vb.isi_int_ref, Vb.isi_bool_non, Vb.isi_bool_bl, Vb.isi_bool_int, Vb.isi_bool_str, Vb.isi_bool_tup, Vb.isi_bool_ref, Vb.isi_str_non, Vb.isi_str_bl, Vb.isi_str_int, Vb.isi_str_str, Vb.isi_str_tup, Vb.isi_str_ref, Vb.isi_tup_non, Vb.isi_tup_bl, Vb.isi_tup_int, Vb.isi_tup_str, Vb.isi_tup_tup, Vb.isi_tup_ref, Vb.isi_lst_non, Vb.isi_lst_bl, Vb.isi_lst_int, Vb.isi_lst_str, Vb.isi_lst_tup, Vb.isi_lst_ref, me2 d2]
  refine Ok.bind (sp15 (n := n) d2 g2 hs hrest few (by omega)) ?_
  rintro _ h3 ⟨rfl, d3, k3⟩
  try simp only [Vb.execs, Vb.exec, Vb.evalE, Vb.evalEs, Vb.evalT, Vb.evalI, Vb.evalO, Vb.evalOT, Vb.asgS, Vb.bind_ok, Vb.bind_assoc, Vb.then_ok, Vb.then_bind, Vb.next_then, Vb.next_next, Vb.next_nx, Vb.next_rt, Vb.next_bk, Vb.next_ct, Vb.fin_then, Vb.fin_rt, Vb.fin_nx, Vb.opt_some, Vb.cb_fn, Vb.cb_cls, Vb.gl0, Vb.gls, List.getElem?_cons_zero, List.getElem?_cons_succ, List.set_cons_zero, List.set_cons_succ, Vb.storeTg, Vb.storeAll, Option.map_some, List.length_cons, List.length_nil, Nat.zero_add, Nat.reduceAdd, Vb.ln0, Vb.ln1, Vb.ln2, Vb.ln3, Vb.ln4, Vb.ln5, Vb.ln6, if_true, Vb.newObj, Vb.it_tup, Vb.it_ref, Vb.it_str, Vb.ty_join, Vb.ty_split, Vb.ty_append, Vb.ty_extend, Vb.ty_pop, Option.isSome_some, List.map_cons, List.map_nil, Bool.false_eq_true, if_false, Vb.tr_bl, Vb.wipeL, decide_true, decide_false, Bool.not_true, Bool.not_false, Vb.b_add, Vb.b_sub, Vb.c_lt, Vb.c_le, Vb.c_gt, Vb.c_ge, Vb.c_eq_int, Vb.c_ne_int, Vb.c_isn_non, Vb.c_isn_int, Vb.c_isn_tup, Vb.c_notn_non, Vb.c_notn_int, Vb.c_notn_tup, Vb.ix_tup, Vb.bi_list_tup, Vb.isi_int_non, Vb.isi_int_bl, Vb.isi_int_int, Vb.isi_int_str, Vb.isi_int_tup, Vb.isi_int_ref, Vb.isi_bool_non, Vb.isi_bool_bl, Vb.isi_bool_int, Vb.isi_bool_str, Vb.isi_bool_tup, Vb.isi_bool_ref, Vb.isi_str_non, Vb.isi_str_bl, Vb.isi_str_int, Vb.isi_str_str, Vb.isi_str_tup, Vb.isi_str_ref, Vb.isi_tup_non, Vb.isi_tup_bl, Vb.isi_tup_int, Vb.isi_tup_str, Vb.isi_tup_tup, Vb.isi_tup_ref, Vb.isi_lst_non, Vb.isi_lst_bl, Vb.isi_lst_int, Vb.isi_lst_str, Vb.isi_lst_tup, Vb.isi_lst_ref, b_tup (xs := hd) (ys := [.tup vs]) (h := h3) (line_ok (by simp; omega))]
  refine .ret ⟨e2.symm, ?_, k2.trans k3⟩
  rw [e1]
  have : a + (hrow :: stR vs).length = a + 1 + vs.length := by simp [stR]; omega
  rw [this]
  exact d3
end V87

set_option Elab.async false
set_option linter.all false
set_option maxRecDepth 100000
set_option maxHeartbeats 2000000
namespace V87
open PySem Vb
theorem atC0 {α : Type} {x : α} {l : List α} : L2.atI (x :: l) 0 = some x := by
  unfold L2.atI L2.ixN
  rw [if_pos (by decide), if_pos (by simp only [List.length_cons]; omega)]
  rfl
/-- what stands behind the papers of one word -/
def RestW (w0 : Str) (rest : List Str) : Prop := rest = [] ∨ ∃ row r w, rest = row :: r ∧ FW row w ∧ w ≠ w0 ∧ BadRow row
theorem RestW.rest {w0 : Str} {rest : List Str} (h : RestW w0 rest) : Rest rest := by
  rcases h with h | ⟨row, r, w, h1, _, _, h2⟩
  · exact .inl h
  · exact .inr ⟨row, r, h1, h2⟩
theorem kind_one {p : PV} {w : Str} (h : Kind1 p w) : IsOne p := by
  rcases h with ⟨_, h⟩ | ⟨_, h⟩ | ⟨_, h⟩
  · exact .inl h
  · exact .inr (.inl h)
  · exact .inr (.inr h)
theorem rest_more {ps : List PV} {w : Str} {rest : List Str} (hp : ∀ p ∈ ps, Kind1 p w) (hr : Rest rest) : Rest (ps.flatMap rows1 ++ rest) := by
  cases ps with
  | nil => exact hr
  | cons p ps =>
    obtain ⟨hrow, hd, vs, e1, _, _, _, _, bad, _⟩ := one_form (hp p (by simp))
    refine .inr ⟨hrow, stR vs ++ (ps.flatMap rows1 ++ rest), ?_, bad⟩
    rw [List.flatMap_cons, e1]
    simp
theorem sp17 {n R q a : Nat} {rows : List Str} {h : MH} {w0 : Str} {ps : List PV} {rest : List Str} (d : Rd R q rows a h) (hr : rows.drop a = ps.flatMap rows1 ++ rest) (hp : ∀ p ∈ ps, Kind1 p w0) (okw : PyData.strOk w0 = true) (hrest : RestW w0 rest) (few : rows.length ≤ 43) (ha : a ≤ rows.length) (lp : ps.length ≤ 3) :
    Ok (callF Pr (n + 7) 17 [.ref R, .str w0] h) fun r h' => r = .tup ps ∧ Rd R q rows (a + (ps.flatMap rows1).length) h' ∧ Keep [R] h h' := by
  rw [callF_at (d := d17) rfl rfl]
  show Ok (finF (Vb.execs (cbK Pr (n + 6)) Pr.xt Pr.wl b17 [some (.ref R), some (.str w0), none] h)) _
  unfold b17
  have k0 : Keep [] h (h ++ [MO.lst []]) := .push _
  have f0 : (h ++ [MO.lst []])[h.length]? = some (.lst []) := get_new
  have d0 : Rd R q rows a (h ++ [MO.lst []]) := d.keep k0 (by simp) (by simp)
  have rl := lt_of_get d.ob
  have ql := lt_of_get d.rw_
  have tot : a + (ps.flatMap rows1).length ≤ rows.length := by
    have := congrArg List.length hr
    simp only [List.length_drop, List.length_append] at this
    omega
  try simp only [Vb.execs, Vb.exec, Vb.evalE, Vb.evalEs, Vb.evalT, Vb.evalI, Vb.evalO, Vb.evalOT, Vb.asgS, Vb.bind_ok, Vb.bind_assoc, Vb.then_ok, Vb.then_bind, Vb.next_then, Vb.next_next, Vb.next_nx, Vb.next_rt, Vb.next_bk, Vb.next_ct, Vb.fin_then, Vb.fin_rt, Vb.fin_nx, Vb.opt_some, Vb.cb_fn, Vb.cb_cls, Vb.gl0, Vb.gls, List.getElem?_cons_zero, List.getElem?_cons_succ, List.set_cons_zero, List.set_cons_succ, Vb.storeTg, Vb.storeAll, Option.map_some, List.length_cons, List.length_nil, Nat.zero_add, Nat.reduceAdd, Vb.ln0, Vb.ln1, Vb.ln2, Vb.ln3, Vb.ln4, Vb.ln5, Vb.ln6, if_true, Vb.newObj, Vb.it_tup, Vb.it_ref, Vb.it_str, Vb.ty_join, Vb.ty_split, Vb.ty_append, Vb.ty_extend, Vb.ty_pop, Option.isSome_some, List.map_cons, List.map_nil, Bool.false_eq_true, if_false, Vb.tr_bl, Vb.wipeL, decide_true, decide_false, Bool.not_true, Bool.not_false, Vb.b_add, Vb.b_sub, Vb.c_lt, Vb.c_le, Vb.c_gt, Vb.c_ge, Vb.c_eq_int, Vb.c_ne_int, Vb.c_isn_non, Vb.c_isn_int, Vb.c_isn_tup, Vb.c_notn_non, Vb.c_notn_int, Vb.c_notn_tup, Vb.ix_tup, Vb.bi_list_tup, Vb.isi_int_non, Vb.isi_int_bl, Vb.isi_int_int, Vb.isi_int_str, Vb.isi_int_tup, Vb.isi_int_ref, Vb.isi_bool_non, Vb.isi_bool_bl, Vb.isi_bool_int, Vb.isi_bool_str, Vb.isi_bool_tup, Vb.isi_bool_ref, Vb.isi_str_non, Vb.isi_str_bl, Vb.isi_str_int, Vb.isi_str_str, Vb.isi_str_tup, Vb.isi_str_ref, Vb.isi_tup_non, Vb.isi_tup_bl, Vb.isi_tup_int, Vb.isi_tup_str, Vb.isi_tup_tup, Vb.isi_tup_ref, Vb.isi_lst_non, Vb.isi_lst_bl, Vb.isi_lst_int, Vb.isi_lst_str, Vb.isi_lst_tup, Vb.isi_lst_ref]
  generalize h ++ [MO.lst []] = H at k0 f0 d0
  refine SOk.finN (while_inv (fun m lo h1 => ∃ don todo, ps = don ++ todo ∧ m = todo.length + 1 ∧ lo = [some (.ref R), some (.str w0), some (.ref h.length)] ∧ h1[h.length]? = some (.lst don) ∧ Rd R q rows (a + (don.flatMap rows1).length) h1 ∧ Keep [R] h h1 ∧ rows.drop (a + (don.flatMap rows1).length) = todo.flatMap rows1 ++ rest)
    (fun lo h1 => lo = [some (.ref R), some (.str w0), some (.ref h.length)] ∧ h1[h.length]? = some (.lst ps) ∧ Rd R q rows (a + (ps.flatMap rows1).length) h1 ∧ Keep [R] h h1) (fun _ _ => False) ?_ 1000000 (ps.length + 1) (by omega) _ _ ⟨[], ps, rfl, rfl, rfl, f0, d0, k0.weak (by simp), hr⟩) ?_
  · rintro m lo h1 ⟨don, todo, ev, rfl, rfl, f1, d1, k1, hd⟩
    have fwx : ∀ x t, todo = x :: t → ∃ hrow r, rows.drop (a + (don.flatMap rows1).length) = hrow :: r ∧ FW hrow w0 := fun x t e => by
      obtain ⟨hrow, _, vs, e1, _, _, _, fw, _⟩ := one_form (hp x (by rw [ev, e]; simp))
      rw [e, List.flatMap_cons, e1] at hd
      exact ⟨hrow, _, hd, fw⟩
    refine Ok.mono (Q := fun c h2 => (todo = [] → c = false) ∧ (todo ≠ [] → c = true) ∧ Keep [] h1 h2) ?_ ?_
    · try simp only [Vb.execs, Vb.exec, Vb.evalE, Vb.evalEs, Vb.evalT, Vb.evalI, Vb.evalO, Vb.evalOT, Vb.asgS, Vb.bind_ok, Vb.bind_assoc, Vb.then_ok, Vb.then_bind, Vb.next_then, Vb.next_next, Vb.next_nx, Vb.next_rt, Vb.next_bk, Vb.next_ct, Vb.fin_then, Vb.fin_rt, Vb.fin_nx, Vb.opt_some, Vb.cb_fn, Vb.cb_cls, Vb.gl0, Vb.gls, List.getElem?_cons_zero, List.getElem?_cons_succ, List.set_cons_zero, List.set_cons_succ, Vb.storeTg, Vb.storeAll, Option.map_some, List.length_cons, List.length_nil, Nat.zero_add, Nat.reduceAdd, Vb.ln0, Vb.ln1, Vb.ln2, Vb.ln3, Vb.ln4, Vb.ln5, Vb.ln6, if_true, Vb.newObj, Vb.it_tup, Vb.it_ref, Vb.it_str, Vb.ty_join, Vb.ty_split, Vb.ty_append, Vb.ty_extend, Vb.ty_pop, Option.isSome_some, List.map_cons, List.map_nil, Bool.false_eq_true, if_false, Vb.tr_bl, Vb.wipeL, decide_true, decide_false, Bool.not_true, Bool.not_false, Vb.b_add, Vb.b_sub, Vb.c_lt, Vb.c_le, Vb.c_gt, Vb.c_ge, Vb.c_eq_int, Vb.c_ne_int, Vb.c_isn_non, Vb.c_isn_int, Vb.c_isn_tup, Vb.c_notn_non, Vb.c_notn_int, Vb.c_notn_tup, Vb.ix_tup, Vb.bi_list_tup, Vb.isi_int_non, Vb.isi_int_bl, Vb.isi_int_int, Vb.isi_int_str, Vb.isi_int_tup, Vb.isi_int_ref, Vb.isi_bool_non, Vb.isi_bool_bl, Vb.isi_bool_int, Vb.isi_bool_str, Vb.isi_bool_tup, Vb.isi_bool_ref, Vb.isi_str_non, Vb.isi_str_bl, Vb.isi_str_int, Vb.isi_str_str, Vb.isi_str_tup, Vb.isi_str_ref, Vb.isi_tup_non, Vb.isi_tup_bl, Vb.isi_tup_int, Vb.isi_tup_str, Vb.isi_tup_tup, Vb.isi_tup_ref, Vb.isi_lst_non, Vb.isi_lst_bl, Vb.isi_lst_int, Vb.isi_lst_str, Vb.isi_lst_tup, Vb.isi_lst_ref, me0 d1, sp13 (n := n + 5) d1]
      by_cases over : a + (don.flatMap rows1).length = rows.length
      · simp only [decide_eq_true over, Bool.not_true]
        refine .ret ⟨fun _ => rfl, fun ne => ?_, .refl⟩
        cases todo with
        | nil => exact absurd rfl ne
        | cons x t =>
          obtain ⟨hrow, r, e1, _⟩ := fwx x t rfl
          have := (drop_get e1).2.2
          omega
      · simp only [decide_eq_false over, Bool.not_false]
        -- the row's first word
        obtain ⟨row, r, w, er, fw, hw⟩ : ∃ row r w, rows.drop (a + (don.flatMap rows1).length) = row :: r ∧ FW row w ∧ ((todo = [] → w ≠ w0) ∧ (todo ≠ [] → w = w0)) := by
          cases todo with
          | nil =>
            rcases hrest with rfl | ⟨row, r, w, rfl, fw, nw, _⟩
            · rw [List.append_nil] at ev
              subst ev
              have := congrArg List.length hd
              simp only [List.length_drop, List.flatMap_nil, List.nil_append, List.length_nil] at this
              omega
            · exact ⟨row, r, w, hd, fw, fun _ => nw, fun z => absurd rfl z⟩
          | cons x t =>
            obtain ⟨hrow, r, e1, fw⟩ := fwx x t rfl
            exact ⟨hrow, r, w0, e1, fw, (fun z => by cases z), fun _ => rfl⟩
        obtain ⟨g1, _, g3⟩ := drop_get er
        obtain ⟨⟨ws, es⟩, okr, lr⟩ := fw
        have ff : (h1 ++ [MO.lst (PV.str w :: ws.map PV.str)])[h1.length]? = some (.lst (PV.str w :: ws.map .str)) := get_new
        try simp only [Vb.execs, Vb.exec, Vb.evalE, Vb.evalEs, Vb.evalT, Vb.evalI, Vb.evalO, Vb.evalOT, Vb.asgS, Vb.bind_ok, Vb.bind_assoc, Vb.then_ok, Vb.then_bind, Vb.next_then, Vb.next_next, Vb.next_nx, Vb.next_rt, Vb.next_bk, Vb.next_ct, Vb.fin_then, Vb.fin_rt, Vb.fin_nx, Vb.opt_some, Vb.cb_fn, Vb.cb_cls, Vb.gl0, Vb.gls, List.getElem?_cons_zero, List.getElem?_cons_succ, List.set_cons_zero, List.set_cons_succ, Vb.storeTg, Vb.storeAll, Option.map_some, List.length_cons, List.length_nil, Nat.zero_add, Nat.reduceAdd, Vb.ln0, Vb.ln1, Vb.ln2, Vb.ln3, Vb.ln4, Vb.ln5, Vb.ln6, if_true, Vb.newObj, Vb.it_tup, Vb.it_ref, Vb.it_str, Vb.ty_join, Vb.ty_split, Vb.ty_append, Vb.ty_extend, Vb.ty_pop, Option.isSome_some, List.map_cons, List.map_nil, Bool.false_eq_true, if_false, Vb.tr_bl, Vb.wipeL, decide_true, decide_false, Bool.not_true, Bool.not_false, Vb.b_add, Vb.b_sub, Vb.c_lt, Vb.c_le, Vb.c_gt, Vb.c_ge, Vb.c_eq_int, Vb.c_ne_int, Vb.c_isn_non, Vb.c_isn_int, Vb.c_isn_tup, Vb.c_notn_non, Vb.c_notn_int, Vb.c_notn_tup, Vb.ix_tup, Vb.bi_list_tup, Vb.isi_int_non, Vb.isi_int_bl, Vb.isi_int_int, Vb.isi_int_str, Vb.isi_int_tup, Vb.isi_int_ref, Vb.isi_bool_non, Vb.isi_bool_bl, Vb.isi_bool_int, Vb.isi_bool_str, Vb.isi_bool_tup, Vb.isi_bool_ref, Vb.isi_str_non, Vb.isi_str_bl, Vb.isi_str_int, Vb.isi_str_str, Vb.isi_str_tup, Vb.isi_str_ref, Vb.isi_tup_non, Vb.isi_tup_bl, Vb.isi_tup_int, Vb.isi_tup_str, Vb.isi_tup_tup, Vb.isi_tup_ref, Vb.isi_lst_non, Vb.isi_lst_bl, Vb.isi_lst_int, Vb.isi_lst_str, Vb.isi_lst_tup, Vb.isi_lst_ref, at_rows d1, at_at d1, ix_row d1.rw_ g1, bm_split (x := row) (y := " ") (h := h1) (by decide +kernel) (line_ok (by omega)), es, ix_ref ff, atC0, c_eq_str okr okw]
        exact .ret ⟨fun z => decide_eq_false (hw.1 z), fun z => decide_eq_true (hw.2 z), .push _⟩
    · rintro c h2 ⟨c1, c2, k2⟩
      have d2 := d1.keep k2 (by simp) (by simp)
      have f2 := k2.get f1 (by simp)
      have k12 : Keep [R] h h2 := k1.trans (k2.weak (by simp))
      cases todo with
      | nil =>
        rw [c1 rfl, if_neg Bool.false_ne_true]
        rw [List.append_nil] at ev
        subst ev
        exact ⟨rfl, f2, d2, k12⟩
      | cons x todo =>
        rw [c2 (by simp), if_pos rfl]
        refine ⟨by omega, ?_⟩
        have hx := hp x (by rw [ev]; simp)
        have dr : rows.drop (a + (don.flatMap rows1).length) = rows1 x ++ (todo.flatMap rows1 ++ rest) := by
          rw [hd, List.flatMap_cons, List.append_assoc]
        try simp only [Vb.execs, Vb.exec, Vb.evalE, Vb.evalEs, Vb.evalT, Vb.evalI, Vb.evalO, Vb.evalOT, Vb.asgS, Vb.bind_ok, Vb.bind_assoc, Vb.then_ok, Vb.then_bind, Vb.next_then, Vb.next_next, Vb.next_nx, Vb.next_rt, Vb.next_bk, Vb.next_ct, Vb.fin_then, Vb.fin_rt, Vb.fin_nx, Vb.opt_some, Vb.cb_fn, Vb.cb_cls, Vb.gl0, Vb.gls, List.getElem?_cons_zero, List.getElem?_cons_succ, List.set_cons_zero, List.set_cons_succ, Vb.storeTg, Vb.storeAll, Option.map_some, List.length_cons, List.length_nil, Nat.zero_add, Nat.reduceAdd, Vb.ln0, Vb.ln1, Vb.ln2, Vb.ln3, Vb.ln4, Vb.ln5, Vb.ln6, if_true, Vb.newObj, Vb.it_tup, Vb.it_ref, Vb.it_str, Vb.ty_join, Vb.ty_split, Vb.ty_append, Vb.ty_extend, Vb.ty_pop, Option.isSome_some, List.map_cons, List.map_nil, Bool.false_eq_true, if_false, Vb.tr_bl, Vb.wipeL, decide_true, decide_false, Bool.not_true, Bool.not_false, Vb.b_add, Vb.b_sub, Vb.c_lt, Vb.c_le, Vb.c_gt, Vb.c_ge, Vb.c_eq_int, Vb.c_ne_int, Vb.c_isn_non, Vb.c_isn_int, Vb.c_isn_tup, Vb.c_notn_non, Vb.c_notn_int, Vb.c_notn_tup, Vb.ix_tup, Vb.bi_list_tup, Vb.isi_int_non, Vb.isi_int_bl, Vb.isi_int_int, Vb.isi_int_str, Vb.isi_int_tup, Vb.isi_int_ref, Vb.isi_bool_non, Vb.isi_bool_bl, Vb.isi_bool_int, Vb.isi_bool_str, Vb.isi_bool_tup, Vb.isi_bool_ref, Vb.isi_str_non, Vb.isi_str_bl, Vb.isi_str_int, Vb.isi_str_str, Vb.isi_str_tup, Vb.isi_str_ref, Vb.isi_tup_non, Vb.isi_tup_bl, Vb.isi_tup_int, Vb.isi_tup_str, Vb.isi_tup_tup, Vb.isi_tup_ref, Vb.isi_lst_non, Vb.isi_lst_bl, Vb.isi_lst_int, Vb.isi_lst_str, Vb.isi_lst_tup, Vb.isi_lst_ref, seq_of f2, me3 d2]
        refine SOk.then_ (sp16 (n := n) d2 dr hx (rest_more (fun p hp' => hp p (by rw [ev]; simp [hp'])) hrest.rest) few) ?_
        rintro y h3 ⟨rfl, d3, k3⟩
        have f3 := k3.get f2 (by simp; omega)
        have le := congrArg List.length ev
        simp only [List.length_append, List.length_cons] at le
        rw [bm_append f3 (by
          have big : 100 < sizeLine := by decide
          omega)]
        try simp only [Vb.execs, Vb.exec, Vb.evalE, Vb.evalEs, Vb.evalT, Vb.evalI, Vb.evalO, Vb.evalOT, Vb.asgS, Vb.bind_ok, Vb.bind_assoc, Vb.then_ok, Vb.then_bind, Vb.next_then, Vb.next_next, Vb.next_nx, Vb.next_rt, Vb.next_bk, Vb.next_ct, Vb.fin_then, Vb.fin_rt, Vb.fin_nx, Vb.opt_some, Vb.cb_fn, Vb.cb_cls, Vb.gl0, Vb.gls, List.getElem?_cons_zero, List.getElem?_cons_succ, List.set_cons_zero, List.set_cons_succ, Vb.storeTg, Vb.storeAll, Option.map_some, List.length_cons, List.length_nil, Nat.zero_add, Nat.reduceAdd, Vb.ln0, Vb.ln1, Vb.ln2, Vb.ln3, Vb.ln4, Vb.ln5, Vb.ln6, if_true, Vb.newObj, Vb.it_tup, Vb.it_ref, Vb.it_str, Vb.ty_join, Vb.ty_split, Vb.ty_append, Vb.ty_extend, Vb.ty_pop, Option.isSome_some, List.map_cons, List.map_nil, Bool.false_eq_true, if_false, Vb.tr_bl, Vb.wipeL, decide_true, decide_false, Bool.not_true, Bool.not_false, Vb.b_add, Vb.b_sub, Vb.c_lt, Vb.c_le, Vb.c_gt, Vb.c_ge, Vb.c_eq_int, Vb.c_ne_int, Vb.c_isn_non, Vb.c_isn_int, Vb.c_isn_tup, Vb.c_notn_non, Vb.c_notn_int, Vb.c_notn_tup, Vb.ix_tup, Vb.bi_list_tup, Vb.isi_int_non, Vb.isi_int_bl, Vb.isi_int_int, Vb.isi_int_str, Vb.isi_int_tup, Vb.isi_int_ref, Vb.isi_bool_non, Vb.isi_bool_bl, Vb.isi_bool_int, Vb.isi_bool_str, Vb.isi_bool_tup, Vb.isi_bool_ref, Vb.isi_str_non, Vb.isi_str_bl, Vb.isi_str_int, Vb.isi_str_str, Vb.isi_str_tup, Vb.isi_str_ref, Vb.isi_tup_non, Vb.isi_tup_bl, Vb.isi_tup_int, Vb.isi_tup_str, Vb.isi_tup_tup, Vb.isi_tup_ref, Vb.isi_lst_non, Vb.isi_lst_bl, Vb.isi_lst_int, Vb.isi_lst_str, Vb.isi_lst_tup, Vb.isi_lst_ref]
        have ed : a + ((don ++ [y]).flatMap rows1).length = a + (don.flatMap rows1).length + (rows1 y).length := by simp; omega
        refine .ret ⟨todo.length + 1, by simp, don ++ [y], todo, by rw [ev]; simp, rfl, rfl, get_set f3, ?_, ?_, ?_⟩
        · rw [ed]; exact d3.put (by omega) (by omega)
        · exact (k12.trans k3).put (.inr (Nat.le_refl _)) _
        · rw [ed, ← List.drop_drop, dr, List.drop_left]
  · rintro fl h2 qq
    cases fl with
    | nx lo =>
      obtain ⟨rfl, f1, d1, k1⟩ := qq
      try simp only [Vb.execs, Vb.exec, Vb.evalE, Vb.evalEs, Vb.evalT, Vb.evalI, Vb.evalO, Vb.evalOT, Vb.asgS, Vb.bind_ok, Vb.bind_assoc, Vb.then_ok, Vb.then_bind, Vb.next_then, Vb.next_next, Vb.next_nx, Vb.next_rt, Vb.next_bk, Vb.next_ct, Vb.fin_then, Vb.fin_rt, Vb.fin_nx, Vb.opt_some, Vb.cb_fn, Vb.cb_cls, Vb.gl0, Vb.gls, List.getElem?_cons_zero, List.getElem?_cons_succ, List.set_cons_zero, List.set_cons_succ, Vb.storeTg, Vb.storeAll, Option.map_some, List.length_cons, List.length_nil, Nat.zero_add, Nat.reduceAdd, Vb.ln0, Vb.ln1, Vb.ln2, Vb.ln3, Vb.ln4, Vb.ln5, Vb.ln6, if_true, Vb.newObj, Vb.it_tup, Vb.it_ref, Vb.it_str, Vb.ty_join, Vb.ty_split, Vb.ty_append, Vb.ty_extend, Vb.ty_pop, Option.isSome_some, List.map_cons, List.map_nil, Bool.false_eq_true, if_false, Vb.tr_bl, Vb.wipeL, decide_true, decide_false, Bool.not_true, Bool.not_false, Vb.b_add, Vb.b_sub, Vb.c_lt, Vb.c_le, Vb.c_gt, Vb.c_ge, Vb.c_eq_int, Vb.c_ne_int, Vb.c_isn_non, Vb.c_isn_int, Vb.c_isn_tup, Vb.c_notn_non, Vb.c_notn_int, Vb.c_notn_tup, Vb.ix_tup, Vb.bi_list_tup, Vb.isi_int_non, Vb.isi_int_bl, Vb.isi_int_int, Vb.isi_int_str, Vb.isi_int_tup, Vb.isi_int_ref, Vb.isi_bool_non, Vb.isi_bool_bl, Vb.isi_bool_int, Vb.isi_bool_str, Vb.isi_bool_tup, Vb.isi_bool_ref, Vb.isi_str_non, Vb.isi_str_bl, Vb.isi_str_int, Vb.isi_str_str, Vb.isi_str_tup, Vb.isi_str_ref, Vb.isi_tup_non, Vb.isi_tup_bl, Vb.isi_tup_int, Vb.isi_tup_str, Vb.isi_tup_tup, Vb.isi_tup_ref, Vb.isi_lst_non, Vb.isi_lst_bl, Vb.isi_lst_int, Vb.isi_lst_str, Vb.isi_lst_tup, Vb.isi_lst_ref]
      rw [bi_tuple f1]
      try simp only [Vb.execs, Vb.exec, Vb.evalE, Vb.evalEs, Vb.evalT, Vb.evalI, Vb.evalO, Vb.evalOT, Vb.asgS, Vb.bind_ok, Vb.bind_assoc, Vb.then_ok, Vb.then_bind, Vb.next_then, Vb.next_next, Vb.next_nx, Vb.next_rt, Vb.next_bk, Vb.next_ct, Vb.fin_then, Vb.fin_rt, Vb.fin_nx, Vb.opt_some, Vb.cb_fn, Vb.cb_cls, Vb.gl0, Vb.gls, List.getElem?_cons_zero, List.getElem?_cons_succ, List.set_cons_zero, List.set_cons_succ, Vb.storeTg, Vb.storeAll, Option.map_some, List.length_cons, List.length_nil, Nat.zero_add, Nat.reduceAdd, Vb.ln0, Vb.ln1, Vb.ln2, Vb.ln3, Vb.ln4, Vb.ln5, Vb.ln6, if_true, Vb.newObj, Vb.it_tup, Vb.it_ref, Vb.it_str, Vb.ty_join, Vb.ty_split, Vb.ty_append, Vb.ty_extend, Vb.ty_pop, Option.isSome_some, List.map_cons, List.map_nil, Bool.false_eq_true, if_false, Vb.tr_bl, Vb.wipeL, decide_true, decide_false, Bool.not_true, Bool.not_false, Vb.b_add, Vb.b_sub, Vb.c_lt, Vb.c_le, Vb.c_gt, Vb.c_ge, Vb.c_eq_int, Vb.c_ne_int, Vb.c_isn_non, Vb.c_isn_int, Vb.c_isn_tup, Vb.c_notn_non, Vb.c_notn_int, Vb.c_notn_tup, Vb.ix_tup, Vb.bi_list_tup, Vb.isi_int_non, Vb.isi_int_bl, Vb.isi_int_int, Vb.isi_int_str, Vb.isi_int_tup, Vb.isi_int_ref, Vb.isi_bool_non, Vb.isi_bool_bl, Vb.isi_bool_int, Vb.isi_bool_str, Vb.isi_bool_tup, Vb.isi_bool_ref, Vb.isi_str_non, Vb.isi_str_bl, Vb.isi_str_int, Vb.isi_str_str, Vb.isi_str_tup, Vb.isi_str_ref, Vb.isi_tup_non, Vb.isi_tup_bl, Vb.isi_tup_int, Vb.isi_tup_str, Vb.isi_tup_tup, Vb.isi_tup_ref, Vb.isi_lst_non, Vb.isi_lst_bl, Vb.isi_lst_int, Vb.isi_lst_str, Vb.isi_lst_tup, Vb.isi_lst_ref]
      exact .ret ⟨rfl, d1, k1⟩
    | _ => exact qq.elim
end V87

set_option Elab.async false
set_option linter.all false
set_option maxRecDepth 100000
set_option maxHeartbeats 2000000
namespace V87
open PySem Vb
theorem rows1_free {p : PV} {w : Str} (hp : Kind1 p w) : ∀ r ∈ rows1 p, 10 ∉ TL.tl r := by
  obtain ⟨hrow, hd, vs, e1, _, _, hs, _, _, fr, _⟩ := one_form hp
  rw [e1]
  intro r hr
  rcases List.mem_cons.mp hr with rfl | hr
  · exact fr
  · obtain ⟨v, hv, rfl⟩ := List.mem_map.mp hr
    exact txt_free (hs.2 v hv)
theorem kind_of {p : PV} (h : IsOne p) : ∃ w, Kind1 p w := by
  rcases h with h | h | h
  · exact ⟨_, .inl ⟨rfl, h⟩⟩
  · exact ⟨_, .inr (.inl ⟨rfl, h⟩)⟩
  · exact ⟨_, .inr (.inr ⟨rfl, h⟩)⟩
theorem rowsP_cases {p : PV} (hp : IsPaper p) : (IsOne p ∧ rowsP p = rows1 p) ∨ ∃ bs gs, p = .tup [.str "parts", .tup bs, .tup gs] ∧ bs.length ≤ 3 ∧ gs.length ≤ 3 ∧ (∀ b ∈ bs, IsAlone b) ∧ (∀ g ∈ gs, IsGoal g) ∧ rowsP p = ("parts" : Str) :: (bs ++ gs).flatMap rows1 := by
  rcases hp with hp | ⟨vs, rfl, hs⟩ | hp | ⟨bs, gs, rfl, lb, lg, hb, hg⟩
  · exact .inl ⟨.inl hp, by obtain ⟨vs, rfl, _⟩ := hp; rfl⟩
  · exact .inl ⟨.inr (.inl ⟨vs, rfl, hs⟩), rfl⟩
  · exact .inl ⟨.inr (.inr hp), by obtain ⟨o, g, vs, rfl, _⟩ := hp; exact rowsP_goal⟩
  · exact .inr ⟨bs, gs, rfl, lb, lg, hb, hg, rowsP_parts⟩
theorem rowsP_ok {p : PV} (hp : IsPaper p) : RowsOk (rowsP p) := by
  have le := rowsP_le hp
  refine ⟨?_, ?_, le.1, le.2⟩
  · rcases rowsP_cases hp with ⟨h1, e⟩ | ⟨bs, gs, rfl, _, _, _, _, e⟩
    · obtain ⟨w, hw⟩ := kind_of h1
      obtain ⟨hrow, _, vs, e1, _⟩ := one_form hw
      rw [e, e1]; simp
    · rw [e]; simp
  · intro r hr
    rcases rowsP_cases hp with ⟨h1, e⟩ | ⟨bs, gs, rfl, _, _, hb, hg, e⟩
    · obtain ⟨w, hw⟩ := kind_of h1
      rw [e] at hr
      exact rows1_free hw r hr
    · rw [e] at hr
      rcases List.mem_cons.mp hr with rfl | hr
      · decide +kernel
      · obtain ⟨x, hx, hr⟩ := List.mem_flatMap.mp hr
        obtain ⟨w, hw⟩ := kind_of (one_of_part hb hg x hx)
        exact rows1_free hw r hr
/-- paper_of -/
theorem sp18 {n : Nat} {h : MH} {p : PV} (hp : IsPaper p) : Ok (callF Pr (n + 9) 18 [.str (txtP p)] h) fun r h' => r = p ∧ Keep [] h h' := by
  have ok := rowsP_ok hp
  rw [callF_at (d := d18) rfl rfl]
  show Ok (finF (Vb.execs (cbK Pr (n + 8)) Pr.xt Pr.wl b18 [some (.str (txtP p)), none, none, none] h)) _
  unfold b18
  rw [exs_cons, ex_asg, next_then, fin_then]
  refine Ok.bind (mk_ (n := n + 6) ok rfl) ?_
  rintro _ h1 ⟨R, q, rfl, hR, hq, d, k⟩
  have few := ok.few
  have front : ∀ x ∈ [R], x ∈ ([] : List Nat) ∨ h.length ≤ x := fun x hx => .inr (by rw [List.mem_singleton.mp hx]; exact hR)
  rcases rowsP_cases hp with ⟨h1', e⟩ | ⟨bs, gs, rfl, lb, lg, hb, hg, e⟩
  · obtain ⟨w, hw⟩ := kind_of h1'
    obtain ⟨hrow, hd, vs, e1, e2, hl, hs, fw, bad, fr, _⟩ := one_form hw
    have g0 : (rowsP p)[0]? = some hrow := by rw [e, e1]; rfl
    have ne : hrow ≠ "parts" := by
      rintro rfl
      obtain ⟨⟨ws, es⟩, _, _⟩ := fw
      rw [split1 (by decide +kernel)] at es
      simp only [List.cons.injEq] at es
      rcases hw with ⟨rfl, _⟩ | ⟨rfl, _⟩ | ⟨rfl, _⟩ <;> exact absurd es.1 (by decide +kernel)
    have okh : PyData.strOk hrow = true := by
      rcases hw with ⟨rfl, vs, rfl, _⟩ | ⟨rfl, vs, rfl, _⟩ | ⟨rfl, o, g, vs, rfl, ho, hg, _⟩
      · have : hrow = "alone" := by simp only [rows1, List.cons.injEq] at e1; exact e1.1.symm
        rw [this]; decide +kernel
      · have : hrow = "whole" := by simp only [rows1, List.cons.injEq] at e1; exact e1.1.symm
        rw [this]; decide +kernel
      · have : hrow = headG o g := by simp only [rows1, List.cons.injEq] at e1; exact e1.1.symm
        rw [this]
        refine ok_tl fun c hc => ?_
        rcases mem_join hc with z | ⟨w, hw, z⟩
        · rw [tl_sp] at z; simp at z; omega
        · have : PyData.strOk w = true := by
            simp only [List.mem_cons, List.not_mem_nil, or_false] at hw
            rcases hw with rfl | rfl | rfl
            · decide +kernel
            · exact ok_own ho
            · exact ok_numP hg
          unfold PyData.strOk at this
          rw [Array.all_eq_true'] at this
          exact of_decide_eq_true (this c (by simpa [TL.tl] using z))
    have i0 : idxS (.ref q) (.int 0) h1 = some (.str hrow) := ix_row (a := 0) d.rw_ g0
    try simp only [Vb.execs, Vb.exec, Vb.evalE, Vb.evalEs, Vb.evalT, Vb.evalI, Vb.evalO, Vb.evalOT, Vb.asgS, Vb.bind_ok, Vb.bind_assoc, Vb.then_ok, Vb.then_bind, Vb.next_then, Vb.next_next, Vb.next_nx, Vb.next_rt, Vb.next_bk, Vb.next_ct, Vb.fin_then, Vb.fin_rt, Vb.fin_nx, Vb.opt_some, Vb.cb_fn, Vb.cb_cls, Vb.gl0, Vb.gls, List.getElem?_cons_zero, List.getElem?_cons_succ, List.set_cons_zero, List.set_cons_succ, Vb.storeTg, Vb.storeAll, Option.map_some, List.length_cons, List.length_nil, Nat.zero_add, Nat.reduceAdd, Vb.ln0, Vb.ln1, Vb.ln2, Vb.ln3, Vb.ln4, Vb.ln5, Vb.ln6, if_true, Vb.newObj, Vb.it_tup, Vb.it_ref, Vb.it_str, Vb.ty_join, Vb.ty_split, Vb.ty_append, Vb.ty_extend, Vb.ty_pop, Option.isSome_some, List.map_cons, List.map_nil, Bool.false_eq_true, if_false, Vb.tr_bl, Vb.wipeL, decide_true, decide_false, Bool.not_true, Bool.not_false, Vb.b_add, Vb.b_sub, Vb.c_lt, Vb.c_le, Vb.c_gt, Vb.c_ge, Vb.c_eq_int, Vb.c_ne_int, Vb.c_isn_non, Vb.c_isn_int, Vb.c_isn_tup, Vb.c_notn_non, Vb.c_notn_int, Vb.c_notn_tup, Vb.ix_tup, Vb.bi_list_tup, Vb.isi_int_non, Vb.isi_int_bl, Vb.isi_int_int, Vb.isi_int_str, Vb.isi_int_tup, Vb.isi_int_ref, Vb.isi_bool_non, Vb.isi_bool_bl, Vb.isi_bool_int, Vb.isi_bool_str, Vb.isi_bool_tup, Vb.isi_bool_ref, Vb.isi_str_non, Vb.isi_str_bl, Vb.isi_str_int, Vb.isi_str_str, Vb.isi_str_tup, Vb.isi_str_ref, Vb.isi_tup_non, Vb.isi_tup_bl, Vb.isi_tup_int, Vb.isi_tup_str, Vb.isi_tup_tup, Vb.isi_tup_ref, Vb.isi_lst_non, Vb.isi_lst_bl, Vb.isi_lst_int, Vb.isi_lst_str, Vb.isi_lst_tup, Vb.isi_lst_ref, at_rows d, i0, c_eq_str okh (okS (x := "parts")), decide_eq_false ne, me3 d]
    refine Ok.bind (sp16 (n := n + 2) (rest := []) d (by rw [List.drop_zero, e, List.append_nil]) hw (.inl rfl) few) ?_
    rintro pp h2 ⟨e9, d2, k2⟩
    rw [e9]
    have ee : 0 + (rows1 p).length = (rowsP p).length := by rw [e]; simp
    rw [ee] at d2
    try simp only [Vb.execs, Vb.exec, Vb.evalE, Vb.evalEs, Vb.evalT, Vb.evalI, Vb.evalO, Vb.evalOT, Vb.asgS, Vb.bind_ok, Vb.bind_assoc, Vb.then_ok, Vb.then_bind, Vb.next_then, Vb.next_next, Vb.next_nx, Vb.next_rt, Vb.next_bk, Vb.next_ct, Vb.fin_then, Vb.fin_rt, Vb.fin_nx, Vb.opt_some, Vb.cb_fn, Vb.cb_cls, Vb.gl0, Vb.gls, List.getElem?_cons_zero, List.getElem?_cons_succ, List.set_cons_zero, List.set_cons_succ, Vb.storeTg, Vb.storeAll, Option.map_some, List.length_cons, List.length_nil, Nat.zero_add, Nat.reduceAdd, Vb.ln0, Vb.ln1, Vb.ln2, Vb.ln3, Vb.ln4, Vb.ln5, Vb.ln6, if_true, Vb.newObj, Vb.it_tup, Vb.it_ref, Vb.it_str, Vb.ty_join, Vb.ty_split, Vb.ty_append, Vb.ty_extend, Vb.ty_pop, Option.isSome_some, List.map_cons, List.map_nil, Bool.false_eq_true, if_false, Vb.tr_bl, Vb.wipeL, decide_true, decide_false, Bool.not_true, Bool.not_false, Vb.b_add, Vb.b_sub, Vb.c_lt, Vb.c_le, Vb.c_gt, Vb.c_ge, Vb.c_eq_int, Vb.c_ne_int, Vb.c_isn_non, Vb.c_isn_int, Vb.c_isn_tup, Vb.c_notn_non, Vb.c_notn_int, Vb.c_notn_tup, Vb.ix_tup, Vb.bi_list_tup, Vb.isi_int_non, Vb.isi_int_bl, Vb.isi_int_int, Vb.isi_int_str, Vb.isi_int_tup, Vb.isi_int_ref, Vb.isi_bool_non, Vb.isi_bool_bl, Vb.isi_bool_int, Vb.isi_bool_str, Vb.isi_bool_tup, Vb.isi_bool_ref, Vb.isi_str_non, Vb.isi_str_bl, Vb.isi_str_int, Vb.isi_str_str, Vb.isi_str_tup, Vb.isi_str_ref, Vb.isi_tup_non, Vb.isi_tup_bl, Vb.isi_tup_int, Vb.isi_tup_str, Vb.isi_tup_tup, Vb.isi_tup_ref, Vb.isi_lst_non, Vb.isi_lst_bl, Vb.isi_lst_int, Vb.isi_lst_str, Vb.isi_lst_tup, Vb.isi_lst_ref, me1 d2, me0 d2, sp13 (n := n + 7) d2, decide_eq_true (rfl : (rowsP p).length = (rowsP p).length), sp14 (n := n + 7)]
    exact .ret ⟨rfl, k.go k2 front⟩
  · have g0 : (rowsP (.tup [.str "parts", .tup bs, .tup gs]))[0]? = some ("parts" : Str) := by rw [e]; rfl
    have i0 : idxS (.ref q) (.int 0) h1 = some (.str "parts") := ix_row (a := 0) d.rw_ g0
    have sa : setAttrS (cbK Pr (n + 8)) R 1 (.int 1) h1 = some (h1.set R (.ins 0 [(0, .ref q), (1, .int 1)])) := set_at1 d 1
    try simp only [Vb.execs, Vb.exec, Vb.evalE, Vb.evalEs, Vb.evalT, Vb.evalI, Vb.evalO, Vb.evalOT, Vb.asgS, Vb.bind_ok, Vb.bind_assoc, Vb.then_ok, Vb.then_bind, Vb.next_then, Vb.next_next, Vb.next_nx, Vb.next_rt, Vb.next_bk, Vb.next_ct, Vb.fin_then, Vb.fin_rt, Vb.fin_nx, Vb.opt_some, Vb.cb_fn, Vb.cb_cls, Vb.gl0, Vb.gls, List.getElem?_cons_zero, List.getElem?_cons_succ, List.set_cons_zero, List.set_cons_succ, Vb.storeTg, Vb.storeAll, Option.map_some, List.length_cons, List.length_nil, Nat.zero_add, Nat.reduceAdd, Vb.ln0, Vb.ln1, Vb.ln2, Vb.ln3, Vb.ln4, Vb.ln5, Vb.ln6, if_true, Vb.newObj, Vb.it_tup, Vb.it_ref, Vb.it_str, Vb.ty_join, Vb.ty_split, Vb.ty_append, Vb.ty_extend, Vb.ty_pop, Option.isSome_some, List.map_cons, List.map_nil, Bool.false_eq_true, if_false, Vb.tr_bl, Vb.wipeL, decide_true, decide_false, Bool.not_true, Bool.not_false, Vb.b_add, Vb.b_sub, Vb.c_lt, Vb.c_le, Vb.c_gt, Vb.c_ge, Vb.c_eq_int, Vb.c_ne_int, Vb.c_isn_non, Vb.c_isn_int, Vb.c_isn_tup, Vb.c_notn_non, Vb.c_notn_int, Vb.c_notn_tup, Vb.ix_tup, Vb.bi_list_tup, Vb.isi_int_non, Vb.isi_int_bl, Vb.isi_int_int, Vb.isi_int_str, Vb.isi_int_tup, Vb.isi_int_ref, Vb.isi_bool_non, Vb.isi_bool_bl, Vb.isi_bool_int, Vb.isi_bool_str, Vb.isi_bool_tup, Vb.isi_bool_ref, Vb.isi_str_non, Vb.isi_str_bl, Vb.isi_str_int, Vb.isi_str_str, Vb.isi_str_tup, Vb.isi_str_ref, Vb.isi_tup_non, Vb.isi_tup_bl, Vb.isi_tup_int, Vb.isi_tup_str, Vb.isi_tup_tup, Vb.isi_tup_ref, Vb.isi_lst_non, Vb.isi_lst_bl, Vb.isi_lst_int, Vb.isi_lst_str, Vb.isi_lst_tup, Vb.isi_lst_ref, at_rows d, i0, c_eq_str (okS (x := "parts")) (okS (x := "parts")), decide_eq_true (rfl : ("parts" : Str) = "parts"), sa]
    have d1 : Rd R q (rowsP (.tup [.str "parts", .tup bs, .tup gs])) 1 (h1.set R (.ins 0 [(0, .ref q), (1, .int 1)])) := d.move (b := 1)
    have k1 : Keep [] h (h1.set R (.ins 0 [(0, .ref q), (1, .int 1)])) := k.put (.inr hR) _
    generalize h1.set R (.ins 0 [(0, .ref q), (1, .int 1)]) = h2 at d1 k1
    try simp only [Vb.execs, Vb.exec, Vb.evalE, Vb.evalEs, Vb.evalT, Vb.evalI, Vb.evalO, Vb.evalOT, Vb.asgS, Vb.bind_ok, Vb.bind_assoc, Vb.then_ok, Vb.then_bind, Vb.next_then, Vb.next_next, Vb.next_nx, Vb.next_rt, Vb.next_bk, Vb.next_ct, Vb.fin_then, Vb.fin_rt, Vb.fin_nx, Vb.opt_some, Vb.cb_fn, Vb.cb_cls, Vb.gl0, Vb.gls, List.getElem?_cons_zero, List.getElem?_cons_succ, List.set_cons_zero, List.set_cons_succ, Vb.storeTg, Vb.storeAll, Option.map_some, List.length_cons, List.length_nil, Nat.zero_add, Nat.reduceAdd, Vb.ln0, Vb.ln1, Vb.ln2, Vb.ln3, Vb.ln4, Vb.ln5, Vb.ln6, if_true, Vb.newObj, Vb.it_tup, Vb.it_ref, Vb.it_str, Vb.ty_join, Vb.ty_split, Vb.ty_append, Vb.ty_extend, Vb.ty_pop, Option.isSome_some, List.map_cons, List.map_nil, Bool.false_eq_true, if_false, Vb.tr_bl, Vb.wipeL, decide_true, decide_false, Bool.not_true, Bool.not_false, Vb.b_add, Vb.b_sub, Vb.c_lt, Vb.c_le, Vb.c_gt, Vb.c_ge, Vb.c_eq_int, Vb.c_ne_int, Vb.c_isn_non, Vb.c_isn_int, Vb.c_isn_tup, Vb.c_notn_non, Vb.c_notn_int, Vb.c_notn_tup, Vb.ix_tup, Vb.bi_list_tup, Vb.isi_int_non, Vb.isi_int_bl, Vb.isi_int_int, Vb.isi_int_str, Vb.isi_int_tup, Vb.isi_int_ref, Vb.isi_bool_non, Vb.isi_bool_bl, Vb.isi_bool_int, Vb.isi_bool_str, Vb.isi_bool_tup, Vb.isi_bool_ref, Vb.isi_str_non, Vb.isi_str_bl, Vb.isi_str_int, Vb.isi_str_str, Vb.isi_str_tup, Vb.isi_str_ref, Vb.isi_tup_non, Vb.isi_tup_bl, Vb.isi_tup_int, Vb.isi_tup_str, Vb.isi_tup_tup, Vb.isi_tup_ref, Vb.isi_lst_non, Vb.isi_lst_bl, Vb.isi_lst_int, Vb.isi_lst_str, Vb.isi_lst_tup, Vb.isi_lst_ref, me4 d1]
    have dr : (rowsP (.tup [.str "parts", .tup bs, .tup gs])).drop 1 = bs.flatMap rows1 ++ gs.flatMap rows1 := by rw [e]; simp
    have ln : 1 ≤ (rowsP (.tup [.str "parts", .tup bs, .tup gs])).length := by rw [e]; simp
    have rw0 : RestW "alone" (gs.flatMap rows1) := by
      cases gs with
      | nil => exact .inl rfl
      | cons g gs =>
        have hgk : Kind1 g "follows" := .inr (.inr ⟨rfl, hg g (by simp)⟩)
        obtain ⟨hrow, hd, vs, e1, _, _, _, fw, bad, _⟩ := one_form hgk
        refine .inr ⟨hrow, stR vs ++ gs.flatMap rows1, "follows", ?_, fw, by decide +kernel, bad⟩
        rw [List.flatMap_cons, e1]
        rfl
    refine Ok.bind (sp17 (n := n + 1) d1 dr (fun p hp => .inl ⟨rfl, hb p hp⟩) okS rw0 few ln lb) ?_
    rintro _ h3 ⟨rfl, d3, k3⟩
    try simp only [Vb.execs, Vb.exec, Vb.evalE, Vb.evalEs, Vb.evalT, Vb.evalI, Vb.evalO, Vb.evalOT, Vb.asgS, Vb.bind_ok, Vb.bind_assoc, Vb.then_ok, Vb.then_bind, Vb.next_then, Vb.next_next, Vb.next_nx, Vb.next_rt, Vb.next_bk, Vb.next_ct, Vb.fin_then, Vb.fin_rt, Vb.fin_nx, Vb.opt_some, Vb.cb_fn, Vb.cb_cls, Vb.gl0, Vb.gls, List.getElem?_cons_zero, List.getElem?_cons_succ, List.set_cons_zero, List.set_cons_succ, Vb.storeTg, Vb.storeAll, Option.map_some, List.length_cons, List.length_nil, Nat.zero_add, Nat.reduceAdd, Vb.ln0, Vb.ln1, Vb.ln2, Vb.ln3, Vb.ln4, Vb.ln5, Vb.ln6, if_true, Vb.newObj, Vb.it_tup, Vb.it_ref, Vb.it_str, Vb.ty_join, Vb.ty_split, Vb.ty_append, Vb.ty_extend, Vb.ty_pop, Option.isSome_some, List.map_cons, List.map_nil, Bool.false_eq_true, if_false, Vb.tr_bl, Vb.wipeL, decide_true, decide_false, Bool.not_true, Bool.not_false, Vb.b_add, Vb.b_sub, Vb.c_lt, Vb.c_le, Vb.c_gt, Vb.c_ge, Vb.c_eq_int, Vb.c_ne_int, Vb.c_isn_non, Vb.c_isn_int, Vb.c_isn_tup, Vb.c_notn_non, Vb.c_notn_int, Vb.c_notn_tup, Vb.ix_tup, Vb.bi_list_tup, Vb.isi_int_non, Vb.isi_int_bl, Vb.isi_int_int, Vb.isi_int_str, Vb.isi_int_tup, Vb.isi_int_ref, Vb.isi_bool_non, Vb.isi_bool_bl, Vb.isi_bool_int, Vb.isi_bool_str, Vb.isi_bool_tup, Vb.isi_bool_ref, Vb.isi_str_non, Vb.isi_str_bl, Vb.isi_str_int, Vb.isi_str_str, Vb.isi_str_tup, Vb.isi_str_ref, Vb.isi_tup_non, Vb.isi_tup_bl, Vb.isi_tup_int, Vb.isi_tup_str, Vb.isi_tup_tup, Vb.isi_tup_ref, Vb.isi_lst_non, Vb.isi_lst_bl, Vb.isi_lst_int, Vb.isi_lst_str, Vb.isi_lst_tup, Vb.isi_lst_ref, me4 d3]
    have dr2 : (rowsP (.tup [.str "parts", .tup bs, .tup gs])).drop (1 + (bs.flatMap rows1).length) = gs.flatMap rows1 ++ [] := by
      rw [← List.drop_drop, dr, List.drop_left, List.append_nil]
    have ln2 : 1 + (bs.flatMap rows1).length ≤ (rowsP (.tup [.str "parts", .tup bs, .tup gs])).length := by rw [e]; simp; omega
    refine Ok.bind (sp17 (n := n + 1) d3 dr2 (fun p hp => .inr (.inr ⟨rfl, hg p hp⟩)) okS (.inl rfl) few ln2 lg) ?_
    rintro _ h4 ⟨rfl, d4, k4⟩
    have ee : 1 + (bs.flatMap rows1).length + (gs.flatMap rows1).length = (rowsP (.tup [.str "parts", .tup bs, .tup gs])).length := by rw [e]; simp; omega
    rw [ee] at d4
    try simp only [Vb.execs, Vb.exec, Vb.evalE, Vb.evalEs, Vb.evalT, Vb.evalI, Vb.evalO, Vb.evalOT, Vb.asgS, Vb.bind_ok, Vb.bind_assoc, Vb.then_ok, Vb.then_bind, Vb.next_then, Vb.next_next, Vb.next_nx, Vb.next_rt, Vb.next_bk, Vb.next_ct, Vb.fin_then, Vb.fin_rt, Vb.fin_nx, Vb.opt_some, Vb.cb_fn, Vb.cb_cls, Vb.gl0, Vb.gls, List.getElem?_cons_zero, List.getElem?_cons_succ, List.set_cons_zero, List.set_cons_succ, Vb.storeTg, Vb.storeAll, Option.map_some, List.length_cons, List.length_nil, Nat.zero_add, Nat.reduceAdd, Vb.ln0, Vb.ln1, Vb.ln2, Vb.ln3, Vb.ln4, Vb.ln5, Vb.ln6, if_true, Vb.newObj, Vb.it_tup, Vb.it_ref, Vb.it_str, Vb.ty_join, Vb.ty_split, Vb.ty_append, Vb.ty_extend, Vb.ty_pop, Option.isSome_some, List.map_cons, List.map_nil, Bool.false_eq_true, if_false, Vb.tr_bl, Vb.wipeL, decide_true, decide_false, Bool.not_true, Bool.not_false, Vb.b_add, Vb.b_sub, Vb.c_lt, Vb.c_le, Vb.c_gt, Vb.c_ge, Vb.c_eq_int, Vb.c_ne_int, Vb.c_isn_non, Vb.c_isn_int, Vb.c_isn_tup, Vb.c_notn_non, Vb.c_notn_int, Vb.c_notn_tup, Vb.ix_tup, Vb.bi_list_tup, Vb.isi_int_non, Vb.isi_int_bl, Vb.isi_int_int, Vb.isi_int_str, Vb.isi_int_tup, Vb.isi_int_ref, Vb.isi_bool_non, Vb.isi_bool_bl, Vb.isi_bool_int, Vb.isi_bool_str, Vb.isi_bool_tup, Vb.isi_bool_ref, Vb.isi_str_non, Vb.isi_str_bl, Vb.isi_str_int, Vb.isi_str_str, Vb.isi_str_tup, Vb.isi_str_ref, Vb.isi_tup_non, Vb.isi_tup_bl, Vb.isi_tup_int, Vb.isi_tup_str, Vb.isi_tup_tup, Vb.isi_tup_ref, Vb.isi_lst_non, Vb.isi_lst_bl, Vb.isi_lst_int, Vb.isi_lst_str, Vb.isi_lst_tup, Vb.isi_lst_ref, me1 d4, me0 d4, sp13 (n := n + 7) d4, decide_eq_true (rfl : (rowsP (.tup [.str "parts", .tup bs, .tup gs])).length = (rowsP (.tup [.str "parts", .tup bs, .tup gs])).length), sp14 (n := n + 7)]
    exact .ret ⟨rfl, (k1.go k3 front).go k4 front⟩
end V87

set_option Elab.async false
set_option linter.all false
set_option maxRecDepth 100000
set_option maxHeartbeats 2000000
namespace V87
open PySem Vb
def brk : PV → List Str
  | .tup [b, o, .str k, g] => [breakS b o g k]
  | _ => []
theorem rowsR_eq {vs : List PV} {f : PV} (hf : IsFound f) : rowsR vs f = ("run" : Str) :: (stR vs ++ brk f) := by
  rcases hf with rfl | ⟨b, o, k, g, rfl, _⟩
  · simp [rowsR, brk]
  · rfl
theorem rowsR_ok {vs : List PV} {f : PV} (hs : States vs) (hf : IsFound f) : RowsOk (rowsR vs f) := by
  have le := rowsR_le hs hf
  refine ⟨by rw [rowsR_eq hf]; simp, ?_, by omega, le.2⟩
  rw [rowsR_eq hf]
  intro r hr
  rcases List.mem_cons.mp hr with rfl | hr
  · decide +kernel
  · rcases List.mem_append.mp hr with hr | hr
    · obtain ⟨v, hv, rfl⟩ := List.mem_map.mp hr
      exact txt_free (hs.2 v hv)
    · rcases hf with rfl | ⟨b, o, k, g, rfl, hb, ho, hk, hg⟩
      · cases hr
      · rw [List.mem_singleton.mp hr]
        exact break_free hb ho hg hk
theorem sp20 {n : Nat} {h : MH} {vs : List PV} {f : PV} (hs : States vs) (hf : IsFound f) : Ok (callF Pr (n + 9) 20 [.str (txtR vs f)] h) fun r h' => ∃ L, r = .tup [.ref L, f] ∧ h.length ≤ L ∧ h'[L]? = some (.lst vs) ∧ Keep [] h h' := by
  have ok := rowsR_ok hs hf
  have re := rowsR_eq (vs := vs) hf
  have few := ok.few
  rw [callF_at (d := d20) rfl rfl]
  show Ok (finF (Vb.execs (cbK Pr (n + 8)) Pr.xt Pr.wl b20 [some (.str (txtR vs f)), none, none, none] h)) _
  unfold b20
  rw [exs_cons, ex_asg, next_then, fin_then]
  refine Ok.bind (mk_ (n := n + 6) ok rfl) ?_
  rintro _ h1 ⟨R, q, rfl, hR, hq, d, k⟩
  have front : ∀ x ∈ [R], x ∈ ([] : List Nat) ∨ h.length ≤ x := fun x hx => .inr (by rw [List.mem_singleton.mp hx]; exact hR)
  have g0 : (rowsR vs f)[0]? = some ("run" : Str) := by rw [re]; rfl
  have i0 : idxS (.ref q) (.int 0) h1 = some (.str "run") := ix_row (a := 0) d.rw_ g0
  have sa : setAttrS (cbK Pr (n + 8)) R 1 (.int 1) h1 = some (h1.set R (.ins 0 [(0, .ref q), (1, .int 1)])) := set_at1 d 1
  try simp only [Vb.execs, Vb.exec, Vb.evalE, Vb.evalEs, Vb.evalT, Vb.evalI, Vb.evalO, Vb.evalOT, Vb.asgS, Vb.bind_ok, Vb.bind_assoc, Vb.then_ok, Vb.then_bind, Vb.next_then, Vb.next_next, Vb.next_nx, Vb.next_rt, Vb.next_bk, Vb.next_ct, Vb.fin_then, Vb.fin_rt, Vb.fin_nx, Vb.opt_some, Vb.cb_fn, Vb.cb_cls, Vb.gl0, Vb.gls, List.getElem?_cons_zero, List.getElem?_cons_succ, List.set_cons_zero, List.set_cons_succ, Vb.storeTg, Vb.storeAll, Option.map_some, List.length_cons, List.length_nil, Nat.zero_add, Nat.reduceAdd, Vb.ln0, Vb.ln1, Vb.ln2, Vb.ln3, Vb.ln4, Vb.ln5, Vb.ln6, if_true, Vb.newObj, Vb.it_tup, Vb.it_ref, Vb.it_str, Vb.ty_join, Vb.ty_split, Vb.ty_append, Vb.ty_extend, Vb.ty_pop, Option.isSome_some, List.map_cons, List.map_nil, Bool.false_eq_true, if_false, Vb.tr_bl, Vb.wipeL, decide_true, decide_false, Bool.not_true, Bool.not_false, Vb.b_add, Vb.b_sub, Vb.c_lt, Vb.c_le, Vb.c_gt, Vb.c_ge, Vb.c_eq_int, Vb.c_ne_int, Vb.c_isn_non, Vb.c_isn_int, Vb.c_isn_tup, Vb.c_notn_non, Vb.c_notn_int, Vb.c_notn_tup, Vb.ix_tup, Vb.bi_list_tup, Vb.isi_int_non, Vb.isi_int_bl, Vb.isi_int_int, Vb.isi_int_str, Vb.isi_int_tup, Vb.isi_int_ref, Vb.isi_bool_non, Vb.isi_bool_bl, Vb.isi_bool_int, Vb.isi_bool_str, Vb.isi_bool_tup, Vb.isi_bool_ref, Vb.isi_str_non, Vb.isi_str_bl, Vb.isi_str_int, Vb.isi_str_str, Vb.isi_str_tup, Vb.isi_str_ref, Vb.isi_tup_non, Vb.isi_tup_bl, Vb.isi_tup_int, Vb.isi_tup_str, Vb.isi_tup_tup, Vb.isi_tup_ref, Vb.isi_lst_non, Vb.isi_lst_bl, Vb.isi_lst_int, Vb.isi_lst_str, Vb.isi_lst_tup, Vb.isi_lst_ref, me1 d, at_rows d, i0, c_eq_str (okS (x := "run")) (okS (x := "run")), decide_eq_true (rfl : ("run" : Str) = "run"), sp14 (n := n + 7), sa]
  have d1 : Rd R q (rowsR vs f) 1 (h1.set R (.ins 0 [(0, .ref q), (1, .int 1)])) := d.move (b := 1)
  have k1 : Keep [] h (h1.set R (.ins 0 [(0, .ref q), (1, .int 1)])) := k.put (.inr hR) _
  generalize h1.set R (.ins 0 [(0, .ref q), (1, .int 1)]) = h2 at d1 k1
  try simp only [Vb.execs, Vb.exec, Vb.evalE, Vb.evalEs, Vb.evalT, Vb.evalI, Vb.evalO, Vb.evalOT, Vb.asgS, Vb.bind_ok, Vb.bind_assoc, Vb.then_ok, Vb.then_bind, Vb.next_then, Vb.next_next, Vb.next_nx, Vb.next_rt, Vb.next_bk, Vb.next_ct, Vb.fin_then, Vb.fin_rt, Vb.fin_nx, Vb.opt_some, Vb.cb_fn, Vb.cb_cls, Vb.gl0, Vb.gls, List.getElem?_cons_zero, List.getElem?_cons_succ, List.set_cons_zero, List.set_cons_succ, Vb.storeTg, Vb.storeAll, Option.map_some, List.length_cons, List.length_nil, Nat.zero_add, Nat.reduceAdd, Vb.ln0, Vb.ln1, Vb.ln2, Vb.ln3, Vb.ln4, Vb.ln5, Vb.ln6, if_true, Vb.newObj, Vb.it_tup, Vb.it_ref, Vb.it_str, Vb.ty_join, Vb.ty_split, Vb.ty_append, Vb.ty_extend, Vb.ty_pop, Option.isSome_some, List.map_cons, List.map_nil, Bool.false_eq_true, if_false, Vb.tr_bl, Vb.wipeL, decide_true, decide_false, Bool.not_true, Bool.not_false, Vb.b_add, Vb.b_sub, Vb.c_lt, Vb.c_le, Vb.c_gt, Vb.c_ge, Vb.c_eq_int, Vb.c_ne_int, Vb.c_isn_non, Vb.c_isn_int, Vb.c_isn_tup, Vb.c_notn_non, Vb.c_notn_int, Vb.c_notn_tup, Vb.ix_tup, Vb.bi_list_tup, Vb.isi_int_non, Vb.isi_int_bl, Vb.isi_int_int, Vb.isi_int_str, Vb.isi_int_tup, Vb.isi_int_ref, Vb.isi_bool_non, Vb.isi_bool_bl, Vb.isi_bool_int, Vb.isi_bool_str, Vb.isi_bool_tup, Vb.isi_bool_ref, Vb.isi_str_non, Vb.isi_str_bl, Vb.isi_str_int, Vb.isi_str_str, Vb.isi_str_tup, Vb.isi_str_ref, Vb.isi_tup_non, Vb.isi_tup_bl, Vb.isi_tup_int, Vb.isi_tup_str, Vb.isi_tup_tup, Vb.isi_tup_ref, Vb.isi_lst_non, Vb.isi_lst_bl, Vb.isi_lst_int, Vb.isi_lst_str, Vb.isi_lst_tup, Vb.isi_lst_ref, me2 d1]
  have dr : (rowsR vs f).drop 1 = stR vs ++ brk f := by rw [re]; rfl
  have ln : 1 ≤ (rowsR vs f).length := by rw [re]; simp
  have rs : Rest (brk f) := by
    rcases hf with rfl | ⟨b, o, k, g, rfl, hb, ho, hk, hg⟩
    · exact .inl rfl
    · exact .inr ⟨_, [], rfl, fw_bad (fw_break hb ho hg hk) (by decide +kernel) (by decide +kernel)⟩
  refine Ok.bind (sp15 (n := n + 3) d1 dr hs rs few ln) ?_
  rintro _ h3 ⟨rfl, d3, k3⟩
  try simp only [Vb.execs, Vb.exec, Vb.evalE, Vb.evalEs, Vb.evalT, Vb.evalI, Vb.evalO, Vb.evalOT, Vb.asgS, Vb.bind_ok, Vb.bind_assoc, Vb.then_ok, Vb.then_bind, Vb.next_then, Vb.next_next, Vb.next_nx, Vb.next_rt, Vb.next_bk, Vb.next_ct, Vb.fin_then, Vb.fin_rt, Vb.fin_nx, Vb.opt_some, Vb.cb_fn, Vb.cb_cls, Vb.gl0, Vb.gls, List.getElem?_cons_zero, List.getElem?_cons_succ, List.set_cons_zero, List.set_cons_succ, Vb.storeTg, Vb.storeAll, Option.map_some, List.length_cons, List.length_nil, Nat.zero_add, Nat.reduceAdd, Vb.ln0, Vb.ln1, Vb.ln2, Vb.ln3, Vb.ln4, Vb.ln5, Vb.ln6, if_true, Vb.newObj, Vb.it_tup, Vb.it_ref, Vb.it_str, Vb.ty_join, Vb.ty_split, Vb.ty_append, Vb.ty_extend, Vb.ty_pop, Option.isSome_some, List.map_cons, List.map_nil, Bool.false_eq_true, if_false, Vb.tr_bl, Vb.wipeL, decide_true, decide_false, Bool.not_true, Bool.not_false, Vb.b_add, Vb.b_sub, Vb.c_lt, Vb.c_le, Vb.c_gt, Vb.c_ge, Vb.c_eq_int, Vb.c_ne_int, Vb.c_isn_non, Vb.c_isn_int, Vb.c_isn_tup, Vb.c_notn_non, Vb.c_notn_int, Vb.c_notn_tup, Vb.ix_tup, Vb.bi_list_tup, Vb.isi_int_non, Vb.isi_int_bl, Vb.isi_int_int, Vb.isi_int_str, Vb.isi_int_tup, Vb.isi_int_ref, Vb.isi_bool_non, Vb.isi_bool_bl, Vb.isi_bool_int, Vb.isi_bool_str, Vb.isi_bool_tup, Vb.isi_bool_ref, Vb.isi_str_non, Vb.isi_str_bl, Vb.isi_str_int, Vb.isi_str_str, Vb.isi_str_tup, Vb.isi_str_ref, Vb.isi_tup_non, Vb.isi_tup_bl, Vb.isi_tup_int, Vb.isi_tup_str, Vb.isi_tup_tup, Vb.isi_tup_ref, Vb.isi_lst_non, Vb.isi_lst_bl, Vb.isi_lst_int, Vb.isi_lst_str, Vb.isi_lst_tup, Vb.isi_lst_ref]
  have k4 : Keep [] h (h3 ++ [MO.lst vs]) := (k1.go k3 front).trans (.push _)
  have e4 : (h3 ++ [MO.lst vs])[h3.length]? = some (.lst vs) := get_new
  have d4 : Rd R q (rowsR vs f) (1 + vs.length) (h3 ++ [MO.lst vs]) := d3.keep (S := []) (.push _) (by simp) (by simp)
  have nl : h.length ≤ h3.length := by have a := k1.len; have b := k3.len; omega
  have nR : h3.length ≠ R := by have := lt_of_get d3.ob; omega
  generalize h3 ++ [MO.lst vs] = h4 at k4 e4 d4
  generalize h3.length = L at e4 nl nR
  try simp only [Vb.execs, Vb.exec, Vb.evalE, Vb.evalEs, Vb.evalT, Vb.evalI, Vb.evalO, Vb.evalOT, Vb.asgS, Vb.bind_ok, Vb.bind_assoc, Vb.then_ok, Vb.then_bind, Vb.next_then, Vb.next_next, Vb.next_nx, Vb.next_rt, Vb.next_bk, Vb.next_ct, Vb.fin_then, Vb.fin_rt, Vb.fin_nx, Vb.opt_some, Vb.cb_fn, Vb.cb_cls, Vb.gl0, Vb.gls, List.getElem?_cons_zero, List.getElem?_cons_succ, List.set_cons_zero, List.set_cons_succ, Vb.storeTg, Vb.storeAll, Option.map_some, List.length_cons, List.length_nil, Nat.zero_add, Nat.reduceAdd, Vb.ln0, Vb.ln1, Vb.ln2, Vb.ln3, Vb.ln4, Vb.ln5, Vb.ln6, if_true, Vb.newObj, Vb.it_tup, Vb.it_ref, Vb.it_str, Vb.ty_join, Vb.ty_split, Vb.ty_append, Vb.ty_extend, Vb.ty_pop, Option.isSome_some, List.map_cons, List.map_nil, Bool.false_eq_true, if_false, Vb.tr_bl, Vb.wipeL, decide_true, decide_false, Bool.not_true, Bool.not_false, Vb.b_add, Vb.b_sub, Vb.c_lt, Vb.c_le, Vb.c_gt, Vb.c_ge, Vb.c_eq_int, Vb.c_ne_int, Vb.c_isn_non, Vb.c_isn_int, Vb.c_isn_tup, Vb.c_notn_non, Vb.c_notn_int, Vb.c_notn_tup, Vb.ix_tup, Vb.bi_list_tup, Vb.isi_int_non, Vb.isi_int_bl, Vb.isi_int_int, Vb.isi_int_str, Vb.isi_int_tup, Vb.isi_int_ref, Vb.isi_bool_non, Vb.isi_bool_bl, Vb.isi_bool_int, Vb.isi_bool_str, Vb.isi_bool_tup, Vb.isi_bool_ref, Vb.isi_str_non, Vb.isi_str_bl, Vb.isi_str_int, Vb.isi_str_str, Vb.isi_str_tup, Vb.isi_str_ref, Vb.isi_tup_non, Vb.isi_tup_bl, Vb.isi_tup_int, Vb.isi_tup_str, Vb.isi_tup_tup, Vb.isi_tup_ref, Vb.isi_lst_non, Vb.isi_lst_bl, Vb.isi_lst_int, Vb.isi_lst_str, Vb.isi_lst_tup, Vb.isi_lst_ref, me0 d4, sp13 (n := n + 7) d4]
  have len : (rowsR vs f).length = 1 + vs.length + (brk f).length := by rw [re]; simp [stR]; omega
  rcases hf with rfl | ⟨b, o, kd, g, rfl, hb, ho, hk, hg⟩
  · have ee : 1 + vs.length = (rowsR vs .non).length := by rw [len]; rfl
    rw [ee] at d4
    rw [decide_eq_true ee]
    try simp only [Vb.execs, Vb.exec, Vb.evalE, Vb.evalEs, Vb.evalT, Vb.evalI, Vb.evalO, Vb.evalOT, Vb.asgS, Vb.bind_ok, Vb.bind_assoc, Vb.then_ok, Vb.then_bind, Vb.next_then, Vb.next_next, Vb.next_nx, Vb.next_rt, Vb.next_bk, Vb.next_ct, Vb.fin_then, Vb.fin_rt, Vb.fin_nx, Vb.opt_some, Vb.cb_fn, Vb.cb_cls, Vb.gl0, Vb.gls, List.getElem?_cons_zero, List.getElem?_cons_succ, List.set_cons_zero, List.set_cons_succ, Vb.storeTg, Vb.storeAll, Option.map_some, List.length_cons, List.length_nil, Nat.zero_add, Nat.reduceAdd, Vb.ln0, Vb.ln1, Vb.ln2, Vb.ln3, Vb.ln4, Vb.ln5, Vb.ln6, if_true, Vb.newObj, Vb.it_tup, Vb.it_ref, Vb.it_str, Vb.ty_join, Vb.ty_split, Vb.ty_append, Vb.ty_extend, Vb.ty_pop, Option.isSome_some, List.map_cons, List.map_nil, Bool.false_eq_true, if_false, Vb.tr_bl, Vb.wipeL, decide_true, decide_false, Bool.not_true, Bool.not_false, Vb.b_add, Vb.b_sub, Vb.c_lt, Vb.c_le, Vb.c_gt, Vb.c_ge, Vb.c_eq_int, Vb.c_ne_int, Vb.c_isn_non, Vb.c_isn_int, Vb.c_isn_tup, Vb.c_notn_non, Vb.c_notn_int, Vb.c_notn_tup, Vb.ix_tup, Vb.bi_list_tup, Vb.isi_int_non, Vb.isi_int_bl, Vb.isi_int_int, Vb.isi_int_str, Vb.isi_int_tup, Vb.isi_int_ref, Vb.isi_bool_non, Vb.isi_bool_bl, Vb.isi_bool_int, Vb.isi_bool_str, Vb.isi_bool_tup, Vb.isi_bool_ref, Vb.isi_str_non, Vb.isi_str_bl, Vb.isi_str_int, Vb.isi_str_str, Vb.isi_str_tup, Vb.isi_str_ref, Vb.isi_tup_non, Vb.isi_tup_bl, Vb.isi_tup_int, Vb.isi_tup_str, Vb.isi_tup_tup, Vb.isi_tup_ref, Vb.isi_lst_non, Vb.isi_lst_bl, Vb.isi_lst_int, Vb.isi_lst_str, Vb.isi_lst_tup, Vb.isi_lst_ref, me1 d4, me0 d4, sp13 (n := n + 7) d4, decide_eq_true (rfl : (rowsR vs .non).length = (rowsR vs .non).length), sp14 (n := n + 7)]
    exact .ret ⟨L, rfl, nl, e4, k4⟩
  · have lb : (brk (.tup [b, o, .str kd, g])).length = 1 := rfl
    rw [decide_eq_false (by omega)]
    have g1 : (rowsR vs (.tup [b, o, .str kd, g]))[1 + vs.length]? = some (breakS b o g kd) := by
      rw [re]
      have : 1 + vs.length = (stR vs).length + 1 := by simp [stR]; omega
      rw [this, List.getElem?_cons_succ, List.getElem?_append_right (Nat.le_refl _)]
      simp [brk]
    try simp only [Vb.execs, Vb.exec, Vb.evalE, Vb.evalEs, Vb.evalT, Vb.evalI, Vb.evalO, Vb.evalOT, Vb.asgS, Vb.bind_ok, Vb.bind_assoc, Vb.then_ok, Vb.then_bind, Vb.next_then, Vb.next_next, Vb.next_nx, Vb.next_rt, Vb.next_bk, Vb.next_ct, Vb.fin_then, Vb.fin_rt, Vb.fin_nx, Vb.opt_some, Vb.cb_fn, Vb.cb_cls, Vb.gl0, Vb.gls, List.getElem?_cons_zero, List.getElem?_cons_succ, List.set_cons_zero, List.set_cons_succ, Vb.storeTg, Vb.storeAll, Option.map_some, List.length_cons, List.length_nil, Nat.zero_add, Nat.reduceAdd, Vb.ln0, Vb.ln1, Vb.ln2, Vb.ln3, Vb.ln4, Vb.ln5, Vb.ln6, if_true, Vb.newObj, Vb.it_tup, Vb.it_ref, Vb.it_str, Vb.ty_join, Vb.ty_split, Vb.ty_append, Vb.ty_extend, Vb.ty_pop, Option.isSome_some, List.map_cons, List.map_nil, Bool.false_eq_true, if_false, Vb.tr_bl, Vb.wipeL, decide_true, decide_false, Bool.not_true, Bool.not_false, Vb.b_add, Vb.b_sub, Vb.c_lt, Vb.c_le, Vb.c_gt, Vb.c_ge, Vb.c_eq_int, Vb.c_ne_int, Vb.c_isn_non, Vb.c_isn_int, Vb.c_isn_tup, Vb.c_notn_non, Vb.c_notn_int, Vb.c_notn_tup, Vb.ix_tup, Vb.bi_list_tup, Vb.isi_int_non, Vb.isi_int_bl, Vb.isi_int_int, Vb.isi_int_str, Vb.isi_int_tup, Vb.isi_int_ref, Vb.isi_bool_non, Vb.isi_bool_bl, Vb.isi_bool_int, Vb.isi_bool_str, Vb.isi_bool_tup, Vb.isi_bool_ref, Vb.isi_str_non, Vb.isi_str_bl, Vb.isi_str_int, Vb.isi_str_str, Vb.isi_str_tup, Vb.isi_str_ref, Vb.isi_tup_non, Vb.isi_tup_bl, Vb.isi_tup_int, Vb.isi_tup_str, Vb.isi_tup_tup, Vb.isi_tup_ref, Vb.isi_lst_non, Vb.isi_lst_bl, Vb.isi_lst_int, Vb.isi_lst_str, Vb.isi_lst_tup, Vb.isi_lst_ref, at_rows d4, at_at d4, ix_row d4.rw_ g1]
    refine Ok.bind (sp11 (n := n + 3) hb ho hg hk) ?_
    rintro _ h5 ⟨rfl, k5⟩
    have d5 := d4.keep k5 (by simp) (by simp)
    have e5 := k5.get e4 (by simp)
    try simp only [Vb.execs, Vb.exec, Vb.evalE, Vb.evalEs, Vb.evalT, Vb.evalI, Vb.evalO, Vb.evalOT, Vb.asgS, Vb.bind_ok, Vb.bind_assoc, Vb.then_ok, Vb.then_bind, Vb.next_then, Vb.next_next, Vb.next_nx, Vb.next_rt, Vb.next_bk, Vb.next_ct, Vb.fin_then, Vb.fin_rt, Vb.fin_nx, Vb.opt_some, Vb.cb_fn, Vb.cb_cls, Vb.gl0, Vb.gls, List.getElem?_cons_zero, List.getElem?_cons_succ, List.set_cons_zero, List.set_cons_succ, Vb.storeTg, Vb.storeAll, Option.map_some, List.length_cons, List.length_nil, Nat.zero_add, Nat.reduceAdd, Vb.ln0, Vb.ln1, Vb.ln2, Vb.ln3, Vb.ln4, Vb.ln5, Vb.ln6, if_true, Vb.newObj, Vb.it_tup, Vb.it_ref, Vb.it_str, Vb.ty_join, Vb.ty_split, Vb.ty_append, Vb.ty_extend, Vb.ty_pop, Option.isSome_some, List.map_cons, List.map_nil, Bool.false_eq_true, if_false, Vb.tr_bl, Vb.wipeL, decide_true, decide_false, Bool.not_true, Bool.not_false, Vb.b_add, Vb.b_sub, Vb.c_lt, Vb.c_le, Vb.c_gt, Vb.c_ge, Vb.c_eq_int, Vb.c_ne_int, Vb.c_isn_non, Vb.c_isn_int, Vb.c_isn_tup, Vb.c_notn_non, Vb.c_notn_int, Vb.c_notn_tup, Vb.ix_tup, Vb.bi_list_tup, Vb.isi_int_non, Vb.isi_int_bl, Vb.isi_int_int, Vb.isi_int_str, Vb.isi_int_tup, Vb.isi_int_ref, Vb.isi_bool_non, Vb.isi_bool_bl, Vb.isi_bool_int, Vb.isi_bool_str, Vb.isi_bool_tup, Vb.isi_bool_ref, Vb.isi_str_non, Vb.isi_str_bl, Vb.isi_str_int, Vb.isi_str_str, Vb.isi_str_tup, Vb.isi_str_ref, Vb.isi_tup_non, Vb.isi_tup_bl, Vb.isi_tup_int, Vb.isi_tup_str, Vb.isi_tup_tup, Vb.isi_tup_ref, Vb.isi_lst_non, Vb.isi_lst_bl, Vb.isi_lst_int, Vb.isi_lst_str, Vb.isi_lst_tup, Vb.isi_lst_ref, me1 d5, sp14 (n := n + 7)]
    have ea := aug_at (n := n + 8) (lo := [some (.str (txtR vs (.tup [b, o, .str kd, g]))), some (.ref R), some (.ref L), some (.tup [b, o, .str kd, g])]) (o := .var 1) d5 rfl
    rw [Vb.exec] at ea
    simp only [Vb.evalE, Vb.gl0, Vb.gls, Vb.opt_some, Vb.then_ok] at ea
    rw [ea]
    try simp only [Vb.execs, Vb.exec, Vb.evalE, Vb.evalEs, Vb.evalT, Vb.evalI, Vb.evalO, Vb.evalOT, Vb.asgS, Vb.bind_ok, Vb.bind_assoc, Vb.then_ok, Vb.then_bind, Vb.next_then, Vb.next_next, Vb.next_nx, Vb.next_rt, Vb.next_bk, Vb.next_ct, Vb.fin_then, Vb.fin_rt, Vb.fin_nx, Vb.opt_some, Vb.cb_fn, Vb.cb_cls, Vb.gl0, Vb.gls, List.getElem?_cons_zero, List.getElem?_cons_succ, List.set_cons_zero, List.set_cons_succ, Vb.storeTg, Vb.storeAll, Option.map_some, List.length_cons, List.length_nil, Nat.zero_add, Nat.reduceAdd, Vb.ln0, Vb.ln1, Vb.ln2, Vb.ln3, Vb.ln4, Vb.ln5, Vb.ln6, if_true, Vb.newObj, Vb.it_tup, Vb.it_ref, Vb.it_str, Vb.ty_join, Vb.ty_split, Vb.ty_append, Vb.ty_extend, Vb.ty_pop, Option.isSome_some, List.map_cons, List.map_nil, Bool.false_eq_true, if_false, Vb.tr_bl, Vb.wipeL, decide_true, decide_false, Bool.not_true, Bool.not_false, Vb.b_add, Vb.b_sub, Vb.c_lt, Vb.c_le, Vb.c_gt, Vb.c_ge, Vb.c_eq_int, Vb.c_ne_int, Vb.c_isn_non, Vb.c_isn_int, Vb.c_isn_tup, Vb.c_notn_non, Vb.c_notn_int, Vb.c_notn_tup, Vb.ix_tup, Vb.bi_list_tup, Vb.isi_int_non, Vb.isi_int_bl, Vb.isi_int_int, Vb.isi_int_str, Vb.isi_int_tup, Vb.isi_int_ref, Vb.isi_bool_non, Vb.isi_bool_bl, Vb.isi_bool_int, Vb.isi_bool_str, Vb.isi_bool_tup, Vb.isi_bool_ref, Vb.isi_str_non, Vb.isi_str_bl, Vb.isi_str_int, Vb.isi_str_str, Vb.isi_str_tup, Vb.isi_str_ref, Vb.isi_tup_non, Vb.isi_tup_bl, Vb.isi_tup_int, Vb.isi_tup_str, Vb.isi_tup_tup, Vb.isi_tup_ref, Vb.isi_lst_non, Vb.isi_lst_bl, Vb.isi_lst_int, Vb.isi_lst_str, Vb.isi_lst_tup, Vb.isi_lst_ref]
    have d6 : Rd R q (rowsR vs (.tup [b, o, .str kd, g])) (1 + vs.length + 1) (h5.set R (.ins 0 [(0, .ref q), (1, .int (1 + vs.length + 1 : Nat))])) := d5.move
    have e6 : (h5.set R (.ins 0 [(0, .ref q), (1, .int (1 + vs.length + 1 : Nat))]))[L]? = some (.lst vs) := get_put e5 nR
    have k6 : Keep [] h (h5.set R (.ins 0 [(0, .ref q), (1, .int (1 + vs.length + 1 : Nat))])) := (k4.trans k5).put (.inr hR) _
    generalize h5.set R (.ins 0 [(0, .ref q), (1, .int (1 + vs.length + 1 : Nat))]) = h6 at d6 e6 k6
    try simp only [Vb.execs, Vb.exec, Vb.evalE, Vb.evalEs, Vb.evalT, Vb.evalI, Vb.evalO, Vb.evalOT, Vb.asgS, Vb.bind_ok, Vb.bind_assoc, Vb.then_ok, Vb.then_bind, Vb.next_then, Vb.next_next, Vb.next_nx, Vb.next_rt, Vb.next_bk, Vb.next_ct, Vb.fin_then, Vb.fin_rt, Vb.fin_nx, Vb.opt_some, Vb.cb_fn, Vb.cb_cls, Vb.gl0, Vb.gls, List.getElem?_cons_zero, List.getElem?_cons_succ, List.set_cons_zero, List.set_cons_succ, Vb.storeTg, Vb.storeAll, Option.map_some, List.length_cons, List.length_nil, Nat.zero_add, Nat.reduceAdd, Vb.ln0, Vb.ln1, Vb.ln2, Vb.ln3, Vb.ln4, Vb.ln5, Vb.ln6, if_true, Vb.newObj, Vb.it_tup, Vb.it_ref, Vb.it_str, Vb.ty_join, Vb.ty_split, Vb.ty_append, Vb.ty_extend, Vb.ty_pop, Option.isSome_some, List.map_cons, List.map_nil, Bool.false_eq_true, if_false, Vb.tr_bl, Vb.wipeL, decide_true, decide_false, Bool.not_true, Bool.not_false, Vb.b_add, Vb.b_sub, Vb.c_lt, Vb.c_le, Vb.c_gt, Vb.c_ge, Vb.c_eq_int, Vb.c_ne_int, Vb.c_isn_non, Vb.c_isn_int, Vb.c_isn_tup, Vb.c_notn_non, Vb.c_notn_int, Vb.c_notn_tup, Vb.ix_tup, Vb.bi_list_tup, Vb.isi_int_non, Vb.isi_int_bl, Vb.isi_int_int, Vb.isi_int_str, Vb.isi_int_tup, Vb.isi_int_ref, Vb.isi_bool_non, Vb.isi_bool_bl, Vb.isi_bool_int, Vb.isi_bool_str, Vb.isi_bool_tup, Vb.isi_bool_ref, Vb.isi_str_non, Vb.isi_str_bl, Vb.isi_str_int, Vb.isi_str_str, Vb.isi_str_tup, Vb.isi_str_ref, Vb.isi_tup_non, Vb.isi_tup_bl, Vb.isi_tup_int, Vb.isi_tup_str, Vb.isi_tup_tup, Vb.isi_tup_ref, Vb.isi_lst_non, Vb.isi_lst_bl, Vb.isi_lst_int, Vb.isi_lst_str, Vb.isi_lst_tup, Vb.isi_lst_ref, me1 d6, me0 d6, sp13 (n := n + 7) d6, decide_eq_true (show 1 + vs.length + 1 = (rowsR vs (.tup [b, o, .str kd, g])).length by omega), sp14 (n := n + 7)]
    exact .ret ⟨L, rfl, nl, e6, k6⟩
end V87

set_option Elab.async false
set_option linter.all false
set_option maxRecDepth 100000
set_option maxHeartbeats 2000000
namespace V87
open PySem Vb
theorem ok_app {x y : Str} (a : PyData.strOk x = true) (b : PyData.strOk y = true) : PyData.strOk (x ++ y) = true := ok_tl fun c hc => by
  rw [TL.tl_append] at hc
  unfold PyData.strOk at a b
  rw [Array.all_eq_true'] at a b
  rcases List.mem_append.mp hc with hc | hc
  · exact of_decide_eq_true (a c (by simpa [TL.tl] using hc))
  · exact of_decide_eq_true (b c (by simpa [TL.tl] using hc))
theorem ok_join {s : Str} {ws : List Str} (a : PyData.strOk s = true) (b : ∀ w ∈ ws, PyData.strOk w = true) : PyData.strOk (Txt.join s ws) = true := ok_tl fun c hc => by
  rcases mem_join hc with z | ⟨w, hw, z⟩
  · unfold PyData.strOk at a
    rw [Array.all_eq_true'] at a
    exact of_decide_eq_true (a c (by simpa [TL.tl] using z))
  · have := b w hw
    unfold PyData.strOk at this
    rw [Array.all_eq_true'] at this
    exact of_decide_eq_true (this c (by simpa [TL.tl] using z))
theorem ok_txt {v : PV} (h : isT 8 v) : PyData.strOk (txt v) = true := ok_join okS fun w hw => by
  rcases wT_mem 8 v h w hw with rfl | rfl | ⟨i, rfl, i0, _⟩
  · exact okO
  · exact okC
  · exact ok_num i0
theorem ok_stR {vs : List PV} (hs : States vs) : ∀ w ∈ stR vs, PyData.strOk w = true := fun w hw => by
  obtain ⟨v, hv, rfl⟩ := List.mem_map.mp hw
  exact ok_txt (hs.2 v hv).2.1
theorem ok_head {o g : PV} (ho : Owner o) (hg : Small g) : PyData.strOk (headG o g) = true := ok_join okS fun w hw => by
  simp only [List.mem_cons, List.not_mem_nil, or_false] at hw
  rcases hw with rfl | rfl | rfl
  · exact okS
  · exact ok_own ho
  · exact ok_numP hg
theorem ok_break {b o g : PV} {k : Str} (hb : Small b) (ho : Owner o) (hg : Small g) (hk : k = "need" ∨ k = "promise") : PyData.strOk (breakS b o g k) = true := ok_join okS fun w hw => by
  simp only [List.mem_cons, List.not_mem_nil, or_false] at hw
  rcases hw with rfl | rfl | rfl | rfl | rfl
  · exact okS
  · exact ok_numP hb
  · exact ok_own ho
  · exact ok_kind hk
  · exact ok_numP hg
theorem ok_rows1 {p : PV} (h : IsOne p) : ∀ w ∈ rows1 p, PyData.strOk w = true := by
  have st : ∀ (x : Str) (vs : List PV), States vs → PyData.strOk x = true → ∀ w ∈ x :: stR vs, PyData.strOk w = true := fun x vs hs hx w hw => by
    rcases List.mem_cons.mp hw with rfl | hw
    · exact hx
    · exact ok_stR hs w hw
  rcases h with ⟨vs, rfl, hs⟩ | ⟨vs, rfl, hs⟩ | ⟨o, g, vs, rfl, ho, hg, hs⟩
  · exact st _ vs hs okS
  · exact st _ vs hs okS
  · exact st _ vs hs (ok_head ho hg)
theorem ok_txtP {p : PV} (hp : IsPaper p) : PyData.strOk (txtP p) = true := ok_join okS fun w hw => by
  rcases rowsP_cases hp with ⟨h1, e⟩ | ⟨bs, gs, rfl, _, _, hb, hg, e⟩
  · rw [e] at hw; exact ok_rows1 h1 w hw
  · rw [e] at hw
    rcases List.mem_cons.mp hw with rfl | hw
    · exact okS
    · obtain ⟨x, hx, hw⟩ := List.mem_flatMap.mp hw
      exact ok_rows1 (one_of_part hb hg x hx) w hw
theorem ok_txtR {vs : List PV} {f : PV} (hs : States vs) (hf : IsFound f) : PyData.strOk (txtR vs f) = true := ok_join okS fun w hw => by
  rw [rowsR_eq hf] at hw
  rcases List.mem_cons.mp hw with rfl | hw
  · exact okS
  · rcases List.mem_append.mp hw with hw | hw
    · exact ok_stR hs w hw
    · rcases hf with rfl | ⟨b, o, k, g, rfl, hb, ho, hk, hg⟩
      · cases hw
      · rw [List.mem_singleton.mp hw]; exact ok_break hb ho hg hk
/-! ### what repr shows -/
/-- data at depth n, that may be shown, of c signs at the most -/
structure HasD (h : MH) (n : Nat) (v : PV) (d : PyData) (c : Nat) : Prop where
  dat : data h n v = some d
  lay : d.canLay0 = true
  sho : d.showable = true
  len : d.shown.length + 2 ≤ c
  ok : PyData.strOk d.shown = true
inductive HasDs (h : MH) (n : Nat) : List PV → List PyData → Nat → Prop
  | nil : HasDs h n [] [] 0
  | cons {v : PV} {d : PyData} {c : Nat} {vs : List PV} {ds : List PyData} {cs : Nat} : HasD h n v d c → HasDs h n vs ds cs → HasDs h n (v :: vs) (d :: ds) (c + cs)
section
variable {h : MH} {n : Nat}
theorem HasDs.dat : ∀ {vs ds c}, HasDs h n vs ds c → optAll (data h n) vs = some ds
  | _, _, _, .nil => rfl
  | _, _, _, .cons a b => by simp only [optAll, a.dat, HasDs.dat b]
theorem HasDs.lay : ∀ {vs ds c}, HasDs h n vs ds c → PyData.canLayAll0 ds = true
  | _, _, _, .nil => rfl
  | _, _, _, .cons a b => by simp [PyData.canLayAll0, a.lay, HasDs.lay b]
theorem HasDs.sho : ∀ {vs ds c}, HasDs h n vs ds c → PyData.showableAll ds = true
  | _, _, _, .nil => rfl
  | _, _, _, .cons a b => by simp [PyData.showableAll, a.sho, HasDs.sho b]
theorem HasDs.len : ∀ {vs ds c}, HasDs h n vs ds c → ((PyData.shownAll ds).map (·.length)).sum + (PyData.shownAll ds).length * 2 ≤ c
  | _, _, _, .nil => by simp [PyData.shownAll]
  | _, _, _, .cons a b => by
    have := a.len
    have := HasDs.len b
    simp only [PyData.shownAll, List.map_cons, List.sum_cons, List.length_cons]
    omega
theorem HasDs.ok : ∀ {vs ds c}, HasDs h n vs ds c → ∀ w ∈ PyData.shownAll ds, PyData.strOk w = true
  | _, _, _, .nil => fun w hw => by simp [PyData.shownAll] at hw
  | _, _, _, .cons a b => fun w hw => by
    simp only [PyData.shownAll, List.mem_cons] at hw
    rcases hw with rfl | hw
    · exact a.ok
    · exact HasDs.ok b w hw
theorem HasD.tup {vs : List PV} {ds : List PyData} {c : Nat} (a : HasDs h n vs ds c) : HasD h (n + 1) (.tup vs) (.tuple ds) (c + 5) := by
  have el : ("(" : Str).length = 1 := by decide +kernel
  have e2 : ((",)" : String) : Str).length = 2 := by decide +kernel
  have e3 : ((")" : String) : Str).length = 1 := by decide +kernel
  have e4 : (", " : Str).length = 2 := by decide +kernel
  refine ⟨?_, by simp [PyData.canLay0, a.lay], by simp [PyData.showable, a.sho], ?_, ?_⟩
  · show (optAll (data h n) vs).map PyData.tuple = _
    rw [a.dat]; rfl
  · simp only [PyData.shown, tupleText]
    have j := StrLaws.join_length_le ", " (PyData.shownAll ds)
    have l := a.len
    rw [e4] at j
    rw [Str.length_append, Str.length_append, el]
    split
    · rw [e2]; omega
    · rw [e3]; omega
  · simp only [PyData.shown, tupleText]
    refine ok_app (ok_app okS ?_) ?_
    · rw [← TL.join_eq]; exact ok_join okS a.ok
    · split <;> exact okS
end
end V87

set_option Elab.async false
set_option linter.all false
set_option maxRecDepth 100000
set_option maxHeartbeats 2000000
namespace V87
open PySem Vb
theorem text_len : ∀ (ts : List Str) (k : Nat) (acc : Str), (textFrom k acc ts).length ≤ acc.length + ((ts.map (·.length)).sum + ts.length * 2)
  | [], _, acc => by simp [textFrom]
  | t :: ts, k, acc => by
    have ih := text_len ts (k + 1) (acc ++ (if k > 0 then ", " else "" : String) ++ t)
    have e4 : (", " : Str).length = 2 := by decide +kernel
    have e0 : ("" : Str).length = 0 := by decide +kernel
    simp only [textFrom, List.map_cons, List.sum_cons, List.length_cons]
    have l : (acc ++ (if k > 0 then ", " else "" : String) ++ t).length ≤ acc.length + 2 + t.length := by
      rw [Str.length_append, Str.length_append]
      split
      · rw [e4]; omega
      · rw [e0]; omega
    omega
theorem text_ok : ∀ (ts : List Str) (k : Nat) (acc : Str), PyData.strOk acc = true → (∀ t ∈ ts, PyData.strOk t = true) → PyData.strOk (textFrom k acc ts) = true
  | [], _, acc, a, _ => a
  | t :: ts, k, acc, a, b => by
    refine text_ok ts (k + 1) _ (ok_app (ok_app a ?_) (b t (by simp))) fun x hx => b x (List.mem_cons_of_mem _ hx)
    split <;> exact okS
section
variable {h : MH} {n : Nat}
theorem HasD.lst {r : Nat} {vs : List PV} {ds : List PyData} {c : Nat} (e : h[r]? = some (.lst vs)) (a : HasDs h n vs ds c) : HasD h (n + 1) (.ref r) (.list ds) (c + 5) := by
  have el : ("[" : Str).length = 1 := by decide +kernel
  have e3 : ("]" : Str).length = 1 := by decide +kernel
  refine ⟨?_, by simp [PyData.canLay0, a.lay], by simp [PyData.showable, a.sho], ?_, ?_⟩
  · show (match seqAt h r with
      | some xs => (optAll (data h n) xs).map PyData.list
      | none => none) = _
    rw [seq_of e]
    simp only
    rw [a.dat]; rfl
  · simp only [PyData.shown, listText]
    have j := text_len (PyData.shownAll ds) 0 "["
    have l := a.len
    rw [el] at j
    rw [Str.length_append, e3]
    omega
  · simp only [PyData.shown, listText]
    exact ok_app (text_ok _ _ _ okS a.ok) okS
theorem has_small {v : PV} (hv : Small v) : HasD h n v (toD n v) 7 := by
  obtain ⟨i, rfl, h0, h1⟩ := hv
  have e : toD n (.int i) = .int i := by cases n <;> rfl
  rw [e]
  refine ⟨by cases n <;> rfl, rfl, by simp [PyData.showable, small_log h0 h1], ?_, ?_⟩
  · have : (PyData.int i).shown = numS i := by simp only [PyData.shown]; rfl
    rw [this]
    have := numS_len h0 h1
    omega
  · have : (PyData.int i).shown = numS i := by simp only [PyData.shown]; rfl
    rw [this]
    exact ok_num h0
theorem has_owner {v : PV} (hv : Owner v) : HasD h n v (toD n v) 7 := by
  rcases hv with rfl | hv
  · have e : toD n (.int (-1)) = .int (-1) := by cases n <;> rfl
    rw [e]
    exact ⟨by cases n <;> rfl, rfl, by decide +kernel, by decide +kernel, by decide +kernel⟩
  · exact has_small hv
theorem hasDs_map {f : PV → PyData} {c : Nat} {g : PV → Nat} : ∀ {vs : List PV}, (∀ v ∈ vs, HasD h n v (f v) (g v)) → HasDs h n vs (vs.map f) ((vs.map g).sum)
  | [], _ => .nil
  | v :: vs, z => .cons (z v (by simp)) (hasDs_map (c := c) fun x hx => z x (List.mem_cons_of_mem _ hx))
theorem has_T : ∀ (d n : Nat) (v : PV), isT d v → d ≤ n → HasD h n v (toD d v) (7 * wt d v) := by
  have leaf : ∀ (d n : Nat) (i : Int), 0 ≤ i → i ≤ 9999 → HasD h n (.int i) (toD d (.int i)) (7 * wt d (.int i)) := fun d n i h0 h1 => by
    have e : toD d (.int i) = toD n (.int i) := by cases d <;> cases n <;> rfl
    rw [wt_int, e]
    exact has_small ⟨i, rfl, h0, h1⟩
  intro d
  induction d with
  | zero =>
    intro n v hv hn
    rcases isT_cases hv with ⟨i, rfl, h0, h1⟩ | ⟨e, xs, z, _⟩
    · exact leaf 0 n i h0 h1
    · cases z
  | succ d ih =>
    intro n v hv hn
    rcases isT_cases hv with ⟨i, rfl, h0, h1⟩ | ⟨e, xs, z, rfl, h1⟩
    · exact leaf _ n i h0 h1
    · cases z
      obtain ⟨m, rfl⟩ : ∃ m, n = m + 1 := ⟨n - 1, by omega⟩
      have a := HasD.tup (hasDs_map (h := h) (n := m) (f := toD d) (c := 0) (g := fun x => 7 * wt d x) (vs := xs) fun x hx => ih m x (h1 x hx) (by omega))
      rw [sum_mul] at a
      have e : toD (d + 1) (.tup xs) = .tuple (xs.map (toD d)) := rfl
      rw [e]
      exact ⟨a.dat, a.lay, a.sho, by have := a.len; simp only [wt]; omega, a.ok⟩
theorem HasD.weak {v : PV} {d : PyData} {c c' : Nat} (a : HasD h n v d c) (z : c ≤ c') : HasD h n v d c' := ⟨a.dat, a.lay, a.sho, by have := a.len; omega, a.ok⟩
theorem has_states {vs : List PV} (hs : States vs) (hn : 8 ≤ n) : HasDs h n vs (vs.map (toD 8)) ((vs.map fun v => 7 * wt 8 v).sum) := hasDs_map (c := 0) fun v hv => has_T 8 n v (hs.2 v hv).2.1 hn
theorem states_sum {vs : List PV} (hs : States vs) : (vs.map fun v => 7 * wt 8 v).sum ≤ 1260000 := by
  have a := sum_le_mul (l := vs.map fun v => 7 * wt 8 v) (c := 210000) fun x hx => by
    obtain ⟨v, hv, rfl⟩ := List.mem_map.mp hx
    have := (hs.2 v hv).2.2
    omega
  rw [List.length_map] at a
  have := hs.1
  have : 210000 * vs.length ≤ 210000 * 6 := Nat.mul_le_mul_left _ this
  omega
theorem has_str {x : Str} (a : PyData.strOk x = true) (b : (reprText x).length ≤ 20) (c : PyData.strOk (reprText x) = true) : HasD h n (.str x) (.str x) 22 := by
  refine ⟨by cases n <;> rfl, by simpa [PyData.canLay0] using a, by simp [PyData.showable], ?_, ?_⟩
  · simp only [PyData.shown]; omega
  · simp only [PyData.shown]; exact c
/-- repr's text -/
theorem bi_repr {v : PV} {d : PyData} {c : Nat} (a : HasD h 24 v d c) (hc : c ≤ 16000000) (hv : (∃ xs, v = .tup xs) ∨ ∃ r, v = .ref r) : biS .repr [v] h = .ok (.str d.shown) h := by
  have hd := PyData.hasDict_of_canLay d a.lay
  have l : d.shown.length ≤ sizeLine := by
    have := a.len
    have : 16000000 ≤ sizeLine := by decide
    omega
  have rd : reprData h v = some d := by
    rcases hv with ⟨xs, rfl⟩ | ⟨r, rfl⟩
    · exact a.dat
    · exact a.dat
  rcases hv with ⟨xs, rfl⟩ | ⟨r, rfl⟩
  · simp only [biS, rd]
    exact if_pos ⟨a.sho, hd, l⟩
  · simp only [biS, rd]
    exact if_pos ⟨a.sho, hd, l⟩
end
end V87

set_option Elab.async false
set_option linter.all false
set_option maxRecDepth 100000
set_option maxHeartbeats 2000000
namespace V87
open PySem Vb
theorem ex_list {n c : Nat} : ∀ {vs : List PV}, (∀ v ∈ vs, ∃ d, ∀ h : MH, HasD h n v d c) → ∃ ds, ∀ h : MH, HasDs h n vs ds (c * vs.length)
  | [], _ => ⟨[], fun h => by exact .nil⟩
  | v :: vs, z => by
    obtain ⟨d, hd⟩ := z v (by simp)
    obtain ⟨ds, hds⟩ := ex_list (vs := vs) fun x hx => z x (List.mem_cons_of_mem _ hx)
    refine ⟨d :: ds, fun h => ?_⟩
    have : c * (v :: vs).length = c + c * vs.length := by rw [List.length_cons, Nat.mul_add]; omega
    rw [this]
    exact .cons (hd h) (hds h)
theorem D_states {n : Nat} {vs : List PV} (hs : States vs) (hn : 9 ≤ n) : ∃ d, ∀ h : MH, HasD h n (.tup vs) d 1260005 := by
  obtain ⟨m, rfl⟩ : ∃ m, n = m + 1 := ⟨n - 1, by omega⟩
  exact ⟨_, fun h => (HasD.tup (has_states (h := h) hs (by omega))).weak (by have := states_sum hs; omega)⟩
theorem tup2 {n c c' : Nat} {a b : PV} (ha : ∃ d, ∀ h : MH, HasD h n a d c) (hb : ∃ d, ∀ h : MH, HasD h n b d c') : ∃ d, ∀ h : MH, HasD h (n + 1) (.tup [a, b]) d (c + c' + 5) := by
  obtain ⟨d, hd⟩ := ha
  obtain ⟨e, he⟩ := hb
  exact ⟨_, fun h => (HasD.tup (.cons (hd h) (.cons (he h) .nil))).weak (by omega)⟩
theorem tup3 {n c c' c2 : Nat} {a b x : PV} (ha : ∃ d, ∀ h : MH, HasD h n a d c) (hb : ∃ d, ∀ h : MH, HasD h n b d c') (hx : ∃ d, ∀ h : MH, HasD h n x d c2) : ∃ d, ∀ h : MH, HasD h (n + 1) (.tup [a, b, x]) d (c + c' + c2 + 5) := by
  obtain ⟨d, hd⟩ := ha
  obtain ⟨e, he⟩ := hb
  obtain ⟨f, hf⟩ := hx
  exact ⟨_, fun h => (HasD.tup (.cons (hd h) (.cons (he h) (.cons (hf h) .nil)))).weak (by omega)⟩
theorem ex_str {n : Nat} {x : Str} (a : PyData.strOk x = true) (b : (reprText x).length ≤ 20) (c : PyData.strOk (reprText x) = true) : ∃ d, ∀ h : MH, HasD h n (.str x) d 22 := ⟨_, fun h => has_str a b c⟩
theorem ex_small {n : Nat} {v : PV} (hv : Small v) : ∃ d, ∀ h : MH, HasD h n v d 7 := ⟨_, fun h => has_small hv⟩
theorem ex_owner {n : Nat} {v : PV} (hv : Owner v) : ∃ d, ∀ h : MH, HasD h n v d 7 := ⟨_, fun h => has_owner hv⟩
theorem ex_one {n : Nat} {p : PV} (hp : IsOne p) (hn : 10 ≤ n) : ∃ d, ∀ h : MH, HasD h n p d 1260100 := by
  obtain ⟨m, rfl⟩ : ∃ m, n = m + 2 := ⟨n - 2, by omega⟩
  rcases hp with ⟨vs, rfl, hs⟩ | ⟨vs, rfl, hs⟩ | ⟨o, g, vs, rfl, ho, hg, hs⟩
  · obtain ⟨d, hd⟩ := tup2 (ex_str (n := m + 1) (x := "alone") (by decide +kernel) (by decide +kernel) (by decide +kernel)) (D_states hs (by omega))
    exact ⟨d, fun h => (hd h).weak (by omega)⟩
  · obtain ⟨d, hd⟩ := tup2 (ex_str (n := m + 1) (x := "whole") (by decide +kernel) (by decide +kernel) (by decide +kernel)) (D_states hs (by omega))
    exact ⟨d, fun h => (hd h).weak (by omega)⟩
  · obtain ⟨d, hd⟩ := tup3 (ex_str (n := m + 1) (x := "follows") (by decide +kernel) (by decide +kernel) (by decide +kernel)) (tup2 (n := m) (ex_owner ho) (ex_small hg)) (D_states hs (by omega))
    exact ⟨d, fun h => (hd h).weak (by omega)⟩
theorem ex_paper {p : PV} (hp : IsPaper p) : ∃ d, ∀ h : MH, HasD h 24 p d 10000000 := by
  rcases rowsP_cases hp with ⟨h1, _⟩ | ⟨bs, gs, rfl, lb, lg, hb, hg, _⟩
  · obtain ⟨d, hd⟩ := ex_one (n := 24) h1 (by decide)
    exact ⟨d, fun h => (hd h).weak (by omega)⟩
  · obtain ⟨ds, hds⟩ := ex_list (n := 22) (vs := bs) fun b hb' => ex_one (.inl (hb b hb')) (by decide)
    obtain ⟨es, hes⟩ := ex_list (n := 22) (vs := gs) fun g hg' => ex_one (.inr (.inr (hg g hg'))) (by decide)
    obtain ⟨d, hd⟩ := tup3 (n := 23) (ex_str (x := "parts") (by decide +kernel) (by decide +kernel) (by decide +kernel)) ⟨_, fun h => HasD.tup (hds h)⟩ ⟨_, fun h => HasD.tup (hes h)⟩
    refine ⟨d, fun h => (hd h).weak ?_⟩
    have a : 1260100 * bs.length ≤ 1260100 * 3 := Nat.mul_le_mul_left _ lb
    have b : 1260100 * gs.length ≤ 1260100 * 3 := Nat.mul_le_mul_left _ lg
    omega
theorem ex_found {n : Nat} {f : PV} (hf : IsFound f) : ∃ d, ∀ h : MH, HasD h (n + 1) f d 100 := by
  rcases hf with rfl | ⟨b, o, k, g, rfl, hb, ho, hk, hg⟩
  · exact ⟨.none, fun h => ⟨rfl, rfl, by decide +kernel, by decide +kernel, by decide +kernel⟩⟩
  · obtain ⟨d1, h1⟩ := ex_small (n := n) hb
    obtain ⟨d2, h2⟩ := ex_owner (n := n) ho
    obtain ⟨d4, h4⟩ := ex_small (n := n) hg
    have hk' : ∃ d, ∀ h : MH, HasD h n (.str k) d 22 := by
      rcases hk with rfl | rfl
      · exact ex_str (by decide +kernel) (by decide +kernel) (by decide +kernel)
      · exact ex_str (by decide +kernel) (by decide +kernel) (by decide +kernel)
    obtain ⟨d3, h3⟩ := hk'
    exact ⟨_, fun h => (HasD.tup (.cons (h1 h) (.cons (h2 h) (.cons (h3 h) (.cons (h4 h) .nil))))).weak (by omega)⟩
/-- a run and what breaks by it -/
theorem has_run {vs : List PV} {f : PV} (hs : States vs) (hf : IsFound f) : ∃ d, ∀ (h : MH) (r : Nat), h[r]? = some (.lst vs) → HasD h 24 (.tup [.ref r, f]) d 1500000 := by
  obtain ⟨e, he⟩ := ex_found (n := 22) hf
  exact ⟨_, fun h r hr => (HasD.tup (.cons (HasD.lst (n := 22) hr (has_states hs (by decide))) (.cons (he h) .nil))).weak (by have := states_sum hs; omega)⟩
theorem ne_same {h : MH} {x : Str} (a : PyData.strOk x = true) : cmpS .ne (.str x) (.str x) h = some false := by
  rw [c_ne_str a a, decide_eq_true rfl]; rfl
/-- _law_run_right -/
theorem sp35 {n q : Nat} {h : MH} {vs : List PV} {f : PV} (e : h[q]? = some (.lst vs)) (hs : States vs) (hf : IsFound f) : Ok (callF Pr (n + 14) 35 [.ref q, f] h) fun r h' => r = .bl true ∧ Keep [] h h' := by
  rw [callF_at (d := d35) rfl rfl]
  show Ok (finF (Vb.execs (cbK Pr (n + 13)) Pr.xt Pr.wl b35 [some (.ref q), some f, none, none, none, none] h)) _
  unfold b35
  have okt := ok_txtR hs hf
  obtain ⟨d, hd⟩ := has_run hs hf
  have e1 : (h ++ [MO.lst vs])[q]? = some (.lst vs) := Keep.get (S := []) (.push _) e (by simp)
  have e2 : (h ++ [MO.lst vs])[h.length]? = some (.lst vs) := get_new
  have k0 : Keep [] h (h ++ [MO.lst vs]) := .push _
  try simp only [Vb.execs, Vb.exec, Vb.evalE, Vb.evalEs, Vb.evalT, Vb.evalI, Vb.evalO, Vb.evalOT, Vb.asgS, Vb.bind_ok, Vb.bind_assoc, Vb.then_ok, Vb.then_bind, Vb.next_then, Vb.next_next, Vb.next_nx, Vb.next_rt, Vb.next_bk, Vb.next_ct, Vb.fin_then, Vb.fin_rt, Vb.fin_nx, Vb.opt_some, Vb.cb_fn, Vb.cb_cls, Vb.gl0, Vb.gls, List.getElem?_cons_zero, List.getElem?_cons_succ, List.set_cons_zero, List.set_cons_succ, Vb.storeTg, Vb.storeAll, Option.map_some, List.length_cons, List.length_nil, Nat.zero_add, Nat.reduceAdd, Vb.ln0, Vb.ln1, Vb.ln2, Vb.ln3, Vb.ln4, Vb.ln5, Vb.ln6, if_true, Vb.newObj, Vb.it_tup, Vb.it_ref, Vb.it_str, Vb.ty_join, Vb.ty_split, Vb.ty_append, Vb.ty_extend, Vb.ty_pop, Option.isSome_some, List.map_cons, List.map_nil, Bool.false_eq_true, if_false, Vb.tr_bl, Vb.wipeL, decide_true, decide_false, Bool.not_true, Bool.not_false, Vb.b_add, Vb.b_sub, Vb.c_lt, Vb.c_le, Vb.c_gt, Vb.c_ge, Vb.c_eq_int, Vb.c_ne_int, Vb.c_isn_non, Vb.c_isn_int, Vb.c_isn_tup, Vb.c_notn_non, Vb.c_notn_int, Vb.c_notn_tup, Vb.ix_tup, Vb.bi_list_tup, Vb.isi_int_non, Vb.isi_int_bl, Vb.isi_int_int, Vb.isi_int_str, Vb.isi_int_tup, Vb.isi_int_ref, Vb.isi_bool_non, Vb.isi_bool_bl, Vb.isi_bool_int, Vb.isi_bool_str, Vb.isi_bool_tup, Vb.isi_bool_ref, Vb.isi_str_non, Vb.isi_str_bl, Vb.isi_str_int, Vb.isi_str_str, Vb.isi_str_tup, Vb.isi_str_ref, Vb.isi_tup_non, Vb.isi_tup_bl, Vb.isi_tup_int, Vb.isi_tup_str, Vb.isi_tup_tup, Vb.isi_tup_ref, Vb.isi_lst_non, Vb.isi_lst_bl, Vb.isi_lst_int, Vb.isi_lst_str, Vb.isi_lst_tup, Vb.isi_lst_ref, bi_list_ref e]
  generalize h ++ [MO.lst vs] = H at e1 e2 k0
  refine Ok.bind (sp34 (n := n) e1 hs hf) ?_
  rintro _ h1 ⟨w, rfl, ew, k1⟩
  rw [rows_join ew (by have := (rowsR_le hs hf).1; omega) (rowsR_le hs hf).2, show Txt.join "\n" (rowsR vs f) = txtR vs f from rfl]
  try simp only [Vb.execs, Vb.exec, Vb.evalE, Vb.evalEs, Vb.evalT, Vb.evalI, Vb.evalO, Vb.evalOT, Vb.asgS, Vb.bind_ok, Vb.bind_assoc, Vb.then_ok, Vb.then_bind, Vb.next_then, Vb.next_next, Vb.next_nx, Vb.next_rt, Vb.next_bk, Vb.next_ct, Vb.fin_then, Vb.fin_rt, Vb.fin_nx, Vb.opt_some, Vb.cb_fn, Vb.cb_cls, Vb.gl0, Vb.gls, List.getElem?_cons_zero, List.getElem?_cons_succ, List.set_cons_zero, List.set_cons_succ, Vb.storeTg, Vb.storeAll, Option.map_some, List.length_cons, List.length_nil, Nat.zero_add, Nat.reduceAdd, Vb.ln0, Vb.ln1, Vb.ln2, Vb.ln3, Vb.ln4, Vb.ln5, Vb.ln6, if_true, Vb.newObj, Vb.it_tup, Vb.it_ref, Vb.it_str, Vb.ty_join, Vb.ty_split, Vb.ty_append, Vb.ty_extend, Vb.ty_pop, Option.isSome_some, List.map_cons, List.map_nil, Bool.false_eq_true, if_false, Vb.tr_bl, Vb.wipeL, decide_true, decide_false, Bool.not_true, Bool.not_false, Vb.b_add, Vb.b_sub, Vb.c_lt, Vb.c_le, Vb.c_gt, Vb.c_ge, Vb.c_eq_int, Vb.c_ne_int, Vb.c_isn_non, Vb.c_isn_int, Vb.c_isn_tup, Vb.c_notn_non, Vb.c_notn_int, Vb.c_notn_tup, Vb.ix_tup, Vb.bi_list_tup, Vb.isi_int_non, Vb.isi_int_bl, Vb.isi_int_int, Vb.isi_int_str, Vb.isi_int_tup, Vb.isi_int_ref, Vb.isi_bool_non, Vb.isi_bool_bl, Vb.isi_bool_int, Vb.isi_bool_str, Vb.isi_bool_tup, Vb.isi_bool_ref, Vb.isi_str_non, Vb.isi_str_bl, Vb.isi_str_int, Vb.isi_str_str, Vb.isi_str_tup, Vb.isi_str_ref, Vb.isi_tup_non, Vb.isi_tup_bl, Vb.isi_tup_int, Vb.isi_tup_str, Vb.isi_tup_tup, Vb.isi_tup_ref, Vb.isi_lst_non, Vb.isi_lst_bl, Vb.isi_lst_int, Vb.isi_lst_str, Vb.isi_lst_tup, Vb.isi_lst_ref]
  refine Ok.bind (sp19 (n := n) (k1.get e2 (by simp)) hs hf) ?_
  rintro _ h2 ⟨rfl, k2⟩
  have f1 := k2.get (k1.get e1 (by simp)) (by simp)
  have f2 := k2.get (k1.get e2 (by simp)) (by simp)
  have ne0 : cmpS .ne (.ref h.length) (.ref q) h2 = some false := by
    have a1 : HasD h2 24 (.ref h.length) _ _ := HasD.lst (n := 23) f2 (has_states hs (by decide))
    have a2 : HasD h2 24 (.ref q) _ _ := HasD.lst (n := 23) f1 (has_states hs (by decide))
    have c1 : cmpData h2 (.ref h.length) = some (.list (vs.map (toD 8))) := by
      unfold cmpData
      rw [show data h2 deepest (.ref h.length) = _ from a1.dat]
      simp only [a1.lay, if_true]
    have c2 : cmpData h2 (.ref q) = some (.list (vs.map (toD 8))) := by
      unfold cmpData
      rw [show data h2 deepest (.ref q) = _ from a2.dat]
      simp only [a2.lay, if_true]
    simp only [cmpS, c1, c2]
    rw [PySem.SeqAt.eqv_refl _ a1.lay]; rfl
  try simp only [Vb.execs, Vb.exec, Vb.evalE, Vb.evalEs, Vb.evalT, Vb.evalI, Vb.evalO, Vb.evalOT, Vb.asgS, Vb.bind_ok, Vb.bind_assoc, Vb.then_ok, Vb.then_bind, Vb.next_then, Vb.next_next, Vb.next_nx, Vb.next_rt, Vb.next_bk, Vb.next_ct, Vb.fin_then, Vb.fin_rt, Vb.fin_nx, Vb.opt_some, Vb.cb_fn, Vb.cb_cls, Vb.gl0, Vb.gls, List.getElem?_cons_zero, List.getElem?_cons_succ, List.set_cons_zero, List.set_cons_succ, Vb.storeTg, Vb.storeAll, Option.map_some, List.length_cons, List.length_nil, Nat.zero_add, Nat.reduceAdd, Vb.ln0, Vb.ln1, Vb.ln2, Vb.ln3, Vb.ln4, Vb.ln5, Vb.ln6, if_true, Vb.newObj, Vb.it_tup, Vb.it_ref, Vb.it_str, Vb.ty_join, Vb.ty_split, Vb.ty_append, Vb.ty_extend, Vb.ty_pop, Option.isSome_some, List.map_cons, List.map_nil, Bool.false_eq_true, if_false, Vb.tr_bl, Vb.wipeL, decide_true, decide_false, Bool.not_true, Bool.not_false, Vb.b_add, Vb.b_sub, Vb.c_lt, Vb.c_le, Vb.c_gt, Vb.c_ge, Vb.c_eq_int, Vb.c_ne_int, Vb.c_isn_non, Vb.c_isn_int, Vb.c_isn_tup, Vb.c_notn_non, Vb.c_notn_int, Vb.c_notn_tup, Vb.ix_tup, Vb.bi_list_tup, Vb.isi_int_non, Vb.isi_int_bl, Vb.isi_int_int, Vb.isi_int_str, Vb.isi_int_tup, Vb.isi_int_ref, Vb.isi_bool_non, Vb.isi_bool_bl, Vb.isi_bool_int, Vb.isi_bool_str, Vb.isi_bool_tup, Vb.isi_bool_ref, Vb.isi_str_non, Vb.isi_str_bl, Vb.isi_str_int, Vb.isi_str_str, Vb.isi_str_tup, Vb.isi_str_ref, Vb.isi_tup_non, Vb.isi_tup_bl, Vb.isi_tup_int, Vb.isi_tup_str, Vb.isi_tup_tup, Vb.isi_tup_ref, Vb.isi_lst_non, Vb.isi_lst_bl, Vb.isi_lst_int, Vb.isi_lst_str, Vb.isi_lst_tup, Vb.isi_lst_ref, ne_same okt, ne0, sm62 (n := 2) (by decide) (by decide)]
  have k02 : Keep [] h h2 := k0.trans (k1.trans k2)
  refine SOk.finN (for_inv (fun rest lo h3 => ∃ z1 z2, lo = [some (.ref q), some f, some (.ref h.length), some (.str (txtR vs f)), z1, z2] ∧ h3[q]? = some (.lst vs) ∧ Keep [] h h3) (fun _ _ => False) (fun _ _ _ _ => trivial) ?_ _ _ _ ⟨none, none, rfl, f1, k02⟩) ?_
  · rintro x rest lo h3 ⟨z1, z2, rfl, g1, k3⟩
    try simp only [Vb.execs, Vb.exec, Vb.evalE, Vb.evalEs, Vb.evalT, Vb.evalI, Vb.evalO, Vb.evalOT, Vb.asgS, Vb.bind_ok, Vb.bind_assoc, Vb.then_ok, Vb.then_bind, Vb.next_then, Vb.next_next, Vb.next_nx, Vb.next_rt, Vb.next_bk, Vb.next_ct, Vb.fin_then, Vb.fin_rt, Vb.fin_nx, Vb.opt_some, Vb.cb_fn, Vb.cb_cls, Vb.gl0, Vb.gls, List.getElem?_cons_zero, List.getElem?_cons_succ, List.set_cons_zero, List.set_cons_succ, Vb.storeTg, Vb.storeAll, Option.map_some, List.length_cons, List.length_nil, Nat.zero_add, Nat.reduceAdd, Vb.ln0, Vb.ln1, Vb.ln2, Vb.ln3, Vb.ln4, Vb.ln5, Vb.ln6, if_true, Vb.newObj, Vb.it_tup, Vb.it_ref, Vb.it_str, Vb.ty_join, Vb.ty_split, Vb.ty_append, Vb.ty_extend, Vb.ty_pop, Option.isSome_some, List.map_cons, List.map_nil, Bool.false_eq_true, if_false, Vb.tr_bl, Vb.wipeL, decide_true, decide_false, Bool.not_true, Bool.not_false, Vb.b_add, Vb.b_sub, Vb.c_lt, Vb.c_le, Vb.c_gt, Vb.c_ge, Vb.c_eq_int, Vb.c_ne_int, Vb.c_isn_non, Vb.c_isn_int, Vb.c_isn_tup, Vb.c_notn_non, Vb.c_notn_int, Vb.c_notn_tup, Vb.ix_tup, Vb.bi_list_tup, Vb.isi_int_non, Vb.isi_int_bl, Vb.isi_int_int, Vb.isi_int_str, Vb.isi_int_tup, Vb.isi_int_ref, Vb.isi_bool_non, Vb.isi_bool_bl, Vb.isi_bool_int, Vb.isi_bool_str, Vb.isi_bool_tup, Vb.isi_bool_ref, Vb.isi_str_non, Vb.isi_str_bl, Vb.isi_str_int, Vb.isi_str_str, Vb.isi_str_tup, Vb.isi_str_ref, Vb.isi_tup_non, Vb.isi_tup_bl, Vb.isi_tup_int, Vb.isi_tup_str, Vb.isi_tup_tup, Vb.isi_tup_ref, Vb.isi_lst_non, Vb.isi_lst_bl, Vb.isi_lst_int, Vb.isi_lst_str, Vb.isi_lst_tup, Vb.isi_lst_ref]
    refine SOk.then_ (sp20 (n := n + 4) hs hf) ?_
    rintro _ h4 ⟨L, rfl, hL, eL, k4⟩
    have g4 := k4.get g1 (by simp)
    have qn : q ≠ L := by have := lt_of_get g1; omega
    have okd : PyData.strOk d.shown = true := (hd h4 L eL).ok
    try simp only [Vb.execs, Vb.exec, Vb.evalE, Vb.evalEs, Vb.evalT, Vb.evalI, Vb.evalO, Vb.evalOT, Vb.asgS, Vb.bind_ok, Vb.bind_assoc, Vb.then_ok, Vb.then_bind, Vb.next_then, Vb.next_next, Vb.next_nx, Vb.next_rt, Vb.next_bk, Vb.next_ct, Vb.fin_then, Vb.fin_rt, Vb.fin_nx, Vb.opt_some, Vb.cb_fn, Vb.cb_cls, Vb.gl0, Vb.gls, List.getElem?_cons_zero, List.getElem?_cons_succ, List.set_cons_zero, List.set_cons_succ, Vb.storeTg, Vb.storeAll, Option.map_some, List.length_cons, List.length_nil, Nat.zero_add, Nat.reduceAdd, Vb.ln0, Vb.ln1, Vb.ln2, Vb.ln3, Vb.ln4, Vb.ln5, Vb.ln6, if_true, Vb.newObj, Vb.it_tup, Vb.it_ref, Vb.it_str, Vb.ty_join, Vb.ty_split, Vb.ty_append, Vb.ty_extend, Vb.ty_pop, Option.isSome_some, List.map_cons, List.map_nil, Bool.false_eq_true, if_false, Vb.tr_bl, Vb.wipeL, decide_true, decide_false, Bool.not_true, Bool.not_false, Vb.b_add, Vb.b_sub, Vb.c_lt, Vb.c_le, Vb.c_gt, Vb.c_ge, Vb.c_eq_int, Vb.c_ne_int, Vb.c_isn_non, Vb.c_isn_int, Vb.c_isn_tup, Vb.c_notn_non, Vb.c_notn_int, Vb.c_notn_tup, Vb.ix_tup, Vb.bi_list_tup, Vb.isi_int_non, Vb.isi_int_bl, Vb.isi_int_int, Vb.isi_int_str, Vb.isi_int_tup, Vb.isi_int_ref, Vb.isi_bool_non, Vb.isi_bool_bl, Vb.isi_bool_int, Vb.isi_bool_str, Vb.isi_bool_tup, Vb.isi_bool_ref, Vb.isi_str_non, Vb.isi_str_bl, Vb.isi_str_int, Vb.isi_str_str, Vb.isi_str_tup, Vb.isi_str_ref, Vb.isi_tup_non, Vb.isi_tup_bl, Vb.isi_tup_int, Vb.isi_tup_str, Vb.isi_tup_tup, Vb.isi_tup_ref, Vb.isi_lst_non, Vb.isi_lst_bl, Vb.isi_lst_int, Vb.isi_lst_str, Vb.isi_lst_tup, Vb.isi_lst_ref, bi_repr (hd h4 L eL) (by decide) (.inl ⟨_, rfl⟩), bi_repr (hd h4 q g4) (by decide) (.inl ⟨_, rfl⟩), ne_same (h := h4) okd, at20, seq_of eL]
    rw [bm_append eL (by have := hs.1; have big : 100 < sizeLine := by decide
                         omega)]
    try simp only [Vb.execs, Vb.exec, Vb.evalE, Vb.evalEs, Vb.evalT, Vb.evalI, Vb.evalO, Vb.evalOT, Vb.asgS, Vb.bind_ok, Vb.bind_assoc, Vb.then_ok, Vb.then_bind, Vb.next_then, Vb.next_next, Vb.next_nx, Vb.next_rt, Vb.next_bk, Vb.next_ct, Vb.fin_then, Vb.fin_rt, Vb.fin_nx, Vb.opt_some, Vb.cb_fn, Vb.cb_cls, Vb.gl0, Vb.gls, List.getElem?_cons_zero, List.getElem?_cons_succ, List.set_cons_zero, List.set_cons_succ, Vb.storeTg, Vb.storeAll, Option.map_some, List.length_cons, List.length_nil, Nat.zero_add, Nat.reduceAdd, Vb.ln0, Vb.ln1, Vb.ln2, Vb.ln3, Vb.ln4, Vb.ln5, Vb.ln6, if_true, Vb.newObj, Vb.it_tup, Vb.it_ref, Vb.it_str, Vb.ty_join, Vb.ty_split, Vb.ty_append, Vb.ty_extend, Vb.ty_pop, Option.isSome_some, List.map_cons, List.map_nil, Bool.false_eq_true, if_false, Vb.tr_bl, Vb.wipeL, decide_true, decide_false, Bool.not_true, Bool.not_false, Vb.b_add, Vb.b_sub, Vb.c_lt, Vb.c_le, Vb.c_gt, Vb.c_ge, Vb.c_eq_int, Vb.c_ne_int, Vb.c_isn_non, Vb.c_isn_int, Vb.c_isn_tup, Vb.c_notn_non, Vb.c_notn_int, Vb.c_notn_tup, Vb.ix_tup, Vb.bi_list_tup, Vb.isi_int_non, Vb.isi_int_bl, Vb.isi_int_int, Vb.isi_int_str, Vb.isi_int_tup, Vb.isi_int_ref, Vb.isi_bool_non, Vb.isi_bool_bl, Vb.isi_bool_int, Vb.isi_bool_str, Vb.isi_bool_tup, Vb.isi_bool_ref, Vb.isi_str_non, Vb.isi_str_bl, Vb.isi_str_int, Vb.isi_str_str, Vb.isi_str_tup, Vb.isi_str_ref, Vb.isi_tup_non, Vb.isi_tup_bl, Vb.isi_tup_int, Vb.isi_tup_str, Vb.isi_tup_tup, Vb.isi_tup_ref, Vb.isi_lst_non, Vb.isi_lst_bl, Vb.isi_lst_int, Vb.isi_lst_str, Vb.isi_lst_tup, Vb.isi_lst_ref]
    exact .ret ⟨_, _, rfl, get_put g4 qn, (k3.trans k4).put (.inr (by have := k3.len; omega)) _⟩
  · rintro fl h3 qq
    cases fl with
    | nx lo =>
      obtain ⟨z1, z2, rfl, g1, k3⟩ := qq
      try simp only [Vb.execs, Vb.exec, Vb.evalE, Vb.evalEs, Vb.evalT, Vb.evalI, Vb.evalO, Vb.evalOT, Vb.asgS, Vb.bind_ok, Vb.bind_assoc, Vb.then_ok, Vb.then_bind, Vb.next_then, Vb.next_next, Vb.next_nx, Vb.next_rt, Vb.next_bk, Vb.next_ct, Vb.fin_then, Vb.fin_rt, Vb.fin_nx, Vb.opt_some, Vb.cb_fn, Vb.cb_cls, Vb.gl0, Vb.gls, List.getElem?_cons_zero, List.getElem?_cons_succ, List.set_cons_zero, List.set_cons_succ, Vb.storeTg, Vb.storeAll, Option.map_some, List.length_cons, List.length_nil, Nat.zero_add, Nat.reduceAdd, Vb.ln0, Vb.ln1, Vb.ln2, Vb.ln3, Vb.ln4, Vb.ln5, Vb.ln6, if_true, Vb.newObj, Vb.it_tup, Vb.it_ref, Vb.it_str, Vb.ty_join, Vb.ty_split, Vb.ty_append, Vb.ty_extend, Vb.ty_pop, Option.isSome_some, List.map_cons, List.map_nil, Bool.false_eq_true, if_false, Vb.tr_bl, Vb.wipeL, decide_true, decide_false, Bool.not_true, Bool.not_false, Vb.b_add, Vb.b_sub, Vb.c_lt, Vb.c_le, Vb.c_gt, Vb.c_ge, Vb.c_eq_int, Vb.c_ne_int, Vb.c_isn_non, Vb.c_isn_int, Vb.c_isn_tup, Vb.c_notn_non, Vb.c_notn_int, Vb.c_notn_tup, Vb.ix_tup, Vb.bi_list_tup, Vb.isi_int_non, Vb.isi_int_bl, Vb.isi_int_int, Vb.isi_int_str, Vb.isi_int_tup, Vb.isi_int_ref, Vb.isi_bool_non, Vb.isi_bool_bl, Vb.isi_bool_int, Vb.isi_bool_str, Vb.isi_bool_tup, Vb.isi_bool_ref, Vb.isi_str_non, Vb.isi_str_bl, Vb.isi_str_int, Vb.isi_str_str, Vb.isi_str_tup, Vb.isi_str_ref, Vb.isi_tup_non, Vb.isi_tup_bl, Vb.isi_tup_int, Vb.isi_tup_str, Vb.isi_tup_tup, Vb.isi_tup_ref, Vb.isi_lst_non, Vb.isi_lst_bl, Vb.isi_lst_int, Vb.isi_lst_str, Vb.isi_lst_tup, Vb.isi_lst_ref]
      exact .ret ⟨rfl, k3⟩
    | _ => exact qq.elim
end V87

set_option Elab.async false
set_option linter.all false
set_option maxRecDepth 100000
set_option maxHeartbeats 4000000
namespace V87
open PySem Vb
theorem repr_T {v : PV} (hv : isT 8 v) (hw : wt 8 v ≤ LIM) : ∃ s : Str, PyData.strOk s = true ∧ ∀ h : MH, biS .repr [v] h = .ok (.str s) h := by
  have hl := hL
  rcases isT_cases hv with ⟨i, rfl, h0, h1⟩ | ⟨e, xs, _, rfl, _⟩
  · exact ⟨numS i, ok_num h0, fun h => if_pos (small_log h0 h1)⟩
  · refine ⟨(toD 8 (.tup xs)).shown, (has_T (h := []) 8 24 _ hv (by decide)).ok, fun h => bi_repr (has_T 8 24 _ hv (by decide)) (by omega) (.inl ⟨_, rfl⟩)⟩
theorem repr_P {p : PV} (hp : IsPaper p) : ∃ s : Str, PyData.strOk s = true ∧ ∀ h : MH, biS .repr [p] h = .ok (.str s) h := by
  obtain ⟨d, hd⟩ := ex_paper hp
  refine ⟨d.shown, (hd []).ok, fun h => bi_repr (hd h) (by decide) (.inl ?_)⟩
  rcases hp with ⟨vs, rfl, _⟩ | ⟨vs, rfl, _⟩ | ⟨o, g, vs, rfl, _⟩ | ⟨bs, gs, rfl, _⟩ <;> exact ⟨_, rfl⟩
theorem mx2 {i j : Int} {h : MH} : ∃ m : Int, biS .max2 [.int i, .int j] h = .ok (.int m) h ∧ (m = i ∨ m = j) := by
  refine ⟨_, rfl, ?_⟩
  by_cases q : j > i
  · rw [if_pos q]; exact .inr rfl
  · rw [if_neg q]; exact .inl rfl
theorem mn2 {i j : Int} {h : MH} : ∃ m : Int, biS .min2 [.int i, .int j] h = .ok (.int m) h ∧ (m = i ∨ m = j) ∧ m ≤ i := by
  refine ⟨_, rfl, ?_⟩
  by_cases q : j < i
  · rw [if_pos q]; exact ⟨.inr rfl, by omega⟩
  · rw [if_neg q]; exact ⟨.inl rfl, Int.le_refl _⟩
theorem txt_eq {v : PV} : Txt.join " " (wT 8 v) = txt v := rfl
theorem sp36 (ns : List Int) (hns : ns.length ≤ 63) (h : MH) (e : h[0]? = some (.ro (ns.map .int))) : Ok (callF Pr 16 36 [.ref 0] h) fun r h' => r = .bl true := by
  rw [callF_at (k := 15) (d := d36) rfl rfl]
  show Ok (finF (Vb.execs (cbK Pr 15) Pr.xt Pr.wl b36 [some (.ref 0), none, none, none, none, none, none, none] h)) _
  unfold b36
  obtain ⟨m1, em1, hm1, hm1'⟩ := mn2 (i := 63) (j := (ns.map PV.int).length) (h := h)
  obtain ⟨m, em, hm⟩ := mx2 (i := 1) (j := m1) (h := h)
  have lm : (ns.map PV.int).length = ns.length := List.length_map ..
  have b1 : 0 ≤ m ∧ m ≤ 63 := by
    rw [lm] at hm1
    omega
  try simp only [Vb.execs, Vb.exec, Vb.evalE, Vb.evalEs, Vb.evalT, Vb.evalI, Vb.evalO, Vb.evalOT, Vb.asgS, Vb.bind_ok, Vb.bind_assoc, Vb.then_ok, Vb.then_bind, Vb.next_then, Vb.next_next, Vb.next_nx, Vb.next_rt, Vb.next_bk, Vb.next_ct, Vb.fin_then, Vb.fin_rt, Vb.fin_nx, Vb.opt_some, Vb.cb_fn, Vb.cb_cls, Vb.gl0, Vb.gls, List.getElem?_cons_zero, List.getElem?_cons_succ, List.set_cons_zero, List.set_cons_succ, Vb.storeTg, Vb.storeAll, Option.map_some, List.length_cons, List.length_nil, Nat.zero_add, Nat.reduceAdd, Vb.ln0, Vb.ln1, Vb.ln2, Vb.ln3, Vb.ln4, Vb.ln5, Vb.ln6, if_true, Vb.newObj, Vb.it_tup, Vb.it_ref, Vb.it_str, Vb.ty_join, Vb.ty_split, Vb.ty_append, Vb.ty_extend, Vb.ty_pop, Option.isSome_some, List.map_cons, List.map_nil, Bool.false_eq_true, if_false, Vb.tr_bl, Vb.wipeL, decide_true, decide_false, Bool.not_true, Bool.not_false, Vb.b_add, Vb.b_sub, Vb.c_lt, Vb.c_le, Vb.c_gt, Vb.c_ge, Vb.c_eq_int, Vb.c_ne_int, Vb.c_isn_non, Vb.c_isn_int, Vb.c_isn_tup, Vb.c_notn_non, Vb.c_notn_int, Vb.c_notn_tup, Vb.ix_tup, Vb.bi_list_tup, Vb.isi_int_non, Vb.isi_int_bl, Vb.isi_int_int, Vb.isi_int_str, Vb.isi_int_tup, Vb.isi_int_ref, Vb.isi_bool_non, Vb.isi_bool_bl, Vb.isi_bool_int, Vb.isi_bool_str, Vb.isi_bool_tup, Vb.isi_bool_ref, Vb.isi_str_non, Vb.isi_str_bl, Vb.isi_str_int, Vb.isi_str_str, Vb.isi_str_tup, Vb.isi_str_ref, Vb.isi_tup_non, Vb.isi_tup_bl, Vb.isi_tup_int, Vb.isi_tup_str, Vb.isi_tup_tup, Vb.isi_tup_ref, Vb.isi_lst_non, Vb.isi_lst_bl, Vb.isi_lst_int, Vb.isi_lst_str, Vb.isi_lst_tup, Vb.isi_lst_ref, bi_len_ro e, em1, em, sm62 (n := m) (by omega) (by omega)]
  refine SOk.finN (for_inv (fun rest lo h1 => ∃ z1 z2 z3 z4 z5 z6 z7, (∀ v ∈ rest, v ∈ rangeL 0 m) ∧ lo = [some (.ref 0), z1, z2, z3, z4, z5, z6, z7] ∧ h1[0]? = some (.ro (ns.map .int))) (fun _ _ => False) (fun _ _ _ _ => trivial) ?_ _ _ _ ⟨none, none, none, none, none, none, none, fun v hv => hv, rfl, e⟩) ?_
  · rintro x rest lo h1 ⟨z1, z2, z3, z4, z5, z6, z7, hx, rfl, e1⟩
    obtain ⟨k, rfl, k0, k1⟩ := rngL_mem (hx x (by simp))
    try simp only [Vb.execs, Vb.exec, Vb.evalE, Vb.evalEs, Vb.evalT, Vb.evalI, Vb.evalO, Vb.evalOT, Vb.asgS, Vb.bind_ok, Vb.bind_assoc, Vb.then_ok, Vb.then_bind, Vb.next_then, Vb.next_next, Vb.next_nx, Vb.next_rt, Vb.next_bk, Vb.next_ct, Vb.fin_then, Vb.fin_rt, Vb.fin_nx, Vb.opt_some, Vb.cb_fn, Vb.cb_cls, Vb.gl0, Vb.gls, List.getElem?_cons_zero, List.getElem?_cons_succ, List.set_cons_zero, List.set_cons_succ, Vb.storeTg, Vb.storeAll, Option.map_some, List.length_cons, List.length_nil, Nat.zero_add, Nat.reduceAdd, Vb.ln0, Vb.ln1, Vb.ln2, Vb.ln3, Vb.ln4, Vb.ln5, Vb.ln6, if_true, Vb.newObj, Vb.it_tup, Vb.it_ref, Vb.it_str, Vb.ty_join, Vb.ty_split, Vb.ty_append, Vb.ty_extend, Vb.ty_pop, Option.isSome_some, List.map_cons, List.map_nil, Bool.false_eq_true, if_false, Vb.tr_bl, Vb.wipeL, decide_true, decide_false, Bool.not_true, Bool.not_false, Vb.b_add, Vb.b_sub, Vb.c_lt, Vb.c_le, Vb.c_gt, Vb.c_ge, Vb.c_eq_int, Vb.c_ne_int, Vb.c_isn_non, Vb.c_isn_int, Vb.c_isn_tup, Vb.c_notn_non, Vb.c_notn_int, Vb.c_notn_tup, Vb.ix_tup, Vb.bi_list_tup, Vb.isi_int_non, Vb.isi_int_bl, Vb.isi_int_int, Vb.isi_int_str, Vb.isi_int_tup, Vb.isi_int_ref, Vb.isi_bool_non, Vb.isi_bool_bl, Vb.isi_bool_int, Vb.isi_bool_str, Vb.isi_bool_tup, Vb.isi_bool_ref, Vb.isi_str_non, Vb.isi_str_bl, Vb.isi_str_int, Vb.isi_str_str, Vb.isi_str_tup, Vb.isi_str_ref, Vb.isi_tup_non, Vb.isi_tup_bl, Vb.isi_tup_int, Vb.isi_tup_str, Vb.isi_tup_tup, Vb.isi_tup_ref, Vb.isi_lst_non, Vb.isi_lst_bl, Vb.isi_lst_int, Vb.isi_lst_str, Vb.isi_lst_tup, Vb.isi_lst_ref]
    refine SOk.then_ (sp22 14 h1 ns k e1 hns k0 (by omega)) ?_
    rintro _ h2 ⟨q, rfl, hq, kp2, d2⟩
    have e2 := kp2.get e1 (by simp)
    have q0 : (0 : Nat) ≠ q := by have := lt_of_get e1; omega
    try simp only [Vb.execs, Vb.exec, Vb.evalE, Vb.evalEs, Vb.evalT, Vb.evalI, Vb.evalO, Vb.evalOT, Vb.asgS, Vb.bind_ok, Vb.bind_assoc, Vb.then_ok, Vb.then_bind, Vb.next_then, Vb.next_next, Vb.next_nx, Vb.next_rt, Vb.next_bk, Vb.next_ct, Vb.fin_then, Vb.fin_rt, Vb.fin_nx, Vb.opt_some, Vb.cb_fn, Vb.cb_cls, Vb.gl0, Vb.gls, List.getElem?_cons_zero, List.getElem?_cons_succ, List.set_cons_zero, List.set_cons_succ, Vb.storeTg, Vb.storeAll, Option.map_some, List.length_cons, List.length_nil, Nat.zero_add, Nat.reduceAdd, Vb.ln0, Vb.ln1, Vb.ln2, Vb.ln3, Vb.ln4, Vb.ln5, Vb.ln6, if_true, Vb.newObj, Vb.it_tup, Vb.it_ref, Vb.it_str, Vb.ty_join, Vb.ty_split, Vb.ty_append, Vb.ty_extend, Vb.ty_pop, Option.isSome_some, List.map_cons, List.map_nil, Bool.false_eq_true, if_false, Vb.tr_bl, Vb.wipeL, decide_true, decide_false, Bool.not_true, Bool.not_false, Vb.b_add, Vb.b_sub, Vb.c_lt, Vb.c_le, Vb.c_gt, Vb.c_ge, Vb.c_eq_int, Vb.c_ne_int, Vb.c_isn_non, Vb.c_isn_int, Vb.c_isn_tup, Vb.c_notn_non, Vb.c_notn_int, Vb.c_notn_tup, Vb.ix_tup, Vb.bi_list_tup, Vb.isi_int_non, Vb.isi_int_bl, Vb.isi_int_int, Vb.isi_int_str, Vb.isi_int_tup, Vb.isi_int_ref, Vb.isi_bool_non, Vb.isi_bool_bl, Vb.isi_bool_int, Vb.isi_bool_str, Vb.isi_bool_tup, Vb.isi_bool_ref, Vb.isi_str_non, Vb.isi_str_bl, Vb.isi_str_int, Vb.isi_str_str, Vb.isi_str_tup, Vb.isi_str_ref, Vb.isi_tup_non, Vb.isi_tup_bl, Vb.isi_tup_int, Vb.isi_tup_str, Vb.isi_tup_tup, Vb.isi_tup_ref, Vb.isi_lst_non, Vb.isi_lst_bl, Vb.isi_lst_int, Vb.isi_lst_str, Vb.isi_lst_tup, Vb.isi_lst_ref]
    have ht := hT
    have hct := hCT
    refine SOk.then_ (sp25 4 h2 q _ d2 (by omega)) ?_
    rintro t h3 ⟨ts, kp3, d3⟩
    have e3 := kp3.get e2 (by simp; exact q0)
    try simp only [Vb.execs, Vb.exec, Vb.evalE, Vb.evalEs, Vb.evalT, Vb.evalI, Vb.evalO, Vb.evalOT, Vb.asgS, Vb.bind_ok, Vb.bind_assoc, Vb.then_ok, Vb.then_bind, Vb.next_then, Vb.next_next, Vb.next_nx, Vb.next_rt, Vb.next_bk, Vb.next_ct, Vb.fin_then, Vb.fin_rt, Vb.fin_nx, Vb.opt_some, Vb.cb_fn, Vb.cb_cls, Vb.gl0, Vb.gls, List.getElem?_cons_zero, List.getElem?_cons_succ, List.set_cons_zero, List.set_cons_succ, Vb.storeTg, Vb.storeAll, Option.map_some, List.length_cons, List.length_nil, Nat.zero_add, Nat.reduceAdd, Vb.ln0, Vb.ln1, Vb.ln2, Vb.ln3, Vb.ln4, Vb.ln5, Vb.ln6, if_true, Vb.newObj, Vb.it_tup, Vb.it_ref, Vb.it_str, Vb.ty_join, Vb.ty_split, Vb.ty_append, Vb.ty_extend, Vb.ty_pop, Option.isSome_some, List.map_cons, List.map_nil, Bool.false_eq_true, if_false, Vb.tr_bl, Vb.wipeL, decide_true, decide_false, Bool.not_true, Bool.not_false, Vb.b_add, Vb.b_sub, Vb.c_lt, Vb.c_le, Vb.c_gt, Vb.c_ge, Vb.c_eq_int, Vb.c_ne_int, Vb.c_isn_non, Vb.c_isn_int, Vb.c_isn_tup, Vb.c_notn_non, Vb.c_notn_int, Vb.c_notn_tup, Vb.ix_tup, Vb.bi_list_tup, Vb.isi_int_non, Vb.isi_int_bl, Vb.isi_int_int, Vb.isi_int_str, Vb.isi_int_tup, Vb.isi_int_ref, Vb.isi_bool_non, Vb.isi_bool_bl, Vb.isi_bool_int, Vb.isi_bool_str, Vb.isi_bool_tup, Vb.isi_bool_ref, Vb.isi_str_non, Vb.isi_str_bl, Vb.isi_str_int, Vb.isi_str_str, Vb.isi_str_tup, Vb.isi_str_ref, Vb.isi_tup_non, Vb.isi_tup_bl, Vb.isi_tup_int, Vb.isi_tup_str, Vb.isi_tup_tup, Vb.isi_tup_ref, Vb.isi_lst_non, Vb.isi_lst_bl, Vb.isi_lst_int, Vb.isi_lst_str, Vb.isi_lst_tup, Vb.isi_lst_ref]
    refine SOk.then_ (sp27 12 h3 q _ d3 (by omega)) ?_
    rintro nb h4 ⟨nbs, kp4, d4⟩
    have e4 := kp4.get e3 (by simp; exact q0)
    try simp only [Vb.execs, Vb.exec, Vb.evalE, Vb.evalEs, Vb.evalT, Vb.evalI, Vb.evalO, Vb.evalOT, Vb.asgS, Vb.bind_ok, Vb.bind_assoc, Vb.then_ok, Vb.then_bind, Vb.next_then, Vb.next_next, Vb.next_nx, Vb.next_rt, Vb.next_bk, Vb.next_ct, Vb.fin_then, Vb.fin_rt, Vb.fin_nx, Vb.opt_some, Vb.cb_fn, Vb.cb_cls, Vb.gl0, Vb.gls, List.getElem?_cons_zero, List.getElem?_cons_succ, List.set_cons_zero, List.set_cons_succ, Vb.storeTg, Vb.storeAll, Option.map_some, List.length_cons, List.length_nil, Nat.zero_add, Nat.reduceAdd, Vb.ln0, Vb.ln1, Vb.ln2, Vb.ln3, Vb.ln4, Vb.ln5, Vb.ln6, if_true, Vb.newObj, Vb.it_tup, Vb.it_ref, Vb.it_str, Vb.ty_join, Vb.ty_split, Vb.ty_append, Vb.ty_extend, Vb.ty_pop, Option.isSome_some, List.map_cons, List.map_nil, Bool.false_eq_true, if_false, Vb.tr_bl, Vb.wipeL, decide_true, decide_false, Bool.not_true, Bool.not_false, Vb.b_add, Vb.b_sub, Vb.c_lt, Vb.c_le, Vb.c_gt, Vb.c_ge, Vb.c_eq_int, Vb.c_ne_int, Vb.c_isn_non, Vb.c_isn_int, Vb.c_isn_tup, Vb.c_notn_non, Vb.c_notn_int, Vb.c_notn_tup, Vb.ix_tup, Vb.bi_list_tup, Vb.isi_int_non, Vb.isi_int_bl, Vb.isi_int_int, Vb.isi_int_str, Vb.isi_int_tup, Vb.isi_int_ref, Vb.isi_bool_non, Vb.isi_bool_bl, Vb.isi_bool_int, Vb.isi_bool_str, Vb.isi_bool_tup, Vb.isi_bool_ref, Vb.isi_str_non, Vb.isi_str_bl, Vb.isi_str_int, Vb.isi_str_str, Vb.isi_str_tup, Vb.isi_str_ref, Vb.isi_tup_non, Vb.isi_tup_bl, Vb.isi_tup_int, Vb.isi_tup_str, Vb.isi_tup_tup, Vb.isi_tup_ref, Vb.isi_lst_non, Vb.isi_lst_bl, Vb.isi_lst_int, Vb.isi_lst_str, Vb.isi_lst_tup, Vb.isi_lst_ref]
    -- a thing, a number
    refine SOk.next (for_inv (fun rest lo h5 => ∃ y3 y4, (∀ v ∈ rest, isT 8 v ∧ wt 8 v ≤ LIM) ∧ lo = [some (.ref 0), some (.int k), some (.ref q), y3, y4, z5, z6, z7] ∧ Keep [] h4 h5) (fun _ _ => False) (fun _ _ _ _ => trivial) ?_ _ _ _ ⟨z3, z4, ?_, rfl, .refl⟩) ?_
    · rintro v rest' lo h5 ⟨y3, y4, hv, rfl, kp5⟩
      obtain ⟨tv, wv⟩ := hv v (by simp)
      obtain ⟨s, oks, es⟩ := repr_T tv wv
      try simp only [Vb.execs, Vb.exec, Vb.evalE, Vb.evalEs, Vb.evalT, Vb.evalI, Vb.evalO, Vb.evalOT, Vb.asgS, Vb.bind_ok, Vb.bind_assoc, Vb.then_ok, Vb.then_bind, Vb.next_then, Vb.next_next, Vb.next_nx, Vb.next_rt, Vb.next_bk, Vb.next_ct, Vb.fin_then, Vb.fin_rt, Vb.fin_nx, Vb.opt_some, Vb.cb_fn, Vb.cb_cls, Vb.gl0, Vb.gls, List.getElem?_cons_zero, List.getElem?_cons_succ, List.set_cons_zero, List.set_cons_succ, Vb.storeTg, Vb.storeAll, Option.map_some, List.length_cons, List.length_nil, Nat.zero_add, Nat.reduceAdd, Vb.ln0, Vb.ln1, Vb.ln2, Vb.ln3, Vb.ln4, Vb.ln5, Vb.ln6, if_true, Vb.newObj, Vb.it_tup, Vb.it_ref, Vb.it_str, Vb.ty_join, Vb.ty_split, Vb.ty_append, Vb.ty_extend, Vb.ty_pop, Option.isSome_some, List.map_cons, List.map_nil, Bool.false_eq_true, if_false, Vb.tr_bl, Vb.wipeL, decide_true, decide_false, Bool.not_true, Bool.not_false, Vb.b_add, Vb.b_sub, Vb.c_lt, Vb.c_le, Vb.c_gt, Vb.c_ge, Vb.c_eq_int, Vb.c_ne_int, Vb.c_isn_non, Vb.c_isn_int, Vb.c_isn_tup, Vb.c_notn_non, Vb.c_notn_int, Vb.c_notn_tup, Vb.ix_tup, Vb.bi_list_tup, Vb.isi_int_non, Vb.isi_int_bl, Vb.isi_int_int, Vb.isi_int_str, Vb.isi_int_tup, Vb.isi_int_ref, Vb.isi_bool_non, Vb.isi_bool_bl, Vb.isi_bool_int, Vb.isi_bool_str, Vb.isi_bool_tup, Vb.isi_bool_ref, Vb.isi_str_non, Vb.isi_str_bl, Vb.isi_str_int, Vb.isi_str_str, Vb.isi_str_tup, Vb.isi_str_ref, Vb.isi_tup_non, Vb.isi_tup_bl, Vb.isi_tup_int, Vb.isi_tup_str, Vb.isi_tup_tup, Vb.isi_tup_ref, Vb.isi_lst_non, Vb.isi_lst_bl, Vb.isi_lst_int, Vb.isi_lst_str, Vb.isi_lst_tup, Vb.isi_lst_ref]
      refine SOk.then_ (sp31 8 v 15 h5 tv wv (by decide)) ?_
      rintro _ h6 ⟨rfl, kp6⟩
      rw [txt_eq]
      try simp only [Vb.execs, Vb.exec, Vb.evalE, Vb.evalEs, Vb.evalT, Vb.evalI, Vb.evalO, Vb.evalOT, Vb.asgS, Vb.bind_ok, Vb.bind_assoc, Vb.then_ok, Vb.then_bind, Vb.next_then, Vb.next_next, Vb.next_nx, Vb.next_rt, Vb.next_bk, Vb.next_ct, Vb.fin_then, Vb.fin_rt, Vb.fin_nx, Vb.opt_some, Vb.cb_fn, Vb.cb_cls, Vb.gl0, Vb.gls, List.getElem?_cons_zero, List.getElem?_cons_succ, List.set_cons_zero, List.set_cons_succ, Vb.storeTg, Vb.storeAll, Option.map_some, List.length_cons, List.length_nil, Nat.zero_add, Nat.reduceAdd, Vb.ln0, Vb.ln1, Vb.ln2, Vb.ln3, Vb.ln4, Vb.ln5, Vb.ln6, if_true, Vb.newObj, Vb.it_tup, Vb.it_ref, Vb.it_str, Vb.ty_join, Vb.ty_split, Vb.ty_append, Vb.ty_extend, Vb.ty_pop, Option.isSome_some, List.map_cons, List.map_nil, Bool.false_eq_true, if_false, Vb.tr_bl, Vb.wipeL, decide_true, decide_false, Bool.not_true, Bool.not_false, Vb.b_add, Vb.b_sub, Vb.c_lt, Vb.c_le, Vb.c_gt, Vb.c_ge, Vb.c_eq_int, Vb.c_ne_int, Vb.c_isn_non, Vb.c_isn_int, Vb.c_isn_tup, Vb.c_notn_non, Vb.c_notn_int, Vb.c_notn_tup, Vb.ix_tup, Vb.bi_list_tup, Vb.isi_int_non, Vb.isi_int_bl, Vb.isi_int_int, Vb.isi_int_str, Vb.isi_int_tup, Vb.isi_int_ref, Vb.isi_bool_non, Vb.isi_bool_bl, Vb.isi_bool_int, Vb.isi_bool_str, Vb.isi_bool_tup, Vb.isi_bool_ref, Vb.isi_str_non, Vb.isi_str_bl, Vb.isi_str_int, Vb.isi_str_str, Vb.isi_str_tup, Vb.isi_str_ref, Vb.isi_tup_non, Vb.isi_tup_bl, Vb.isi_tup_int, Vb.isi_tup_str, Vb.isi_tup_tup, Vb.isi_tup_ref, Vb.isi_lst_non, Vb.isi_lst_bl, Vb.isi_lst_int, Vb.isi_lst_str, Vb.isi_lst_tup, Vb.isi_lst_ref]
      refine SOk.then_ (sp2 (d := 8) h6 tv wv (by decide)) ?_
      rintro _ h7 ⟨rfl, kp7⟩
      rw [txt_eq]
      try simp only [Vb.execs, Vb.exec, Vb.evalE, Vb.evalEs, Vb.evalT, Vb.evalI, Vb.evalO, Vb.evalOT, Vb.asgS, Vb.bind_ok, Vb.bind_assoc, Vb.then_ok, Vb.then_bind, Vb.next_then, Vb.next_next, Vb.next_nx, Vb.next_rt, Vb.next_bk, Vb.next_ct, Vb.fin_then, Vb.fin_rt, Vb.fin_nx, Vb.opt_some, Vb.cb_fn, Vb.cb_cls, Vb.gl0, Vb.gls, List.getElem?_cons_zero, List.getElem?_cons_succ, List.set_cons_zero, List.set_cons_succ, Vb.storeTg, Vb.storeAll, Option.map_some, List.length_cons, List.length_nil, Nat.zero_add, Nat.reduceAdd, Vb.ln0, Vb.ln1, Vb.ln2, Vb.ln3, Vb.ln4, Vb.ln5, Vb.ln6, if_true, Vb.newObj, Vb.it_tup, Vb.it_ref, Vb.it_str, Vb.ty_join, Vb.ty_split, Vb.ty_append, Vb.ty_extend, Vb.ty_pop, Option.isSome_some, List.map_cons, List.map_nil, Bool.false_eq_true, if_false, Vb.tr_bl, Vb.wipeL, decide_true, decide_false, Bool.not_true, Bool.not_false, Vb.b_add, Vb.b_sub, Vb.c_lt, Vb.c_le, Vb.c_gt, Vb.c_ge, Vb.c_eq_int, Vb.c_ne_int, Vb.c_isn_non, Vb.c_isn_int, Vb.c_isn_tup, Vb.c_notn_non, Vb.c_notn_int, Vb.c_notn_tup, Vb.ix_tup, Vb.bi_list_tup, Vb.isi_int_non, Vb.isi_int_bl, Vb.isi_int_int, Vb.isi_int_str, Vb.isi_int_tup, Vb.isi_int_ref, Vb.isi_bool_non, Vb.isi_bool_bl, Vb.isi_bool_int, Vb.isi_bool_str, Vb.isi_bool_tup, Vb.isi_bool_ref, Vb.isi_str_non, Vb.isi_str_bl, Vb.isi_str_int, Vb.isi_str_str, Vb.isi_str_tup, Vb.isi_str_ref, Vb.isi_tup_non, Vb.isi_tup_bl, Vb.isi_tup_int, Vb.isi_tup_str, Vb.isi_tup_tup, Vb.isi_tup_ref, Vb.isi_lst_non, Vb.isi_lst_bl, Vb.isi_lst_int, Vb.isi_lst_str, Vb.isi_lst_tup, Vb.isi_lst_ref, ne_same (h := h7) (ok_txt tv)]
      refine SOk.then_ (sp5 h7 tv wv (by decide)) ?_
      rintro vv h8 ⟨ev, kp8⟩
      rw [ev]
      try simp only [Vb.execs, Vb.exec, Vb.evalE, Vb.evalEs, Vb.evalT, Vb.evalI, Vb.evalO, Vb.evalOT, Vb.asgS, Vb.bind_ok, Vb.bind_assoc, Vb.then_ok, Vb.then_bind, Vb.next_then, Vb.next_next, Vb.next_nx, Vb.next_rt, Vb.next_bk, Vb.next_ct, Vb.fin_then, Vb.fin_rt, Vb.fin_nx, Vb.opt_some, Vb.cb_fn, Vb.cb_cls, Vb.gl0, Vb.gls, List.getElem?_cons_zero, List.getElem?_cons_succ, List.set_cons_zero, List.set_cons_succ, Vb.storeTg, Vb.storeAll, Option.map_some, List.length_cons, List.length_nil, Nat.zero_add, Nat.reduceAdd, Vb.ln0, Vb.ln1, Vb.ln2, Vb.ln3, Vb.ln4, Vb.ln5, Vb.ln6, if_true, Vb.newObj, Vb.it_tup, Vb.it_ref, Vb.it_str, Vb.ty_join, Vb.ty_split, Vb.ty_append, Vb.ty_extend, Vb.ty_pop, Option.isSome_some, List.map_cons, List.map_nil, Bool.false_eq_true, if_false, Vb.tr_bl, Vb.wipeL, decide_true, decide_false, Bool.not_true, Bool.not_false, Vb.b_add, Vb.b_sub, Vb.c_lt, Vb.c_le, Vb.c_gt, Vb.c_ge, Vb.c_eq_int, Vb.c_ne_int, Vb.c_isn_non, Vb.c_isn_int, Vb.c_isn_tup, Vb.c_notn_non, Vb.c_notn_int, Vb.c_notn_tup, Vb.ix_tup, Vb.bi_list_tup, Vb.isi_int_non, Vb.isi_int_bl, Vb.isi_int_int, Vb.isi_int_str, Vb.isi_int_tup, Vb.isi_int_ref, Vb.isi_bool_non, Vb.isi_bool_bl, Vb.isi_bool_int, Vb.isi_bool_str, Vb.isi_bool_tup, Vb.isi_bool_ref, Vb.isi_str_non, Vb.isi_str_bl, Vb.isi_str_int, Vb.isi_str_str, Vb.isi_str_tup, Vb.isi_str_ref, Vb.isi_tup_non, Vb.isi_tup_bl, Vb.isi_tup_int, Vb.isi_tup_str, Vb.isi_tup_tup, Vb.isi_tup_ref, Vb.isi_lst_non, Vb.isi_lst_bl, Vb.isi_lst_int, Vb.isi_lst_str, Vb.isi_lst_tup, Vb.isi_lst_ref, es, ne_same (h := h8) oks]
      exact .ret ⟨_, _, fun x hx => hv x (by simp [hx]), rfl, kp5.trans (kp6.trans (kp7.trans kp8))⟩
    · intro v hv
      simp only [List.mem_cons, List.not_mem_nil, or_false] at hv
      rcases hv with rfl | rfl
      · exact isSt_T ts
      · exact small_st nbs
    · rintro fl h5 qq
      cases fl with
      | nx lo =>
        obtain ⟨y3, y4, _, rfl, kp5⟩ := qq
        have e5 := kp5.get e4 (by simp)
        have d5 := d4.keep kp5 (by simp)
        try simp only [Vb.execs, Vb.exec, Vb.evalE, Vb.evalEs, Vb.evalT, Vb.evalI, Vb.evalO, Vb.evalOT, Vb.asgS, Vb.bind_ok, Vb.bind_assoc, Vb.then_ok, Vb.then_bind, Vb.next_then, Vb.next_next, Vb.next_nx, Vb.next_rt, Vb.next_bk, Vb.next_ct, Vb.fin_then, Vb.fin_rt, Vb.fin_nx, Vb.opt_some, Vb.cb_fn, Vb.cb_cls, Vb.gl0, Vb.gls, List.getElem?_cons_zero, List.getElem?_cons_succ, List.set_cons_zero, List.set_cons_succ, Vb.storeTg, Vb.storeAll, Option.map_some, List.length_cons, List.length_nil, Nat.zero_add, Nat.reduceAdd, Vb.ln0, Vb.ln1, Vb.ln2, Vb.ln3, Vb.ln4, Vb.ln5, Vb.ln6, if_true, Vb.newObj, Vb.it_tup, Vb.it_ref, Vb.it_str, Vb.ty_join, Vb.ty_split, Vb.ty_append, Vb.ty_extend, Vb.ty_pop, Option.isSome_some, List.map_cons, List.map_nil, Bool.false_eq_true, if_false, Vb.tr_bl, Vb.wipeL, decide_true, decide_false, Bool.not_true, Bool.not_false, Vb.b_add, Vb.b_sub, Vb.c_lt, Vb.c_le, Vb.c_gt, Vb.c_ge, Vb.c_eq_int, Vb.c_ne_int, Vb.c_isn_non, Vb.c_isn_int, Vb.c_isn_tup, Vb.c_notn_non, Vb.c_notn_int, Vb.c_notn_tup, Vb.ix_tup, Vb.bi_list_tup, Vb.isi_int_non, Vb.isi_int_bl, Vb.isi_int_int, Vb.isi_int_str, Vb.isi_int_tup, Vb.isi_int_ref, Vb.isi_bool_non, Vb.isi_bool_bl, Vb.isi_bool_int, Vb.isi_bool_str, Vb.isi_bool_tup, Vb.isi_bool_ref, Vb.isi_str_non, Vb.isi_str_bl, Vb.isi_str_int, Vb.isi_str_str, Vb.isi_str_tup, Vb.isi_str_ref, Vb.isi_tup_non, Vb.isi_tup_bl, Vb.isi_tup_int, Vb.isi_tup_str, Vb.isi_tup_tup, Vb.isi_tup_ref, Vb.isi_lst_non, Vb.isi_lst_bl, Vb.isi_lst_int, Vb.isi_lst_str, Vb.isi_lst_tup, Vb.isi_lst_ref]
        refine SOk.then_ (sp29 1 h5 q _ d5 (by omega)) ?_
        rintro p h6 ⟨pp, kp6, d6⟩
        have e6 := kp6.get e5 (by simp; exact q0)
        try simp only [Vb.execs, Vb.exec, Vb.evalE, Vb.evalEs, Vb.evalT, Vb.evalI, Vb.evalO, Vb.evalOT, Vb.asgS, Vb.bind_ok, Vb.bind_assoc, Vb.then_ok, Vb.then_bind, Vb.next_then, Vb.next_next, Vb.next_nx, Vb.next_rt, Vb.next_bk, Vb.next_ct, Vb.fin_then, Vb.fin_rt, Vb.fin_nx, Vb.opt_some, Vb.cb_fn, Vb.cb_cls, Vb.gl0, Vb.gls, List.getElem?_cons_zero, List.getElem?_cons_succ, List.set_cons_zero, List.set_cons_succ, Vb.storeTg, Vb.storeAll, Option.map_some, List.length_cons, List.length_nil, Nat.zero_add, Nat.reduceAdd, Vb.ln0, Vb.ln1, Vb.ln2, Vb.ln3, Vb.ln4, Vb.ln5, Vb.ln6, if_true, Vb.newObj, Vb.it_tup, Vb.it_ref, Vb.it_str, Vb.ty_join, Vb.ty_split, Vb.ty_append, Vb.ty_extend, Vb.ty_pop, Option.isSome_some, List.map_cons, List.map_nil, Bool.false_eq_true, if_false, Vb.tr_bl, Vb.wipeL, decide_true, decide_false, Bool.not_true, Bool.not_false, Vb.b_add, Vb.b_sub, Vb.c_lt, Vb.c_le, Vb.c_gt, Vb.c_ge, Vb.c_eq_int, Vb.c_ne_int, Vb.c_isn_non, Vb.c_isn_int, Vb.c_isn_tup, Vb.c_notn_non, Vb.c_notn_int, Vb.c_notn_tup, Vb.ix_tup, Vb.bi_list_tup, Vb.isi_int_non, Vb.isi_int_bl, Vb.isi_int_int, Vb.isi_int_str, Vb.isi_int_tup, Vb.isi_int_ref, Vb.isi_bool_non, Vb.isi_bool_bl, Vb.isi_bool_int, Vb.isi_bool_str, Vb.isi_bool_tup, Vb.isi_bool_ref, Vb.isi_str_non, Vb.isi_str_bl, Vb.isi_str_int, Vb.isi_str_str, Vb.isi_str_tup, Vb.isi_str_ref, Vb.isi_tup_non, Vb.isi_tup_bl, Vb.isi_tup_int, Vb.isi_tup_str, Vb.isi_tup_tup, Vb.isi_tup_ref, Vb.isi_lst_non, Vb.isi_lst_bl, Vb.isi_lst_int, Vb.isi_lst_str, Vb.isi_lst_tup, Vb.isi_lst_ref]
        refine SOk.then_ (sp33 (n := 1) h6 pp) ?_
        rintro _ h7 ⟨w, rfl, hw, ew, kp7⟩
        rw [rows_join ew (rowsP_le pp).1 (rowsP_le pp).2, show Txt.join "\n" (rowsP p) = txtP p from rfl]
        try simp only [Vb.execs, Vb.exec, Vb.evalE, Vb.evalEs, Vb.evalT, Vb.evalI, Vb.evalO, Vb.evalOT, Vb.asgS, Vb.bind_ok, Vb.bind_assoc, Vb.then_ok, Vb.then_bind, Vb.next_then, Vb.next_next, Vb.next_nx, Vb.next_rt, Vb.next_bk, Vb.next_ct, Vb.fin_then, Vb.fin_rt, Vb.fin_nx, Vb.opt_some, Vb.cb_fn, Vb.cb_cls, Vb.gl0, Vb.gls, List.getElem?_cons_zero, List.getElem?_cons_succ, List.set_cons_zero, List.set_cons_succ, Vb.storeTg, Vb.storeAll, Option.map_some, List.length_cons, List.length_nil, Nat.zero_add, Nat.reduceAdd, Vb.ln0, Vb.ln1, Vb.ln2, Vb.ln3, Vb.ln4, Vb.ln5, Vb.ln6, if_true, Vb.newObj, Vb.it_tup, Vb.it_ref, Vb.it_str, Vb.ty_join, Vb.ty_split, Vb.ty_append, Vb.ty_extend, Vb.ty_pop, Option.isSome_some, List.map_cons, List.map_nil, Bool.false_eq_true, if_false, Vb.tr_bl, Vb.wipeL, decide_true, decide_false, Bool.not_true, Bool.not_false, Vb.b_add, Vb.b_sub, Vb.c_lt, Vb.c_le, Vb.c_gt, Vb.c_ge, Vb.c_eq_int, Vb.c_ne_int, Vb.c_isn_non, Vb.c_isn_int, Vb.c_isn_tup, Vb.c_notn_non, Vb.c_notn_int, Vb.c_notn_tup, Vb.ix_tup, Vb.bi_list_tup, Vb.isi_int_non, Vb.isi_int_bl, Vb.isi_int_int, Vb.isi_int_str, Vb.isi_int_tup, Vb.isi_int_ref, Vb.isi_bool_non, Vb.isi_bool_bl, Vb.isi_bool_int, Vb.isi_bool_str, Vb.isi_bool_tup, Vb.isi_bool_ref, Vb.isi_str_non, Vb.isi_str_bl, Vb.isi_str_int, Vb.isi_str_str, Vb.isi_str_tup, Vb.isi_str_ref, Vb.isi_tup_non, Vb.isi_tup_bl, Vb.isi_tup_int, Vb.isi_tup_str, Vb.isi_tup_tup, Vb.isi_tup_ref, Vb.isi_lst_non, Vb.isi_lst_bl, Vb.isi_lst_int, Vb.isi_lst_str, Vb.isi_lst_tup, Vb.isi_lst_ref]
        obtain ⟨s, oks, es⟩ := repr_P pp
        refine SOk.then_ (sp9 (n := 0) h7 pp) ?_
        rintro _ h8 ⟨rfl, kp8⟩
        try simp only [Vb.execs, Vb.exec, Vb.evalE, Vb.evalEs, Vb.evalT, Vb.evalI, Vb.evalO, Vb.evalOT, Vb.asgS, Vb.bind_ok, Vb.bind_assoc, Vb.then_ok, Vb.then_bind, Vb.next_then, Vb.next_next, Vb.next_nx, Vb.next_rt, Vb.next_bk, Vb.next_ct, Vb.fin_then, Vb.fin_rt, Vb.fin_nx, Vb.opt_some, Vb.cb_fn, Vb.cb_cls, Vb.gl0, Vb.gls, List.getElem?_cons_zero, List.getElem?_cons_succ, List.set_cons_zero, List.set_cons_succ, Vb.storeTg, Vb.storeAll, Option.map_some, List.length_cons, List.length_nil, Nat.zero_add, Nat.reduceAdd, Vb.ln0, Vb.ln1, Vb.ln2, Vb.ln3, Vb.ln4, Vb.ln5, Vb.ln6, if_true, Vb.newObj, Vb.it_tup, Vb.it_ref, Vb.it_str, Vb.ty_join, Vb.ty_split, Vb.ty_append, Vb.ty_extend, Vb.ty_pop, Option.isSome_some, List.map_cons, List.map_nil, Bool.false_eq_true, if_false, Vb.tr_bl, Vb.wipeL, decide_true, decide_false, Bool.not_true, Bool.not_false, Vb.b_add, Vb.b_sub, Vb.c_lt, Vb.c_le, Vb.c_gt, Vb.c_ge, Vb.c_eq_int, Vb.c_ne_int, Vb.c_isn_non, Vb.c_isn_int, Vb.c_isn_tup, Vb.c_notn_non, Vb.c_notn_int, Vb.c_notn_tup, Vb.ix_tup, Vb.bi_list_tup, Vb.isi_int_non, Vb.isi_int_bl, Vb.isi_int_int, Vb.isi_int_str, Vb.isi_int_tup, Vb.isi_int_ref, Vb.isi_bool_non, Vb.isi_bool_bl, Vb.isi_bool_int, Vb.isi_bool_str, Vb.isi_bool_tup, Vb.isi_bool_ref, Vb.isi_str_non, Vb.isi_str_bl, Vb.isi_str_int, Vb.isi_str_str, Vb.isi_str_tup, Vb.isi_str_ref, Vb.isi_tup_non, Vb.isi_tup_bl, Vb.isi_tup_int, Vb.isi_tup_str, Vb.isi_tup_tup, Vb.isi_tup_ref, Vb.isi_lst_non, Vb.isi_lst_bl, Vb.isi_lst_int, Vb.isi_lst_str, Vb.isi_lst_tup, Vb.isi_lst_ref, ne_same (h := h8) (ok_txtP pp)]
        refine SOk.then_ (sp18 (n := 6) pp) ?_
        rintro p2 h9 ⟨ep, kp9⟩
        rw [ep]
        try simp only [Vb.execs, Vb.exec, Vb.evalE, Vb.evalEs, Vb.evalT, Vb.evalI, Vb.evalO, Vb.evalOT, Vb.asgS, Vb.bind_ok, Vb.bind_assoc, Vb.then_ok, Vb.then_bind, Vb.next_then, Vb.next_next, Vb.next_nx, Vb.next_rt, Vb.next_bk, Vb.next_ct, Vb.fin_then, Vb.fin_rt, Vb.fin_nx, Vb.opt_some, Vb.cb_fn, Vb.cb_cls, Vb.gl0, Vb.gls, List.getElem?_cons_zero, List.getElem?_cons_succ, List.set_cons_zero, List.set_cons_succ, Vb.storeTg, Vb.storeAll, Option.map_some, List.length_cons, List.length_nil, Nat.zero_add, Nat.reduceAdd, Vb.ln0, Vb.ln1, Vb.ln2, Vb.ln3, Vb.ln4, Vb.ln5, Vb.ln6, if_true, Vb.newObj, Vb.it_tup, Vb.it_ref, Vb.it_str, Vb.ty_join, Vb.ty_split, Vb.ty_append, Vb.ty_extend, Vb.ty_pop, Option.isSome_some, List.map_cons, List.map_nil, Bool.false_eq_true, if_false, Vb.tr_bl, Vb.wipeL, decide_true, decide_false, Bool.not_true, Bool.not_false, Vb.b_add, Vb.b_sub, Vb.c_lt, Vb.c_le, Vb.c_gt, Vb.c_ge, Vb.c_eq_int, Vb.c_ne_int, Vb.c_isn_non, Vb.c_isn_int, Vb.c_isn_tup, Vb.c_notn_non, Vb.c_notn_int, Vb.c_notn_tup, Vb.ix_tup, Vb.bi_list_tup, Vb.isi_int_non, Vb.isi_int_bl, Vb.isi_int_int, Vb.isi_int_str, Vb.isi_int_tup, Vb.isi_int_ref, Vb.isi_bool_non, Vb.isi_bool_bl, Vb.isi_bool_int, Vb.isi_bool_str, Vb.isi_bool_tup, Vb.isi_bool_ref, Vb.isi_str_non, Vb.isi_str_bl, Vb.isi_str_int, Vb.isi_str_str, Vb.isi_str_tup, Vb.isi_str_ref, Vb.isi_tup_non, Vb.isi_tup_bl, Vb.isi_tup_int, Vb.isi_tup_str, Vb.isi_tup_tup, Vb.isi_tup_ref, Vb.isi_lst_non, Vb.isi_lst_bl, Vb.isi_lst_int, Vb.isi_lst_str, Vb.isi_lst_tup, Vb.isi_lst_ref, es, ne_same (h := h9) oks]
        have k69 : Keep [] h6 h9 := kp7.trans (kp8.trans kp9)
        have e9 := k69.get e6 (by simp)
        have d9 := d6.keep k69 (by simp)
        refine SOk.then_ (sp30 2 h9 q _ d9 (by omega)) ?_
        rintro _ ha ⟨⟨r, vs, f, rfl, hr, er, svs, hf⟩, kpa, da⟩
        have ea := kpa.get e9 (by simp; exact q0)
        try simp only [Vb.execs, Vb.exec, Vb.evalE, Vb.evalEs, Vb.evalT, Vb.evalI, Vb.evalO, Vb.evalOT, Vb.asgS, Vb.bind_ok, Vb.bind_assoc, Vb.then_ok, Vb.then_bind, Vb.next_then, Vb.next_next, Vb.next_nx, Vb.next_rt, Vb.next_bk, Vb.next_ct, Vb.fin_then, Vb.fin_rt, Vb.fin_nx, Vb.opt_some, Vb.cb_fn, Vb.cb_cls, Vb.gl0, Vb.gls, List.getElem?_cons_zero, List.getElem?_cons_succ, List.set_cons_zero, List.set_cons_succ, Vb.storeTg, Vb.storeAll, Option.map_some, List.length_cons, List.length_nil, Nat.zero_add, Nat.reduceAdd, Vb.ln0, Vb.ln1, Vb.ln2, Vb.ln3, Vb.ln4, Vb.ln5, Vb.ln6, if_true, Vb.newObj, Vb.it_tup, Vb.it_ref, Vb.it_str, Vb.ty_join, Vb.ty_split, Vb.ty_append, Vb.ty_extend, Vb.ty_pop, Option.isSome_some, List.map_cons, List.map_nil, Bool.false_eq_true, if_false, Vb.tr_bl, Vb.wipeL, decide_true, decide_false, Bool.not_true, Bool.not_false, Vb.b_add, Vb.b_sub, Vb.c_lt, Vb.c_le, Vb.c_gt, Vb.c_ge, Vb.c_eq_int, Vb.c_ne_int, Vb.c_isn_non, Vb.c_isn_int, Vb.c_isn_tup, Vb.c_notn_non, Vb.c_notn_int, Vb.c_notn_tup, Vb.ix_tup, Vb.bi_list_tup, Vb.isi_int_non, Vb.isi_int_bl, Vb.isi_int_int, Vb.isi_int_str, Vb.isi_int_tup, Vb.isi_int_ref, Vb.isi_bool_non, Vb.isi_bool_bl, Vb.isi_bool_int, Vb.isi_bool_str, Vb.isi_bool_tup, Vb.isi_bool_ref, Vb.isi_str_non, Vb.isi_str_bl, Vb.isi_str_int, Vb.isi_str_str, Vb.isi_str_tup, Vb.isi_str_ref, Vb.isi_tup_non, Vb.isi_tup_bl, Vb.isi_tup_int, Vb.isi_tup_str, Vb.isi_tup_tup, Vb.isi_tup_ref, Vb.isi_lst_non, Vb.isi_lst_bl, Vb.isi_lst_int, Vb.isi_lst_str, Vb.isi_lst_tup, Vb.isi_lst_ref]
        refine SOk.then_ (sp35 (n := 1) er svs hf) ?_
        rintro _ hb ⟨rfl, kpb⟩
        try simp only [Vb.execs, Vb.exec, Vb.evalE, Vb.evalEs, Vb.evalT, Vb.evalI, Vb.evalO, Vb.evalOT, Vb.asgS, Vb.bind_ok, Vb.bind_assoc, Vb.then_ok, Vb.then_bind, Vb.next_then, Vb.next_next, Vb.next_nx, Vb.next_rt, Vb.next_bk, Vb.next_ct, Vb.fin_then, Vb.fin_rt, Vb.fin_nx, Vb.opt_some, Vb.cb_fn, Vb.cb_cls, Vb.gl0, Vb.gls, List.getElem?_cons_zero, List.getElem?_cons_succ, List.set_cons_zero, List.set_cons_succ, Vb.storeTg, Vb.storeAll, Option.map_some, List.length_cons, List.length_nil, Nat.zero_add, Nat.reduceAdd, Vb.ln0, Vb.ln1, Vb.ln2, Vb.ln3, Vb.ln4, Vb.ln5, Vb.ln6, if_true, Vb.newObj, Vb.it_tup, Vb.it_ref, Vb.it_str, Vb.ty_join, Vb.ty_split, Vb.ty_append, Vb.ty_extend, Vb.ty_pop, Option.isSome_some, List.map_cons, List.map_nil, Bool.false_eq_true, if_false, Vb.tr_bl, Vb.wipeL, decide_true, decide_false, Bool.not_true, Bool.not_false, Vb.b_add, Vb.b_sub, Vb.c_lt, Vb.c_le, Vb.c_gt, Vb.c_ge, Vb.c_eq_int, Vb.c_ne_int, Vb.c_isn_non, Vb.c_isn_int, Vb.c_isn_tup, Vb.c_notn_non, Vb.c_notn_int, Vb.c_notn_tup, Vb.ix_tup, Vb.bi_list_tup, Vb.isi_int_non, Vb.isi_int_bl, Vb.isi_int_int, Vb.isi_int_str, Vb.isi_int_tup, Vb.isi_int_ref, Vb.isi_bool_non, Vb.isi_bool_bl, Vb.isi_bool_int, Vb.isi_bool_str, Vb.isi_bool_tup, Vb.isi_bool_ref, Vb.isi_str_non, Vb.isi_str_bl, Vb.isi_str_int, Vb.isi_str_str, Vb.isi_str_tup, Vb.isi_str_ref, Vb.isi_tup_non, Vb.isi_tup_bl, Vb.isi_tup_int, Vb.isi_tup_str, Vb.isi_tup_tup, Vb.isi_tup_ref, Vb.isi_lst_non, Vb.isi_lst_bl, Vb.isi_lst_int, Vb.isi_lst_str, Vb.isi_lst_tup, Vb.isi_lst_ref]
        exact .ret ⟨_, _, _, _, _, _, _, fun x hx' => hx x (by simp [hx']), rfl, kpb.get ea (by simp)⟩
      | _ => exact qq.elim
  · rintro fl h1 qq
    cases fl with
    | nx lo =>
      try simp only [Vb.execs, Vb.exec, Vb.evalE, Vb.evalEs, Vb.evalT, Vb.evalI, Vb.evalO, Vb.evalOT, Vb.asgS, Vb.bind_ok, Vb.bind_assoc, Vb.then_ok, Vb.then_bind, Vb.next_then, Vb.next_next, Vb.next_nx, Vb.next_rt, Vb.next_bk, Vb.next_ct, Vb.fin_then, Vb.fin_rt, Vb.fin_nx, Vb.opt_some, Vb.cb_fn, Vb.cb_cls, Vb.gl0, Vb.gls, List.getElem?_cons_zero, List.getElem?_cons_succ, List.set_cons_zero, List.set_cons_succ, Vb.storeTg, Vb.storeAll, Option.map_some, List.length_cons, List.length_nil, Nat.zero_add, Nat.reduceAdd, Vb.ln0, Vb.ln1, Vb.ln2, Vb.ln3, Vb.ln4, Vb.ln5, Vb.ln6, if_true, Vb.newObj, Vb.it_tup, Vb.it_ref, Vb.it_str, Vb.ty_join, Vb.ty_split, Vb.ty_append, Vb.ty_extend, Vb.ty_pop, Option.isSome_some, List.map_cons, List.map_nil, Bool.false_eq_true, if_false, Vb.tr_bl, Vb.wipeL, decide_true, decide_false, Bool.not_true, Bool.not_false, Vb.b_add, Vb.b_sub, Vb.c_lt, Vb.c_le, Vb.c_gt, Vb.c_ge, Vb.c_eq_int, Vb.c_ne_int, Vb.c_isn_non, Vb.c_isn_int, Vb.c_isn_tup, Vb.c_notn_non, Vb.c_notn_int, Vb.c_notn_tup, Vb.ix_tup, Vb.bi_list_tup, Vb.isi_int_non, Vb.isi_int_bl, Vb.isi_int_int, Vb.isi_int_str, Vb.isi_int_tup, Vb.isi_int_ref, Vb.isi_bool_non, Vb.isi_bool_bl, Vb.isi_bool_int, Vb.isi_bool_str, Vb.isi_bool_tup, Vb.isi_bool_ref, Vb.isi_str_non, Vb.isi_str_bl, Vb.isi_str_int, Vb.isi_str_str, Vb.isi_str_tup, Vb.isi_str_ref, Vb.isi_tup_non, Vb.isi_tup_bl, Vb.isi_tup_int, Vb.isi_tup_str, Vb.isi_tup_tup, Vb.isi_tup_ref, Vb.isi_lst_non, Vb.isi_lst_bl, Vb.isi_lst_int, Vb.isi_lst_str, Vb.isi_lst_tup, Vb.isi_lst_ref]
      exact .ret rfl
    | _ => exact qq.elim
theorem law_true (ns : List Int) (hns : ns.length ≤ 63) : ∃ h', callF Pr 16 36 [.ref 0] [.ro (ns.map .int)] = .ok (.bl true) h' := by
  obtain ⟨r, h', e, rfl⟩ := sp36 ns hns [.ro (ns.map .int)] rfl
  exact ⟨h', e⟩
end V87

set_option Elab.async false
set_option linter.all false
set_option maxRecDepth 100000
set_option maxHeartbeats 0
namespace V87
open PySem PySem.Spec PyProof.Rows L2 Vb
theorem binds : AllBinds pt.ds := by
  show AllBinds [t0, t1, t2, t3, t4, t5, t6, t7, t8, t9, t10, t11, t12, t13, t14, t15, t16, t17, t18, t19, t20, t21, t22, t23, t24, t25, t26, t27, t28, t29, t30, t31, t32, t33, t34, t35, t36]
  repeat' apply And.intro
  all_goals first
    | exact trivial
    | exact fun _ _ _ _ _ _ us hl => match us, hl with | [], _ => rfl
    | exact fun _ _ _ _ _ _ us hl => match us, hl with | [_], _ => rfl
    | exact fun _ _ _ _ _ _ us hl => match us, hl with | [_, _], _ => rfl
    | exact fun _ _ _ _ _ _ us hl => match us, hl with | [_, _, _], _ => rfl
    | exact fun _ _ _ _ _ _ us hl => match us, hl with | [_, _, _, _], _ => rfl
def lt (K : PySem.W.Frag) : LT := ⟨pt.an, pt.mn, pt.cs.map fun q => He.ga K q.1, [], by decide +kernel, by decide +kernel⟩
theorem ends (kk : Nat) (room : Room (kk + 1) callerA) (good : ∀ ns : List Int, ns.length ≤ 63 → ∃ h', callF Pr (kk + 1) 36 [.ref 0] [.ro (ns.map .int)] = .ok (.bl true) h') : PySem.Challenge.rw_vowblocks_k87_papers_and_runs_as_texts.Holds := by
  open PySem.W in w_on
  open PySem.W in o_law
  refine HandSHeadRun.head_any (r := R) (q := PySem.W.view R.prog [42]) (H := hk) (ob := ob) (M := 4000) (loose := loose) (d := HandSHeadRun.topDef R.prog 42) (kwd := []) ob_eq
    (by kernel_rfl) (fun s => by kernel_rfl) run (by kernel_rfl) (by kernel_rfl) (by kernel_rfl) (by rfl) (by first | assumption | decide +kernel) (by decide +kernel) ⟨rfl, rfl, rfl, rfl, rfl, by decide +kernel⟩ ?hw ?hc
  case hw => open PySem.W in w_witness2
  case hc =>
    refine walk_vb (l := PySem.Challenge.rw_vowblocks_k87_papers_and_runs_as_texts) (m := 63) (k := kk + 1) (x := "_law_script") rfl (by decide) (by kernel_rfl) room ?F
    intro w mg fa h Y G hmg0
    obtain ⟨K, KX, c⟩ := Y
    have hmg : mg ("law" : PySem.Str) = some (.ref fa) := by
      have e : (HandSHeadRun.topDef R.prog 42).name = ("law" : PySem.Str) := by kernel_rfl
      rw [← e]
      exact hmg0
    obtain ⟨fd, hb, hF⟩ := law_of (P := R.prog) (w := w) (Pr := Pr) (T := lt K) (k := kk) (f := 36) (d := t36) (x := "_law_script") pt_ok binds c KX G fns_ok rfl rfl rfl rfl rfl (by decide +kernel) rfl hmg
    exact ⟨K, fd, lt K, Pr, 36, KX, hb, good, fun base _ _ => hF base⟩
end V87

theorem PySem.Challenge.cw_vowblocks_k87_papers_and_runs_as_texts_holds : PySem.Challenge.rw_vowblocks_k87_papers_and_runs_as_texts.Holds := by
  exact V87.ends 15 ⟨rfl, by decide, by decide⟩ V87.law_true
