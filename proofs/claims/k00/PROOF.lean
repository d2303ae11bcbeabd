import PyProof.Rows.All
import Wide.All
import OpenK.AllK
import Wide.FinOn
import HandS.ForMost
import HandS.Walk
import HandS.Flow
import HandS.Exc
import HandS.ExcOwn
import HandS.Deep
import HandS.TupAny
import HandS.TupMul
import HandS.TupLen
import HandS.Wide
import HandS.IsInst
import HandS.Small
import HandS.SetKeys
import HandS.Style
import HandS.SortInts
import HandS.Rev
import HandS.Zip
import HandS.DictComp
import HandS.Gcd
import HandS.List
import HandS.ExcInit
import HandS.ExcSuper
import HandS.ExcIs
import HandS.ExcField
import HandS.ExcCtx
import HandS.HotCalls
import KE.KSuper
import KE.KExcSuper
import KE.KDictKeyed
import KE.KDictOf
import HandS.Dict
import KE.GoesEnum
import KE.GoesMore
import HandS.WordsExc
import HandS.SortRule
import HandS.Conv
import PyProof.Rows.FactsN_isinstance
import PyProof.Rows.FactsT1
import PyProof.Rows.FactsT2
import PyProof.Rows.FactsT3
import PyProof.Rows.FactsN_abs
import PyProof.Rows.SeqCalls
import PyProof.Rows.EnumRows
import HandS.Ends
import PySem.Challenge.RW_columns_k00_directions
set_option Elab.async false
set_option linter.all false
set_option maxRecDepth 100000
/-! Pu1: pure values, a pure heap, an evaluator over a small syntax of its own. -/
namespace Pu
open PySem PySem.Spec PyProof.Rows L2

/-- a pure value: tuples by value, lists and dicts by their number in the pure heap -/
inductive PV where
  | non | bl (b : Bool) | int (i : Int) | str (x : Str) | tup (xs : List PV) | ref (n : Nat) | gl (x : Str) | ty (n : String)

mutual
def PV.beq : PV → PV → Bool
  | .non, .non => true
  | .bl a, .bl b => a == b
  | .int a, .int b => a == b
  | .str a, .str b => decide (a = b)
  | .tup xs, .tup ys => PV.beqs xs ys
  | .ref a, .ref b => a == b
  | .gl a, .gl b => decide (a = b)
  | .ty a, .ty b => decide (a = b)
  | _, _ => false
def PV.beqs : List PV → List PV → Bool
  | [], [] => true
  | x :: xs, y :: ys => PV.beq x y && PV.beqs xs ys
  | _, _ => false
end
mutual
theorem PV.beq_eq : ∀ a b : PV, PV.beq a b = true ↔ a = b
  | .non, b => by cases b <;> simp [PV.beq]
  | .bl _, b => by cases b <;> simp [PV.beq]
  | .int _, b => by cases b <;> simp [PV.beq]
  | .str _, b => by cases b <;> simp [PV.beq]
  | .tup xs, b => by
    cases b <;> simp [PV.beq]
    rename_i ys
    exact PV.beqs_eq xs ys
  | .ref _, b => by cases b <;> simp [PV.beq]
  | .gl _, b => by cases b <;> simp [PV.beq]
  | .ty _, b => by cases b <;> simp [PV.beq]
theorem PV.beqs_eq : ∀ a b : List PV, PV.beqs a b = true ↔ a = b
  | [], b => by cases b <;> simp [PV.beqs]
  | x :: xs, b => by
    cases b with
    | nil => simp [PV.beqs]
    | cons y ys => simp [PV.beqs, PV.beq_eq x y, PV.beqs_eq xs ys]
end
instance : DecidableEq PV := fun a b => decidable_of_iff _ (PV.beq_eq a b)

/-- what stands at a number of the pure heap: a list; a dict of allInt and texts; a dict of tuples of these; a list that is read only -/
inductive PO where
  | lst (xs : List PV) | dk (kvs : List (Key × PV)) | dt (kvs : List (List Key × PV)) | fz (ns : List Int)
  | lk (kvs : List (Key × PV)) | lt (kvs : List (List Key × PV))
  deriving DecidableEq
abbrev PH := List PO

/-- an answer: a value and the heap behind it; an exception (its class's name, its fields); no word -/
inductive Res (α : Type) where
  | ok (a : α) (h : PH) | exc (c : Str) (fs : List (Str × PV)) (h : PH) | bad
def Res.bind {α β : Type} (r : Res α) (f : α → PH → Res β) : Res β := match r with
  | .ok a h => f a h
  | .exc c fs h => .exc c fs h
  | .bad => .bad
def Res.map {α β : Type} (f : α → β) (r : Res α) : Res β := match r with
  | .ok a h => .ok (f a) h
  | .exc c fs h => .exc c fs h
  | .bad => .bad
@[simp] theorem Res.bind_ok {α β : Type} (a : α) (h : PH) (f : α → PH → Res β) : (Res.ok a h).bind f = f a h := id rfl
@[simp] theorem Res.bind_exc {α β : Type} (c : Str) (fs : List (Str × PV)) (h : PH) (f : α → PH → Res β) : (Res.exc c fs h : Res α).bind f = .exc c fs h := id rfl
@[simp] theorem Res.bind_bad {α β : Type} (f : α → PH → Res β) : (Res.bad : Res α).bind f = .bad := id rfl
@[simp] theorem Res.map_ok {α β : Type} (a : α) (h : PH) (f : α → β) : (Res.ok a h).map f = .ok (f a) h := id rfl
theorem Res.bind_assoc {α β γ : Type} (r : Res α) (f : α → PH → Res β) (g : β → PH → Res γ) : (r.bind f).bind g = r.bind fun a h => (f a h).bind g := by cases r <;> rfl
/-- an exception is no word -/
def noX {α : Type} (r : Res α) : Res α := match r with
  | .ok a h => .ok a h
  | .exc _ _ _ => .bad
  | .bad => .bad
@[simp] theorem noX_ok {α : Type} (a : α) (h : PH) : noX (.ok a h) = .ok a h := id rfl
/-- of an option -/
def opt {α : Type} (o : Option α) (h : PH) : Res α := match o with
  | some a => .ok a h
  | none => .bad
@[simp] theorem opt_some {α : Type} (a : α) (h : PH) : opt (some a) h = .ok a h := id rfl
/-- under a condition -/
def guardR {α : Type} (c : Bool) (r : Res α) : Res α := if c = true then r else .bad
@[simp] theorem guardR_true {α : Type} (r : Res α) : guardR true r = r := id rfl

/-! ### the frame -/
abbrev Env := List (Option PV)
def look : Env → Nat → Option PV
  | [], _ => none
  | x :: _, 0 => x
  | _ :: r, n + 1 => look r n
def wipeE (ρ : Env) : List Nat → Env
  | [] => ρ
  | v :: vs => (wipeE ρ vs).set v none

/-! ### dropping what nothing reaches -/
mutual
def PV.lo (n : Nat) : PV → Bool
  | .tup xs => PV.los n xs
  | .ref m => decide (m < n)
  | _ => true
def PV.los (n : Nat) : List PV → Bool
  | [] => true
  | x :: xs => PV.lo n x && PV.los n xs
end
def PO.lo (n : Nat) : PO → Bool
  | .lst xs => PV.los n xs
  | .dk kvs => kvs.all fun p => p.2.lo n
  | .dt kvs => kvs.all fun p => p.2.lo n
  | .fz _ => true
  | .lk kvs => kvs.all fun p => p.2.lo n
  | .lt kvs => kvs.all fun p => p.2.lo n
def okOld (n : Nat) : PH → PH → Bool
  | [], _ => true
  | o :: r, o' :: r' => (decide (o = o') || o'.lo n) && okOld n r r'
  | _ :: _, [] => false
/-- the heap behind, less what is new, where neither the old objects that changed nor the value reach it -/
def trimH (b : Bool) (h0 h : PH) : PH := if (b && okOld h0.length h0 h) = true then h.take h0.length else h

/-! ### keys -/
def PV.key? : PV → Option Key
  | .int i => some (.inl i)
  | .str x => some (.inr x)
  | _ => none
def keys? : List PV → Option (List Key)
  | [] => some []
  | x :: xs => match x.key?, keys? xs with
    | some k, some ks => some (k :: ks)
    | _, _ => none
def ofKey : Key → PV
  | .inl i => .int i
  | .inr x => .str x
section
variable {κ : Type} [DecidableEq κ]
def aget (kvs : List (κ × PV)) (k : κ) : Option PV := (kvs.find? fun p => decide (p.1 = k)).map (·.2)
def ahas (kvs : List (κ × PV)) (k : κ) : Bool := kvs.any fun p => decide (p.1 = k)
def aput (kvs : List (κ × PV)) (k : κ) (v : PV) : List (κ × PV) := if ahas kvs k = true then kvs.map (fun p => if p.1 = k then (p.1, v) else p) else kvs ++ [(k, v)]
end

/-! ### the syntax -/
/-- built-in functions -/
inductive Bi where
  | len | tuple | list | sum | abs | int | str | min | max | sorted | isinst | dict | gcd
  deriving DecidableEq
/-- methods of built-in types -/
inductive Mt where
  | append | extend | pop | insert | index | reverse | get | setdefault | join
  deriving DecidableEq
mutual
inductive Ex where
  | var (i : Nat) | con (v : PV) | gcon (x : Str) (v : PV) | gl (x : Str)
  | tup (es : Exs) | lst (es : Exs)
  | bin (op : Operator) (a b : Ex) | neg (a : Ex) | not (a : Ex) | and (es : Exs) | or (es : Exs) | ite (c a b : Ex)
  | cmp (op : CmpOp) (a b : Ex) | cmp2 (o1 o2 : CmpOp) (a b c : Ex)
  | ix (a i : Ex) | sl (a : Ex) (lo hi : Exs) | rev (a : Ex)
  | call0 (f : Nat) | call (f : Nat) (es : Exs) | callk (f : Nat) (es ks : Exs) (perm : List Nat)
  | bi (b : Bi) (es : Exs) | mt (m : Mt) (o : Ex) (es : Exs)
  | lc (own : List Nat) (tg : Tg) (it : Si) (ifs : Exs) (e : Ex)
  | lc2 (own own1 : List Nat) (tg : Tg) (it : Si) (ifs : Exs) (tg1 : Tg) (it1 : Si) (ifs1 : Exs) (e : Ex)
  | dcK (own : List Nat) (tg : Tg) (it : Si) (ifs : Exs) (k e : Ex)
  | dcT (own : List Nat) (tg : Tg) (it : Si) (ifs : Exs) (k e : Ex)
  | dcT2 (own own1 : List Nat) (tg : Tg) (it : Si) (ifs : Exs) (tg1 : Tg) (it1 : Si) (ifs1 : Exs) (k e : Ex)
  | dicK (kvs : Kvs) | dicT (kvs : Kvs)
  | tr (e : Ex) | lk (i : Nat) (e : Ex)
inductive Exs where
  | nil | cons (e : Ex) (es : Exs)
/-- a display's keys and values -/
inductive Kvs where
  | nil | cons (k v : Ex) (r : Kvs)
/-- what a for walks -/
inductive Si where
  | val (e : Ex) | rng (es : Exs) | enum (e : Ex) | zip (a b : Ex) | rev (e : Ex) | keys (e : Ex) | items (e : Ex) | vals (e : Ex)
/-- a target -/
inductive Tg where
  | name (i : Nat) | tup (ts : Tgs) | sub (o i : Ex)
inductive Tgs where
  | nil | cons (t : Tg) (ts : Tgs)
end
mutual
/-- what an except suite evaluates: the fields and the class of the exception, constants, calls -/
inductive Hx where
  | con (v : PV) | fld (f : Str) | isi (yes no : List Str) | tup (es : Hxs) | and (a b : Hx) | call (f : Nat) (es : Hxs)
inductive Hxs where
  | nil | cons (e : Hx) (es : Hxs)
end
mutual
inductive Sm where
  | asg (tg : Tg) (e : Ex) | par (i j : Nat) (a b : Ex) | aug (i : Nat) (op : Operator) (e : Ex) | augS (o i : Ex) (op : Operator) (e : Ex)
  | exp (e : Ex) | ret (e : Ex) | retN | ite (c : Ex) (a b : Bk) | wh (c : Ex) (b : Bk) | fr (tg : Tg) (it : Si) (b : Bk) | brk | cnt | pass | bad
  | rai (x : Str) (fs : List Str) (es : Exs) | trya (b : Bk) (cat non : List Str) (e : Hx)
  | tr (s : Sm) | lk (i : Nat) (s : Sm)
inductive Bk where
  | nil | cons (s : Sm) (b : Bk)
end

/-! ### values by operators -/
mutual
/-- none, bools, allInt, texts and tuples of them -/
def PV.flat : PV → Bool
  | .non => true
  | .bl _ => true
  | .int _ => true
  | .str x => PyData.strOk x
  | .tup xs => PV.flats xs
  | _ => false
def PV.flats : List PV → Bool
  | [] => true
  | x :: xs => PV.flat x && PV.flats xs
end
mutual
def PV.dep : PV → Nat
  | .tup xs => PV.deps xs + 1
  | _ => 0
def PV.deps : List PV → Nat
  | [] => 0
  | x :: xs => max (PV.dep x) (PV.deps xs)
end
mutual
/-- == -/
def PV.eqv : PV → PV → Bool
  | .non, .non => true
  | .bl a, .bl b => a == b
  | .bl a, .int j => (if a = true then 1 else 0) == j
  | .int i, .bl b => i == (if b = true then 1 else 0)
  | .int i, .int j => i == j
  | .str x, .str y => x == y
  | .tup xs, .tup ys => PV.eqvs xs ys
  | _, _ => false
def PV.eqvs : List PV → List PV → Bool
  | [], [] => true
  | x :: xs, y :: ys => PV.eqv x y && PV.eqvs xs ys
  | _, _ => false
end
def fine (v : PV) : Bool := v.flat && decide (v.dep ≤ 50)
def fines (vs : List PV) : Bool := PV.flats vs && decide (PV.deps vs ≤ 50)

def truthy (v : PV) (h : PH) : Res Bool := match v with
  | .non => .ok false h
  | .bl b => .ok b h
  | .int i => .ok (i != 0) h
  | .str x => guardR (decide (x.length ≤ sizeLine)) (.ok ((x.length : Int) != 0) h)
  | .tup xs => .ok (!xs.isEmpty) h
  | .ref n => match h[n]? with
    | some (.lst xs) => .ok (!xs.isEmpty) h
    | some (.dk kvs) => .ok (!kvs.isEmpty) h
    | some (.fz ns) => .ok (!ns.isEmpty) h
    | _ => .bad
  | _ => .bad
/-- a new object -/
def new (o : PO) (h : PH) : Res PV := .ok (.ref h.length) (h ++ [o])
def addV (x y : PV) (h : PH) : Res PV := match x, y with
  | .int i, .int j => .ok (.int (i + j)) h
  | .str a, .str b => guardR (decide (a.length + b.length ≤ sizeLine)) (.ok (.str (a ++ b)) h)
  | .tup xs, .tup ys => guardR (decide (xs.length + ys.length ≤ sizeLine)) (.ok (.tup (xs ++ ys)) h)
  | .ref a, .ref b => match h[a]?, h[b]? with
    | some (.lst xs), some (.lst ys) => guardR (decide (xs.length + ys.length ≤ sizeLine)) (new (.lst (xs ++ ys)) h)
    | _, _ => .bad
  | _, _ => .bad
/-- a text, n times -/
def repS (a : Str) (n : Nat) : Str := ⟨(List.replicate n a.cps).foldl (· ++ ·) #[]⟩
def mulOk (i j : Int) : Bool := decide (i.natAbs.log2 + j.natAbs.log2 < 1000000)
def mulV (x y : PV) (h : PH) : Res PV := match x, y with
  | .int i, .int j => guardR (mulOk i j) (.ok (.int (i * j)) h)
  | .str a, .int k => guardR (decide (-(2 ^ 62) ≤ k ∧ k < 2 ^ 62 ∧ a.length * k.toNat ≤ 1000000)) (.ok (.str (repS a k.toNat)) h)
  | .tup xs, .int k => guardR (decide (xs ≠ [] ∧ 2 ≤ k ∧ k ≤ 1000 ∧ xs.length ≤ 1000)) (.ok (.tup (List.replicate k.toNat xs).flatten) h)
  | .ref a, .int k => match h[a]? with
    | some (.lst xs) => guardR (decide (-(2 ^ 63) ≤ k ∧ k < 2 ^ 63 ∧ xs.length * k.toNat ≤ sizeLine)) (new (.lst (List.replicate k.toNat xs).flatten) h)
    | _ => .bad
  | _, _ => .bad
def int2 (c : Int → Int → Bool) (f : Int → Int → PV) (x y : PV) (h : PH) : Res PV := match x, y with
  | .int i, .int j => guardR (c i j) (.ok (f i j) h)
  | _, _ => .bad
def binop (op : Operator) (x y : PV) (h : PH) : Res PV := match op with
  | .Add => addV x y h
  | .Sub => int2 (fun _ _ => true) (fun i j => .int (i - j)) x y h
  | .Mult => mulV x y h
  | .FloorDiv => int2 (fun _ j => decide (j ≠ 0 ∧ j.natAbs.log2 < 9000)) (fun i j => .int (if 0 < j then i / j else i.fdiv j)) x y h
  | .Mod => int2 (fun _ j => decide (j ≠ 0)) (fun i j => .int (if 0 < j then i % j else i.fmod j)) x y h
  | .Pow => int2 (fun i j => decide (0 ≤ j ∧ j ≤ 1000000 ∧ i.natAbs < 2 ^ 64)) (fun i j => .int (i ^ j.toNat)) x y h
  | .LShift => int2 (fun i j => decide (0 ≤ j ∧ j ≤ 1000000 ∧ i.natAbs < 2 ^ 64)) (fun i j => .int (i * 2 ^ j.toNat)) x y h
  | _ => .bad
def negV (x : PV) (h : PH) : Res PV := match x with
  | .int i => .ok (.int (-i)) h
  | _ => .bad
def eqR (x y : PV) (h : PH) : Res Bool := match x, y with
  | .ref a, .ref b => match h[a]?, h[b]? with
    | some (.lst xs), some (.lst ys) => guardR (fines xs && fines ys) (.ok (PV.eqvs xs ys) h)
    | _, _ => .bad
  | _, _ => guardR (fine x && fine y) (.ok (PV.eqv x y) h)
def inR (x y : PV) (h : PH) : Res Bool := match y with
  | .tup ys => guardR (fine x && fines ys) (.ok (ys.any fun z => PV.eqv z x) h)
  | .ref b => match h[b]? with
    | some (.lst ys) => guardR (fine x && fines ys) (.ok (ys.any fun z => PV.eqv z x) h)
    | some (.dk kvs) => (opt x.key? h).bind fun k h => .ok (ahas kvs k) h
    | some (.dt kvs) => match x with
      | .tup xs => (opt (keys? xs) h).bind fun k h => .ok (ahas kvs k) h
      | _ => .bad
    | some (.lk kvs) => (opt x.key? h).bind fun k h => .ok (ahas kvs k) h
    | some (.lt kvs) => match x with
      | .tup xs => (opt (keys? xs) h).bind fun k h => .ok (ahas kvs k) h
      | _ => .bad
    | _ => .bad
  | _ => .bad
def isR (x y : PV) (h : PH) : Res Bool := match y with
  | .non => match x with
    | .gl _ => .bad
    | x => .ok (decide (x = .non)) h
  | .bl b => match x with
    | .bl a => .ok (decide (a = b)) h
    | _ => .bad
  | _ => .bad
def ltR (c : Int → Int → Bool) (x y : PV) (h : PH) : Res Bool := match x, y with
  | .int i, .int j => .ok (c i j) h
  | _, _ => .bad
def notR (r : Res Bool) : Res Bool := r.map fun b => !b
def cmpR (op : CmpOp) (x y : PV) (h : PH) : Res Bool := match op with
  | .Eq => eqR x y h
  | .NotEq => notR (eqR x y h)
  | .Lt => ltR (fun i j => decide (i < j)) x y h
  | .LtE => ltR (fun i j => decide (i ≤ j)) x y h
  | .Gt => ltR (fun i j => decide (j < i)) x y h
  | .GtE => ltR (fun i j => decide (j ≤ i)) x y h
  | .In => inR x y h
  | .NotIn => notR (inR x y h)
  | .Is => isR x y h
  | .IsNot => notR (isR x y h)
def cmpop (op : CmpOp) (x y : PV) (h : PH) : Res PV := (cmpR op x y h).map .bl
/-- o[i] -/
def ixV (x y : PV) (h : PH) : Res PV := match x with
  | .tup xs => match y with
    | .int i => opt (atI xs i) h
    | _ => .bad
  | .ref a => match h[a]? with
    | some (.lst xs) => match y with
      | .int i => opt (atI xs i) h
      | _ => .bad
    | some (.fz ns) => match y with
      | .int i => opt ((atI ns i).map .int) h
      | _ => .bad
    | some (.dk kvs) => opt (y.key?.bind (aget kvs)) h
    | some (.dt kvs) => match y with
      | .tup ks => opt ((keys? ks).bind (aget kvs)) h
      | _ => .bad
    | some (.lk kvs) => opt (y.key?.bind (aget kvs)) h
    | some (.lt kvs) => match y with
      | .tup ks => opt ((keys? ks).bind (aget kvs)) h
      | _ => .bad
    | _ => .bad
  | _ => .bad
def cutP {α : Type} (xs : List α) (lo hi : Option Int) : List α := (xs.drop (HT.sIx xs.length 0 lo)).take (HT.sIx xs.length xs.length hi - HT.sIx xs.length 0 lo)
def slV (x : PV) (lo hi : Option Int) (h : PH) : Res PV := match x with
  | .tup xs => .ok (.tup (cutP xs lo hi)) h
  | .ref a => match h[a]? with
    | some (.lst xs) => new (.lst (cutP xs lo hi)) h
    | some (.fz ns) => new (.lst ((cutP ns lo hi).map .int)) h
    | _ => .bad
  | _ => .bad
def intOf : PV → Option Int
  | .int i => some i
  | _ => none
/-- a bound of a slice -/
def bnd (vs : List PV) (h : PH) : Res (Option Int) := match vs with
  | [] => .ok none h
  | [.int i] => .ok (some i) h
  | _ => .bad
def revV (x : PV) (h : PH) : Res PV := match x with
  | .tup xs => .ok (.tup xs.reverse) h
  | .ref a => match h[a]? with
    | some (.lst xs) => new (.lst xs.reverse) h
    | _ => .bad
  | _ => .bad
/-- o[i] = v -/
def setV (o i v : PV) (h : PH) : Res Unit := match o with
  | .ref a => match h[a]? with
    | some (.lst xs) => match i with
      | .int k => match ixN xs.length k with
        | some j => .ok () (h.set a (.lst (xs.set j v)))
        | none => .bad
      | _ => .bad
    | some (.dk kvs) => match i.key? with
      | some k => guardR (decide (kvs.length < sizeLine)) (.ok () (h.set a (.dk (aput kvs k v))))
      | none => .bad
    | some (.dt kvs) => match i with
      | .tup ks => match keys? ks with
        | some k => guardR (decide (kvs.length < sizeLine)) (.ok () (h.set a (.dt (aput kvs k v))))
        | none => .bad
      | _ => .bad
    | _ => .bad
  | _ => .bad
/-- allInt of a list -/
def allInt : List PV → Option (List Int)
  | [] => some []
  | .int i :: r => (allInt r).map (i :: ·)
  | _ :: _ => none
def sortI (ns : List Int) : List Int := ns.mergeSort fun a b => decide (a ≤ b)
def maxI : List Int → Int
  | [] => 0
  | [a] => a
  | a :: r => max a (maxI r)
def minI : List Int → Int
  | [] => 0
  | [a] => a
  | a :: r => min a (minI r)
/-- pairs of ints -/
def prOf : PV → Option (Int × Int)
  | .tup [.int a, .int b] => some (a, b)
  | _ => none
def ofPr (p : Int × Int) : PV := .tup [.int p.1, .int p.2]
def allPr : List PV → Option (List (Int × Int))
  | [] => some []
  | x :: xs => (prOf x).bind fun p => (allPr xs).map fun ps => p :: ps
/-- by the first, then by the second -/
def leP (p q : Int × Int) : Bool := decide (p.1 < q.1) || (decide (p.1 = q.1) && decide (p.2 ≤ q.2))
def sortP (ps : List (Int × Int)) : List (Int × Int) := ps.mergeSort leP
/-- the type's name -/
def tyOf (v : PV) (h : PH) : Option String := match v with
  | .non => some "NoneType"
  | .bl _ => some "bool"
  | .int _ => some "int"
  | .str _ => some "str"
  | .tup _ => some "tuple"
  | .ref n => match h[n]? with
    | some (.lst _) => some "list"
    | some (.fz _) => some "list"
    | some (.dk _) => some "dict"
    | some (.dt _) => some "dict"
    | _ => none
  | _ => none
def isi (t : String) (c : PV) : Option Bool := match c with
  | .ty n => if n = "int" ∨ n = "str" ∨ n = "bool" ∨ n = "tuple" ∨ n = "list" ∨ n = "dict" then some (decide (t = n) || (decide (t = "bool") && decide (n = "int"))) else none
  | _ => none
def lstOf (v : PV) (h : PH) : Option (List PV) := match v with
  | .tup xs => some xs
  | .ref n => match h[n]? with
    | some (.lst xs) => some xs
    | some (.fz ns) => some (ns.map .int)
    | _ => none
  | _ => none
def allStr : List PV → Option (List Str)
  | [] => some []
  | .str x :: xs => (allStr xs).map (x :: ·)
  | _ :: _ => none
/-- small cells: keys that are told apart by their hashes -/
def smKey (k : List Key) : Bool := match k with
  | [.inl x, .inl y] => decide (0 ≤ x ∧ x < 8 ∧ 0 ≤ y ∧ y < 8)
  | _ => false
def biV (b : Bi) (vs : List PV) (h : PH) : Res PV := match b with
  | .len => match vs with
    | [.str x] => guardR (decide (x.length ≤ sizeLine)) (.ok (.int x.length) h)
    | [.ref n] => match h[n]? with
      | some (.lst xs) => .ok (.int xs.length) h
      | some (.fz ns) => .ok (.int ns.length) h
      | some (.dk kvs) => .ok (.int kvs.length) h
      | some (.dt kvs) => .ok (.int kvs.length) h
      | _ => .bad
    | [.tup xs] => .ok (.int xs.length) h
    | _ => .bad
  | .tuple => match vs with
    | [v] => (opt (lstOf v h) h).bind fun xs h => .ok (.tup xs) h
    | _ => .bad
  | .list => match vs with
    | [v] => (opt (lstOf v h) h).bind fun xs h => new (.lst xs) h
    | _ => .bad
  | .sum => match vs with
    | [.ref n] => match h[n]? with
      | some (.lst xs) => (opt (allInt xs) h).bind fun ns h => .ok (.int ns.sum) h
      | _ => .bad
    | _ => .bad
  | .abs => match vs with
    | [.int i] => .ok (.int (if i < 0 then -i else i)) h
    | _ => .bad
  | .int => match vs with
    | [.int i] => .ok (.int i) h
    | [.bl k] => .ok (.int (if k = true then 1 else 0)) h
    | _ => .bad
  | .str => match vs with
    | [.int i] => guardR (decide (i.natAbs.log2 < 1920)) (.ok (.str (Str.ofString (toString i))) h)
    | _ => .bad
  | .min => match vs with
    | [.int i, .int j] => .ok (.int (if j < i then j else i)) h
    | [.ref n] => match h[n]? with
      | some (.lst xs) => (opt (allInt xs) h).bind fun ns h => guardR (decide (0 < ns.length)) (.ok (.int (minI ns)) h)
      | _ => .bad
    | _ => .bad
  | .max => match vs with
    | [.int i, .int j] => .ok (.int (if j > i then j else i)) h
    | [.ref n] => match h[n]? with
      | some (.lst xs) => (opt (allInt xs) h).bind fun ns h => guardR (decide (0 < ns.length)) (.ok (.int (maxI ns)) h)
      | _ => .bad
    | _ => .bad
  | .sorted => match vs with
    | [.ref n] => match h[n]? with
      | some (.lst xs) => match allInt xs with
        | some ns => new (.lst ((sortI ns).map .int)) h
        | none => (opt (allPr xs) h).bind fun ps h => new (.lst ((sortP ps).map ofPr)) h
      | some (.dk kvs) => (opt (allInt (kvs.map fun p => ofKey p.1)) h).bind fun ns h => guardR (decide (ns.length < 64)) (new (.lst ((sortI ns).map .int)) h)
      | some (.dt kvs) => (opt (allPr (kvs.map fun p => .tup (p.1.map ofKey))) h).bind fun ps h => new (.lst ((sortP ps).map ofPr)) h
      | _ => .bad
    | _ => .bad
  | .isinst => match vs with
    | [v, c] => (opt ((tyOf v h).bind fun t => isi t c) h).bind fun b h => .ok (.bl b) h
    | _ => .bad
  | .gcd => match vs with
    | [.int i, .int j] => .ok (.int ((Nat.gcd i.natAbs j.natAbs : Nat) : Int)) h
    | _ => .bad
  | .dict => match vs with
    | [.ref n] => match h[n]? with
      | some (.dt kvs) => guardR (kvs.all fun p => smKey p.1) (new (.dt kvs) h)
      | _ => .bad
    | _ => .bad
def mtV (m : Mt) (o : PV) (vs : List PV) (h : PH) : Res PV := match o with
  | .ref a => match h[a]? with
    | some (.lst xs) => match m with
      | .append => match vs with
        | [v] => guardR (decide (xs.length < sizeLine)) (.ok .non (h.set a (.lst (xs ++ [v]))))
        | _ => .bad
      | .extend => match vs with
        | [.ref b] => match h[b]? with
          | some (.lst ys) => guardR (decide (xs.length + ys.length ≤ sizeLine)) (.ok .non (h.set a (.lst (xs ++ ys))))
          | _ => .bad
        | _ => .bad
      | .pop => match vs with
        | [] => match xs[xs.length - 1]? with
          | some y => .ok y (h.set a (.lst xs.dropLast))
          | none => .bad
        | [.int i] => match seqIndex? i xs.length with
          | some k => match xs[k]? with
            | some y => guardR (decide (-(2 ^ 63) ≤ i ∧ i < 2 ^ 63)) (.ok y (h.set a (.lst (xs.eraseIdx k))))
            | none => .bad
          | none => .bad
        | _ => .bad
      | .reverse => match vs with
        | [] => .ok .non (h.set a (.lst xs.reverse))
        | _ => .bad
      | .insert => match vs with
        | [.int i, y] => guardR (decide (xs.length < sizeLine ∧ 0 ≤ i ∧ i < 2 ^ 63)) (.ok .non (h.set a (.lst (xs.take i.toNat ++ [y] ++ xs.drop i.toNat))))
        | _ => .bad
      | _ => .bad
    | some (.dk kvs) => match m with
      | .get => match vs with
        | [k, d] => (opt k.key? h).bind fun k h => .ok ((aget kvs k).getD d) h
        | _ => .bad
      | .setdefault => match vs with
        | [k, d] => (opt k.key? h).bind fun k h => match aget kvs k with
          | some v => guardR (decide (kvs.length < sizeLine)) (.ok v h)
          | none => guardR (decide (kvs.length < sizeLine)) (.ok d (h.set a (.dk (aput kvs k d))))
        | _ => .bad
      | _ => .bad
    | some (.dt kvs) => match m with
      | .get => match vs with
        | [.tup ks, d] => (opt (keys? ks) h).bind fun k h => .ok ((aget kvs k).getD d) h
        | _ => .bad
      | _ => .bad
    | _ => .bad
  | .str a => match m with
    | .join => match vs with
      | [v] => (opt ((lstOf v h).bind allStr) h).bind fun ys h => guardR (decide ((ys.map (·.length)).sum + ys.length * a.length ≤ 16777216)) (.ok (.str (Txt.join a ys)) h)
      | _ => .bad
    | _ => .bad
  | _ => .bad

/-- the receiver's type, as the method wants it -/
def mtTy (m : Mt) (o : PV) (h : PH) : Bool := match m, o with
  | .join, .str _ => true
  | .get, .ref a => match h[a]? with
    | some (.dk _) => true
    | some (.dt _) => true
    | _ => false
  | .setdefault, .ref a => match h[a]? with
    | some (.dk _) => true
    | _ => false
  | .join, _ => false
  | .get, _ => false
  | .setdefault, _ => false
  | _, .ref a => match h[a]? with
    | some (.lst _) => true
    | _ => false
  | _, _ => false

/-! ### what is walked -/
/-- which objects are to stay as they are -/
abbrev Gd := List (Nat × PO)
def gdOk (g : Gd) (h : PH) : Bool := g.all fun p => decide (h[p.1]? = some p.2)
def pairs (xs ys : List PV) : List PV := xs.zipWith (fun x y => .tup [x, y]) ys
def nums (n : Nat) : List PV := (List.range n).map fun (i : Nat) => .int (i : Int)
def walkV (v : PV) (h : PH) : Res (List PV × Gd) := match v with
  | .tup xs => .ok (xs, []) h
  | .ref n => match h[n]? with
    | some (.lst xs) => .ok (xs, [(n, .lst xs)]) h
    | some (.fz ns) => .ok (ns.map .int, [(n, .fz ns)]) h
    | _ => .bad
  | _ => .bad
def rngV (vs : List PV) (h : PH) : Res (List PV × Gd) := match vs with
  | [.int j] => guardR (decide (-(2 ^ 62) ≤ j ∧ j < 2 ^ 62 ∧ j.toNat ≤ sizeLine)) (.ok ((List.range j.toNat).map (fun (k : Nat) => .int (k : Int)), []) h)
  | [.int i, .int j] => guardR (decide (-(2 ^ 62) ≤ i ∧ i < 2 ^ 62 ∧ -(2 ^ 62) ≤ j ∧ j < 2 ^ 62)) (.ok ((List.range (j - i).toNat).map (fun (k : Nat) => .int (i + k)), []) h)
  | [.int i, .int j, .int c] => guardR (decide (c = -1 ∧ -(2 ^ 61) ≤ i ∧ i < 2 ^ 61 ∧ -(2 ^ 61) ≤ j ∧ j < 2 ^ 61)) (.ok ((List.range (i - j).toNat).map (fun (k : Nat) => .int (i + (k : Int) * c)), []) h)
  | _ => .bad

/-- the keys of a locked dict -/
def keysV (v : PV) (h : PH) : Res (List PV × Gd) := match v with
  | .ref n => match h[n]? with
    | some (.lk kvs) => .ok (kvs.map (fun p => ofKey p.1), [(n, .lk kvs)]) h
    | some (.lt kvs) => .ok (kvs.map (fun p => .tup (p.1.map ofKey)), [(n, .lt kvs)]) h
    | _ => .bad
  | _ => .bad
/-- a dict that is locked: as it was, as it is -/
def lockAt (v : Option PV) (h : PH) : Option (Nat × PO × PO) := match v with
  | some (.ref n) => match h[n]? with
    | some (.dk kvs) => some (n, .dk kvs, .lk kvs)
    | some (.dt kvs) => some (n, .dt kvs, .lt kvs)
    | _ => none
  | _ => none
/-- the heap behind is another -/
def onH {α : Type} (f : PH → PH) (r : Res α) : Res α := match r with
  | .ok a h => .ok a (f h)
  | .exc c fs h => .exc c fs (f h)
  | .bad => .bad
/-! ### loops -/
/-- how a statement ends -/
inductive Fl where
  | nx (ρ : Env) | rt (v : PV) | bk (ρ : Env) | ct (ρ : Env)
def forL (step : PV → Env → PH → Res Fl) (g : Gd) : List PV → Env → PH → Res Fl
  | [], ρ, h => guardR (gdOk g h) (.ok (.nx ρ) h)
  | x :: xs, ρ, h => guardR (gdOk g h) ((step x ρ h).bind fun f h => match f with
    | .nx ρ => forL step g xs ρ h
    | .ct ρ => forL step g xs ρ h
    | .bk ρ => .ok (.nx ρ) h
    | .rt v => .ok (.rt v) h)
def whL (cond : Env → PH → Res Bool) (body : Env → PH → Res Fl) : Nat → Env → PH → Res Fl
  | 0, _, _ => .bad
  | n + 1, ρ, h => (cond ρ h).bind fun b h => if b = true then (body ρ h).bind fun f h => match f with
      | .nx ρ => whL cond body n ρ h
      | .ct ρ => whL cond body n ρ h
      | .bk ρ => .ok (.nx ρ) h
      | .rt v => .ok (.rt v) h
    else .ok (.nx ρ) h
/-- a comprehension: each turn turns what is made so far -/
def lcL {β : Type} (step : PV → β → PH → Res β) (g : Gd) : List PV → β → PH → Res β
  | [], acc, h => guardR (gdOk g h) (.ok acc h)
  | x :: xs, acc, h => guardR (gdOk g h) ((step x acc h).bind fun acc h => lcL step g xs acc h)

/-! ### the evaluator -/
/-- what a call of an own def is worth; how many turns a while may have -/
structure Cfg where
  call : Nat → List PV → PH → Res PV
  fuel : Nat
def pushR (v : PV) (acc : List PV) (h : PH) : Res (List PV) := guardR (decide (acc.length < sizeLine)) (.ok (acc ++ [v]) h)
def putKR (k v : PV) (acc : List (Key × PV)) (h : PH) : Res (List (Key × PV)) := match k.key? with
  | some k => guardR (decide (acc.length < sizeLine)) (.ok (aput acc k v) h)
  | none => .bad
def putTR (k v : PV) (acc : List (List Key × PV)) (h : PH) : Res (List (List Key × PV)) := match k with
  | .tup ks => match keys? ks with
    | some k => guardR (decide (acc.length < sizeLine)) (.ok (aput acc k v) h)
    | none => .bad
  | _ => .bad
def dispK : List PV → List PV → List (Key × PV) → Option (List (Key × PV))
  | [], [], acc => some acc
  | k :: ks, v :: vs, acc => k.key?.bind fun k => dispK ks vs (aput acc k v)
  | _, _, _ => none
def dispT : List PV → List PV → List (List Key × PV) → Option (List (List Key × PV))
  | [], [], acc => some acc
  | .tup k :: ks, v :: vs, acc => (keys? k).bind fun k => dispT ks vs (aput acc k v)
  | _, _, _ => none
def iop (op : Operator) (x y : PV) (h : PH) : Res PV := match op with
  | .Add => match x, y with
    | .int i, .int j => .ok (.int (i + j)) h
    | .str a, .str b => guardR (decide (a.length + b.length ≤ sizeLine)) (.ok (.str (a ++ b)) h)
    | _, _ => .bad
  | .Sub => int2 (fun _ _ => true) (fun i j => .int (i - j)) x y h
  | _ => .bad
def kill (n : Nat) (ρ : Env) : Env := ρ.map fun o => match o with
  | some v => if v.lo n = true then some v else none
  | none => none
def trS (h0 : PH) (f : Fl) (h : PH) : Res Fl := if okOld h0.length h0 h = true then (match f with
    | .nx ρ => .ok (.nx (kill h0.length ρ)) (h.take h0.length)
    | .bk ρ => .ok (.bk (kill h0.length ρ)) (h.take h0.length)
    | .ct ρ => .ok (.ct (kill h0.length ρ)) (h.take h0.length)
    | .rt v => if v.lo h0.length = true then .ok (.rt v) (h.take h0.length) else .ok (.rt v) h)
  else .ok f h
mutual
def ev (C : Cfg) : Ex → Env → PH → Res PV
  | .var i, ρ, h => opt (look ρ i) h
  | .con v, _, h => .ok v h
  | .gcon _ v, _, h => .ok v h
  | .gl x, _, h => .ok (.gl x) h
  | .tup es, ρ, h => (evs C es ρ h).bind fun xs h => guardR (decide (xs.length ≤ sizeLine)) (.ok (.tup xs) h)
  | .lst es, ρ, h => (evs C es ρ h).bind fun xs h => guardR (decide (xs.length ≤ sizeLine)) (new (.lst xs) h)
  | .bin op a b, ρ, h => (ev C a ρ h).bind fun x h => (ev C b ρ h).bind fun y h => noX (binop op x y h)
  | .neg a, ρ, h => (ev C a ρ h).bind fun x h => noX (negV x h)
  | .not a, ρ, h => (ev C a ρ h).bind fun x h => (truthy x h).bind fun b h => .ok (.bl (!b)) h
  | .and es, ρ, h => evAnd C es ρ h
  | .or es, ρ, h => evOr C es ρ h
  | .ite c a b, ρ, h => (ev C c ρ h).bind fun x h => (truthy x h).bind fun t h => if t = true then ev C a ρ h else ev C b ρ h
  | .cmp op a b, ρ, h => (ev C a ρ h).bind fun x h => (ev C b ρ h).bind fun y h => noX (cmpop op x y h)
  | .cmp2 o1 o2 a b c, ρ, h => (ev C a ρ h).bind fun x h => (ev C b ρ h).bind fun y h => (noX (cmpR o1 x y h)).bind fun t h =>
      if t = true then (ev C c ρ h).bind fun z h => noX (cmpop o2 y z h) else .ok (.bl false) h
  | .ix a i, ρ, h => (ev C a ρ h).bind fun x h => (ev C i ρ h).bind fun y h => noX (ixV x y h)
  | .sl a lo hi, ρ, h => (ev C a ρ h).bind fun x h => (evs C lo ρ h).bind fun l h => (noX (bnd l h)).bind fun l h => (evs C hi ρ h).bind fun u h => (noX (bnd u h)).bind fun u h => noX (slV x l u h)
  | .rev a, ρ, h => (ev C a ρ h).bind fun x h => noX (revV x h)
  | .call0 f, ρ, h => noX (C.call f [] h)
  | .call f es, ρ, h => (evs C es ρ h).bind fun xs h => C.call f xs h
  | .callk f es ks p, ρ, h => (evs C es ρ h).bind fun xs h => (evs C ks ρ h).bind fun ys h => (opt (p.mapM fun i => (xs ++ ys)[i]?) h).bind fun zs h => C.call f zs h
  | .bi b es, ρ, h => (evs C es ρ h).bind fun xs h => noX (biV b xs h)
  | .mt m o es, ρ, h => (ev C o ρ h).bind fun x h => guardR (mtTy m x h) ((evs C es ρ h).bind fun xs h => noX (mtV m x xs h))
  | .lc own tg it ifs e, ρ, h => (evIt C it ρ h).bind fun s h =>
      (noX (lcL (fun x acc h => (asg C tg x (wipeE ρ own) h).bind fun ρ1 h => (evTs C ifs ρ1 h).bind fun b h =>
        if b = true then (ev C e ρ1 h).bind fun v h => pushR v acc h else .ok acc h) s.2 s.1 [] h)).bind fun xs h => new (.lst xs) h
  | .lc2 own own1 tg it ifs tg1 it1 ifs1 e, ρ, h => (evIt C it ρ h).bind fun s h =>
      (noX (lcL (fun x acc h => (asg C tg x (wipeE ρ own) h).bind fun ρ1 h => (evTs C ifs ρ1 h).bind fun b h =>
        if b = true then (evIt C it1 ρ1 h).bind fun s1 h =>
          lcL (fun x1 acc h => (asg C tg1 x1 (wipeE ρ1 own1) h).bind fun ρ2 h => (evTs C ifs1 ρ2 h).bind fun b h =>
            if b = true then (ev C e ρ2 h).bind fun v h => pushR v acc h else .ok acc h) s1.2 s1.1 acc h
        else .ok acc h) s.2 s.1 [] h)).bind fun xs h => new (.lst xs) h
  | .dcK own tg it ifs k e, ρ, h => (evIt C it ρ h).bind fun s h =>
      (noX (lcL (fun x acc h => (asg C tg x (wipeE ρ own) h).bind fun ρ1 h => (evTs C ifs ρ1 h).bind fun b h =>
        if b = true then (ev C k ρ1 h).bind fun kv h => (ev C e ρ1 h).bind fun v h => putKR kv v acc h else .ok acc h) s.2 s.1 [] h)).bind fun xs h => new (.dk xs) h
  | .dcT own tg it ifs k e, ρ, h => (evIt C it ρ h).bind fun s h =>
      (noX (lcL (fun x acc h => (asg C tg x (wipeE ρ own) h).bind fun ρ1 h => (evTs C ifs ρ1 h).bind fun b h =>
        if b = true then (ev C k ρ1 h).bind fun kv h => (ev C e ρ1 h).bind fun v h => putTR kv v acc h else .ok acc h) s.2 s.1 [] h)).bind fun xs h => new (.dt xs) h
  | .dcT2 own own1 tg it ifs tg1 it1 ifs1 k e, ρ, h => (evIt C it ρ h).bind fun s h =>
      (noX (lcL (fun x acc h => (asg C tg x (wipeE ρ own) h).bind fun ρ1 h => (evTs C ifs ρ1 h).bind fun b h =>
        if b = true then (evIt C it1 ρ1 h).bind fun s1 h =>
          lcL (fun x1 acc h => (asg C tg1 x1 (wipeE ρ1 own1) h).bind fun ρ2 h => (evTs C ifs1 ρ2 h).bind fun b h =>
            if b = true then (ev C k ρ2 h).bind fun kv h => (ev C e ρ2 h).bind fun v h => putTR kv v acc h else .ok acc h) s1.2 s1.1 acc h
        else .ok acc h) s.2 s.1 [] h)).bind fun xs h => new (.dt xs) h
  | .dicK kvs, ρ, h => (evKV C kvs ρ h).bind fun p h => (opt (dispK p.1 p.2 []) h).bind fun kvs h => new (.dk kvs) h
  | .dicT kvs, ρ, h => (evKV C kvs ρ h).bind fun p h => (opt (dispT p.1 p.2 []) h).bind fun kvs h => new (.dt kvs) h
  | .tr e, ρ, h => (ev C e ρ h).bind fun v h' => .ok v (trimH (v.lo h.length) h h')
  | .lk i e, ρ, h => match lockAt (look ρ i) h with
      | some (n, o, o') => onH (fun h => h.set n o) (ev C e ρ (h.set n o'))
      | none => .bad
def evs (C : Cfg) : Exs → Env → PH → Res (List PV)
  | .nil, _, h => .ok [] h
  | .cons e es, ρ, h => (ev C e ρ h).bind fun x h => (evs C es ρ h).bind fun xs h => .ok (x :: xs) h
/-- keys and values of a display, by turns -/
def evKV (C : Cfg) : Kvs → Env → PH → Res (List PV × List PV)
  | .nil, _, h => .ok ([], []) h
  | .cons k v r, ρ, h => (ev C k ρ h).bind fun x h => (ev C v ρ h).bind fun y h => (evKV C r ρ h).bind fun p h => .ok (x :: p.1, y :: p.2) h
def evAnd (C : Cfg) : Exs → Env → PH → Res PV
  | .nil, _, _ => .bad
  | .cons e es, ρ, h => (ev C e ρ h).bind fun x h => match es with
    | .nil => .ok x h
    | .cons _ _ => (truthy x h).bind fun t h => if t = true then evAnd C es ρ h else .ok x h
def evOr (C : Cfg) : Exs → Env → PH → Res PV
  | .nil, _, _ => .bad
  | .cons e es, ρ, h => (ev C e ρ h).bind fun x h => match es with
    | .nil => .ok x h
    | .cons _ _ => (truthy x h).bind fun t h => if t = true then .ok x h else evOr C es ρ h
/-- the tests of a clause: at most one -/
def evTs (C : Cfg) : Exs → Env → PH → Res Bool
  | .nil, _, h => .ok true h
  | .cons e es, ρ, h => match es with
    | .nil => (ev C e ρ h).bind fun x h => truthy x h
    | .cons _ _ => .bad
def evIt (C : Cfg) : Si → Env → PH → Res (List PV × Gd)
  | .val e, ρ, h => (ev C e ρ h).bind fun v h => noX (walkV v h)
  | .rng es, ρ, h => (evs C es ρ h).bind fun vs h => noX (rngV vs h)
  | .enum e, ρ, h => (ev C e ρ h).bind fun v h => (noX (walkV v h)).bind fun s h => .ok (pairs (nums s.1.length) s.1, s.2) h
  | .zip a b, ρ, h => (ev C a ρ h).bind fun x h => (ev C b ρ h).bind fun y h => (noX (walkV x h)).bind fun s h => (noX (walkV y h)).bind fun t h => .ok (pairs s.1 t.1, s.2 ++ t.2) h
  | .rev e, ρ, h => (ev C e ρ h).bind fun v h => (noX (walkV v h)).bind fun s h => .ok (s.1.reverse, s.2) h
  | .keys e, ρ, h => (ev C e ρ h).bind fun v h => noX (keysV v h)
  | .items _, _, _ => .bad
  | .vals _, _, _ => .bad
def asg (C : Cfg) : Tg → PV → Env → PH → Res Env
  | .name i, v, ρ, h => .ok (ρ.set i (some v)) h
  | .tup ts, v, ρ, h => match v with
    | .tup xs => asgs C ts xs ρ h
    | _ => .bad
  | .sub o i, v, ρ, h => (ev C o ρ h).bind fun x h => (ev C i ρ h).bind fun y h => (noX (setV x y v h)).bind fun _ h => .ok ρ h
def asgs (C : Cfg) : Tgs → List PV → Env → PH → Res Env
  | .nil, vs, ρ, h => match vs with
    | [] => .ok ρ h
    | _ :: _ => .bad
  | .cons t ts, vs, ρ, h => match vs with
    | v :: vs => (asg C t v ρ h).bind fun ρ h => asgs C ts vs ρ h
    | [] => .bad
end
def evT (C : Cfg) (e : Ex) (ρ : Env) (h : PH) : Res Bool := (ev C e ρ h).bind fun x h => truthy x h
mutual
def hv (C : Cfg) (c : Str) (fs : List (Str × PV)) : Hx → PH → Res PV
  | .con v, h => .ok v h
  | .fld f, h => opt (fs.lookup f) h
  | .isi yes no, h => if yes.contains c = true then .ok (.bl true) h else if no.contains c = true then .ok (.bl false) h else .bad
  | .tup es, h => (hvs C c fs es h).bind fun xs h => guardR (decide (xs.length ≤ sizeLine)) (.ok (.tup xs) h)
  | .and a b, h => (hv C c fs a h).bind fun x h => (truthy x h).bind fun t h => if t = true then hv C c fs b h else .ok x h
  | .call f es, h => (hvs C c fs es h).bind fun xs h => noX (C.call f xs h)
def hvs (C : Cfg) (c : Str) (fs : List (Str × PV)) : Hxs → PH → Res (List PV)
  | .nil, h => .ok [] h
  | .cons e es, h => (hv C c fs e h).bind fun x h => (hvs C c fs es h).bind fun xs h => .ok (x :: xs) h
end
/-- an exception of the body, caught or passed on -/
def caught (C : Cfg) (cat non : List Str) (e : Hx) (r : Res Fl) : Res Fl := match r with
  | .ok f h => .ok f h
  | .exc c fs h => if cat.contains c = true then (noX (hv C c fs e h)).bind fun v h => .ok (.rt v) h else if non.contains c = true then .exc c fs h else .bad
  | .bad => .bad
mutual
def evS (C : Cfg) : Sm → Env → PH → Res Fl
  | .asg tg e, ρ, h => (ev C e ρ h).bind fun v h => (noX (asg C tg v ρ h)).bind fun ρ h => .ok (.nx ρ) h
  | .par i j a b, ρ, h => (ev C a ρ h).bind fun x h => (ev C b ρ h).bind fun y h => .ok (.nx ((ρ.set i (some x)).set j (some y))) h
  | .aug i op e, ρ, h => (opt (look ρ i) h).bind fun x h => (ev C e ρ h).bind fun y h => (noX (iop op x y h)).bind fun z h => .ok (.nx (ρ.set i (some z))) h
  | .augS o i op e, ρ, h => (ev C o ρ h).bind fun x h => (ev C i ρ h).bind fun k h => (noX (ixV x k h)).bind fun y h => (ev C e ρ h).bind fun z h => (noX (iop op y z h)).bind fun r h => (noX (setV x k r h)).bind fun _ h => .ok (.nx ρ) h
  | .exp e, ρ, h => (ev C e ρ h).bind fun _ h => .ok (.nx ρ) h
  | .ret e, ρ, h => (ev C e ρ h).bind fun v h => .ok (.rt v) h
  | .retN, _, h => .ok (.rt .non) h
  | .ite c a b, ρ, h => (evT C c ρ h).bind fun t h => if t = true then evB C a ρ h else evB C b ρ h
  | .wh c b, ρ, h => whL (evT C c) (evB C b) C.fuel ρ h
  | .fr tg it b, ρ, h => (evIt C it ρ h).bind fun s h => forL (fun x ρ h => (noX (asg C tg x ρ h)).bind fun ρ h => evB C b ρ h) s.2 s.1 ρ h
  | .brk, ρ, h => .ok (.bk ρ) h
  | .cnt, ρ, h => .ok (.ct ρ) h
  | .pass, ρ, h => .ok (.nx ρ) h
  | .bad, _, _ => .bad
  | .rai x fs es, ρ, h => (evs C es ρ h).bind fun vs h => if vs.length = fs.length then .exc x (fs.zip vs) h else .bad
  | .trya b cat non e, ρ, h => caught C cat non e (evB C b ρ h)
  | .tr s, ρ, h => (evS C s ρ h).bind fun f h' => trS h f h'
  | .lk i s, ρ, h => match lockAt (look ρ i) h with
      | some (n, o, o') => onH (fun h => h.set n o) (evS C s ρ (h.set n o'))
      | none => .bad
def evB (C : Cfg) : Bk → Env → PH → Res Fl
  | .nil, ρ, h => .ok (.nx ρ) h
  | .cons s b, ρ, h => (evS C s ρ h).bind fun f h => match f with
    | .nx ρ => evB C b ρ h
    | .bk ρ => .ok (.bk ρ) h
    | .ct ρ => .ok (.ct ρ) h
    | .rt v => .ok (.rt v) h
end
/-- a def: its parameters' number, its slots' number, its body -/
structure FD where
  np : Nat
  ns : Nat
  body : Bk
def frame (d : FD) (vs : List PV) : Env := vs.map some ++ List.replicate (d.ns - vs.length) none
def ends (h : PH) (r : Res Fl) : Res PV := match r with
  | .ok (.rt v) h' => .ok v (trimH (v.lo h.length) h h')
  | .ok (.nx _) h' => .ok .non (trimH true h h')
  | .ok (.bk _) _ => .bad
  | .ok (.ct _) _ => .bad
  | .exc c fs h' => .exc c fs h'
  | .bad => .bad
/-- a call k deep -/
def callN (Γ : List FD) (fuel : Nat) : Nat → Nat → List PV → PH → Res PV
  | 0, _, _, _ => .bad
  | k + 1, f, vs, h => match Γ[f]? with
    | some d => if vs.length = d.np then ends h (evB ⟨callN Γ fuel k, fuel⟩ d.body (frame d vs) h) else .bad
    | none => .bad
end Pu

set_option Elab.async false
set_option linter.all false
set_option maxRecDepth 100000
/-! Pu2: pure values and the abstract heap; the readings. -/
namespace Pu
open PySem PySem.Spec L2

section
variable (mg : Str → Option Value)
mutual
/-- a pure value stands for a value of the machine: ι tells where the objects lie -/
def Rep (ι : List Addr) (H : Hp) : PV → V → Prop
  | .non, v => v = .non
  | .bl b, v => v = .bl b
  | .int i, v => v = .int i
  | .str x, v => v = .str x
  | .ty n, v => v = .ty n
  | .gl x, v => ∃ u, mg x = some u ∧ RelV v u
  | .ref n, v => ∃ a, ι[n]? = some a ∧ v = .ref a
  | .tup xs, v => ∃ a vs, v = .ref a ∧ H a = some (.tup vs) ∧ vs.length ≤ sizeLine ∧ Reps ι H xs vs
def Reps (ι : List Addr) (H : Hp) : List PV → List V → Prop
  | [], vs => vs = []
  | x :: xs, vs => ∃ v r, vs = v :: r ∧ Rep ι H x v ∧ Reps ι H xs r
end
/-- pairs with the same first part -/
def RepF {κ : Type} (ι : List Addr) (H : Hp) : List (κ × PV) → List (κ × V) → Prop
  | [], l => l = []
  | p :: ps, l => ∃ v r, l = (p.1, v) :: r ∧ Rep mg ι H p.2 v ∧ RepF ι H ps r
def RepO (ι : List Addr) (H : Hp) (a : Addr) : PO → Prop
  | .lst xs => ∃ vs, H a = some (.lst vs) ∧ vs.length ≤ sizeLine ∧ Reps mg ι H xs vs
  | .dk kvs => ∃ l, H a = some (.dK l) ∧ l.length ≤ sizeLine ∧ RepF mg ι H kvs l
  | .dt kvs => ∃ l, H a = some (.dT l) ∧ (l.length ≤ sizeLine ∧ ∀ p ∈ l, p.1.length ≤ sizeLine) ∧ RepF mg ι H kvs l
  | .fz ns => ∃ o, H a = some (.frz o (.lst (ns.map V.int))) ∧ ns.length ≤ sizeLine
  | .lk kvs => ∃ l o, H a = some (.frz o (.dK l)) ∧ l.length ≤ sizeLine ∧ RepF mg ι H kvs l
  | .lt kvs => ∃ l o, H a = some (.frz o (.dT l)) ∧ (l.length ≤ sizeLine ∧ ∀ p ∈ l, p.1.length ≤ sizeLine) ∧ RepF mg ι H kvs l
structure HRep (ι : List Addr) (H : Hp) (ph : PH) : Prop where
  len : ι.length = ph.length
  nd : ι.Nodup
  obj : ∀ (n : Nat) (a : Addr) (o : PO), ι[n]? = some a → ph[n]? = some o → RepO mg ι H a o
structure REnv (ι : List Addr) (H : Hp) (ρ : Env) (σ : St) : Prop where
  len : ρ.length = σ.length
  at_ : ∀ i v, look ρ i = some v → ∃ x, σ[i]? = some (some x) ∧ Rep mg ι H v x
end
/-- what comes later: more objects, tuples stay, what the pure heap does not hold stays as it is -/
structure Ext (ι : List Addr) (H : Hp) (ι' : List Addr) (H' : Hp) : Prop where
  more : ∃ t, ι' = ι ++ t ∧ ∀ b ∈ t, H b = none
  tups : ∀ a xs, H a = some (.tup xs) → H' a = some (.tup xs)
  keep : ∀ a u, H a = some u → a ∉ ι → H' a = some u
  dom : ∀ b, H' b = none → H b = none
  frz : ∀ a o u, H a = some (.frz o u) → H' a = some (.frz o u)

section
variable {mg : Str → Option Value} {ι ι' ι'' : List Addr} {H H' H'' : Hp} {ph : PH} {ρ : Env} {σ : St}
theorem Ext.refl : Ext ι H ι H := ⟨⟨[], by simp, by simp⟩, fun _ _ h => h, fun _ _ h _ => h, fun _ h => h, fun _ _ _ h => h⟩
theorem Ext.trans (a : Ext ι H ι' H') (b : Ext ι' H' ι'' H'') : Ext ι H ι'' H'' := by
  obtain ⟨t, rfl, ht⟩ := a.more
  obtain ⟨u, rfl, hu⟩ := b.more
  refine ⟨⟨t ++ u, by simp, fun c hc => ?_⟩, fun c xs h => b.tups c xs (a.tups c xs h), fun c v h hc => b.keep c v (a.keep c v h hc) fun hm => ?_, fun c h => a.dom c (b.dom c h), fun c o u h => b.frz c o u (a.frz c o u h)⟩
  · rcases List.mem_append.mp hc with hc | hc
    · exact ht c hc
    · exact a.dom c (hu c hc)
  · rcases List.mem_append.mp hm with hm | hm
    · exact hc hm
    · rw [ht c hm] at h; cases h
theorem Ext.get (e : Ext ι H ι' H') {n : Nat} {a : Addr} (h : ι[n]? = some a) : ι'[n]? = some a := by
  obtain ⟨t, rfl, _⟩ := e.more
  obtain ⟨hl, _⟩ := List.getElem?_eq_some_iff.mp h
  rw [List.getElem?_append_left hl]
  exact h
theorem Ext.new {p : Addr} {o : HO} (h : H p = none) (t : List Addr) (ht : ∀ b ∈ t, b = p) : Ext ι H (ι ++ t) (upd H p o) :=
  ⟨⟨t, rfl, fun b hb => by rw [ht b hb]; exact h⟩, fun a xs e => by rw [upd_ne (ne_of_none e h)]; exact e, fun a u e _ => by rw [upd_ne (ne_of_none e h)]; exact e, fun b e => by
    by_cases hb : b = p
    · rw [hb]; exact h
    · rw [upd_ne hb] at e; exact e, fun a o u e => by rw [upd_ne (ne_of_none e h)]; exact e⟩
theorem Ext.new1 {p : Addr} {o : HO} (h : H p = none) : Ext ι H (ι ++ [p]) (upd H p o) := Ext.new h [p] fun b hb => by simpa using hb
theorem Ext.new0 {p : Addr} {o : HO} (h : H p = none) : Ext ι H ι (upd H p o) := by simpa using (Ext.new (o := o) h [] (by simp) : Ext ι H (ι ++ []) _)
/-- what may be written at -/
def wrO : HO → Bool
  | .frz _ _ => false
  | .tup _ => false
  | _ => true
theorem wrO_tup {u : HO} (h : wrO u = true) : (∀ xs, u ≠ .tup xs) ∧ ∀ o x, u ≠ .frz o x := by
  refine ⟨?_, ?_⟩
  · rintro xs rfl
    cases h
  · rintro o x rfl
    cases h
theorem Ext.write {p : Addr} {o u : HO} {n : Nat} (hn : ι[n]? = some p) (h : H p = some u) (hw : wrO u = true) : Ext ι H ι (upd H p o) :=
  ⟨⟨[], by simp, by simp⟩, fun a xs e => by
    rw [upd_ne (ne_of e h fun z => (wrO_tup hw).1 xs z.symm)]
    exact e, fun a v e ha => by
    have : a ≠ p := fun z => ha (z ▸ List.mem_of_getElem? hn)
    rw [upd_ne this]
    exact e, fun b e => by
    by_cases hb : b = p
    · rw [hb, upd_same] at e; cases e
    · rw [upd_ne hb] at e; exact e, fun a o x e => by
    rw [upd_ne (ne_of e h fun z => (wrO_tup hw).2 o x z.symm)]
    exact e⟩
mutual
theorem Rep.mono (e : Ext ι H ι' H') : ∀ (x : PV) (v : V), Rep mg ι H x v → Rep mg ι' H' x v
  | .non, _, h => h
  | .bl _, _, h => h
  | .int _, _, h => h
  | .str _, _, h => h
  | .ty _, _, h => h
  | .gl _, _, h => h
  | .ref _, _, ⟨a, h1, h2⟩ => ⟨a, e.get h1, h2⟩
  | .tup xs, _, ⟨a, vs, h1, h2, h3, h4⟩ => ⟨a, vs, h1, e.tups _ _ h2, h3, Reps.mono e xs vs h4⟩
theorem Reps.mono (e : Ext ι H ι' H') : ∀ (xs : List PV) (vs : List V), Reps mg ι H xs vs → Reps mg ι' H' xs vs
  | [], _, h => h
  | x :: xs, _, ⟨v, r, h1, h2, h3⟩ => ⟨v, r, h1, Rep.mono e x v h2, Reps.mono e xs r h3⟩
end
theorem RepF.mono {κ : Type} (e : Ext ι H ι' H') : ∀ (kvs : List (κ × PV)) (l : List (κ × V)), RepF mg ι H kvs l → RepF mg ι' H' kvs l
  | [], _, h => h
  | _ :: ps, _, ⟨v, r, h1, h2, h3⟩ => ⟨v, r, h1, h2.mono e, RepF.mono e ps r h3⟩
theorem REnv.mono (e : Ext ι H ι' H') (r : REnv mg ι H ρ σ) : REnv mg ι' H' ρ σ := ⟨r.len, fun i v h => let ⟨x, h1, h2⟩ := r.at_ i v h; ⟨x, h1, h2.mono e⟩⟩
theorem Reps.length : ∀ {xs : List PV} {vs : List V}, Reps mg ι H xs vs → xs.length = vs.length
  | [], _, h => by cases h; rfl
  | _ :: _, _, ⟨_, _, h1, _, h3⟩ => by subst h1; simp [Reps.length h3]
theorem RepF.length {κ : Type} : ∀ {xs : List (κ × PV)} {vs : List (κ × V)}, RepF mg ι H xs vs → xs.length = vs.length
  | [], _, h => by cases h; rfl
  | _ :: _, _, ⟨_, _, h1, _, h3⟩ => by subst h1; simp [RepF.length h3]
theorem Reps.get : ∀ {xs : List PV} {vs : List V} {i : Nat} {x : PV}, Reps mg ι H xs vs → xs[i]? = some x → ∃ v, vs[i]? = some v ∧ Rep mg ι H x v
  | [], _, _, _, _, e => by simp at e
  | _ :: _, _, 0, _, ⟨v, r, h1, h2, _⟩, e => by subst h1; simp at e; subst e; exact ⟨v, rfl, h2⟩
  | _ :: _, _, i + 1, _, ⟨v, r, h1, _, h3⟩, e => by
    subst h1
    obtain ⟨w, h, h'⟩ := Reps.get (i := i) h3 (by simpa using e)
    exact ⟨w, by simpa using h, h'⟩
theorem Reps.getV : ∀ {xs : List PV} {vs : List V} {i : Nat} {v : V}, Reps mg ι H xs vs → vs[i]? = some v → ∃ x, xs[i]? = some x ∧ Rep mg ι H x v
  | [], _, _, _, h, e => by cases h; simp at e
  | x :: _, _, 0, _, ⟨v, r, h1, h2, _⟩, e => by subst h1; simp at e; subst e; exact ⟨x, rfl, h2⟩
  | _ :: _, _, i + 1, _, ⟨v, r, h1, _, h3⟩, e => by
    subst h1
    obtain ⟨w, h, h'⟩ := Reps.getV (i := i) h3 (by simpa using e)
    exact ⟨w, by simpa using h, h'⟩
theorem Reps.append : ∀ {xs ys : List PV} {vs ws : List V}, Reps mg ι H xs vs → Reps mg ι H ys ws → Reps mg ι H (xs ++ ys) (vs ++ ws)
  | [], _, _, _, h, q => by cases h; exact q
  | _ :: _, _, _, _, ⟨v, r, h1, h2, h3⟩, q => by subst h1; exact ⟨v, _, rfl, h2, Reps.append h3 q⟩
theorem Reps.take : ∀ {xs : List PV} {vs : List V} (n : Nat), Reps mg ι H xs vs → Reps mg ι H (xs.take n) (vs.take n)
  | [], _, n, h => by cases h; simp [Reps]
  | _ :: _, _, 0, _ => by simp [Reps]
  | _ :: _, _, n + 1, ⟨v, r, h1, h2, h3⟩ => by subst h1; exact ⟨v, _, rfl, h2, Reps.take n h3⟩
theorem Reps.drop : ∀ {xs : List PV} {vs : List V} (n : Nat), Reps mg ι H xs vs → Reps mg ι H (xs.drop n) (vs.drop n)
  | [], _, n, h => by cases h; simp [Reps]
  | _ :: _, _, 0, h => h
  | _ :: _, _, n + 1, ⟨v, r, h1, h2, h3⟩ => by subst h1; exact Reps.drop n h3
theorem Reps.set {x : PV} {v : V} (q : Rep mg ι H x v) : ∀ {xs : List PV} {vs : List V} (n : Nat), Reps mg ι H xs vs → Reps mg ι H (xs.set n x) (vs.set n v)
  | [], _, n, h => by cases h; simp [Reps]
  | _ :: _, _, 0, ⟨w, r, h1, h2, h3⟩ => by subst h1; exact ⟨v, _, rfl, q, h3⟩
  | _ :: _, _, n + 1, ⟨w, r, h1, h2, h3⟩ => by subst h1; exact ⟨w, _, rfl, h2, Reps.set q n h3⟩
theorem Reps.eraseIdx : ∀ {xs : List PV} {vs : List V} (n : Nat), Reps mg ι H xs vs → Reps mg ι H (xs.eraseIdx n) (vs.eraseIdx n)
  | [], _, n, h => by cases h; simp [Reps]
  | _ :: _, _, 0, ⟨v, r, h1, h2, h3⟩ => by subst h1; exact h3
  | _ :: _, _, n + 1, ⟨v, r, h1, h2, h3⟩ => by subst h1; exact ⟨v, _, rfl, h2, Reps.eraseIdx n h3⟩
theorem Reps.reverse : ∀ {xs : List PV} {vs : List V}, Reps mg ι H xs vs → Reps mg ι H xs.reverse vs.reverse
  | [], _, h => by cases h; simp [Reps]
  | _ :: _, _, ⟨v, r, h1, h2, h3⟩ => by
    subst h1
    rw [List.reverse_cons, List.reverse_cons]
    exact Reps.append (Reps.reverse h3) ⟨v, [], rfl, h2, rfl⟩
theorem Reps.dropLast {xs : List PV} {vs : List V} (h : Reps mg ι H xs vs) : Reps mg ι H xs.dropLast vs.dropLast := by
  rw [List.dropLast_eq_take, List.dropLast_eq_take, h.length]
  exact h.take _
theorem Reps.rep {xs : List PV} {vs : List V} (h : Reps mg ι H xs vs) : ∀ k : Nat, Reps mg ι H (List.replicate k xs).flatten (List.replicate k vs).flatten
  | 0 => rfl
  | k + 1 => by
    rw [List.replicate_succ, List.replicate_succ, List.flatten_cons, List.flatten_cons]
    exact h.append (Reps.rep h k)
theorem Reps.one {x : PV} {vs : List V} (h : Reps mg ι H [x] vs) : ∃ v, vs = [v] ∧ Rep mg ι H x v := by
  obtain ⟨v, r, rfl, h2, h3⟩ := h
  cases h3
  exact ⟨v, rfl, h2⟩
theorem Reps.two {x y : PV} {vs : List V} (h : Reps mg ι H [x, y] vs) : ∃ v w, vs = [v, w] ∧ Rep mg ι H x v ∧ Rep mg ι H y w := by
  obtain ⟨v, r, rfl, h2, h3⟩ := h
  obtain ⟨w, rfl, h4⟩ := Reps.one h3
  exact ⟨v, w, rfl, h2, h4⟩
/-- a list of ints -/
theorem Reps.allInt : ∀ {xs : List PV} {vs : List V} {ns : List Int}, Pu.allInt xs = some ns → Reps mg ι H xs vs → vs = ns.map V.int
  | [], _, _, e, h => by cases h; simp [Pu.allInt] at e; subst e; rfl
  | .int i :: xs, _, ns, e, ⟨v, r, h1, h2, h3⟩ => by
    subst h1
    simp only [Pu.allInt, Option.map_eq_some_iff] at e
    obtain ⟨ms, e1, rfl⟩ := e
    cases h2
    rw [Reps.allInt e1 h3]
    rfl
  | .non :: _, _, _, e, _ => by simp [Pu.allInt] at e
  | .bl _ :: _, _, _, e, _ => by simp [Pu.allInt] at e
  | .str _ :: _, _, _, e, _ => by simp [Pu.allInt] at e
  | .ty _ :: _, _, _, e, _ => by simp [Pu.allInt] at e
  | .gl _ :: _, _, _, e, _ => by simp [Pu.allInt] at e
  | .ref _ :: _, _, _, e, _ => by simp [Pu.allInt] at e
  | .tup _ :: _, _, _, e, _ => by simp [Pu.allInt] at e
theorem Reps.ofInts : ∀ ns : List Int, Reps mg ι H (ns.map PV.int) (ns.map V.int)
  | [] => rfl
  | n :: ns => ⟨.int n, _, rfl, rfl, Reps.ofInts ns⟩

end
/-- more objects; tuples stay -/
structure Mon (ι : List Addr) (H : Hp) (ι' : List Addr) (H' : Hp) : Prop where
  get : ∀ (n : Nat) (a : Addr), ι[n]? = some a → ι'[n]? = some a
  tups : ∀ a xs, H a = some (.tup xs) → H' a = some (.tup xs)
section
variable {mg : Str → Option Value} {ι ι' ι'' : List Addr} {H H' H'' : Hp} {ph : PH}
mutual
theorem Rep.mon (e : Mon ι H ι' H') : ∀ (x : PV) (v : V), Rep mg ι H x v → Rep mg ι' H' x v
  | .non, _, h => h
  | .bl _, _, h => h
  | .int _, _, h => h
  | .str _, _, h => h
  | .ty _, _, h => h
  | .gl _, _, h => h
  | .ref _, _, ⟨a, h1, h2⟩ => ⟨a, e.get _ _ h1, h2⟩
  | .tup xs, _, ⟨a, vs, h1, h2, h3, h4⟩ => ⟨a, vs, h1, e.tups _ _ h2, h3, Reps.mon e xs vs h4⟩
theorem Reps.mon (e : Mon ι H ι' H') : ∀ (xs : List PV) (vs : List V), Reps mg ι H xs vs → Reps mg ι' H' xs vs
  | [], _, h => h
  | x :: xs, _, ⟨v, r, h1, h2, h3⟩ => ⟨v, r, h1, Rep.mon e x v h2, Reps.mon e xs r h3⟩
end
theorem RepF.mon {κ : Type} (e : Mon ι H ι' H') : ∀ (kvs : List (κ × PV)) (l : List (κ × V)), RepF mg ι H kvs l → RepF mg ι' H' kvs l
  | [], _, h => h
  | _ :: ps, _, ⟨v, r, h1, h2, h3⟩ => ⟨v, r, h1, h2.mon e, RepF.mon e ps r h3⟩
theorem RepO.mon (e : Mon ι H ι' H') {a : Addr} (hs : H' a = H a) : ∀ {o : PO}, RepO mg ι H a o → RepO mg ι' H' a o
  | .lst _, ⟨vs, h1, h2, h3⟩ => ⟨vs, hs.trans h1, h2, h3.mon e⟩
  | .dk _, ⟨l, h1, h2, h3⟩ => ⟨l, hs.trans h1, h2, h3.mon e⟩
  | .dt _, ⟨l, h1, h2, h3⟩ => ⟨l, hs.trans h1, h2, h3.mon e⟩
  | .fz _, ⟨o, h1, h2⟩ => ⟨o, hs.trans h1, h2⟩
  | .lk _, ⟨l, o, h1, h2, h3⟩ => ⟨l, o, hs.trans h1, h2, h3.mon e⟩
  | .lt _, ⟨l, o, h1, h2, h3⟩ => ⟨l, o, hs.trans h1, h2, h3.mon e⟩
theorem Ext.mon (e : Ext ι H ι' H') : Mon ι H ι' H' := ⟨fun _ _ h => e.get h, e.tups⟩
/-- .. locked things, too -/
structure MonF (ι : List Addr) (H : Hp) (ι' : List Addr) (H' : Hp) : Prop extends Mon ι H ι' H' where
  frz : ∀ a o u, H a = some (.frz o u) → H' a = some (.frz o u)
theorem Ext.monF (e : Ext ι H ι' H') : MonF ι H ι' H' := ⟨⟨fun _ _ h => e.get h, e.tups⟩, e.frz⟩
theorem MonF.refl : MonF ι H ι H := ⟨⟨fun _ _ h => h, fun _ _ h => h⟩, fun _ _ _ h => h⟩
theorem MonF.trans (a : MonF ι H ι' H') (b : MonF ι' H' ι'' H'') : MonF ι H ι'' H'' := ⟨⟨fun n x h => b.get n x (a.get n x h), fun x xs h => b.tups x xs (a.tups x xs h)⟩, fun x o u h => b.frz x o u (a.frz x o u h)⟩
/-- a thing aside is changed -/
theorem MonF.aside {D : Addr} {o u : HO} (hD : H D = some u) (hw : wrO u = true := by rfl) : MonF ι H ι (upd H D o) := ⟨⟨fun _ _ h => h, fun a xs e => by
  rw [upd_ne (ne_of e hD fun z => (wrO_tup hw).1 xs z.symm)]
  exact e⟩, fun a od x e => by
  rw [upd_ne (ne_of e hD fun z => (wrO_tup hw).2 od x z.symm)]
  exact e⟩
theorem Mon.trans (a : Mon ι H ι' H') (b : Mon ι' H' ι'' H'') : Mon ι H ι'' H'' := ⟨fun n x h => b.get n x (a.get n x h), fun x xs h => b.tups x xs (a.tups x xs h)⟩
theorem REnv.mon {ρ : Env} {σ : St} (e : Mon ι H ι' H') (r : REnv mg ι H ρ σ) : REnv mg ι' H' ρ σ := ⟨r.len, fun i v h => let ⟨x, h1, h2⟩ := r.at_ i v h; ⟨x, h1, h2.mon e⟩⟩
end
section
variable {mg : Str → Option Value} {ι ι' ι'' : List Addr} {H H' H'' : Hp} {ph : PH} {ρ : Env} {σ : St}
/-! ### the heap -/
theorem RepO.mono (e : Ext ι H ι' H') {a : Addr} (hs : H' a = H a) : ∀ {o : PO}, RepO mg ι H a o → RepO mg ι' H' a o
  | .lst _, ⟨vs, h1, h2, h3⟩ => ⟨vs, hs.trans h1, h2, h3.mono e⟩
  | .dk _, ⟨l, h1, h2, h3⟩ => ⟨l, hs.trans h1, h2, h3.mono e⟩
  | .dt _, ⟨l, h1, h2, h3⟩ => ⟨l, hs.trans h1, h2, h3.mono e⟩
  | .fz _, ⟨o, h1, h2⟩ => ⟨o, hs.trans h1, h2⟩
  | .lk _, ⟨l, o, h1, h2, h3⟩ => ⟨l, o, hs.trans h1, h2, h3.mono e⟩
  | .lt _, ⟨l, o, h1, h2, h3⟩ => ⟨l, o, hs.trans h1, h2, h3.mono e⟩
theorem RepO.some {a : Addr} : ∀ {o : PO}, RepO mg ι H a o → ∃ u, H a = some u ∧ ∀ xs, u ≠ .tup xs
  | .lst _, ⟨_, h1, _⟩ => ⟨_, h1, fun _ z => nomatch z⟩
  | .dk _, ⟨_, h1, _⟩ => ⟨_, h1, fun _ z => nomatch z⟩
  | .dt _, ⟨_, h1, _⟩ => ⟨_, h1, fun _ z => nomatch z⟩
  | .fz _, ⟨_, h1, _⟩ => ⟨_, h1, fun _ z => nomatch z⟩
  | .lk _, ⟨_, _, h1, _⟩ => ⟨_, h1, fun _ z => nomatch z⟩
  | .lt _, ⟨_, _, h1, _⟩ => ⟨_, h1, fun _ z => nomatch z⟩
theorem HRep.at_ (h : HRep mg ι H ph) {n : Nat} {o : PO} (e : ph[n]? = some o) : ∃ a, ι[n]? = some a ∧ RepO mg ι H a o := by
  obtain ⟨hl, _⟩ := List.getElem?_eq_some_iff.mp e
  have hl' : n < ι.length := by rw [h.len]; exact hl
  exact ⟨ι[n], List.getElem?_eq_getElem hl', h.obj n _ o (List.getElem?_eq_getElem hl') e⟩
theorem HRep.mem (h : HRep mg ι H ph) {a : Addr} (ha : a ∈ ι) : ∃ u, H a = some u ∧ ∀ xs, u ≠ .tup xs := by
  obtain ⟨n, hn, rfl⟩ := List.mem_iff_getElem.mp ha
  have hl : n < ph.length := by rw [← h.len]; exact hn
  exact (h.obj n _ _ (List.getElem?_eq_getElem hn) (List.getElem?_eq_getElem hl)).some
/-- a new thing that the pure heap does not hold: a tuple, say -/
theorem HRep.aside (h : HRep mg ι H ph) {p : Addr} {o : HO} (hp : H p = none) : HRep mg ι (upd H p o) ph :=
  ⟨h.len, h.nd, fun n a o' e1 e2 => (h.obj n a o' e1 e2).mono (Ext.new0 hp) (by
    obtain ⟨u, hu, _⟩ := h.mem (List.mem_of_getElem? e1)
    exact upd_ne (ne_of_none hu hp))⟩
/-- a new object -/
theorem HRep.push (h : HRep mg ι H ph) {p : Addr} {o : HO} {o' : PO} (hp : H p = none) (new : RepO mg (ι ++ [p]) (upd H p o) p o') : HRep mg (ι ++ [p]) (upd H p o) (ph ++ [o']) := by
  have hn : p ∉ ι := fun hm => by
    obtain ⟨u, hu, _⟩ := h.mem hm
    rw [hp] at hu; cases hu
  refine ⟨by simp [h.len], List.nodup_append.mpr ⟨h.nd, by simp, fun a ha b hb => ?_⟩, fun n a u e1 e2 => ?_⟩
  · rintro rfl
    simp at hb
    exact hn (hb ▸ ha)
  · by_cases hl : n < ι.length
    · rw [List.getElem?_append_left hl] at e1
      rw [List.getElem?_append_left (by rw [← h.len]; exact hl)] at e2
      refine (h.obj n a u e1 e2).mono (Ext.new1 hp) (upd_ne fun z => hn (z ▸ List.mem_of_getElem? e1))
    · rw [List.getElem?_append_right (by omega)] at e1
      rw [List.getElem?_append_right (by rw [← h.len]; omega)] at e2
      have hz : n - ι.length = 0 := by
        obtain ⟨hq, _⟩ := List.getElem?_eq_some_iff.mp e1
        simp at hq
        omega
      rw [hz] at e1
      rw [← h.len, hz] at e2
      simp at e1 e2
      subst e1 e2
      exact new
/-- an object changes -/
theorem HRep.write (h : HRep mg ι H ph) {n : Nat} {p : Addr} {o : HO} {o' : PO} (hn : ι[n]? = some p) (new : RepO mg ι (upd H p o) p o') : HRep mg ι (upd H p o) (ph.set n o') := by
  obtain ⟨u, hu, hut⟩ := h.mem (List.mem_of_getElem? hn)
  refine ⟨by simp [h.len], h.nd, fun m a q e1 e2 => ?_⟩
  by_cases hm : m = n
  · subst hm
    rw [hn] at e1; cases e1
    have hl : m < ph.length := by rw [← h.len]; exact (List.getElem?_eq_some_iff.mp hn).1
    rw [List.getElem?_set_self hl] at e2
    cases e2
    exact new
  · rw [List.getElem?_set_ne (Ne.symm hm)] at e2
    refine (h.obj m a q e1 e2).mon ⟨fun _ _ z => z, fun b xs z => by
      rw [upd_ne (ne_of z hu fun y => hut xs y.symm)]
      exact z⟩ (upd_ne fun z => hm ?_)
    subst z
    obtain ⟨h1, e1'⟩ := List.getElem?_eq_some_iff.mp e1
    obtain ⟨h2, e2'⟩ := List.getElem?_eq_some_iff.mp hn
    exact (List.getElem_inj h.nd).mp (e1'.trans e2'.symm)
end

/-! ### the readings -/
section
variable (mg : Str → Option Value)
/-- an exception as the machine bears it -/
def ExcR (ι : List Addr) (H : Hp) (c : Str) (fs : List (Str × PV)) (cls : Value) (d : Option Addr) : Prop :=
  ∃ C dd l, cls = .ref C ∧ d = some dd ∧ mg c = some (.ref C) ∧ H dd = some (.xd l) ∧ RepF mg ι H fs l
variable {α β : Type}
/-- what an answer means: behind every heap that bears it Q holds (an exception: W) -/
def Fin (W : WX) (σ : St) (R : List Addr → Hp → α → β → Prop) (Q : β → Hp → Prop) (ι : List Addr) (H : Hp) : Res α → Prop
  | .ok a ph => ∀ ι' H' b, Ext ι H ι' H' → HRep mg ι' H' ph → R ι' H' a b → Q b H'
  | .exc c fs ph => ∀ ι' H' cls d, Ext ι H ι' H' → HRep mg ι' H' ph → ExcR mg ι' H' c fs cls d → W cls d σ H'
  | .bad => False
/-- the reading of an evaluation -/
def rd (W : WX) (R : List Addr → Hp → α → β → Prop) (m : Env → PH → Res α) : St → Hp → (β → Hp → Prop) → Prop := fun σ H Q =>
  ∃ ι ρ ph, HRep mg ι H ph ∧ REnv mg ι H ρ σ ∧ Fin mg W σ R Q ι H (m ρ ph)
end
/-- no exception -/
abbrev W0 : WX := fun _ _ _ _ => False
section
variable {mg : Str → Option Value} {ι ι' : List Addr} {H H' : Hp} {ph : PH} {W W' : WX} {σ : St} {α β α' β' : Type} {R : List Addr → Hp → α → β → Prop} {R' : List Addr → Hp → α' → β' → Prop} {Q Q' : β → Hp → Prop}
theorem Fin.base (e : Ext ι H ι' H') : ∀ {r : Res α}, Fin mg W σ R Q ι H r → Fin mg W σ R Q ι' H' r
  | .ok _ _, h => fun i2 H2 b e2 => h i2 H2 b (e.trans e2)
  | .exc _ _ _, h => fun i2 H2 c d e2 => h i2 H2 c d (e.trans e2)
  | .bad, h => h
theorem Fin.mono (hQ : ∀ b H', Q b H' → Q' b H') : ∀ {r : Res α}, Fin mg W σ R Q ι H r → Fin mg W σ R Q' ι H r
  | .ok _ _, h => fun i2 H2 b e2 h2 r2 => hQ _ _ (h i2 H2 b e2 h2 r2)
  | .exc _ _ _, h => h
  | .bad, h => h
theorem Fin.imp (hW : ∀ c d H', W c d σ H' → W' c d σ H') : ∀ {r : Res α}, Fin mg W σ R Q ι H r → Fin mg W' σ R Q ι H r
  | .ok _ _, h => h
  | .exc _ _ _, h => fun i2 H2 c d e2 h2 r2 => hW _ _ _ (h i2 H2 c d e2 h2 r2)
  | .bad, h => h
theorem Fin.noX : ∀ {r : Res α}, Fin mg W σ R Q ι H (Pu.noX r) → Fin mg W0 σ R Q ι H r
  | .ok _ _, h => h
  | .exc _ _ _, h => h.elim
  | .bad, h => h
theorem Fin.bind {Q' : β' → Hp → Prop} {f : α → PH → Res α'} : ∀ {r : Res α}, Fin mg W σ R' Q' ι H (r.bind f) →
    Fin mg W σ R (fun b H1 => ∃ ι1 ph1 a, Ext ι H ι1 H1 ∧ HRep mg ι1 H1 ph1 ∧ R ι1 H1 a b ∧ Fin mg W σ R' Q' ι1 H1 (f a ph1)) ι H r
  | .ok a ph, h => fun i2 H2 b e2 h2 r2 => ⟨i2, ph, a, e2, h2, r2, Fin.base e2 h⟩
  | .exc _ _ _, h => h
  | .bad, h => h
theorem rd_bind {m : Env → PH → Res α} {f : Env → α → PH → Res α'} {Q' : β' → Hp → Prop} (h : rd mg W R' (fun ρ ph => (m ρ ph).bind (f ρ)) σ H Q') :
    rd mg W R m σ H fun b H1 => ∃ ι1 ρ ph1 a, HRep mg ι1 H1 ph1 ∧ REnv mg ι1 H1 ρ σ ∧ R ι1 H1 a b ∧ Fin mg W σ R' Q' ι1 H1 (f ρ a ph1) := by
  obtain ⟨ι, ρ, ph, h1, h2, h3⟩ := h
  exact ⟨ι, ρ, ph, h1, h2, Fin.mono (fun b H1 ⟨i1, p1, a, e, q1, q2, q3⟩ => ⟨i1, ρ, p1, a, q1, h2.mono e, q2, q3⟩) (Fin.bind h3)⟩
theorem Fin.opt {o : Option α} (h : Fin mg W σ R Q ι H (Pu.opt o ph)) : ∃ a, o = some a ∧ Fin mg W σ R Q ι H (.ok a ph) := by
  cases o with
  | none => exact h.elim
  | some a => exact ⟨a, rfl, h⟩
theorem Fin.guard {c : Bool} {r : Res α} (h : Fin mg W σ R Q ι H (guardR c r)) : c = true ∧ Fin mg W σ R Q ι H r := by
  cases c with
  | false => exact h.elim
  | true => exact ⟨rfl, h⟩
/-- where it stands -/
theorem Fin.here {a : α} {b : β} (h : Fin mg W σ R Q ι H (.ok a ph)) (hr : HRep mg ι H ph) (r : R ι H a b) : Q b H := h ι H b .refl hr r
end
/-! ### rules may be weakened and joined -/
section
variable {X : Cx}
theorem _root_.L2.PE.imp {e : Expr} {t t' : TE} (h : PE X e t) (i : ∀ σ H Q, t' σ H Q → t σ H Q) : PE X e t' := ⟨fun pins s σ H Q I q => h.run pins s σ H Q I (i σ H Q q)⟩
theorem _root_.L2.PT.imp {e : Expr} {t t' : TT} (h : PT X e t) (i : ∀ σ H Q, t' σ H Q → t σ H Q) : PT X e t' := ⟨fun pins s σ H Q I q => h.run pins s σ H Q I (i σ H Q q)⟩
theorem _root_.L2.PW.imp {e : Expr} {t t' : TT} (h : PW X e t) (i : ∀ σ H Q, t' σ H Q → t σ H Q) : PW X e t' := ⟨fun w pins s σ H Q I q => h.run w pins s σ H Q I (i σ H Q q)⟩
theorem _root_.L2.PA.imp {es : List Expr} {t t' : TA} (h : PA X es t) (i : ∀ σ H Q, t' σ H Q → t σ H Q) : PA X es t' := ⟨fun pos pins s σ H Q I q => h.run pos pins s σ H Q I (i σ H Q q)⟩
theorem _root_.L2.PS.imp {st : Stmt} {t t' : TS} (h : PS X st t) (i : ∀ D σ H, t' D σ H → t D σ H) : PS X st t' := ⟨fun pins s σ H D I q => h.run pins s σ H D I (i D σ H q)⟩
theorem _root_.L2.PSs.imp {st : List Stmt} {t t' : TS} (h : PSs X st t) (i : ∀ D σ H, t' D σ H → t D σ H) : PSs X st t' := ⟨fun pins s σ H D I q => h.run pins s σ H D I (i D σ H q)⟩
theorem _root_.L2.PI.imp {tg it : Expr} {t t' : TI} (h : PI X tg it t) (i : ∀ σ H R, t' σ H R → t σ H R) : PI X tg it t' := ⟨fun pins s σ H R I q => h.run pins s σ H R I (i σ H R q)⟩
theorem _root_.L2.PG.imp {tg : Expr} {t t' : TG} (h : PG X tg t) (i : ∀ v σ H Q, t' v σ H Q → t v σ H Q) : PG X tg t' := ⟨fun pins s σ H v u Q I r q => h.run pins s σ H v u Q I r (i v σ H Q q)⟩
end
end Pu

set_option Elab.async false
set_option linter.all false
set_option maxRecDepth 100000
/-! Pu3: the operators, built-in functions and methods, by values. -/
namespace Pu
open PySem PySem.Spec L2
section
variable {mg : Str → Option Value} {ι ι' : List Addr} {H H' : Hp} {ph : PH} {W W' : WX} {σ σ' : L2.St} {α β : Type} {R : List Addr → Hp → α → β → Prop} {Q : VK} {p : Addr}
theorem Fin.w0 {Q : β → Hp → Prop} : ∀ {r : Res α}, Fin mg W0 σ R Q ι H r → Fin mg W0 σ' R Q ι H r
  | .ok _ _, h => h
  | .exc _ _ _, h => h
  | .bad, h => h
theorem truthy_noX (v : PV) (h : PH) : noX (truthy v h) = truthy v h := by
  unfold truthy
  repeat' split
  all_goals first | rfl | (unfold guardR; split <;> rfl)
theorem get_new (hr : HRep mg ι H ph) : (ι ++ [p])[ph.length]? = some p := by
  rw [← hr.len]
  simp
theorem new_fin {o : PO} {O : HO} (q : Fin mg W σ (Rep mg) Q ι H (new o ph)) (hr : HRep mg ι H ph) (hp : H p = none) (ho : Ext ι H (ι ++ [p]) (upd H p O) → RepO mg (ι ++ [p]) (upd H p O) p o) : Q (.ref p) (upd H p O) := by
  have e : Ext ι H (ι ++ [p]) (upd H p O) := Ext.new1 hp
  exact q _ _ (.ref p) e (hr.push hp (ho e)) ⟨p, get_new hr, rfl⟩
theorem newL_fin {xs : List PV} {vs : List V} (q : Fin mg W σ (Rep mg) Q ι H (new (.lst xs) ph)) (hr : HRep mg ι H ph) (hp : H p = none) (rs : Reps mg ι H xs vs) (hl : vs.length ≤ sizeLine) : Q (.ref p) (upd H p (.lst vs)) :=
  new_fin q hr hp fun e => ⟨vs, upd_same, hl, rs.mono e⟩
theorem ext0 {O : HO} (hp : H p = none) : Ext ι H ι (upd H p O) := Ext.new0 hp
theorem tup_fin {xs : List PV} {vs : List V} (q : Fin mg W σ (Rep mg) Q ι H (.ok (.tup xs) ph)) (hr : HRep mg ι H ph) (hp : H p = none) (rs : Reps mg ι H xs vs) (hl : vs.length ≤ sizeLine) : Q (.ref p) (upd H p (.tup vs)) :=
  q ι _ (.ref p) (ext0 hp) (hr.aside hp) ⟨p, vs, rfl, upd_same, hl, rs.mono (ext0 hp)⟩
/-- an object that changes -/
theorem set_fin {a : PV} {v : V} {n : Nat} {o : PO} {O : HO} (q : Fin mg W σ (Rep mg) Q ι H (.ok a (ph.set n o))) (hr : HRep mg ι H ph) (hn : ι[n]? = some p) {u : HO} (hu : H p = some u) (ra : Rep mg ι H a v) (ho : Ext ι H ι (upd H p O) → RepO mg ι (upd H p O) p o) (hw : wrO u = true := by rfl) : Q v (upd H p O) := by
  have e : Ext ι H ι (upd H p O) := Ext.write hn hu hw
  exact q ι _ v e (hr.write hn (ho e)) (ra.mono e)
/-- what a number of the heap stands for -/
theorem ref_at {n : Nat} {o : PO} {v : V} (hr : HRep mg ι H ph) (r : Rep mg ι H (.ref n) v) (e : ph[n]? = some o) : ∃ a, ι[n]? = some a ∧ v = .ref a ∧ RepO mg ι H a o := by
  obtain ⟨a, h1, rfl⟩ := r
  exact ⟨a, h1, rfl, hr.obj n a o h1 e⟩
end
/-- a rule for two values, for one -/
def r2 (mg : Str → Option Value) (f : PV → PV → PH → Res PV) : R2 := fun x y H Q => ∃ ι ph a b, HRep mg ι H ph ∧ Rep mg ι H a x ∧ Rep mg ι H b y ∧ Fin mg W0 [] (Rep mg) Q ι H (f a b ph)
def r1 (mg : Str → Option Value) (f : PV → PH → Res PV) : V → Hp → VK → Prop := fun x H Q => ∃ ι ph a, HRep mg ι H ph ∧ Rep mg ι H a x ∧ Fin mg W0 [] (Rep mg) Q ι H (f a ph)
def rs (mg : Str → Option Value) (f : List PV → PH → Res PV) : List V → Hp → VK → Prop := fun xs H Q => ∃ ι ph as, HRep mg ι H ph ∧ Reps mg ι H as xs ∧ Fin mg W0 [] (Rep mg) Q ι H (f as ph)
section
variable {X : Cx}
theorem op_addV : OpR X (binaryOp .Add) (r2 X.mg addV) := by
  intro pins s σ H x y v u Q I rx ry h
  obtain ⟨ι, ph, a, b, hr, ra, rb, q⟩ := h
  cases a <;> cases b <;> try exact False.elim q
  · cases ra; cases rb
    exact op_add pins s σ H _ _ v u Q I rx ry ⟨_, _, rfl, rfl, q.here hr rfl⟩
  · cases ra; cases rb
    obtain ⟨c, q⟩ := q.guard
    exact op_add_str pins s σ H _ _ v u Q I rx ry ⟨_, _, rfl, rfl, of_decide_eq_true c, q.here hr rfl⟩
  · rename_i xs ys
    obtain ⟨c, q⟩ := q.guard
    have c := of_decide_eq_true c
    obtain ⟨a, vs, rfl, ha, hl, hs⟩ := ra
    obtain ⟨b, ws, rfl, hb, hm, ht⟩ := rb
    have e1 := hs.length
    have e2 := ht.length
    refine op_catA pins s σ H _ _ v u Q I rx ry ⟨a, b, vs, ws, rfl, rfl, .of ha, .of hb, by omega, fun z => ?_, fun _ z => ?_, fun _ _ p hp => ?_⟩
    · subst z
      have : xs = [] := List.length_eq_zero_iff.mp (by simpa using e1)
      subst this
      exact q.here hr ⟨b, ws, rfl, hb, hm, ht⟩
    · subst z
      have : ys = [] := List.length_eq_zero_iff.mp (by simpa using e2)
      subst this
      exact q.here hr ⟨a, vs, rfl, ha, hl, by simpa using hs⟩
    · exact tup_fin q hr hp (hs.append ht) (by rw [List.length_append]; omega)
  · rename_i n m
    simp only [addV] at q
    split at q
    · rename_i xs ys e1 e2
      obtain ⟨c, q⟩ := q.guard
      have c := of_decide_eq_true c
      obtain ⟨a, ha, rfl, vs, hv, _, hs⟩ := ref_at hr ra e1
      obtain ⟨b, hb, rfl, ws, hw, _, ht⟩ := ref_at hr rb e2
      have l1 := hs.length
      have l2 := ht.length
      exact op_cat pins s σ H _ _ v u Q I rx ry ⟨a, b, vs, ws, rfl, rfl, hv, hw, by omega, fun p hp => newL_fin q hr hp (hs.append ht) (by rw [List.length_append]; omega)⟩
    · exact False.elim q
theorem fold_nil : ∀ (n : Nat), (List.replicate n (#[] : Array Nat)).foldl (· ++ ·) #[] = #[]
  | 0 => rfl
  | n + 1 => by
    rw [List.replicate_succ, List.foldl_cons]
    show (List.replicate n (#[] : Array Nat)).foldl (· ++ ·) (#[] ++ #[]) = #[]
    exact fold_nil n
theorem fold_size (c : Array Nat) : ∀ (n : Nat) (acc : Array Nat), ((List.replicate n c).foldl (· ++ ·) acc).size = acc.size + n * c.size
  | 0, acc => by simp
  | n + 1, acc => by
    rw [List.replicate_succ, List.foldl_cons, fold_size c n, Array.size_append, Nat.add_mul]
    omega
theorem repS_length (a : Str) (n : Nat) : (repS a n).length = n * a.length := by
  show ((List.replicate n a.cps).foldl (· ++ ·) #[]).size = n * a.cps.size
  rw [fold_size]
  simp
theorem repS_zero (a : Str) : repS a 0 = Str.empty := id rfl
theorem repS_one (a : Str) : repS a 1 = a := by
  unfold repS
  show (⟨#[] ++ a.cps⟩ : Str) = a
  rw [Array.empty_append]
theorem repS_nil (a : Str) (h : a.length = 0) (n : Nat) : repS a n = a := by
  have e : a.cps = #[] := Array.eq_empty_of_size_eq_zero h
  unfold repS
  rw [e, fold_nil]
  exact congrArg Str.mk e.symm
theorem op_mulV : OpR X (binaryOp .Mult) (r2 X.mg mulV) := by
  intro pins s σ H x y v u Q I rx ry h
  obtain ⟨ι, ph, a, b, hr, ra, rb, q⟩ := h
  cases a <;> cases b <;> try exact False.elim q
  · cases ra; cases rb
    obtain ⟨c, q⟩ := q.guard
    have c := of_decide_eq_true c
    exact op_mulW pins s σ H _ _ v u Q I rx ry ⟨_, _, rfl, rfl, c, q.here hr rfl⟩
  · rename_i z k
    cases ra; cases rb
    obtain ⟨c, q⟩ := q.guard
    obtain ⟨c1, c2, c3⟩ := of_decide_eq_true c
    have q := q.here hr rfl
    obtain ⟨t, rfl⟩ := rx
    obtain ⟨t', rfl⟩ := ry
    have hr' : (decide (k < -(2 ^ 63 : Int)) || decide (k ≥ 2 ^ 63)) = false := by
      rw [decide_eq_false (by omega), decide_eq_false (by omega)]
      rfl
    refine P.mul_str hr' (fun h1 _ => ?_) (fun h1 _ => ?_) ?_
    · have hk : (k.toNat : Int) = k := Int.toNat_of_nonneg (by omega)
      have h2 : (z.length : Int) * k ≤ 1000000 := by
        rw [← hk]
        have := Int.ofNat_le.mpr c3
        rw [Int.natCast_mul] at this
        exact this
      have h3 : (z.length : Int) ≤ (2 ^ 63 - 1) / k := by
        rw [Int.le_ediv_iff_mul_le (by omega)]
        omega
      omega
    · have hz : 1000000 ≤ sizeLine := by rw [sizeLine_eq]; decide
      exact decide_eq_false (by show ¬ (z.length * k.toNat > sizeLine); omega)
    · by_cases h1 : k < 1
      · rw [if_pos h1]
        have e : k.toNat = 0 := by omega
        rw [e, repS_zero] at q
        exact ⟨by decide, ⟨.str Str.empty, H, I.tok _, ⟨_, rfl⟩, q⟩⟩
      · rw [if_neg h1]
        by_cases h2 : (k == 1 || z.length == 0) = true
        · rw [if_pos h2]
          have e : repS z k.toNat = z := by
            rw [Bool.or_eq_true] at h2
            rcases h2 with h2 | h2
            · have : k = 1 := eq_of_beq h2
              rw [this]
              exact repS_one z
            · exact repS_nil z (eq_of_beq h2) _
          rw [e] at q
          exact ⟨.str z, H, I, ⟨_, rfl⟩, q⟩
        · rw [if_neg h2]
          refine ⟨?_, ⟨.str (repS z k.toNat), H, I.tok _, ⟨_, rfl⟩, q⟩⟩
          have hz : 1000000 ≤ sizeLine := by rw [sizeLine_eq]; decide
          have hl := repS_length z k.toNat
          rw [Nat.mul_comm] at hl
          show (repS z k.toNat).length ≤ sizeLine
          omega
  · rename_i xs k
    cases rb
    obtain ⟨c, q⟩ := q.guard
    obtain ⟨c1, c2, c3, c4⟩ := of_decide_eq_true c
    obtain ⟨a, vs, rfl, ha, hl, hs⟩ := ra
    have e1 := hs.length
    refine op_repT pins s σ H _ _ v u Q I rx ry ⟨a, _, vs, rfl, rfl, .of ha, fun z => c1 (List.length_eq_zero_iff.mp (by rw [e1, z]; rfl)), c2, c3, by omega, fun p hp => ?_⟩
    refine tup_fin q hr hp (hs.rep _) ?_
    rw [List.length_flatten, List.map_replicate, List.sum_replicate_nat]
    have : vs.length ≤ 1000 := by omega
    have hk : k.toNat ≤ 1000 := by omega
    exact Nat.le_trans (Nat.mul_le_mul hk this) (by rw [sizeLine_eq]; decide)
  · rename_i n k
    cases rb
    simp only [mulV] at q
    split at q
    · rename_i xs e1
      obtain ⟨c, q⟩ := q.guard
      obtain ⟨c1, c2, c3⟩ := of_decide_eq_true c
      obtain ⟨a, ha, rfl, vs, hv, _, hs⟩ := ref_at hr ra e1
      have l1 := hs.length
      refine op_rep pins s σ H _ _ v u Q I rx ry ⟨a, k, vs, rfl, rfl, hv, c1, c2, by rw [← l1]; exact c3, fun p hp => newL_fin q hr hp (hs.rep _) ?_⟩
      rw [List.length_flatten, List.map_replicate, List.sum_replicate_nat, ← l1, Nat.mul_comm]
      exact c3
    · exact False.elim q
/-- an operator on two ints -/
theorem op_int2 {f : Value → Value → Sem Value} {c : Int → Int → Bool} {C : Int → Int → Prop} {g : Int → Int → PV} {g' : Int → Int → V} (o : OpR X f (rI C g')) (hc : ∀ i j, c i j = true → C i j) (hg : ∀ i j mg ι H, Rep mg ι H (g i j) (g' i j)) : OpR X f (r2 X.mg (int2 c g)) := by
  intro pins s σ H x y v u Q I rx ry h
  obtain ⟨ι, ph, a, b, hr, ra, rb, q⟩ := h
  cases a <;> cases b <;> try exact False.elim q
  cases ra; cases rb
  obtain ⟨k, q⟩ := q.guard
  exact o pins s σ H _ _ v u Q I rx ry ⟨_, _, rfl, rfl, hc _ _ k, q.here hr (hg _ _ _ _ _)⟩
theorem op_sub' : OpR X (binaryOp .Sub) (rI (fun _ _ => True) fun i j => .int (i - j)) := fun pins s σ H x y v u Q I rx ry ⟨i, j, e1, e2, _, q⟩ => op_sub pins s σ H x y v u Q I rx ry ⟨i, j, e1, e2, q⟩
theorem op_no {f : Value → Value → Sem Value} : OpR X f (r2 X.mg fun _ _ _ => .bad) := fun pins s σ H x y v u Q I rx ry ⟨_, _, _, _, _, _, _, q⟩ => False.elim q
theorem fdiv_if (i j : Int) : (if 0 < j then i / j else i.fdiv j) = i.fdiv j := by
  split
  · exact (Int.fdiv_eq_ediv_of_nonneg i (by omega)).symm
  · rfl
theorem fmod_if (i j : Int) : (if 0 < j then i % j else i.fmod j) = i.fmod j := by
  split
  · exact (Int.fmod_eq_emod_of_nonneg i (by omega)).symm
  · rfl
/-- // by a divisor of either sign -/
theorem op_fdivZ : OpR X (binaryOp .FloorDiv) (rI (fun _ j => j ≠ 0 ∧ j.natAbs.log2 < 9000) fun i j => .int (if 0 < j then i / j else i.fdiv j)) := opI fun i j _ _ _ _ _ hc q => by
  rw [fdiv_if] at q
  exact PyProof.Rows.floordiv_int hc.1 q (.inl (PyProof.noPylong_of_log2 hc.2))
theorem op_modZ : OpR X (binaryOp .Mod) (rI (fun _ j => j ≠ 0) fun i j => .int (if 0 < j then i % j else i.fmod j)) := opI fun i j _ _ _ _ _ hc q => by
  rw [fmod_if] at q
  exact PyProof.Rows.mod_int' hc q
theorem op_binop : ∀ op : Operator, OpR X (binaryOp op) (r2 X.mg (binop op))
  | .Add => op_addV
  | .Sub => op_int2 op_sub' (fun _ _ _ => trivial) fun _ _ _ _ _ => rfl
  | .Mult => op_mulV
  | .FloorDiv => op_int2 op_fdivZ (fun _ _ h => by have h := of_decide_eq_true h; exact h) fun _ _ _ _ _ => rfl
  | .Mod => op_int2 op_modZ (fun _ _ h => by have h := of_decide_eq_true h; exact h) fun _ _ _ _ _ => rfl
  | .Pow => op_int2 op_pow (fun _ _ h => by have h := of_decide_eq_true h; exact h) fun _ _ _ _ _ => rfl
  | .LShift => op_int2 op_shl (fun _ _ h => by have h := of_decide_eq_true h; exact h) fun _ _ _ _ _ => rfl
  | .Div => op_no
  | .MatMult => op_no
  | .RShift => op_no
  | .BitOr => op_no
  | .BitXor => op_no
  | .BitAnd => op_no
theorem un_negV : UnR X (unaryOp .USub) (r1 X.mg negV) := by
  intro pins s σ H x v Q I rx h
  obtain ⟨ι, ph, a, hr, ra, q⟩ := h
  cases a <;> try exact False.elim q
  cases ra
  exact un_neg pins s σ H _ v Q I rx ⟨_, rfl, q.here hr rfl⟩
end
end Pu

set_option Elab.async false
set_option linter.all false
set_option maxRecDepth 100000
/-! Pr: x[::-1] of a list or a tuple. -/
namespace Pu
open PySem PySem.Spec PyProof.Rows L2
theorem fm_congr {α β : Type} {f g : α → Option β} : ∀ (l : List α), (∀ k ∈ l, f k = g k) → l.filterMap f = l.filterMap g
  | [], _ => rfl
  | a :: l, h => by
    rw [List.filterMap_cons, List.filterMap_cons, h a List.mem_cons_self, fm_congr l fun k hk => h k (List.mem_cons_of_mem _ hk)]
theorem back_pick (xs : Array Value) : ((List.range xs.size).filterMap fun (k : Nat) => xs[(((xs.size : Int) - 1) + (k : Int) * (-1)).toNat]?).toArray = xs.toList.reverse.toArray := by
  congr 1
  have h0 := pick_run xs.toList.reverse.toArray 0 xs.size
  rw [List.filterMap_map] at h0
  have h1 : (xs.toList.reverse.toArray.toList.drop 0).take xs.size = xs.toList.reverse := by
    simp only [List.drop_zero]
    exact List.take_of_length_le (by simp)
  rw [h1] at h0
  rw [← h0]
  refine fm_congr _ fun k hk => ?_
  have hk := List.mem_range.mp hk
  have e : (((xs.size : Int) - 1) + (k : Int) * (-1)).toNat = xs.size - 1 - k := by omega
  rw [e]
  simp only [Function.comp, Nat.zero_add]
  have hl : xs.toList.length = xs.size := rfl
  have : xs.toList.reverse[k]? = xs.toList[xs.toList.length - 1 - k]? := List.getElem?_reverse (by omega)
  have h2 : xs.toList.reverse.toArray[k]? = xs.toList.reverse[k]? := List.getElem?_toArray
  have h3 : xs[xs.size - 1 - k]? = xs.toList[xs.size - 1 - k]? := Array.getElem?_toList.symm
  rw [h2, this, hl, h3]
section
variable {prog : Program} {w : World} {A : Around} {E : Value → Shared → Prop} {s : Shared}
theorem adjust_back (n : Nat) : Builtin.Slice.sliceAdjust none none (-1) (n : Int) = ((n : Int) - 1, -1) := by
  have h1 : ((-1 : Int) < 0) := by omega
  unfold Builtin.Slice.sliceAdjust
  simp only [h1, if_true]
theorem places_back (n : Nat) : Builtin.Slice.slicePlaces ((n : Int) - 1) (-1) (-1) = n := by
  unfold Builtin.Slice.slicePlaces
  have h1 : ¬ ((-1 : Int) > 0) := by omega
  simp only [h1, if_false]
  have e : (-(-1 : Int)) = 1 := rfl
  rw [e, Int.ediv_one]
  split <;> omega
theorem applied_back {sl : Addr} {vl vu vs : Value} {n : Nat} {Q : Int × Int × Nat → Shared → Prop} (hs : s.heap.IsSliceOf sl vl vu vs) (pl : IsPart vl none) (pu : IsPart vu none) (ps : IsPart vs (some (-1)))
    (h : Q ((n : Int) - 1, -1, n) s) : wpAny (model prog w) A (Builtin.Slice.sliceApplied (.ref sl) (pure (n : Int))) Q E s := by
  obtain ⟨os, hos, hcs, hds⟩ := id hs
  unfold Builtin.Slice.sliceApplied Builtin.Slice.sliceFields
  refine wpAny_bind (wpAny_bind (wpAny_field hos hds (x := vl) rfl (wpAny_bind (wpAny_field hos hds (x := vu) rfl (wpAny_bind (wpAny_field hos hds (x := vs) rfl (wpAny_pure ?_)))))))
  refine wpAny_bind (HT.slicePart_ ps ?_)
  show wpAny _ _ (if ((-1 : Int) == 0) = true then _ else _) _ _ s
  rw [if_neg (by decide)]
  refine wpAny_bind (HT.slicePart_ pl (wpAny_bind (HT.slicePart_ pu (wpAny_bind (wpAny_pure ?_)))))
  show wpAny _ _ (match Builtin.Slice.sliceAdjust none none (-1) (n : Int) with | (lo, hi) => pure (lo, (-1 : Int), Builtin.Slice.slicePlaces lo hi (-1))) _ _ s
  rw [adjust_back]
  show wpAny _ _ (pure ((n : Int) - 1, (-1 : Int), Builtin.Slice.slicePlaces ((n : Int) - 1) (-1) (-1))) _ _ s
  rw [places_back]
  exact wpAny_pure h
theorem getItem_back {t sl : Addr} {items : Array Value} {vl vu vs : Value} {Q : Value → Shared → Prop} (ht : IsTup s.heap t items) (hs : s.heap.IsSliceOf sl vl vu vs) (pl : IsPart vl none) (pu : IsPart vu none) (ps : IsPart vs (some (-1)))
    (h : Q (.ref s.heap.objs.size) { s with heap := s.heap.push { cls := .type "tuple", data := .seq items.toList.reverse.toArray } })
    (hsz : items.size ≤ sizeLine) : wpAny (model prog w) A (getItem (.ref t) (.ref sl)) Q E s := by
  have hok : sizeOk (.seq items.toList.reverse.toArray) := by
    show items.toList.reverse.toArray.size ≤ sizeLine
    simpa using hsz
  obtain ⟨os, hos, hcs, hds⟩ := id hs
  have hTs : s.TypeIs (.ref sl) "slice" := ⟨os, hos, hcs⟩
  unfold getItem
  try with_reducible refine wpAny_holding ?_
  first | refine wpAny_bind (wpAny_pure ?_) | skip
  refine wpAny_bind (wpAny_sequenceKey ht.typeIs (by decide) ?_)
  refine wpAny_bind (wpAny_callSpecial?_slot (name := Str.ofString "__getitem__") ht.typeIs PyProof.Rows.slot_tuple_getitem
    (wpAny_call_entry PyProof.Rows.slot_tuple_getitem ht.typeIs entry_tuple_getitem ?_ (args_tuple_getitem _ _)))
  show wpAny _ _ (Builtin.Tuple.tupleItemsOf (.ref t) >>= _) _ _ s
  refine wpAny_bind (tupleItemsOf_ ht ?_)
  refine wpAny_bind (wpAny_typeOf hTs ?_)
  rw [if_pos (by decide)]
  refine wpAny_bind (applied_back hs pl pu ps ?_)
  have hno : ¬ ((((items.size : Int) - 1) == 0 && ((-1 : Int) == 1) && (items.size == items.size)) = true) := by
    rw [show ((-1 : Int) == 1) = false from rfl]
    simp
  show wpAny _ _ (if ((((items.size : Int) - 1) == 0 && ((-1 : Int) == 1) && (items.size == items.size)) = true) then _ else _) _ _ s
  rw [if_neg hno, back_pick]
  first
    | exact wpAny_bind (m := Builtin.Tuple.tupleExact _) (wpAny_newObj_type (wpAny_pure ⟨_, rfl, wpAny_pure h⟩) hok)
    | exact wpAny_bind (m := Builtin.Tuple.tupleExact _) (wpAny_newObj_type (wpAny_bind (wpAny_pure (wpAny_pure ⟨_, rfl, wpAny_pure h⟩))) hok)
    | exact wpAny_bind (wpAny_bind (m := Builtin.Tuple.tupleExact _) (wpAny_newObj_type (wpAny_pure (wpAny_pure ⟨_, rfl, wpAny_pure h⟩)) hok))
    | exact wpAny_bind (wpAny_bind (m := Builtin.Tuple.tupleExact _) (wpAny_newObj_type (wpAny_pure ⟨_, rfl, wpAny_pure h⟩) hok))
end
section
variable {X : Cx}
def tRevA (K : PySem.W.Frag) (te : TE) : TE := fun σ H Q => te σ H fun x H1 => (∃ a xs, x = .ref a ∧ SqL K H1 a xs ∧ ∀ p, H1 p = none → Q (.ref p) (upd H1 p (.lst xs.reverse))) ∨
  ∃ a xs, x = .ref a ∧ SqT K H1 a xs ∧ ∀ p, H1 p = none → Q (.ref p) (upd H1 p (.tup xs.reverse))
theorem pe_revA {e : Expr} {te : TE} {k : Nat} {p1 p2 p3 pos : Pos} (he : PE X e te) : PE X (.Subscript e (.Slice none none (some (.UnaryOp .USub (.Constant (.int 1) k p1) p2)) p3) pos) (tRevA X.K te) := by
  refine ⟨fun pins s σ H Q I h => ?_⟩
  refine Subscript_ (thn (he.run pins s σ H _ I h) fun v s1 ⟨x, H1, I1, r1, q1⟩ => ?_)
  have hst : L2.PO X (some (.UnaryOp .USub (.Constant (.int 1) k p1) p2)) (tPart (tUn (rU fun i => .int (-i)) (tC (.int 1)))) := po_some (pe_un un_neg pe_int)
  obtain ⟨a, ex⟩ : ∃ a, x = .ref a := by
    rcases q1 with ⟨a, _, ex, _⟩ | ⟨a, _, ex, _⟩
    · exact ⟨a, ex⟩
    · exact ⟨a, ex⟩
  subst ex
  cases r1
  refine wpAny_Slice (thn (po_none.run pins s1 σ H1 (fun o H2 => o = none ∧ H2 = H1) I1 ⟨rfl, rfl⟩) fun vl s2 ⟨l, H2, I2, pl, el, e2⟩ => ?_)
  subst el e2
  refine thn (po_none.run pins s2 σ H2 (fun o H3 => o = none ∧ H3 = H2) I2 ⟨rfl, rfl⟩) fun vu s3 ⟨u, H3, I3, pu, eu, e3⟩ => ?_
  subst eu e3
  refine thn (hst.run pins s3 σ H3 (fun o H4 => o = some (-1) ∧ H4 = H3) I3 ⟨1, rfl, -1, rfl, rfl, rfl⟩) fun vs s4 ⟨o, H4, I4, ps, eo, e4⟩ => ?_
  subst eo e4
  have I5 : Inv X pins σ H4 { s4 with heap := s4.heap.push { cls := .type "slice", data := .fields #[vl, vu, vs] } } := I4.kept (t' := s4.toks) fun b ob q => Heap.get?_push_of_some _ q
  show wpAny (model X.prog X.w) X.A (subscriptTail e (.Slice none none (some (.UnaryOp .USub (.Constant (.int 1) k p1) p2)) p3) (.ref a) (.ref s4.heap.objs.size)) (EP X pins σ Q) X.xe { s4 with heap := s4.heap.push { cls := .type "slice", data := .fields #[vl, vu, vs] } }
  rcases q1 with ⟨a', xs, ex, hx, q⟩ | ⟨a', xs, ex, hx, q⟩
  · cases ex
    obtain ⟨its, r, ht, hz⟩ := I5.list hx
    have hlen := r.length
    refine tail_any (ops := [.ref a, .ref s4.heap.objs.size]) ht.isList.typeIs (PySem.slot_list_getitem.lookup) ?_ (by with_unfolding_all rfl)
    refine wpAny_getItem_list_slice ht.isList (Heap.IsSliceOf.new _ vl vu vs) pl pu ps (by decide) ?_ (by rw [List.size_toArray]; omega)
    rw [PySem.W.krv_pick]
    refine ⟨.ref _, _, I5.laid (t' := s4.toks) (o := .lst xs.reverse) (fun b ob q => Heap.get?_push_of_some _ q) (Nat.le_refl _) ?_, rfl, q _ (I5.hok.fresh (Nat.le_refl _))⟩
    exact ⟨by rw [List.length_reverse]; exact hz, _, 0, r.reverse, Heap.get?_push_size _ rfl⟩
  · cases ex
    obtain ⟨its, r, ht, hz⟩ := I5.tuple hx
    have hlen := r.length
    refine tail_any (ops := [.ref a, .ref s4.heap.objs.size]) ht.typeIs PyProof.Rows.slot_tuple_getitem.lookup ?_ (by with_unfolding_all rfl)
    refine getItem_back ht (Heap.IsSliceOf.new _ vl vu vs) pl pu ps ?_ (by rw [List.size_toArray]; omega)
    refine ⟨.ref _, _, I5.laid (t' := s4.toks) (o := .tup xs.reverse) (fun b ob q => Heap.get?_push_of_some _ q) (Nat.le_refl _) ?_, rfl, q _ (I5.hok.fresh (Nat.le_refl _))⟩
    exact ⟨by rw [List.length_reverse]; exact hz, _, r.reverse, IsTup.new _ _⟩
end
end Pu

set_option Elab.async false
set_option linter.all false
set_option maxRecDepth 100000
set_option maxHeartbeats 2000000
/-! Pe1: __init__ of an own exception class: super().__init__(w), sf.f = w. -/
namespace Pu
open PySem PySem.Spec PyProof.Rows L2
/-- the body of such an __init__ -/
abbrev initBody (sf w f : Str) (p0 p1 p2 p3 p4 p5 p6 p7 p8 p9 : Pos) : List Stmt :=
  [.Expr (.Call (.Attribute (.Call (.Name "super" p0) [] [] p1) "__init__" p2) [.Name w p3] [] p4) p5, .Assign [.Attribute (.Name sf p6) f p7] (.Name w p8) p9]
section
open PySem.W PySem.Calls
variable {prog : Program} {w : World} {A : Around} {E : Value → Shared → Prop} {h : Heap} {g : Array GenState} {d : Drawn} {t : Nat} {os : OsState}
variable {nm q : Str} {C N : Addr} {bs bm : List Value} {hdct : Bool} {sn : List Str} {sub : List Value} {ab : Bool} {col : Option Bool} {dd : Option Addr} {k0 k1 k2 k3 k5 : Option Value}
/-- ValueError.__init__ bound to the object, called -/
theorem call_bwV {u e t0 : Addr} {rest : List Value} {Q : Value → Shared → Prop}
    (hC : h.get? C = some (excClassObj nm q C N bs bm hdct sn sub ab col dd k0 k1 k2 k3 k5 "ValueError.__new__")) (he : h.get? e = some (HandSPX.excO C t0)) (hu : h.get? u = some (kxs_mw "ValueError.__init__" e)) (hrest : rest.length ≤ sizeLine)
    (hq : ∀ h' t1, (∀ b o, b ≠ e → h.get? b = some o → h'.get? b = some o) → h'.get? e = some (HandSPX.excO C t1) → Q .none ⟨h', g, d, t, os⟩) :
    wpAny (model prog w) A (call (.ref u) rest) Q E ⟨h, g, d, t, os⟩ := by
  refine wpAny_call (codeAny_of_tree ?_)
  show wpAny _ A.in1 (callAny (.ref u) ⟨rest, []⟩) _ _ _
  simp only [callAny]
  refine wpAny_bind (wpAny_load hu ?_)
  simp only [kxs_mw, show (Value.type "method-wrapper" == Value.type "method" || Value.type "method-wrapper" == Value.type "builtin_function_or_method" || Value.type "method-wrapper" == Value.type "method-wrapper") = true by decide, if_true]
  refine KFB.if_so (by decide) ?_
  refine wpAny_bind (ESX.check_bound F.excBase_ValueError hC he rfl ?_)
  refine wpAny_bind (wpAny_pure (wpAny_pure ?_))
  refine ⟨Code.quiet_builtin _ (by decide +kernel), codeAny_builtin F.excBase_ValueError.initEntry ?_⟩
  rw [Around.under_plainId F.excBase_ValueError.init.plain _]
  wp_walk
  refine hq _ h.objs.size (fun b o hb ho => ?_) ?_
  · rw [Heap.get?_update_other _ _ (Ne.symm hb)]
    exact Heap.get?_push_of_some _ ho
  · rw [Heap.get?_update_self _ (Heap.get?_push_of_some _ he) rfl]
    rfl
end
/-- what the written part says of the class and its __init__ -/
structure InitC (P : Program) (K : PySem.W.Frag) (C fI : Addr) (sf w f : Str) (fd : FuncData) : Prop where
  ox : OexC K C
  ini : ∃ (qual : Str) (params : Arguments) (scope : Scope) (doc pm ct oc : Value) (an od : Option Addr) (osl : Array (Option Value)) (cda cc : Addr) (p0 p1 p2 p3 p4 p5 p6 p7 p8 p9 : Pos),
    fd = PySem.W.ksFn "__init__" qual params (initBody sf w f p0 p1 p2 p3 p4 p5 p6 p7 p8 p9) scope .none .none doc pm an (.ref cda) ct cc ∧
    K.lookup fI = some ⟨oc, od, .func fd, osl⟩ ∧ PySem.W.codeIn K (.ref cda) qual = true ∧
    (∃ (ccl : Value) (cdd : Option Addr) (vs : Array Value) (ccs : Array (Option Value)) (file : Str) (tf : Tok), K.lookup cda = some ⟨ccl, cdd, .fields vs, ccs⟩ ∧ vs[2]? = some (.str file tf) ∧ ((P.main.file : Str) == file) = true) ∧
    (∃ (cl : Value) (cld : Option Addr) (csl : Array (Option Value)), K.lookup cc = some ⟨cl, cld, .cell (some (.ref C)), csl⟩) ∧
    (p2.endLine == p4.line) = true ∧ params.posonlyargs = [] ∧ params.args.map (·.arg) = [sf, w] ∧
    scope.kind = .function ∧ scope.isCoroutine = false ∧ scope.isGenerator = false ∧ (∀ x ∈ scope.names, x.2 ≠ .cell) ∧
    scope.names.lookup sf = some .local ∧ scope.names.lookup w = some .local ∧ scope.names.lookup ("super" : Str) = some .globalImplicit ∧ scope.names.lookup ("__class__" : Str) = some .free
  sup : PySem.W.ks_superIn K C C "__init__" = some (some (.builtin "ValueError.__init__"))
  subV : PySem.W.subIn K (.ref C) (.type "ValueError") = some true
  mr : PySem.W.mroIn K C (.ref C) = some true
  opq : PySem.W.nsIn K cStatics "thirdparty.any" = some none
  top : (P.main.scope.names.lookup ("super" : Str)).isSome = false
  fld : PySem.W.findIn K (.ref C) f = some none
  ne : sf ≠ w
  ns : (w == ("__debug__" : Str)) = false
  ns2 : (sf == ("__debug__" : Str)) = false
section
open PySem.W PySem.Calls
variable {P : Program} {ww : World} {K : PySem.W.Frag} {mg : Str → Option Value} {A : Around} {C fI e t0 : Addr} {sf w f : Str} {fd : FuncData} {u : Value} {R : Result → Shared → Prop}
theorem exc_init1 {s : Shared} (I : InitC P K C fI sf w f fd) (X : K.In s.heap) (Gm : s.heap.Ns mainGlobals mg) (Gb : ∃ mb, s.heap.Ns builtinsNs mb ∧ ∀ x : Str, x ≠ "__name__" → mb x = bootBuiltins x) (hsm : mg "super" = none) (lim : s.heap.NoLimit)
    (hroom : A.depth < recursionLimit) (hbind : BindsTo s fd ⟨[.ref e, u], []⟩ [(sf, .ref e), (w, u)]) (he : s.heap.get? e = some (HandSPX.excO C t0)) (hKe : ∀ a o, K.lookup a = some o → a ≠ e)
    (hq : ∀ h' tk dx t1, (∀ b o, b ≠ e → s.heap.get? b = some o → h'.get? b = some o) → s.heap.objs.size ≤ dx → dx ≠ e → h'.get? e = some ({ cls := .ref C, dict := some dx, data := .fields #[.ref t1, .none, .none, .none, .bool false, .none] } : Obj) →
      h'.Ns1 dx (fun y => if y = f then some u else none) → R (.ok (.ret .none)) { s with heap := h', toks := tk }) :
    codeAny (model P ww) A (.call (.ref fI) ⟨[.ref e, u], []⟩) R s := by
  obtain ⟨T, ⟨qual, params, scope, doc, pm, ct, oc, an, od, osl, cda, cc, p0, p1, p2, p3, p4, p5, p6, p7, p8, p9, rfl, lkI, hcd, ⟨ccl, cdd, vs, ccs, file, tf, lkc, hvs, hfile⟩, ⟨cl, cld, csl, lkcell⟩, hline, hpo, hpa, hk, hco, hgen, hcell, hself, hw, hsup, hcls⟩, hsu, hsubV, hmr, hopq, htop, hfld, hne, hns, hns2'⟩ := I
  obtain ⟨nm, q, N, bs, bm, sn, sub, ab, col, dd, k0, k1, k2, k3, k5, hC, hbm⟩ := T.cls
  have hcl : PySem.W.clsIn K C = some { name := nm, bases := bs, mro := .ref C :: bm, ns := N, qualname := q, hasDict := true, slotNames := sn, subclasses := sub, abstract := ab, collection := col, hasDel := false } := by unfold PySem.W.clsIn; rw [hC] <;> rfl
  obtain ⟨mb, hmb, hbb⟩ := Gb
  have eC : e ≠ C := fun z => by
    have := X _ _ hC
    rw [← z, he] at this
    cases this
  obtain ⟨hp, g, d, tk, os⟩ := s
  refine ks_codeAny_call_defAt (binds := [(sf, .ref e), (w, u)]) hroom (X _ _ lkI) rfl lim (codeRec_of X hcd) rfl hbind hcell (fun x hx => ?_) (fun h₀ hns₀ k₀ => ?_) hco hgen hk
  · have hx : x = (sf, .ref e) ∨ x = (w, u) := by simpa using hx
    rcases hx with rfl | rfl
    · exact hself
    · exact hw
  · have X0 : K.In h₀ := fun a o z => k₀ _ _ (X a o z)
    have he0 := k₀ _ _ he
    obtain ⟨ar, ar2, har, har1, har2⟩ : ∃ ar ar2, params.args = [ar, ar2] ∧ ar.arg = sf ∧ ar2.arg = w := by
      match h : params.args, hpa with
      | [a, b], hpa => 
        simp at hpa
        exact ⟨a, b, rfl, hpa.1, hpa.2⟩
    have hpl : ∀ env : PySem.Env, eval (.Call (.Attribute (.Call (.Name "super" p0) [] [] p1) "__init__" p2) [.Name w p3] [] p4) env = (do
        let ov ← attributeBase (.Call (.Name "super" p0) [] [] p1) "__init__" env (eval (.Call (.Name "super" p0) [] [] p1) env)
        standAt p2.atName
        let (f, first) ← holding [ov] (getMethod ov "__init__" (do return (← importBound (.Call (.Name "super" p0) [] [] p1) env).getD true))
        callWith p4 f first (backTo p4 (starEach [.Name w p3] env)) []) := fun env => by
      have hpos : methodCallPos true (.Call (.Name "super" p0) [] [] p1) env p2 p4 = pure p4 := by unfold methodCallPos; simp [hline]
      have hform : methodCallForm ([Expr.Name w p3].length + ([] : List Keyword).length) (backTo p4 (starEach [.Name w p3] env)) (backToKw p4 (keywordEach [] env)) = true := rfl
      show (do
        let ov ← attributeBase (.Call (.Name "super" p0) [] [] p1) "__init__" env (eval (.Call (.Name "super" p0) [] [] p1) env)
        standAt p2.atName
        methodCall (.Call (.Name "super" p0) [] [] p1) "__init__" p2 p4 env ov ([Expr.Name w p3].length + ([] : List Keyword).length) (backTo p4 (starEach [.Name w p3] env)) (backToKw p4 (keywordEach [] env))) = _
      congr 1
      funext ov
      congr 1
      funext _
      unfold methodCall calleeOf
      rw [hform, hpos]
      congr 1
    have hin : interactive (callEnv (ksFn "__init__" qual params (initBody sf w f p0 p1 p2 p3 p4 p5 p6 p7 p8 p9) scope .none .none doc pm an (.ref cda) ct cc) hp.objs.size fI) = false := by
      show (scope.kind == .module && _) = false
      rw [hk]
      rfl
    refine ks_wpAt_execs_cons (ks_wpAt_Expr_any (ks_wpAt_MethodCall (ks_wpAt_super_base (f := fI) (cc := cda) (ar := ar) (vs := vs) (file := file) (tf := tf) hsup hcls rfl rfl (X0 _ _ lkI) rfl (by rw [hpo, har]; rfl) rfl (X0 _ _ lkc) rfl hvs hfile htop ?_) (hpl _)) hin)
    have lkS : ([(sf, Value.ref e), (w, u)] : List (Str × Value)).reverse.lookup sf = some (.ref e) := by
      have e1 : (sf == w) = false := by simpa using hne
      simp [List.lookup, e1]
    have lkW : ([(sf, Value.ref e), (w, u)] : List (Str × Value)).reverse.lookup w = some u := by
      simp [List.lookup]
    -- super(C, sf)
    obtain ⟨oD, hD1, hD2⟩ : ∃ oD, h₀.get? C = some oD ∧ ∃ cd, oD.data = .cls cd := ⟨_, X0 _ _ hC, _, rfl⟩
    obtain ⟨cdD, hD2⟩ := hD2
    have hnc : ∀ c, (HandSPX.excO C t0).data ≠ .cls c := fun c z => nomatch z
    refine ks_loadName_global hk hsup (loadGlobal_builtin (Gm.keeps k₀) hsm (hmb.keeps k₀) ((hbb _ (by decide +kernel)).trans PyProof.Rows.Boot.«super») ⟨rfl, ?_⟩)
    refine wpAny_loadName_free hk hcls rfl ⟨_, X0 _ _ lkcell, rfl⟩ ?_
    refine wpAny_loadName_local hk (by rw [har1]; exact hself) hns₀ (v := .ref e) (by rw [har1]; exact lkS) ?_
    refine ks_wpAny_isType_cls hD1 hD2 ⟨rfl, ?_⟩
    refine ks_wpAny_call_super hD1 hD2 he0 rfl hnc (looks_mroIn X0 hmr) (fun h1 hso k1 => ?_)
    have X1 : K.In h1 := fun a o z => k1 _ _ (X0 a o z)
    have he1 := k1 _ _ he0
    have I1 : InstAt h1 e (HandSPX.excO C t0) C none := ⟨he1, rfl, rfl, trivial⟩
    have hsu' : alongIn K "__init__" (((Value.ref C :: bm).dropWhile (· != .ref C)).drop 1) = some (some (.builtin "ValueError.__init__")) := by
      unfold ks_superIn at hsu
      rw [hcl] at hsu
      exact hsu
    refine kxs_getMethod kxs_ValueError hso (looks_opaque X1 hopq) (l₀ := Value.ref C :: bm) ((looks_clsIn X1 hcl).andThen .now) rfl X1 hsu' (I1.type.andThen (looks_subIn X1 hsubV)) eC (by decide +kernel) ?_
    have hu1 := Heap.get?_push_size h1 (o := kxs_mw "ValueError.__init__" e) rfl
    have k2 : ∀ b o, h1.get? b = some o → (h1.push (kxs_mw "ValueError.__init__" e)).get? b = some o := fun b o z => Heap.get?_push_of_some _ z
    have hns1 := (hns₀.keeps k1).keeps k2
    refine kxs_callWith (i := "ValueError.__init__") (x := e) rfl (evalArgs_plain ?_)
    refine spliced_cons (ESX.ldL hns1 lkW ?_ hk hw hns)
    refine spliced_nil ⟨hu1, ?_⟩
    refine call_bwV (rest := [u]) (k2 _ _ (X1 _ _ hC)) (k2 _ _ he1) hu1 (by show 1 ≤ sizeLine; rw [sizeLine_eq]; decide) fun h2 t1 k3 he2 => ?_
    have old : ∀ b o, b ≠ e → hp.get? b = some o → h2.get? b = some o := fun b o hb z => k3 b o hb (k2 _ _ (k1 _ _ (k₀ _ _ z)))
    have X2 : K.In h2 := fun a o z => old a o (hKe a o z) (X a o z)
    have hns2 := hns1.at (h' := h2) fun o z => k3 _ _ (fun y => by
      have z0 : hp.get? hp.objs.size = none := Heap.get?_none_of_le (Nat.le_refl _)
      have := Heap.lt_size he
      rw [← y] at this
      exact absurd this (Nat.lt_irrefl _)) z
    -- sf.f = w
    refine ks_wpAt_execs_cons (ks_wpAt_Assign_Attr (wpAt_of_wpAny (ESX.ldL hns2 lkW (ESX.ldL hns2 lkS ?_ hk hself hns2') hk hw hns)) (by rfl))
    refine PySem.W.set_plain X2 (ox := HandSPX.excO C t1) (od := none) ⟨he2, rfl, rfl, trivial⟩ T.sa ?_
    refine HandSPX.exc_osa X2 he2 hcl (show HandSPX.refsVE (.ref C :: bm) = true from hbm) rfl hfld (fun h3 tk3 dx k4 dn dne hx hn => ?_)
    refine wpAt_of_wpAny (wpAny_execs_nil ?_)
    refine hq h3 tk3 dx t1 (fun b o hb z => k4 b o hb (old b o hb z)) ?_ dne hx hn
    obtain ⟨o, es, ep, ho, _⟩ := hns2
    exact Nat.le_of_lt (Nat.lt_of_lt_of_le (Heap.lt_size ho) dn)
end
end Pu

set_option Elab.async false
set_option linter.all false
set_option maxRecDepth 100000
set_option maxHeartbeats 2000000
/-! Pe3: a tuple unpacked while an exception is handled. -/
namespace Pu
open PySem PySem.Spec PyProof.Rows L2 HotX
section
variable {prog : Program} {w : World} {A : Around} {E : Value → Shared → Prop} {s : Shared}
/-- the end of a tuple's iterator, in an except suite -/
theorem tupEnd_hot {j x1 p : Addr} {n : Nat} {its : Array Value} {Q : Option Value → Shared → Prop} (hot : HotAt A x1 s.heap) (hi : IsTupIter s.heap j p n) (ht : IsTup s.heap p its) (hx : its[n]? = none) (hjx : x1 ≠ j)
    (q : ∀ h', Heap.ExtBut j s.heap h' → Q none { s with heap := h' }) : wpAny (model prog w) A (pyNext (.ref j)) Q E s := by
  obtain ⟨hh, o1, vs1, e1, d1, c1⟩ := hot
  obtain ⟨o, eo, ec, ed⟩ := id hi
  obtain ⟨ol, el, _, nl, dl⟩ := ht
  unfold pyNext
  refine wpAny_bind (wpAny_attempt (wpAny_callSpecial?_slot (name := Str.ofString "__next__") hi.typeIs slot_tupleiter_next (wpAny_call_entry slot_tupleiter_next hi.typeIs entry_tupleiter_next ?_ (args_tupleiter_next _))))
  show wpAny _ _ (field (.ref j) 0 >>= _) _ _ s
  refine wpAny_bind (wpAny_field eo ed (x := .ref p) rfl ?_)
  show wpAny _ _ (if (Value.ref p == Value.none) = true then _ else _) _ _ s
  rw [if_neg (show ¬ ((Value.ref p == Value.none) = true) from Bool.false_ne_true)]
  show wpAny _ _ (field (.ref j) 1 >>= _) _ _ s
  refine wpAny_bind (wpAny_field eo ed (x := .int n 0) rfl ?_)
  show wpAny _ _ (seqItems? (.ref p) >>= _) _ _ s
  refine wpAny_bind (wpAny_seqItems el dl ?_)
  simp only [Int.toNat_natCast, hx]
  refine wpAny_bind (wpAny_rule (wpAny_bind (wpAny_setField eo ed (by simp) ?_)))
  have f1 := (Heap.get?_update_other s.heap (Obj.mapFields (·.setIfInBounds 0 Value.none)) (Ne.symm hjx)).trans e1
  show wpAny _ _ (newExc (.type "StopIteration") [] >>= _) _ _ _
  refine wpAny_bind ?_
  simp only [newExc, newTuple]
  refine wpAny_bind (wpAny_newObj_type ?_ (by size_fits))
  refine wpAny_bind (m := firstArgMember _ _) (wpAny_of_eq (a := Value.none) (by first | rfl | (simp only [firstArgMember]; rfl)) ?_)
  refine wpAny_newObj_type ?_ (by size_fits)
  have f2 := Heap.get?_push_of_some { cls := .type "tuple", data := .seq #[] } f1
  refine raiseNew_hot ⟨hh, o1, vs1, Heap.get?_push_of_some _ f2, d1, c1⟩ (Nat.ne_of_lt (Heap.lt_size f2)) (Heap.get?_push_size _ rfl) rfl (by first | (simp; done) | (simp; omega) | (simp only [Array.size_append]; simp; omega)) ?_
  refine wpAny_bind (wpAny_isInstance (T := "StopIteration") (b := true) ⟨_, Heap.get?_update_self _ (Heap.get?_push_size _ rfl) rfl, rfl⟩ isSubtype_stop ?_)
  refine wpAny_pure (q _ fun b u hb z => ?_)
  have z2 := Heap.get?_push_of_some { cls := .type "tuple", data := .seq #[] } ((Heap.get?_update_other s.heap (Obj.mapFields (·.setIfInBounds 0 Value.none)) (Ne.symm hb)).trans z)
  rw [Heap.get?_update_other _ _ (Nat.ne_of_gt (Heap.lt_size z2))]
  exact Heap.get?_push_of_some _ z2
theorem unpackH {p x1 : Addr} {its : Array Value} {tgs : List (Bool × (Value → Sem Unit))} {Q : Unit → Shared → Prop} (hot : HotAt A x1 s.heap) (ht : IsTup s.heap p its) (hn : tgs.length = its.size) (hst : tgs.findIdx? (·.1) = none)
    (q : ∀ h', Heap.ExtBut s.heap.objs.size s.heap h' → wpAny (model prog w) A (assignInOrder (tgs.map (·.2)) its.toList) Q E { s with heap := h' }) : wpAny (model prog w) A (unpack (.ref p) tgs) Q E s := by
  have hp : p ≠ s.heap.objs.size := let ⟨o, ho, _⟩ := ht; Nat.ne_of_lt (Heap.lt_size ho)
  obtain ⟨hh, o1, vs1, e1, d1, c1⟩ := hot
  have hx1 : x1 ≠ s.heap.objs.size := Nat.ne_of_lt (Heap.lt_size e1)
  unfold unpack
  rw [hn, hst]
  refine wpAny_bind (wpAny_holding ?_)
  unfold unpackItems
  refine wpAny_bind ?_
  unfold notIterableAtAll
  refine wpAny_bind (wpAny_specialOf ht.typeIs slot_tuple_iter.lookup (wpAny_pure ?_))
  simp only [Bool.false_eq_true, if_false]
  refine wpAny_bind (wpAny_holding (iter_tuple ht ?_))
  refine wpAny_bind (wpAny_holding (draw_tuple hp its.size 0 _ _ ⟨_, Heap.get?_push_size _ rfl, rfl, rfl⟩ (ht.push _) (by omega) fun h1 i1 s1 => ?_))
  have hall : List.take its.size (List.drop 0 its.toList) = its.toList := by rw [List.drop_zero]; exact List.take_of_length_le (by simp)
  rw [hall, if_neg (by simp)]
  have t1 : IsTup h1 p its := (ht.push _).extBut s1.extBut hp
  have e2 : h1.get? x1 = some o1 := s1.extBut x1 o1 hx1 (Heap.get?_push_of_some _ e1)
  refine wpAny_bind (wpAny_holding (tupEnd_hot ⟨hh, o1, vs1, e2, d1, c1⟩ i1 t1 (by simp) hx1 fun h2 x2 => ?_))
  simp only [Option.isSome_none, Bool.false_eq_true, if_false]
  exact wpAny_pure (q h2 fun b o hb e => x2 b o hb (s1.extBut b o hb (Heap.get?_push_of_some _ e)))
end
/-- a, b = a tuple, in an except suite -/
theorem pg_tupH {X : Cx} {es : List Expr} {k n : Nat} {t : TGs} {pos : Pos} (hc : L2H.HotC X) (h : PGs X es t) (hn : (assignEach es X.env).length = n) (hst : (assignEach es X.env).findIdx? (·.1) = none) : PG X (.Tuple es k pos) (gTup X.K n t) := by
  refine ⟨fun pins s σ H v u Q I r hw => ?_⟩
  obtain ⟨a, xs, rfl, hq, hl, hw⟩ := hw
  cases r
  obtain ⟨x1, hot⟩ := hc.at I
  obtain ⟨its, rv, ht, hz⟩ := I.tuple hq
  rw [assign_Tuple]
  refine wpAny_bind (wpAny_standAt (unpackH hot ht (by simp [hn, ← hl, rv.length]) hst fun h' hx => ?_))
  have J : Inv X pins σ H { s with heap := h' } := I.kept (t' := s.toks) fun b o e => hx b o (Nat.ne_of_lt (Heap.lt_size e)) e
  exact h.run pins _ σ H xs _ Q J (by simpa using rv) hw
end Pu

set_option Elab.async false
set_option linter.all false
set_option maxRecDepth 100000
set_option maxHeartbeats 2000000
/-! Pe4: isinstance of a caught exception that bears fields. -/
namespace Pu
open PySem PySem.Spec PyProof.Rows L2
section
open PySem.W PySem.Calls Builtin
variable {prog : Program} {w : World} {A : Around} {E : Value → Shared → Prop} {s : Shared} {K : PySem.W.Frag} {a D : Addr} {oe : Obj} {od : Option Obj}
theorem obj_data {nm : Str} {v gv : Value} (h1 : (clsIn K D).isSome = true) (h2 : findIn K (.ref D) nm = some (some v)) (h3 : specialIn K v "__get__" = some (some gv)) (h4 : takesIn K v = some true) : findObj K D od nm = some (.bind gv v) := by
  obtain ⟨cd, h1⟩ := Option.isSome_iff_exists.mp h1
  unfold findObj
  rw [h1, Option.bind_some, h2, Option.bind_some]
  simp [h3, h4]
theorem ask_class {Q : Option Value → Shared → Prop} (c : ExcC K D) (KI : K.In s.heap) (J : InstAt s.heap a oe D od) (q : Q (some (.ref D)) { s with toks := s.toks + 1 }) : wpAny (model prog w) A (getAttr? (.ref a) "__class__") Q E s := by
  obtain ⟨cg, ck, cs, cdc, ca, cn, ct, cm⟩ := c
  have fo : findObj K D od "__class__" = some (.bind (.builtin "getset_descriptor.__get__") (.builtin "object.__class__")) := obj_data (by obtain ⟨z, zc, _⟩ := any_some cdc; rw [zc]; rfl) ca cn ct
  obtain ⟨hh, gg, dr, k, oss⟩ := s
  have T0 := J.type (M := model prog w)
  have T1 := looks_findIn (M := model prog w) KI cg
  have T2 := looks_findIn (M := model prog w) KI ck
  have T3 := looks_find (M := model prog w) KI J fo
  have isB : Looks (model prog w) hh (isInstance (.ref a) (.type "BaseException")) true := T0.andThen (looks_subIn KI cs)
  have n0 : (false && onTheHeap (Value.builtin "BaseException.__getattribute__")) = false := rfl
  have n2 : (Value.builtin "BaseException.__getattribute__" == Value.builtin "object.__getattribute__") = false := by decide +kernel
  have n1 : (onTheHeap (Value.ref D) && Value.builtin "BaseException.__getattribute__" == Value.builtin "object.__getattribute__") = false := by rw [n2]; rfl
  unfold getAttr? getAttrBy? getAttrBy
  refine wpAny_bind (wpAny_mkText (wpAny_bind (wpAny_attempt (wpAny_holding (wpAny_bind (T0.at (wpAny_bind (T1.at ?_))))))))
  show wpAny _ _ (if (onTheHeap (Value.ref D) && Value.builtin "BaseException.__getattribute__" == Value.builtin "object.__getattribute__") = true then _ else _) _ _ _
  rw [n1, if_neg Bool.false_ne_true]
  unfold getAttrByItsOwn hookBefore
  refine wpAny_bind ?_
  rw [if_pos (show onTheHeap (Value.ref D) = true from rfl)]
  refine T2.at (wpAny_bind (wpAny_attempt (wpAny_holding ?_)))
  unfold callGetattribute
  rw [n0, if_neg Bool.false_ne_true]
  unfold boundAndCalled
  rw [PySem.F.excAttr_ValueError.ga.bind (.ref a)]
  refine wpAny_bind (wpAny_pure ?_)
  show wpAny _ _ (call (.builtin "BaseException.__getattribute__") [.ref a, .str "__class__" k]) _ _ _
  refine wpAny_call (codeAny_call_builtin PySem.F.excAttr_ValueError.ga.plain PySem.F.entry_bexc_ga (@check_slot (model prog w) _ _ ⟨hh, gg, dr, k + 1, oss⟩ "BaseException.__getattribute__" "BaseException" "__getattribute__" (.ref a) [.str "__class__" k] [] _ (by decide +kernel) (by decide +kernel) isB (PySem.F.args_bexc_ga (.ref a) (.str "__class__" k)) ?_))
  unfold Builtin.«object.__getattribute__»
  refine wpAny_bind (wpAny_of_eq (a := ((Value.ref a : Value), [Value.str "__class__" k])) (by first | rfl | (simp only [slotArgs]; rfl)) ?_)
  refine wpAny_bind (wpAny_pure (wpAny_bind (T0.at (wpAny_bind (T3.at ?_)))))
  show wpAny _ _ (holding [Value.builtin "object.__class__"] (call (.builtin "getset_descriptor.__get__") [.builtin "object.__class__", .ref a, .ref D]) >>= ret) _ _ _
  refine wpAny_bind (wpAny_holding (wpAny_call (class_get (s := ⟨hh, gg, dr, k + 1, oss⟩) (ox := oe) (od := od) KI J cm (wpAny_pure ?_))))
  show wpAny _ _ (handedOut (.ref D)) _ _ _
  rw [handedOut_of (v := .ref D) rfl]
  first
    | exact wpAny_pure (wpAny_pure q)
    | exact wpAny_pure q
    | exact wpAny_pure (wpAny_bind (wpAny_pure (wpAny_pure q)))
theorem kit_exc (c : ExcC K D) : KitX K (.ref a) (.ref D) (fun h => InstAt h a oe D od) where
  ty := fun _ _ _ J => J.type
  it := fun _ _ KI _ => by
    obtain ⟨z, zc, _⟩ := any_some c.hd
    unfold clsIn at zc
    split at zc
    · rename_i c1 c2 c3 c4 zo
      intro A1 Q1 E1 s1 k1 q1
      unfold isType loadHead
      exact wpAny_bind (wpAny_loadPart (k1 _ _ (KI _ _ zo)) (wpAny_pure q1))
    · cases zc
  ne := fun h tp dd its n sl KI htp => by
    obtain ⟨z, zc, _⟩ := any_some c.hd
    refine Bool.eq_false_iff.mpr fun y => ?_
    have ee : D = tp := Value.ref.inj (beq_iff_eq.mp y)
    subst ee
    unfold clsIn at zc
    split at zc
    · rename_i c1 c2 c3 c4 zo
      have zz := (KI _ _ zo).symm.trans htp
      cases zz
    · cases zc
  ca := fun KI J k => ask_class c KI J k
end
end Pu

set_option Elab.async false
set_option linter.all false
set_option maxRecDepth 100000
set_option maxHeartbeats 2000000
/-! Pe2: C(e): an own exception is made. -/
namespace Pu
open PySem PySem.Spec PyProof.Rows L2
theorem pmk_init {X : Cx} {x sf w f : Str} {C fI : Addr} {fd : FuncData} {E : Expr} {ta : TA} {p pos : Pos} (I0 : InitC X.prog X.K C fI sf w f fd) (iC : PySem.W.findIn X.K (.ref C) "__init__" = some (some (.ref fI))) (tI : PySem.W.typeIn X.K (.ref fI) = some (.type "function"))
    (hsm : X.mg "super" = none) (hb : Binds X.K fd [sf, w] []) (hr : X.A.depth + 5 < recursionLimit) (hg : Gl X x) (hm : X.mg x = some (.ref C)) (ha : PA X [E] ta) (hdb : (x == ("__debug__" : Str)) = false) (he : starEach [E] X.env = (false, eval E X.env) :: starEach [] X.env) :
    L2N.PMk X (.Call (.Name x p) [E] [] pos) (fun σ H Q => ta σ H fun vs H1 => ∃ y, vs = [y] ∧ ∀ d, H1 d = none → Q (.ref C) (some d) (upd H1 d (.xd [(f, y)]))) := by
  intro pins s σ H Q I h
  have T := I0.ox
  obtain ⟨nm, q, N, bs, bm, sn, sub, ab, col, dd, k0, k1, k2, k3, k5, hC, hbm⟩ := T.cls
  refine wpAny_Call_Name_kw (ld_glob I hg hm ?_ hdb)
  refine PySem.W.callWith_K (h₀ := X.base) I.ok.mod.kin T.kC (thn (ha.run pos pins s σ H _ I h) fun us s1 ⟨vs, H1, I1, r1, y, ev, q1⟩ => ⟨I1.kIn, ?_⟩) he rfl
  subst ev
  obtain ⟨u, rfl, ru⟩ := Vals.one r1
  show wpAny _ _ (call (.ref C) [u]) _ _ _
  obtain ⟨hp, g, dr, tk, os⟩ := s1
  have hus : ([u] : List Value).length ≤ sizeLine := by rw [sizeLine_eq]; show (1 : Nat) ≤ _; omega
  have kk : ∀ b o, hp.get? b = some o → ((hp.push (PySem.W.kdv_tup [u])).push (PySem.HandSPX.excO C hp.objs.size)).get? b = some o := fun b o e => Heap.get?_push_of_some _ (Heap.get?_push_of_some _ e)
  have hget : ((hp.push (PySem.W.kdv_tup [u])).push (PySem.HandSPX.excO C hp.objs.size)).get? (hp.objs.size + 1) = some (PySem.HandSPX.excO C hp.objs.size) := by heap_get
  have I2 : Inv X pins σ H1 ⟨(hp.push (PySem.W.kdv_tup [u])).push (PySem.HandSPX.excO C hp.objs.size), g, dr, tk, os⟩ := I1.kept (t' := tk) kk
  have nof : ∀ {b : Addr} {o : Obj}, hp.get? b = some o → b ≠ hp.objs.size + 1 := fun {b o} z y => by
    have z1 : b < hp.objs.size := Heap.lt_size z
    rw [y] at z1
    exact absurd z1 (Nat.not_lt.mpr (Nat.le_succ _))
  have hbd := hb ⟨(hp.push (PySem.W.kdv_tup [u])).push (PySem.HandSPX.excO C hp.objs.size), g, dr, tk, os⟩ [Value.ref (hp.objs.size + 1), u] I2.kIn rfl
  refine wpAny_call (PySem.HandSPX.call_own F.excBase_ValueError (fun Y => PySem.HandSPX.refsVE_contains Y bm hbm) (I1.kIn _ _ hC) (PySem.W.looks_findIn I1.kIn iC) (fun self => PySem.W.bind_fn I1.kIn self tI) hus
    (exc_init1 I0 I2.kIn (I2.ok.mod.glob.keeps I2.bk) (let ⟨mb, z1, z2⟩ := I2.ok.mod.blt; ⟨mb, z1.keeps I2.bk, z2⟩) hsm (I2.ok.mod.nolimit.keeps I2.bk) ?_ hbd hget (fun a o z => nof (I1.kIn a o z)) fun h3 tk3 dx t1 k3 dn dne hx hn => ?_))
  · rw [make_depth]
    omega
  · refine ⟨rfl, ?_⟩
    have hdn : hp.objs.size ≤ dx := by
      have z : hp.objs.size + 1 < ((hp.push (PySem.W.kdv_tup [u])).push (PySem.HandSPX.excO C hp.objs.size)).objs.size := Heap.lt_size hget
      exact Nat.le_trans (Nat.le_of_lt (Nat.lt_trans (Nat.lt_succ_self _) z)) dn
    have dfree : H1 dx = none := I1.hok.fresh hdn
    obtain ⟨G, g1, g2⟩ := restrict h3 fun b => decide (b ≠ hp.objs.size + 1)
    have ge : G.get? (hp.objs.size + 1) = none := g2 _ (by simp)
    have gk : ∀ b, b ≠ hp.objs.size + 1 → G.get? b = h3.get? b := fun b z => g1 b (decide_eq_true z)
    have old : ∀ b o, hp.get? b = some o → G.get? b = some o := fun b o z => by
      rw [gk b (nof z)]
      exact k3 b o (nof z) (kk b o z)
    have rel : ∀ g, RelO (([(f, y)] : List (Str × V)).lookup g) (if g = f then some u else none) := relO_put (fs := []) ru fun g => True.intro
    have nw : ObjOk X.prog X.w (upd H1 dx (.xd [(f, y)])) G dx (.xd [(f, y)]) := ⟨_, hn.at fun o z => (gk dx dne).trans z, rel⟩
    have J : Inv X pins σ (upd H1 dx (.xd [(f, y)])) ⟨G, g, dr, tk3, os⟩ := I1.laid (t' := tk3) old hdn nw
    have na : upd H1 dx (.xd [(f, y)]) (hp.objs.size + 1) = none := by
      rw [upd_ne (Ne.symm dne)]
      exact I1.hok.fresh (Nat.le_succ _)
    refine ⟨hp.objs.size + 1, _, _, ⟨G, g, dr, tk3, os⟩, _, .ref C, some dx, rfl, J, fun b o z => ?_, ge, hx, ⟨rfl, rfl, fun vs z => ?_⟩, rfl, rfl, na, rfl, I1.bare, raises_own T.exC T.tyC, q1 dx dfree⟩
    · by_cases hb : b = hp.objs.size + 1
      · rw [hb, ge] at z; cases z
      · exact (gk b hb).symm.trans z
    · cases z
      rfl
end Pu

set_option Elab.async false
set_option linter.all false
set_option maxRecDepth 100000
/-! Pu4: comparisons and truth. -/
namespace Pu
open PySem PySem.Spec L2
mutual
def PV.toD : PV → PyData
  | .bl b => .bool b
  | .int i => .int i
  | .str x => .str x
  | .tup xs => .tuple (PV.toDs xs)
  | _ => .none
def PV.toDs : List PV → List PyData
  | [] => []
  | x :: xs => PV.toD x :: PV.toDs xs
end
mutual
theorem toD_lay : ∀ v : PV, v.flat = true → v.toD.canLay0 = true
  | .non, _ => rfl
  | .bl _, _ => rfl
  | .int _, _ => rfl
  | .str _, h => h
  | .tup xs, h => toDs_lay xs h
  | .ref _, h => nomatch h
  | .gl _, h => nomatch h
  | .ty _, h => nomatch h
theorem toDs_lay : ∀ vs : List PV, PV.flats vs = true → PyData.canLayAll0 (PV.toDs vs) = true
  | [], _ => rfl
  | x :: xs, h => by
    simp only [PV.flats, Bool.and_eq_true] at h
    simp only [PV.toDs, PyData.canLayAll0, Bool.and_eq_true]
    exact ⟨toD_lay x h.1, toDs_lay xs h.2⟩
end
mutual
theorem toD_dep : ∀ v : PV, v.toD.depth = v.dep
  | .non => rfl
  | .bl _ => rfl
  | .int _ => rfl
  | .str _ => rfl
  | .tup xs => congrArg (· + 1) (toDs_dep xs)
  | .ref _ => rfl
  | .gl _ => rfl
  | .ty _ => rfl
theorem toDs_dep : ∀ vs : List PV, PyData.depthAll (PV.toDs vs) = PV.deps vs
  | [] => rfl
  | x :: xs => by
    show max _ _ = max _ _
    rw [toD_dep x, toDs_dep xs]
end
mutual
theorem toD_eqv : ∀ a b : PV, a.flat = true → b.flat = true → PyData.eqv a.toD b.toD = PV.eqv a b
  | .non, b, _, hb => by cases b <;> first | rfl | exact nomatch hb
  | .bl _, b, _, hb => by cases b <;> first | rfl | exact nomatch hb
  | .int _, b, _, hb => by cases b <;> first | rfl | exact nomatch hb
  | .str _, b, _, hb => by cases b <;> first | rfl | exact nomatch hb
  | .tup xs, b, ha, hb => by
    cases b <;> first | rfl | exact toDs_eqv xs _ ha hb | exact nomatch hb
  | .ref _, _, h, _ => nomatch h
  | .gl _, _, h, _ => nomatch h
  | .ty _, _, h, _ => nomatch h
theorem toDs_eqv : ∀ a b : List PV, PV.flats a = true → PV.flats b = true → PyData.eqvAll (PV.toDs a) (PV.toDs b) = PV.eqvs a b
  | [], [], _, _ => rfl
  | [], _ :: _, _, _ => rfl
  | _ :: _, [], _, _ => rfl
  | x :: xs, y :: ys, ha, hb => by
    simp only [PV.flats, Bool.and_eq_true] at ha hb
    show (PyData.eqv _ _ && PyData.eqvAll _ _) = (PV.eqv _ _ && PV.eqvs _ _)
    rw [toD_eqv x y ha.1 hb.1, toDs_eqv xs ys ha.2 hb.2]
end
theorem toDs_any (x : PV) (hx : x.flat = true) : ∀ ys : List PV, PV.flats ys = true → ((PV.toDs ys).any fun z => PyData.eqv z x.toD) = ys.any fun z => PV.eqv z x
  | [], _ => rfl
  | y :: ys, h => by
    simp only [PV.flats, Bool.and_eq_true] at h
    show (PyData.eqv _ _ || _) = (PV.eqv _ _ || _)
    rw [toD_eqv y x h.1 hx, toDs_any x hx ys h.2]
section
variable {mg : Str → Option Value} {ι : List Addr} {H : Hp} {ph : PH} {K : PySem.W.Frag}
mutual
theorem Rep.dp : ∀ (a : PV) (v : V), a.flat = true → Rep mg ι H a v → Dp K H v a.toD
  | .non, _, _, h => by cases h; exact .non
  | .bl _, _, _, h => by cases h; exact .bl _
  | .int _, _, _, h => by cases h; exact .int _
  | .str _, _, _, h => by cases h; exact .str _
  | .tup xs, _, hf, ⟨a, vs, h1, h2, h3, h4⟩ => by subst h1; exact .tup (.of h2) (Reps.dp xs vs hf h4)
  | .ref _, _, h, _ => nomatch h
  | .gl _, _, h, _ => nomatch h
  | .ty _, _, h, _ => nomatch h
theorem Reps.dp : ∀ (xs : List PV) (vs : List V), PV.flats xs = true → Reps mg ι H xs vs → DpAll K H vs (PV.toDs xs)
  | [], _, _, h => by cases h; exact .nil
  | x :: xs, _, hf, ⟨v, r, h1, h2, h3⟩ => by
    simp only [PV.flats, Bool.and_eq_true] at hf
    subst h1
    exact .cons (Rep.dp x v hf.1 h2) (Reps.dp xs r hf.2 h3)
end
theorem fine_shaped {v : PV} (h : fine v = true) : v.flat = true ∧ SeqAt.shaped v.toD = true := by
  simp only [fine, Bool.and_eq_true, decide_eq_true_eq] at h
  refine ⟨h.1, ?_⟩
  unfold SeqAt.shaped
  rw [toD_lay v h.1, toD_dep v]
  simp only [Bool.true_and, decide_eq_true_eq]
  omega
theorem fines_shaped {vs : List PV} (h : fines vs = true) : PV.flats vs = true ∧ SeqAt.shaped (.list (PV.toDs vs)) = true ∧ SeqAt.shaped (.tuple (PV.toDs vs)) = true := by
  simp only [fines, Bool.and_eq_true, decide_eq_true_eq] at h
  have hl := toDs_lay vs h.1
  have hd : PyData.depthAll (PV.toDs vs) + 1 ≤ 64 := by rw [toDs_dep vs]; omega
  exact ⟨h.1, Bool.and_eq_true_iff.mpr ⟨hl, decide_eq_true hd⟩, Bool.and_eq_true_iff.mpr ⟨hl, decide_eq_true hd⟩⟩
end
/-- a rule for two values whose answer is a bool -/
def r2b (mg : Str → Option Value) (f : PV → PV → PH → Res Bool) : R2 := fun x y H Q => ∃ ι ph a b, HRep mg ι H ph ∧ Rep mg ι H a x ∧ Rep mg ι H b y ∧ Fin mg W0 [] (fun _ _ k c => V.bl k = c) Q ι H (f a b ph)
section
variable {X : Cx}
theorem eqR_of (hu : X.A.units + 64 < cLine) : OpR X (compareOp .Eq) (r2b X.mg eqR) ∧ OpR X (compareOp .NotEq) (r2b X.mg fun x y h => notR (eqR x y h)) := by
  have key : ∀ {ι : List Addr} {ph : PH} {H : Hp} {a b : PV} {x y : V}, HRep X.mg ι H ph → Rep X.mg ι H a x → Rep X.mg ι H b y → ∀ r, eqR a b ph = r → r = .bad ∨ ∃ d e, Dp X.K H x d ∧ Dp X.K H y e ∧ SeqAt.shaped d = true ∧ SeqAt.shaped e = true ∧ r = .ok (PyData.eqv d e) ph := by
    intro ι ph H a b x y hr ra rb r hq
    have plain : r = guardR (fine a && fine b) (.ok (PV.eqv a b) ph) → r = .bad ∨ ∃ d e, Dp X.K H x d ∧ Dp X.K H y e ∧ SeqAt.shaped d = true ∧ SeqAt.shaped e = true ∧ r = .ok (PyData.eqv d e) ph := by
      intro e
      unfold guardR at e
      split at e
      · rename_i hc
        simp only [Bool.and_eq_true] at hc
        obtain ⟨f1, s1⟩ := fine_shaped hc.1
        obtain ⟨f2, s2⟩ := fine_shaped hc.2
        exact .inr ⟨_, _, Rep.dp a x f1 ra, Rep.dp b y f2 rb, s1, s2, by rw [e, toD_eqv a b f1 f2]⟩
      · exact .inl e
    unfold eqR at hq
    split at hq
    · rename_i n m
      split at hq
      · rename_i xs ys e1 e2
        unfold guardR at hq
        split at hq
        · rename_i hc
          simp only [Bool.and_eq_true] at hc
          obtain ⟨f1, s1, _⟩ := fines_shaped hc.1
          obtain ⟨f2, s2, _⟩ := fines_shaped hc.2
          obtain ⟨a, _, rfl, vs, hv, _, hs⟩ := ref_at hr ra e1
          obtain ⟨b, _, rfl, ws, hw, _, ht⟩ := ref_at hr rb e2
          exact .inr ⟨_, _, .lst (.of hv) (Reps.dp xs vs f1 hs), .lst (.of hw) (Reps.dp ys ws f2 ht), s1, s2, by rw [← hq, ← toDs_eqv xs ys f1 f2]; rfl⟩
        · exact .inl hq.symm
      · exact .inl hq.symm
    · exact plain hq.symm
  refine ⟨fun pins s σ H x y v u Q I rx ry h => ?_, fun pins s σ H x y v u Q I rx ry h => ?_⟩
  · obtain ⟨ι, ph, a, b, hr, ra, rb, q⟩ := h
    rcases key hr ra rb _ rfl with e | ⟨d, e, h1, h2, h3, h4, e5⟩
    · rw [e] at q; exact False.elim q
    · rw [e5] at q
      exact op_eqD hu pins s σ H x y v u Q I rx ry ⟨d, e, h1, h2, h3, h4, q.here hr rfl⟩
  · obtain ⟨ι, ph, a, b, hr, ra, rb, q⟩ := h
    rcases key hr ra rb _ rfl with e | ⟨d, e, h1, h2, h3, h4, e5⟩
    · simp only [e, notR, Res.map] at q; exact False.elim q
    · simp only [e5, notR, Res.map] at q
      exact op_neD hu pins s σ H x y v u Q I rx ry ⟨d, e, h1, h2, h3, h4, q.here hr rfl⟩
end
end Pu

set_option Elab.async false
set_option linter.all false
set_option maxRecDepth 100000
/-! Pu5: keys, in, is, order, truth, subscripts, slices, stores. -/
namespace Pu
open PySem PySem.Spec L2
section
variable {mg : Str → Option Value} {ι : List Addr} {H : Hp} {ph : PH} {K : PySem.W.Frag}
theorem key_v : ∀ {a : PV} {k : Key} {v : V}, a.key? = some k → Rep mg ι H a v → v = kV k
  | .int _, _, _, e, h => by cases e; exact h
  | .str _, _, _, e, h => by cases e; exact h
  | .non, _, _, e, _ => nomatch e
  | .bl _, _, _, e, _ => nomatch e
  | .tup _, _, _, e, _ => nomatch e
  | .ref _, _, _, e, _ => nomatch e
  | .gl _, _, _, e, _ => nomatch e
  | .ty _, _, _, e, _ => nomatch e
theorem keys_v : ∀ {xs : List PV} {ks : List Key} {vs : List V}, keys? xs = some ks → Reps mg ι H xs vs → vs = ks.map kV
  | [], _, _, e, h => by cases e; exact h
  | x :: xs, _, _, e, ⟨v, r, h1, h2, h3⟩ => by
    unfold keys? at e
    split at e
    · rename_i k ks e1 e2
      cases e
      rw [h1, key_v e1 h2, keys_v e2 h3]
      rfl
    · cases e
section
variable {κ : Type} [DecidableEq κ]
theorem RepF.get : ∀ {kvs : List (κ × PV)} {l : List (κ × V)}, RepF mg ι H kvs l → ∀ k, (aget kvs k = none ∧ valV l k = none) ∨ ∃ x v, aget kvs k = some x ∧ valV l k = some v ∧ Rep mg ι H x v
  | [], _, h, k => by cases h; exact .inl ⟨rfl, rfl⟩
  | p :: ps, _, ⟨v, r, h1, h2, h3⟩, k => by
    subst h1
    by_cases e : p.1 = k
    · exact .inr ⟨p.2, v, by simp [aget, List.find?_cons, e], valV_pos e, h2⟩
    · have e1 : aget (p :: ps) k = aget ps k := by simp [aget, List.find?_cons, e]
      have e2 : valV ((p.1, v) :: r) k = valV r k := valV_neg (p := (p.1, v)) e
      rw [e1, e2]
      exact RepF.get h3 k
theorem RepF.has : ∀ {kvs : List (κ × PV)} {l : List (κ × V)}, RepF mg ι H kvs l → ∀ k, ahas kvs k = l.any fun kv => decide (kv.1 = k)
  | [], _, h, k => by cases h; rfl
  | p :: ps, _, ⟨v, r, h1, h2, h3⟩, k => by
    subst h1
    have := RepF.has h3 k
    unfold ahas at this ⊢
    simp [this]
theorem RepF.repl {k : κ} {x : PV} {v : V} (rx : Rep mg ι H x v) : ∀ {kvs : List (κ × PV)} {l : List (κ × V)}, RepF mg ι H kvs l → RepF mg ι H (kvs.map fun p => if p.1 = k then (p.1, x) else p) (l.map fun p => if p.1 = k then (p.1, v) else p)
  | [], _, h => by cases h; rfl
  | p :: ps, _, ⟨w, r, h1, h2, h3⟩ => by
    subst h1
    by_cases e : p.1 = k
    · exact ⟨v, _, by simp [e], by simp [e]; exact rx, RepF.repl rx h3⟩
    · exact ⟨w, _, by simp [e], by simp [e]; exact h2, RepF.repl rx h3⟩
theorem RepF.snoc {k : κ} {x : PV} {v : V} (rx : Rep mg ι H x v) : ∀ {kvs : List (κ × PV)} {l : List (κ × V)}, RepF mg ι H kvs l → RepF mg ι H (kvs ++ [(k, x)]) (l ++ [(k, v)])
  | [], _, h => by cases h; exact ⟨v, [], rfl, rx, rfl⟩
  | p :: ps, _, ⟨w, r, h1, h2, h3⟩ => by
    subst h1
    exact ⟨w, _, rfl, h2, RepF.snoc rx h3⟩
theorem RepF.put {kvs : List (κ × PV)} {l : List (κ × V)} (h : RepF mg ι H kvs l) {k : κ} {x : PV} {v : V} (rx : Rep mg ι H x v) : RepF mg ι H (aput kvs k x) (putK l k v) := by
  unfold aput putK
  rw [h.has k]
  split
  · exact h.repl rx
  · exact h.snoc rx
end
/-- asking a dict -/
theorem dget_k {a : Addr} {kvs : List (Key × PV)} {k : Key} {b : PV} {y : V} (h : RepO mg ι H a (.dk kvs)) (e : b.key? = some k) (rb : Rep mg ι H b y) :
    ∃ o, DGet H a y o ∧ ((aget kvs k = none ∧ o = none) ∨ ∃ x v, aget kvs k = some x ∧ o = some v ∧ Rep mg ι H x v) ∧ ahas kvs k = o.isSome := by
  obtain ⟨l, hl, _, hf⟩ := h
  cases key_v e rb
  refine ⟨_, .k hl, hf.get k, ?_⟩
  rw [hf.has k, valV_any]
theorem dget_t {a : Addr} {kvs : List (List Key × PV)} {k : List Key} {ks : List PV} {y : V} (h : RepO mg ι H a (.dt kvs)) (e : keys? ks = some k) (rb : Rep mg ι H (.tup ks) y) :
    ∃ o, DGet H a y o ∧ ((aget kvs k = none ∧ o = none) ∨ ∃ x v, aget kvs k = some x ∧ o = some v ∧ Rep mg ι H x v) ∧ ahas kvs k = o.isSome := by
  obtain ⟨l, hl, _, hf⟩ := h
  obtain ⟨b, vs, rfl, hb, _, hs⟩ := rb
  rw [keys_v e hs] at hb
  refine ⟨_, .t hl hb, hf.get k, ?_⟩
  rw [hf.has k, valV_any]
/-- asking a locked dict -/
theorem dget_lk {a : Addr} {kvs : List (Key × PV)} {k : Key} {b : PV} {y : V} (h : RepO mg ι H a (.lk kvs)) (e : b.key? = some k) (rb : Rep mg ι H b y) :
    ∃ o, DGet H a y o ∧ ((aget kvs k = none ∧ o = none) ∨ ∃ x v, aget kvs k = some x ∧ o = some v ∧ Rep mg ι H x v) ∧ ahas kvs k = o.isSome := by
  obtain ⟨l, od, hl, _, hf⟩ := h
  cases key_v e rb
  refine ⟨_, .inl ⟨l, k, .inr ⟨od, hl⟩, rfl, rfl⟩, hf.get k, ?_⟩
  rw [hf.has k, valV_any]
theorem dget_lt {a : Addr} {kvs : List (List Key × PV)} {k : List Key} {ks : List PV} {y : V} (h : RepO mg ι H a (.lt kvs)) (e : keys? ks = some k) (rb : Rep mg ι H (.tup ks) y) :
    ∃ o, DGet H a y o ∧ ((aget kvs k = none ∧ o = none) ∨ ∃ x v, aget kvs k = some x ∧ o = some v ∧ Rep mg ι H x v) ∧ ahas kvs k = o.isSome := by
  obtain ⟨l, od, hl, _, hf⟩ := h
  obtain ⟨b, vs, rfl, hb, _, hs⟩ := rb
  rw [keys_v e hs] at hb
  refine ⟨_, .inr ⟨l, k, b, .inr ⟨od, hl⟩, rfl, hb, rfl⟩, hf.get k, ?_⟩
  rw [hf.has k, valV_any]
end
section
variable {X : Cx}
theorem r2_map {f : Value → Value → Sem Value} {g : PV → PV → PH → Res Bool} (h : OpR X f (r2b X.mg g)) : OpR X f (r2 X.mg fun x y h => (g x y h).map .bl) := fun pins s σ H x y v u Q I rx ry ⟨ι, ph, a, b, hr, ra, rb, q⟩ =>
  h pins s σ H x y v u Q I rx ry ⟨ι, ph, a, b, hr, ra, rb, by
    have q' : Fin X.mg W0 [] (Rep X.mg) Q ι H (Res.map .bl (g a b ph)) := q
    revert q'
    cases g a b ph with
    | ok t p => exact fun q i2 H2 c e h2 hc => q i2 H2 c e h2 hc.symm
    | exc _ _ _ => exact fun q => q
    | bad => exact fun q => q⟩
/-- a comparison and its contrary -/
def Both (X : Cx) (o n : CmpOp) (g : PV → PV → PH → Res Bool) : Prop := OpR X (compareOp o) (r2b X.mg g) ∧ OpR X (compareOp n) (r2b X.mg fun x y h => notR (g x y h))
theorem inR_of (hu : X.A.units + 65 < cLine) : Both X .In .NotIn inR := by
  have hu1 : X.A.units + 1 < cLine := by omega
  have key : ∀ {ι : List Addr} {ph : PH} {H : Hp} {a b : PV} {x y : V}, HRep X.mg ι H ph → Rep X.mg ι H a x → Rep X.mg ι H b y → ∀ r, inR a b ph = r → r = .bad ∨
      (∃ d ds, Dp X.K H x d ∧ (Dp X.K H y (.list ds) ∨ Dp X.K H y (.tuple ds)) ∧ SeqAt.shaped d = true ∧ SeqAt.shaped (.list ds) = true ∧ r = .ok (ds.any fun z => PyData.eqv z d) ph) ∨
      ∃ p o, y = .ref p ∧ DGet H p x o ∧ r = .ok o.isSome ph := by
    intro ι ph H a b x y hr ra rb r hq
    unfold inR at hq
    split at hq
    · rename_i ys
      unfold guardR at hq
      split at hq
      · rename_i hc
        simp only [Bool.and_eq_true] at hc
        obtain ⟨f1, s1⟩ := fine_shaped hc.1
        obtain ⟨f2, s2, _⟩ := fines_shaped hc.2
        obtain ⟨p, vs, rfl, hp, _, hs⟩ := rb
        exact .inr (.inl ⟨_, _, Rep.dp a x f1 ra, .inr (.tup (.of hp) (Reps.dp ys vs f2 hs)), s1, s2, by rw [← hq, toDs_any a f1 ys f2]⟩)
      · exact .inl hq.symm
    · rename_i n
      split at hq
      · rename_i ys e
        unfold guardR at hq
        split at hq
        · rename_i hc
          simp only [Bool.and_eq_true] at hc
          obtain ⟨f1, s1⟩ := fine_shaped hc.1
          obtain ⟨f2, s2, _⟩ := fines_shaped hc.2
          obtain ⟨p, _, rfl, vs, hp, _, hs⟩ := ref_at hr rb e
          exact .inr (.inl ⟨_, _, Rep.dp a x f1 ra, .inl (.lst (.of hp) (Reps.dp ys vs f2 hs)), s1, s2, by rw [← hq, toDs_any a f1 ys f2]⟩)
        · exact .inl hq.symm
      · rename_i kvs e
        cases ek : a.key? with
        | none => rw [ek] at hq; exact .inl hq.symm
        | some k =>
          rw [ek] at hq
          obtain ⟨p, _, rfl, ho⟩ := ref_at hr rb e
          obtain ⟨o, g, _, hs⟩ := dget_k ho ek ra
          exact .inr (.inr ⟨p, o, rfl, g, by rw [← hq, ← hs]; rfl⟩)
      · rename_i kvs e
        split at hq
        · rename_i ks
          cases ek : keys? ks with
          | none => rw [ek] at hq; exact .inl hq.symm
          | some k =>
            rw [ek] at hq
            obtain ⟨p, _, rfl, ho⟩ := ref_at hr rb e
            obtain ⟨o, g, _, hs⟩ := dget_t ho ek ra
            exact .inr (.inr ⟨p, o, rfl, g, by rw [← hq, ← hs]; rfl⟩)
        · exact .inl hq.symm
      · rename_i kvs e
        cases ek : a.key? with
        | none => rw [ek] at hq; exact .inl hq.symm
        | some k =>
          rw [ek] at hq
          obtain ⟨p, _, rfl, ho⟩ := ref_at hr rb e
          obtain ⟨o, g, _, hs⟩ := dget_lk ho ek ra
          exact .inr (.inr ⟨p, o, rfl, g, by rw [← hq, ← hs]; rfl⟩)
      · rename_i kvs e
        split at hq
        · rename_i ks
          cases ek : keys? ks with
          | none => rw [ek] at hq; exact .inl hq.symm
          | some k =>
            rw [ek] at hq
            obtain ⟨p, _, rfl, ho⟩ := ref_at hr rb e
            obtain ⟨o, g, _, hs⟩ := dget_lt ho ek ra
            exact .inr (.inr ⟨p, o, rfl, g, by rw [← hq, ← hs]; rfl⟩)
        · exact .inl hq.symm
      · exact .inl hq.symm
    · exact .inl hq.symm
  have room : ∀ {d : PyData} {ds : List PyData}, SeqAt.shaped d = true → X.A.units + 1 + min (PyData.depthAll ds) d.depth < cLine := fun {d ds} sd => by
    have h1 := SeqAt.depth_of_shaped sd
    have h2 : min (PyData.depthAll ds) d.depth ≤ d.depth := Nat.min_le_right _ _
    omega
  refine ⟨fun pins s σ H x y v u Q I rx ry h => ?_, fun pins s σ H x y v u Q I rx ry h => ?_⟩
  · obtain ⟨ι, ph, a, b, hr, ra, rb, q⟩ := h
    rcases key hr ra rb _ rfl with e | ⟨d, ds, h1, h2, h3, h4, e5⟩ | ⟨p, o, rfl, g, e5⟩
    · rw [e] at q; exact False.elim q
    · rw [e5] at q
      rcases h2 with h2 | h2
      · exact op_inD hu pins s σ H x y v u Q I rx ry ⟨d, ds, h1, h2, h3, h4, q.here hr rfl⟩
      · obtain ⟨as, r1⟩ := Dp.reads I d x v h1 rx
        obtain ⟨bs, r2⟩ := Dp.reads I (.tuple ds) y u h2 ry
        exact SeqAt.in_tuple_reads r2 r1 (SeqAt.canLay_of_shaped h4) (SeqAt.canLay_of_shaped h3) (room h3) ⟨.bl _, H, I, rfl, q.here hr rfl⟩
    · rw [e5] at q
      cases ry
      exact d_in hu1 I g rx fun s' I' => ⟨.bl _, H, I', rfl, q.here hr rfl⟩
  · obtain ⟨ι, ph, a, b, hr, ra, rb, q⟩ := h
    rcases key hr ra rb _ rfl with e | ⟨d, ds, h1, h2, h3, h4, e5⟩ | ⟨p, o, rfl, g, e5⟩
    · simp only [e, notR, Res.map] at q; exact False.elim q
    · simp only [e5, notR, Res.map] at q
      rcases h2 with h2 | h2
      · exact op_notInD hu pins s σ H x y v u Q I rx ry ⟨d, ds, h1, h2, h3, h4, q.here hr rfl⟩
      · obtain ⟨as, r1⟩ := Dp.reads I d x v h1 rx
        obtain ⟨bs, r2⟩ := Dp.reads I (.tuple ds) y u h2 ry
        exact SeqAt.notIn_tuple_reads r2 r1 (SeqAt.canLay_of_shaped h4) (SeqAt.canLay_of_shaped h3) (room h3) ⟨.bl _, H, I, rfl, q.here hr rfl⟩
    · simp only [e5, notR, Res.map] at q
      cases ry
      exact d_notIn hu1 I g rx fun s' I' => ⟨.bl _, H, I', rfl, q.here hr rfl⟩
theorem isR_of : Both X .Is .IsNot isR := by
  have non : ∀ {ι : List Addr} {H : Hp} {a : PV} {x : V}, Rep X.mg ι H a x → (∀ z, a ≠ .gl z) → decide (a = .non) = decide (x = .non) := by
    intro ι H a x r hg
    cases a with
    | gl z => exact (hg z rfl).elim
    | non => cases r; rfl
    | bl _ => cases r; rfl
    | int _ => cases r; rfl
    | str _ => cases r; rfl
    | ty _ => cases r; rfl
    | ref _ => obtain ⟨_, _, rfl⟩ := r; rfl
    | tup _ => obtain ⟨_, _, rfl, _⟩ := r; rfl
  have key : ∀ {ι : List Addr} {ph : PH} {H : Hp} {a b : PV} {x y : V}, HRep X.mg ι H ph → Rep X.mg ι H a x → Rep X.mg ι H b y → ∀ r, isR a b ph = r → r = .bad ∨
      (y = .non ∧ r = .ok (decide (x = .non)) ph) ∨ ∃ p q, x = .bl p ∧ y = .bl q ∧ r = .ok (decide (p = q)) ph := by
    intro ι ph H a b x y hr ra rb r hq
    unfold isR at hq
    split at hq
    · cases rb
      split at hq
      · exact .inl hq.symm
      · rename_i hg
        exact .inr (.inl ⟨rfl, by rw [← hq, non ra fun z e => hg z e]⟩)
    · split at hq
      · cases ra; cases rb
        exact .inr (.inr ⟨_, _, rfl, rfl, hq.symm⟩)
      · exact .inl hq.symm
    · exact .inl hq.symm
  refine ⟨fun pins s σ H x y v u Q I rx ry h => ?_, fun pins s σ H x y v u Q I rx ry h => ?_⟩
  · obtain ⟨ι, ph, a, b, hr, ra, rb, q⟩ := h
    rcases key hr ra rb _ rfl with e | ⟨rfl, e5⟩ | ⟨p, t, rfl, rfl, e5⟩
    · rw [e] at q; exact False.elim q
    · rw [e5] at q
      exact op_isN pins s σ H x _ v u Q I rx ry ⟨rfl, q.here hr rfl⟩
    · rw [e5] at q
      exact op_isBl pins s σ H _ _ v u Q I rx ry ⟨p, t, rfl, rfl, q.here hr rfl⟩
  · obtain ⟨ι, ph, a, b, hr, ra, rb, q⟩ := h
    rcases key hr ra rb _ rfl with e | ⟨rfl, e5⟩ | ⟨p, t, rfl, rfl, e5⟩
    · simp only [e, notR, Res.map] at q; exact False.elim q
    · simp only [e5, notR, Res.map] at q
      exact op_notN pins s σ H x _ v u Q I rx ry ⟨rfl, q.here hr rfl⟩
    · simp only [e5, notR, Res.map] at q
      exact op_notBl pins s σ H _ _ v u Q I rx ry ⟨p, t, rfl, rfl, q.here hr rfl⟩
theorem ltR_of {op : CmpOp} {c : Int → Int → Bool} (o : OpR X (compareOp op) (rI0 fun i j => .bl (c i j))) : OpR X (compareOp op) (r2b X.mg (ltR c)) := by
  intro pins s σ H x y v u Q I rx ry h
  obtain ⟨ι, ph, a, b, hr, ra, rb, q⟩ := h
  cases a <;> cases b <;> try exact False.elim q
  cases ra; cases rb
  exact o pins s σ H _ _ v u Q I rx ry ⟨_, _, rfl, rfl, q.here hr rfl⟩
theorem op_cmpR (hu : X.A.units + 65 < cLine) : ∀ op : CmpOp, OpR X (compareOp op) (r2b X.mg (cmpR op))
  | .Eq => (eqR_of (by omega)).1
  | .NotEq => (eqR_of (by omega)).2
  | .Lt => ltR_of op_lt
  | .LtE => ltR_of op_le
  | .Gt => ltR_of op_gt
  | .GtE => ltR_of op_ge
  | .In => (inR_of hu).1
  | .NotIn => (inR_of hu).2
  | .Is => isR_of.1
  | .IsNot => isR_of.2
theorem op_cmpop (hu : X.A.units + 65 < cLine) (op : CmpOp) : OpR X (compareOp op) (r2 X.mg (cmpop op)) := r2_map (op_cmpR hu op)
/-- truth -/
def rT (mg : Str → Option Value) : V → Hp → (Bool → Hp → Prop) → Prop := fun x H Q => ∃ ι ph a, HRep mg ι H ph ∧ Rep mg ι H a x ∧ Fin mg W0 [] (fun _ _ (k c : Bool) => k = c) Q ι H (truthy a ph)
theorem rT_tru {K : PySem.W.Frag} {mg : Str → Option Value} {x : V} {H : Hp} {Q : Bool → Hp → Prop} (h : rT mg x H Q) : ∃ k, TruV K x H k ∧ Q k H := by
  obtain ⟨ι, ph, a, hr, ra, q⟩ := h
  cases a with
  | non => cases ra; exact ⟨_, rfl, q.here hr rfl⟩
  | bl b => cases ra; exact ⟨_, rfl, q.here hr rfl⟩
  | int i => cases ra; exact ⟨_, rfl, q.here hr rfl⟩
  | str z =>
    cases ra
    obtain ⟨c, q⟩ := q.guard
    exact ⟨_, ⟨of_decide_eq_true c, rfl⟩, q.here hr rfl⟩
  | tup xs =>
    obtain ⟨p, vs, rfl, hp, _, hs⟩ := ra
    refine ⟨_, .inr (.inl ⟨vs, .of hp, rfl⟩), q.here hr ?_⟩
    have := hs.length
    cases xs <;> cases vs <;> simp_all
  | ref n =>
    simp only [truthy] at q
    split at q
    · rename_i xs e
      obtain ⟨p, _, rfl, vs, hp, _, hs⟩ := ref_at hr ra e
      refine ⟨_, .inl ⟨vs, .of hp, rfl⟩, q.here hr ?_⟩
      have := hs.length
      cases xs <;> cases vs <;> simp_all
    · rename_i kvs e
      obtain ⟨p, _, rfl, l, hp, _, hs⟩ := ref_at hr ra e
      refine ⟨_, .inr (.inr ⟨l, hp, rfl⟩), q.here hr ?_⟩
      have := hs.length
      cases kvs <;> cases l <;> simp_all
    · rename_i ns e
      obtain ⟨p, _, rfl, o, hp, _⟩ := ref_at hr ra e
      refine ⟨_, .inl ⟨_, .inl (.inr ⟨o, hp⟩), rfl⟩, q.here hr ?_⟩
      cases ns <;> rfl
    · exact False.elim q
  | gl _ => exact False.elim q
  | ty _ => exact False.elim q
end
end Pu

set_option Elab.async false
set_option linter.all false
set_option maxRecDepth 100000
/-! Pu6: subscripts, slices, stores, built-in functions and methods. -/
namespace Pu
open PySem PySem.Spec PyProof.Rows L2
section
variable {X : Cx}
theorem Fin.optR {α β : Type} {mg : Str → Option Value} {W : WX} {σ : L2.St} {R : List Addr → Hp → α → β → Prop} {Q : β → Hp → Prop} {ι : List Addr} {H : Hp} {ph : PH} {o : Option α} (h : Fin mg W σ R Q ι H (Pu.opt o ph)) : ∃ a, o = some a ∧ Fin mg W σ R Q ι H (.ok a ph) := Fin.opt h
theorem tail_of {prog : Program} {w : World} {A : Around} {E : Value → Shared → Prop} {s : Shared} {value slice : Expr} {o i : Value} {T id : String} {Q : Value → Shared → Prop} (hT : s.TypeIs o T)
    (hl : typeLookup (.type T) "__getitem__" = pure (some (.builtin id))) (h : wpAny (model prog w) A (getItem o i) Q E s) (hs : subscripted slice false o i = operate [o, i] (getItem o i)) :
    wpAny (model prog w) A (subscriptTail value slice o i) Q E s := by
  unfold subscriptTail
  refine wpAny_bind ?_
  rw [getitemInPython_of_ne hT.not_modules]
  refine wpAny_bind (wpAny_specialOf hT hl ?_)
  have go : wpAny (model prog w) A (subscripted slice false o i) (fun r s₃ => wpAny (model prog w) A (letTemporaryGo value o r >>= fun _ => pure r) Q E s₃) E s := by
    rw [hs]
    exact wpAny_operating (wpAny_mono h (fun r s₃ q => wpAny_bind (wpAny_letTemporaryGo (wpAny_pure q))) fun _ _ z => z)
  first
    | exact wpAny_pure (wpAny_bind go)
    | exact wpAny_bind (wpAny_pure (wpAny_bind go))
    | exact wpAny_bind go
theorem ixD (hu : X.A.units + 1 < cLine) : IxR X fun x y H Q => ∃ a v, x = .ref a ∧ DGet H a y (some v) ∧ Q v H := by
  intro value slice pins s σ H x y v u Q I rx ry h hs
  obtain ⟨a, z, rfl, g, q⟩ := h
  cases rx
  exact tail_of (dict_typeIs I g) PySem.F.slot_dict_getitem.lookup (d_getItem hu I g ry fun w' s' I' r' => ⟨z, H, I', r', q⟩) hs
/-- what a subscript tells, as the layer has it -/
theorem ix_tell {mg : Str → Option Value} {ι : List Addr} {H : Hp} {ph : PH} {a b : PV} {x y : V} {Q : VK} {K : PySem.W.Frag} (hr : HRep mg ι H ph) (ra : Rep mg ι H a x) (rb : Rep mg ι H b y) (q : Fin mg W0 [] (Rep mg) Q ι H (ixV a b ph)) :
    rIxL K x y H Q ∨ rIxT K x y H Q ∨ ∃ a v, x = .ref a ∧ DGet H a y (some v) ∧ Q v H := by
  have item : ∀ {xs : List PV} {vs : List V} {i : Int} {z : PV}, Reps mg ι H xs vs → atI xs i = some z → ∃ v, atI vs i = some v ∧ Rep mg ι H z v := by
    intro xs vs i z hs e
    unfold atI at e ⊢
    rw [← hs.length]
    cases hj : ixN xs.length i with
    | none => rw [hj] at e; cases e
    | some j =>
      rw [hj] at e
      exact hs.get (i := j) e
  cases a with
  | tup xs =>
    obtain ⟨p, vs, rfl, hp, _, hs⟩ := ra
    cases b <;> try exact False.elim q
    rename_i i
    cases rb
    obtain ⟨z, e, q⟩ := q.opt
    obtain ⟨v, ev, rv⟩ := item hs e
    exact .inr (.inl ⟨p, vs, i, v, rfl, rfl, .of hp, ev, q.here hr rv⟩)
  | ref n =>
    simp only [ixV] at q
    split at q
    · rename_i xs e
      obtain ⟨p, _, rfl, vs, hp, _, hs⟩ := ref_at hr ra e
      cases b <;> try exact False.elim q
      rename_i i
      cases rb
      obtain ⟨z, e, q⟩ := q.opt
      obtain ⟨v, ev, rv⟩ := item hs e
      exact .inl ⟨p, vs, i, v, rfl, rfl, .of hp, ev, q.here hr rv⟩
    · rename_i ns e
      obtain ⟨p, _, rfl, o, hp, _⟩ := ref_at hr ra e
      cases b <;> try exact False.elim q
      rename_i i
      cases rb
      obtain ⟨z, e, q⟩ := q.opt
      obtain ⟨k, ek, rfl⟩ := Option.map_eq_some_iff.mp e
      refine .inl ⟨p, _, i, .int k, rfl, rfl, .inl (.inr ⟨o, hp⟩), ?_, q.here hr rfl⟩
      unfold atI at ek ⊢
      rw [List.length_map]
      cases hj : ixN ns.length i with
      | none => rw [hj] at ek; cases ek
      | some j =>
        rw [hj] at ek
        have ek : ns[j]? = some k := ek
        simp [ek]
    · rename_i kvs e
      obtain ⟨z, e2, q⟩ := q.opt
      obtain ⟨k, ek, eg⟩ := Option.bind_eq_some_iff.mp e2
      obtain ⟨p, _, rfl, ho⟩ := ref_at hr ra e
      obtain ⟨o, g, h3, _⟩ := dget_k ho ek rb
      rcases h3 with ⟨h3, _⟩ | ⟨x', v, h3, rfl, rv⟩
      · rw [eg] at h3; cases h3
      · rw [eg] at h3; cases h3
        exact .inr (.inr ⟨p, v, rfl, g, q.here hr rv⟩)
    · rename_i kvs e
      cases b <;> try exact False.elim q
      rename_i ks
      obtain ⟨z, e2, q⟩ := q.opt
      obtain ⟨k, ek, eg⟩ := Option.bind_eq_some_iff.mp e2
      obtain ⟨p, _, rfl, ho⟩ := ref_at hr ra e
      obtain ⟨o, g, h3, _⟩ := dget_t ho ek rb
      rcases h3 with ⟨h3, _⟩ | ⟨x', v, h3, rfl, rv⟩
      · rw [eg] at h3; cases h3
      · rw [eg] at h3; cases h3
        exact .inr (.inr ⟨p, v, rfl, g, q.here hr rv⟩)
    · rename_i kvs e
      obtain ⟨z, e2, q⟩ := q.opt
      obtain ⟨k, ek, eg⟩ := Option.bind_eq_some_iff.mp e2
      obtain ⟨p, _, rfl, ho⟩ := ref_at hr ra e
      obtain ⟨o, g, h3, _⟩ := dget_lk ho ek rb
      rcases h3 with ⟨h3, _⟩ | ⟨x', v, h3, rfl, rv⟩
      · rw [eg] at h3; cases h3
      · rw [eg] at h3; cases h3
        exact .inr (.inr ⟨p, v, rfl, g, q.here hr rv⟩)
    · rename_i kvs e
      cases b <;> try exact False.elim q
      rename_i ks
      obtain ⟨z, e2, q⟩ := q.opt
      obtain ⟨k, ek, eg⟩ := Option.bind_eq_some_iff.mp e2
      obtain ⟨p, _, rfl, ho⟩ := ref_at hr ra e
      obtain ⟨o, g, h3, _⟩ := dget_lt ho ek rb
      rcases h3 with ⟨h3, _⟩ | ⟨x', v, h3, rfl, rv⟩
      · rw [eg] at h3; cases h3
      · rw [eg] at h3; cases h3
        exact .inr (.inr ⟨p, v, rfl, g, q.here hr rv⟩)
    · exact False.elim q
  | _ => exact False.elim q
theorem ix_of (hu : X.A.units + 1 < cLine) : IxR X (r2 X.mg ixV) := by
  intro value slice pins s σ H x y v u Q I rx ry h hs
  obtain ⟨ι, ph, a, b, hr, ra, rb, q⟩ := h
  exact (ix_list.or (ix_tup.or (ixD hu))) value slice pins s σ H x y v u Q I rx ry (ix_tell hr ra rb q) hs
end
end Pu

set_option Elab.async false
set_option linter.all false
set_option maxRecDepth 100000
/-! Pu7: slices, stores, built-in functions. -/
namespace Pu
open PySem PySem.Spec PyProof.Rows L2
section
variable {X : Cx}
theorem cut_len {α : Type} (xs : List α) (lo hi : Option Int) : (cutP xs lo hi).length ≤ xs.length := by
  unfold cutP
  rw [List.length_take, List.length_drop]
  omega
theorem cut_reps {mg : Str → Option Value} {ι : List Addr} {H : Hp} {xs : List PV} {vs : List V} (h : Reps mg ι H xs vs) (lo hi : Option Int) : Reps mg ι H (cutP xs lo hi) (cutV vs lo hi) := by
  unfold cutP cutV
  rw [h.length]
  exact (h.drop _).take _
theorem cut_map {α β : Type} (f : α → β) (xs : List α) (lo hi : Option Int) : cutP (xs.map f) lo hi = (cutP xs lo hi).map f := by
  unfold cutP
  rw [List.length_map, List.map_take, List.map_drop]
theorem cut_all {xs : List V} {lo hi : Option Int} (h : HT.sIx xs.length 0 lo = 0 ∧ HT.sIx xs.length xs.length hi = xs.length) : cutV xs lo hi = xs := by
  unfold cutV
  rw [h.1, h.2]
  simp
def r3 (mg : Str → Option Value) (f : PV → Option Int → Option Int → PH → Res PV) : V → Option Int → Option Int → Hp → VK → Prop := fun x lo hi H Q => ∃ ι ph a, HRep mg ι H ph ∧ Rep mg ι H a x ∧ Fin mg W0 [] (Rep mg) Q ι H (f a lo hi ph)
theorem sl_of : SlR X (r3 X.mg slV) := by
  intro pins s σ H x v vl vu lo hi sl Q I rx hs pl pu h
  refine (sl_list.or sl_tupA) pins s σ H x v vl vu lo hi sl Q I rx hs pl pu ?_
  obtain ⟨ι, ph, a, hr, ra, q⟩ := h
  cases a with
  | tup xs =>
    obtain ⟨p, vs, rfl, hp, hl, hv⟩ := ra
    have c := cut_reps hv lo hi
    refine .inr ⟨p, vs, rfl, .of hp, fun z => ?_, fun _ t ht => tup_fin q hr ht c (Nat.le_trans (by rw [← c.length]; exact Nat.le_trans (cut_len _ _ _) (by rw [hv.length]; exact Nat.le_refl _)) hl)⟩
    rw [cut_all z] at c
    exact q.here hr ⟨p, vs, rfl, hp, hl, c⟩
  | ref n =>
    simp only [slV] at q
    split at q
    · rename_i xs e
      obtain ⟨p, _, rfl, vs, hp, hl, hv⟩ := ref_at hr ra e
      have c := cut_reps hv lo hi
      exact .inl ⟨p, vs, rfl, .of hp, fun t ht => newL_fin q hr ht c (Nat.le_trans (by rw [← c.length]; exact Nat.le_trans (cut_len _ _ _) (by rw [hv.length]; exact Nat.le_refl _)) hl)⟩
    · rename_i ns e
      obtain ⟨p, _, rfl, o, hp, hl⟩ := ref_at hr ra e
      refine .inl ⟨p, _, rfl, .inl (.inr ⟨o, hp⟩), fun t ht => ?_⟩
      have e2 : cutV (ns.map V.int) lo hi = (cutP ns lo hi).map V.int := cut_map V.int ns lo hi
      rw [e2]
      refine newL_fin q hr ht (Reps.ofInts _) ?_
      rw [List.length_map]
      exact Nat.le_trans (cut_len _ _ _) hl
    · exact False.elim q
  | _ => exact False.elim q
/-- o[i] = v -/
def rSet (mg : Str → Option Value) : TSet := fun o i v H Q => ∃ ι ph a b c, HRep mg ι H ph ∧ Rep mg ι H a o ∧ Rep mg ι H b i ∧ Rep mg ι H c v ∧ Fin mg W0 [] (fun _ _ _ (_ : Unit) => True) (fun _ H' => Q H') ι H (setV a b c ph)
theorem PSet.or {t t' : TSet} (h : PSet X t) (h' : PSet X t') : PSet X fun o i v H Q => t o i v H Q ∨ t' o i v H Q := by
  intro pins s σ H o i v ov iv u Q I ro ri rv q
  rcases q with q | q
  · exact h pins s σ H o i v ov iv u Q I ro ri rv q
  · exact h' pins s σ H o i v ov iv u Q I ro ri rv q
theorem put_len {κ : Type} [DecidableEq κ] {kvs : List (κ × V)} {k : κ} {v : V} (h : kvs.length < sizeLine) : (putK kvs k v).length ≤ sizeLine := by
  have := length_putK kvs k v
  omega
theorem put_keys {l : List (List Key × V)} {k : List Key} {v : V} (h : ∀ p ∈ l, p.1.length ≤ sizeLine) (hk : k.length ≤ sizeLine) : ∀ p ∈ putK l k v, p.1.length ≤ sizeLine := by
  intro p hp
  unfold putK at hp
  split at hp
  · obtain ⟨q, hq, rfl⟩ := List.mem_map.mp hp
    split
    · exact h q hq
    · exact h q hq
  · rcases List.mem_append.mp hp with hp | hp
    · exact h p hp
    · simp at hp
      rw [hp]
      exact hk
theorem set_of (hd : PSet X rSetD) : PSet X (rSet X.mg) := by
  intro pins s σ H o i v ov iv u Q I ro ri rv h
  refine (PSet.or set_list hd) pins s σ H o i v ov iv u Q I ro ri rv ?_
  obtain ⟨ι, ph, a, b, c, hr, ra, rb, rc, q⟩ := h
  cases a <;> try exact False.elim q
  rename_i n
  simp only [setV] at q
  have fin : ∀ {p : Addr} {o' : PO} {O : HO}, Fin X.mg W0 [] (fun _ _ _ (_ : Unit) => True) (fun _ H' => Q H') ι H (.ok () (ph.set n o')) → ι[n]? = some p → ∀ {u : HO}, H p = some u → wrO u = true → (Ext ι H ι (upd H p O) → RepO X.mg ι (upd H p O) p o') → Q (upd H p O) := by
    intro p o' O q hn u hu hw ho
    have e : Ext ι H ι (upd H p O) := Ext.write hn hu hw
    exact q ι _ () e (hr.write hn (ho e)) trivial
  split at q
  · rename_i xs e
    obtain ⟨p, hn, rfl, vs, hp, hl, hv⟩ := ref_at hr ra e
    split at q
    · rename_i k
      cases rb
      split at q
      · rename_i j ej
        refine .inl ⟨p, vs, k, j, rfl, rfl, hp, by rw [← hv.length]; exact ej, fin q hn hp rfl fun ex => ⟨_, upd_same, by rw [List.length_set]; exact hl, (hv.mono ex).set (rc.mono ex) j⟩⟩
      · exact False.elim q
    · exact False.elim q
  · rename_i kvs e
    obtain ⟨p, hn, rfl, l, hp, hl, hv⟩ := ref_at hr ra e
    split at q
    · rename_i k ek
      obtain ⟨g, q⟩ := q.guard
      have g := of_decide_eq_true g
      have hz : l.length < sizeLine := by rw [← hv.length]; exact g
      cases key_v ek rb
      exact .inr ⟨p, _, rfl, .k hp hz, fin q hn hp rfl fun ex => ⟨_, upd_same, put_len hz, (hv.mono ex).put (rc.mono ex)⟩⟩
    · exact False.elim q
  · rename_i kvs e
    obtain ⟨p, hn, rfl, l, hp, hl, hv⟩ := ref_at hr ra e
    split at q
    · rename_i ks
      split at q
      · rename_i k ek
        obtain ⟨g, q⟩ := q.guard
        have g := of_decide_eq_true g
        have hz : l.length < sizeLine := by rw [← hv.length]; exact g
        obtain ⟨b, ws, rfl, hb, hkl, hs⟩ := rb
        rw [keys_v ek hs] at hb hkl
        exact .inr ⟨p, _, rfl, .t hp hb hz, fin q hn hp rfl fun ex => ⟨_, upd_same, ⟨put_len hz, put_keys hl.2 (by rw [List.length_map] at hkl; exact hkl)⟩, (hv.mono ex).put (rc.mono ex)⟩⟩
      · exact False.elim q
    · exact False.elim q
  · exact False.elim q
/-- name op= e -/
def rIp (mg : Str → Option Value) (op : Operator) : TIp := fun x y H Q => ∃ ι ph a b, HRep mg ι H ph ∧ Rep mg ι H a x ∧ Rep mg ι H b y ∧ Fin mg W0 [] (Rep mg) Q ι H (iop op a b ph)
theorem ip_of : ∀ op : Operator, PIp X op (rIp X.mg op) := by
  intro op pins s σ H x y v u Q I rx ry h
  obtain ⟨ι, ph, a, b, hr, ra, rb, q⟩ := h
  cases op <;> try exact False.elim q
  · cases a <;> cases b <;> try exact False.elim q
    · cases ra; cases rb
      exact ip_add pins s σ H _ _ v u Q I rx ry ⟨_, _, rfl, rfl, q.here hr rfl⟩
    · cases ra; cases rb
      obtain ⟨g, q⟩ := q.guard
      exact iop_add_str pins s σ H _ _ v u Q I rx ry ⟨_, _, rfl, rfl, of_decide_eq_true g, q.here hr rfl⟩
  · cases a <;> cases b <;> try exact False.elim q
    cases ra; cases rb
    exact ip_sub pins s σ H _ _ v u Q I rx ry ⟨_, _, rfl, rfl, q.here hr rfl⟩
end
/-! ### built-in functions -/
section
variable {X : Cx} {mg : Str → Option Value} {ι : List Addr} {H : Hp} {ph : PH}
theorem lst_at {v : PV} {x : V} {xs : List PV} {K : PySem.W.Frag} (hr : HRep mg ι H ph) (r : Rep mg ι H v x) (e : lstOf v ph = some xs) : ∃ p vs, x = .ref p ∧ vs.length ≤ sizeLine ∧ Reps mg ι H xs vs ∧ (SqL K H p vs ∨ (H p = some (.tup vs) ∧ v = .tup xs)) := by
  unfold lstOf at e
  split at e
  · cases e
    obtain ⟨p, vs, rfl, hp, hl, hv⟩ := r
    exact ⟨p, vs, rfl, hl, hv, .inr ⟨hp, rfl⟩⟩
  · split at e
    · rename_i ys e2
      cases e
      obtain ⟨p, _, rfl, vs, hp, hl, hv⟩ := ref_at hr r e2
      exact ⟨p, vs, rfl, hl, hv, .inl (.of hp)⟩
    · rename_i ns e2
      cases e
      obtain ⟨p, _, rfl, o, hp, hl⟩ := ref_at hr r e2
      exact ⟨p, _, rfl, by rw [List.length_map]; exact hl, Reps.ofInts ns, .inl (.inl (.inr ⟨o, hp⟩))⟩
    · cases e
  · cases e
theorem sortI_perm (ns : List Int) : (sortI ns).Perm ns := List.mergeSort_perm _ _
theorem sortI_sorted (ns : List Int) : (sortI ns).Pairwise (· ≤ ·) := by
  have h := List.pairwise_mergeSort (le := fun (a b : Int) => decide (a ≤ b)) (fun a b c h1 h2 => by simp at *; omega) (fun a b => by simp; omega) ns
  exact h.imp fun {a b} q => by simpa using q
theorem perm_sorted {as bs : List Int} (h : as.Perm bs) (ha : as.Pairwise (· ≤ ·)) (hb : bs.Pairwise (· ≤ ·)) : as = bs :=
  h.eq_of_pairwise (fun a b _ _ h1 h2 => Int.le_antisymm h1 h2) ha hb
theorem maxI_spec : ∀ {ns : List Int}, 0 < ns.length → maxI ns ∈ ns ∧ ∀ y ∈ ns, y ≤ maxI ns
  | [], h => nomatch h
  | [a], _ => ⟨by simp [maxI], by simp [maxI]⟩
  | a :: b :: r, _ => by
    obtain ⟨h1, h2⟩ := maxI_spec (ns := b :: r) (by simp)
    have e : maxI (a :: b :: r) = max a (maxI (b :: r)) := rfl
    rw [e]
    refine ⟨?_, fun y hy => ?_⟩
    · by_cases h : a ≤ maxI (b :: r)
      · rw [Int.max_eq_right h]; exact List.mem_cons_of_mem _ h1
      · rw [Int.max_eq_left (by omega)]; exact List.mem_cons_self
    · rcases List.mem_cons.mp hy with rfl | hy
      · omega
      · have := h2 y hy; omega
theorem minI_spec : ∀ {ns : List Int}, 0 < ns.length → minI ns ∈ ns ∧ ∀ y ∈ ns, minI ns ≤ y
  | [], h => nomatch h
  | [a], _ => ⟨by simp [minI], by simp [minI]⟩
  | a :: b :: r, _ => by
    obtain ⟨h1, h2⟩ := minI_spec (ns := b :: r) (by simp)
    have e : minI (a :: b :: r) = min a (minI (b :: r)) := rfl
    rw [e]
    refine ⟨?_, fun y hy => ?_⟩
    · by_cases h : a ≤ minI (b :: r)
      · rw [Int.min_eq_left h]; exact List.mem_cons_self
      · rw [Int.min_eq_right (by omega)]; exact List.mem_cons_of_mem _ h1
    · rcases List.mem_cons.mp hy with rfl | hy
      · omega
      · have := h2 y hy; omega
end
section
variable {X : Cx}
theorem ints_at {ι : List Addr} {H : Hp} {ph : PH} {n : Nat} {x : V} {xs : List PV} {ns : List Int} (hr : HRep X.mg ι H ph) (r : Rep X.mg ι H (.ref n) x) (e : ph[n]? = some (.lst xs)) (h : allInt xs = some ns) : ∃ p, x = .ref p ∧ SqL X.K H p (ns.map V.int) ∧ ns.length ≤ sizeLine := by
  obtain ⟨p, _, rfl, vs, hp, hl, hv⟩ := ref_at hr r e
  have e := hv.allInt h
  subst e
  exact ⟨p, rfl, .of hp, by simpa using hl⟩
theorem call_lenV : CallR X (.builtin "len") (rs X.mg (biV .len)) := by
  intro pins s σ H xs us Q I r h
  obtain ⟨ι, ph, as, hr, ra, q⟩ := h
  simp only [biV] at q
  split at q
  · obtain ⟨v, rfl, rv⟩ := ra.one
    cases rv
    obtain ⟨g, q⟩ := q.guard
    exact call_len_str pins s σ H _ us Q I r ⟨_, rfl, of_decide_eq_true g, q.here hr rfl⟩
  · obtain ⟨v, rfl, rv⟩ := ra.one
    split at q
    · rename_i ys e
      obtain ⟨p, _, rfl, vs, hp, _, hs⟩ := ref_at hr rv e
      exact call_len_seq pins s σ H _ us Q I r ⟨p, vs, rfl, .inl (.of hp), by rw [← hs.length]; exact q.here hr rfl⟩
    · rename_i ns e
      obtain ⟨p, _, rfl, o, hp, _⟩ := ref_at hr rv e
      exact call_len_seq pins s σ H _ us Q I r ⟨p, _, rfl, .inl (.inl (.inr ⟨o, hp⟩)), by rw [List.length_map]; exact q.here hr rfl⟩
    · rename_i kvs e
      obtain ⟨p, _, rfl, l, hp, _, hs⟩ := ref_at hr rv e
      exact call_lenD pins s σ H _ us Q I r ⟨p, l, rfl, hp, by rw [← hs.length]; exact q.here hr rfl⟩
    · rename_i kvs e
      obtain ⟨p, _, rfl, l, hp, _, hs⟩ := ref_at hr rv e
      exact call_len_dT pins s σ H _ us Q I r ⟨p, l, rfl, hp, by rw [← hs.length]; exact q.here hr rfl⟩
    · exact False.elim q
  · obtain ⟨v, rfl, p, vs, rfl, hp, _, hs⟩ := ra.one
    exact call_len_seq pins s σ H _ us Q I r ⟨p, vs, rfl, .inr (.of hp), by rw [← hs.length]; exact q.here hr rfl⟩
  · exact False.elim q
theorem Fin.optb {α β α' : Type} {mg : Str → Option Value} {W : WX} {σ : L2.St} {R : List Addr → Hp → α → β → Prop} {Q : β → Hp → Prop} {ι : List Addr} {H : Hp} {ph : PH} {o : Option α'} {f : α' → PH → Res α} (h : Fin mg W σ R Q ι H ((Pu.opt o ph).bind f)) : ∃ a, o = some a ∧ Fin mg W σ R Q ι H (f a ph) := by
  cases o with
  | none => exact False.elim h
  | some a => exact ⟨a, rfl, h⟩
theorem call_tupleV : CallR X (.type "tuple") (rs X.mg (biV .tuple)) := by
  intro pins s σ H xs us Q I r h
  obtain ⟨ι, ph, as, hr, ra, q⟩ := h
  simp only [biV] at q
  split at q
  · obtain ⟨v, rfl, rv⟩ := ra.one
    obtain ⟨ys, e, q⟩ := q.optb
    obtain ⟨p, vs, rfl, hl, hv, hp⟩ := lst_at (K := X.K) hr rv e
    refine call_tuple_of pins s σ H _ us Q I r ⟨p, vs, rfl, ?_⟩
    rcases hp with hp | ⟨hp, rfl⟩
    · exact .inl ⟨hp, fun t ht => tup_fin q hr ht hv hl⟩
    · exact .inr ⟨.of hp, q.here hr ⟨p, vs, rfl, hp, hl, hv⟩⟩
  · exact False.elim q
theorem call_listV : CallR X (.type "list") (rs X.mg (biV .list)) := by
  intro pins s σ H xs us Q I r h
  obtain ⟨ι, ph, as, hr, ra, q⟩ := h
  simp only [biV] at q
  split at q
  · obtain ⟨v, rfl, rv⟩ := ra.one
    obtain ⟨ys, e, q⟩ := q.optb
    obtain ⟨p, vs, rfl, hl, hv, hp⟩ := lst_at (K := X.K) hr rv e
    refine call_list_of pins s σ H _ us Q I r ⟨p, vs, rfl, ?_, fun t ht => newL_fin q hr ht hv hl⟩
    rcases hp with hp | ⟨hp, _⟩
    · exact .inl hp
    · exact .inr (.of hp)
  · exact False.elim q
theorem call_sumV (hc : X.calm = true) : CallR X (.builtin "sum") (rs X.mg (biV .sum)) := by
  intro pins s σ H xs us Q I r h
  obtain ⟨ι, ph, as, hr, ra, q⟩ := h
  simp only [biV] at q
  split at q
  · obtain ⟨v, rfl, rv⟩ := ra.one
    split at q
    · rename_i ys e
      obtain ⟨ns, e2, q⟩ := q.optb
      obtain ⟨p, rfl, hs, _⟩ := ints_at hr rv e e2
      exact cr_sum hc pins s σ H _ us Q I r ⟨p, ns, rfl, hs, q.here hr rfl⟩
    · exact False.elim q
  · exact False.elim q
theorem call_absV : CallR X (.builtin "abs") (rs X.mg (biV .abs)) := by
  intro pins s σ H xs us Q I r h
  obtain ⟨ι, ph, as, hr, ra, q⟩ := h
  simp only [biV] at q
  split at q
  · obtain ⟨v, rfl, rv⟩ := ra.one
    cases rv
    exact call_abs pins s σ H _ us Q I r ⟨_, rfl, q.here hr rfl⟩
  · exact False.elim q
theorem call_intV : CallR X (.type "int") (rs X.mg (biV .int)) := by
  intro pins s σ H xs us Q I r h
  obtain ⟨ι, ph, as, hr, ra, q⟩ := h
  simp only [biV] at q
  split at q
  · obtain ⟨v, rfl, rv⟩ := ra.one
    cases rv
    exact call_int1 pins s σ H _ us Q I r (.inl ⟨_, rfl, q.here hr rfl⟩)
  · obtain ⟨v, rfl, rv⟩ := ra.one
    cases rv
    exact call_int1 pins s σ H _ us Q I r (.inr ⟨_, rfl, q.here hr rfl⟩)
  · exact False.elim q
theorem call_strV : CallR X (.type "str") (rs X.mg (biV .str)) := by
  intro pins s σ H xs us Q I r h
  obtain ⟨ι, ph, as, hr, ra, q⟩ := h
  simp only [biV] at q
  split at q
  · obtain ⟨v, rfl, rv⟩ := ra.one
    cases rv
    obtain ⟨g, q⟩ := q.guard
    exact call_str_int pins s σ H _ us Q I r ⟨_, rfl, of_decide_eq_true g, q.here hr rfl⟩
  · exact False.elim q
theorem call_minV (hc : X.calm = true) : CallR X (.builtin "min") (rs X.mg (biV .min)) := by
  intro pins s σ H xs us Q I r h
  obtain ⟨ι, ph, as, hr, ra, q⟩ := h
  simp only [biV] at q
  split at q
  · obtain ⟨v, w, rfl, rv, rw⟩ := ra.two
    cases rv; cases rw
    exact call_min2 hc pins s σ H _ us Q I r ⟨_, _, rfl, q.here hr rfl⟩
  · obtain ⟨v, rfl, rv⟩ := ra.one
    split at q
    · rename_i ys e
      obtain ⟨ns, e2, q⟩ := q.optb
      obtain ⟨g, q⟩ := q.guard
      have g := of_decide_eq_true g
      obtain ⟨p, rfl, hs, _⟩ := ints_at hr rv e e2
      refine cr_min hc pins s σ H _ us Q I r ⟨p, ns, rfl, hs, g, fun m h1 h2 => ?_⟩
      obtain ⟨h3, h4⟩ := minI_spec g
      have : m = minI ns := Int.le_antisymm (h2 _ h3) (h4 _ h1)
      rw [this]
      exact q.here hr rfl
    · exact False.elim q
  · exact False.elim q
theorem call_maxV (hc : X.calm = true) : CallR X (.builtin "max") (rs X.mg (biV .max)) := by
  intro pins s σ H xs us Q I r h
  obtain ⟨ι, ph, as, hr, ra, q⟩ := h
  simp only [biV] at q
  split at q
  · obtain ⟨v, w, rfl, rv, rw⟩ := ra.two
    cases rv; cases rw
    exact call_max2 hc pins s σ H _ us Q I r ⟨_, _, rfl, q.here hr rfl⟩
  · obtain ⟨v, rfl, rv⟩ := ra.one
    split at q
    · rename_i ys e
      obtain ⟨ns, e2, q⟩ := q.optb
      obtain ⟨g, q⟩ := q.guard
      have g := of_decide_eq_true g
      obtain ⟨p, rfl, hs, _⟩ := ints_at hr rv e e2
      refine cr_max hc pins s σ H _ us Q I r ⟨p, ns, rfl, hs, g, fun m h1 h2 => ?_⟩
      obtain ⟨h3, h4⟩ := maxI_spec g
      have : m = maxI ns := Int.le_antisymm (h4 _ h1) (h2 _ h3)
      rw [this]
      exact q.here hr rfl
    · exact False.elim q
  · exact False.elim q
theorem rGcdV : CallR X (.builtin "math.gcd") (rs X.mg (biV .gcd)) := by
  intro pins s σ H xs us Q I r h
  obtain ⟨ι, ph, as, hr, ra, q⟩ := h
  simp only [biV] at q
  split at q
  · obtain ⟨v, w, rfl, rv, rw⟩ := ra.two
    cases rv; cases rw
    exact cr_gcd pins s σ H _ us Q I r ⟨_, _, rfl, q.here hr rfl⟩
  · exact False.elim q
/-- the types that isinstance is asked of -/
def tyTab (t n : String) : Bool := decide (t = n) || (decide (t = "bool") && decide (n = "int"))
theorem kit_all : ∀ t ∈ ["NoneType", "bool", "int", "str", "tuple", "list", "dict"], ∀ n ∈ ["int", "str", "bool", "tuple", "list", "dict"], kitB t n = some (tyTab t n) := by decide +kernel
theorem tyOf_x {ι : List Addr} {H : Hp} {ph : PH} {a : PV} {x : V} {t : String} {K : PySem.W.Frag} {mg : Str → Option Value} (hr : HRep mg ι H ph) (r : Rep mg ι H a x) (e : tyOf a ph = some t) : TyX K H x (.type t) ∧ t ∈ ["NoneType", "bool", "int", "str", "tuple", "list", "dict"] := by
  cases a with
  | non => cases r; cases e; exact ⟨.base .non, by simp⟩
  | bl b => cases r; cases e; exact ⟨.base (.bl b), by simp⟩
  | int i => cases r; cases e; exact ⟨.base (.int i), by simp⟩
  | str z => cases r; cases e; exact ⟨.base (.str z), by simp⟩
  | tup xs =>
    obtain ⟨p, vs, rfl, hp, _, _⟩ := r
    cases e
    exact ⟨.base (.tup hp), by simp⟩
  | ref n =>
    simp only [tyOf] at e
    split at e
    · rename_i ys e2
      cases e
      obtain ⟨p, _, rfl, vs, hp, _⟩ := ref_at hr r e2
      exact ⟨.base (.lst hp), by simp⟩
    · rename_i ys e2
      cases e
      obtain ⟨p, _, rfl, o, hp, _⟩ := ref_at hr r e2
      exact ⟨.base (.frz hp), by simp⟩
    · rename_i ys e2
      cases e
      obtain ⟨p, _, rfl, vs, hp, _⟩ := ref_at hr r e2
      exact ⟨.base (.dK hp), by simp⟩
    · rename_i ys e2
      cases e
      obtain ⟨p, _, rfl, vs, hp, _⟩ := ref_at hr r e2
      exact ⟨.base (.dT hp), by simp⟩
    · cases e
  | gl _ => cases e
  | ty _ => cases e
theorem call_isiV : CallR X (.builtin "isinstance") (rs X.mg (biV .isinst)) := by
  intro pins s σ H xs us Q I r h
  obtain ⟨ι, ph, as, hr, ra, q⟩ := h
  simp only [biV] at q
  split at q
  · obtain ⟨v, w, rfl, rv, rw'⟩ := ra.two
    obtain ⟨b, e, q⟩ := q.optb
    obtain ⟨t, e1, e2⟩ := Option.bind_eq_some_iff.mp e
    obtain ⟨h1, h2⟩ := tyOf_x (K := X.K) hr rv e1
    rename_i a c _
    cases c with
    | ty n =>
      cases rw'
      simp only [isi] at e2
      split at e2
      · rename_i hn
        cases e2
        have hm : n ∈ ["int", "str", "bool", "tuple", "list", "dict"] := by simpa using hn
        exact call_isi pins s σ H _ us Q I r ⟨v, _, _, _, _, rfl, .ty n, h1, kit_ty (kit_all t h2 n hm), q.here hr rfl⟩
      · cases e2
    | _ => cases e2
  · exact False.elim q
end
end Pu

set_option Elab.async false
set_option linter.all false
set_option maxRecDepth 100000
/-! Pd: dict(d) of a dict whose keys are small cells. -/
namespace Pu
open PySem PySem.Spec PyProof.Rows L2
def hs2 (x y : Int) : Int := reduceHash (Builtin.Tuple.tupleHashOf [hashInt x, hashInt y])
def c64 : List (Int × Int) := (List.range 8).flatMap fun (x : Nat) => (List.range 8).map fun (y : Nat) => ((x : Int), (y : Int))
theorem hs_nodup : (c64.map fun c => hs2 c.1 c.2).Nodup := by decide +kernel
theorem mem64 {x y : Int} (h : 0 ≤ x ∧ x < 8 ∧ 0 ≤ y ∧ y < 8) : (x, y) ∈ c64 := by
  unfold c64
  simp only [List.mem_flatMap, List.mem_range, List.mem_map]
  exact ⟨x.toNat, by omega, y.toNat, by omega, by rw [Int.toNat_of_nonneg h.1, Int.toNat_of_nonneg h.2.2.1]⟩
theorem inj_of_nodup {α β : Type} {f : α → β} : ∀ {l : List α}, (l.map f).Nodup → ∀ a ∈ l, ∀ b ∈ l, f a = f b → a = b
  | [], _, _, h, _, _, _ => nomatch h
  | x :: l, hn, a, ha, b, hb, e => by
    rw [List.map_cons, List.nodup_cons] at hn
    rcases List.mem_cons.mp ha with h1 | h1
    · rcases List.mem_cons.mp hb with h2 | h2
      · rw [h1, h2]
      · rw [h1] at e
        exact absurd (List.mem_map.mpr ⟨b, h2, e.symm⟩) hn.1
    · rcases List.mem_cons.mp hb with h2 | h2
      · rw [h2] at e
        exact absurd (List.mem_map.mpr ⟨a, h1, e⟩) hn.1
      · exact inj_of_nodup hn.2 a h1 b h2 e
theorem sm_of {k : List Key} (h : smKey k = true) : ∃ x y, k = [.inl x, .inl y] ∧ (x, y) ∈ c64 := by
  unfold smKey at h
  split at h
  · rename_i x y
    exact ⟨x, y, rfl, mem64 (of_decide_eq_true h)⟩
  · cases h
section
variable {prog : Program} {w : World}
theorem hash_apart {ks : List (List Key)} (hs : ks.all smKey = true) (hn : ks.Nodup) : (ks.map (tupleKind (mixKind prog w)).hash).Nodup := by
  induction ks with
  | nil => exact List.nodup_nil
  | cons k ks ih =>
    rw [List.all_cons, Bool.and_eq_true] at hs
    rw [List.nodup_cons] at hn
    rw [List.map_cons, List.nodup_cons]
    refine ⟨fun h => ?_, ih hs.2 hn.2⟩
    obtain ⟨k', hk', e⟩ := List.mem_map.mp h
    obtain ⟨x, y, rfl, m1⟩ := sm_of hs.1
    obtain ⟨x', y', rfl, m2⟩ := sm_of (List.all_eq_true.mp hs.2 k' hk')
    have e2 : hs2 x' y' = hs2 x y := e
    have := inj_of_nodup hs_nodup _ m2 _ m1 e2
    cases this
    exact hn.1 hk'
variable {A : Around} {E : Value → Shared → Prop} {s : Shared}
theorem call_dict_T {o : Addr} {xs : List (List Key × Addr × Value)} {Q : Value → Shared → Prop} (hu : (tupleKind (mixKind prog w)).room A.in1.in1) (hoS : (o == sysModules) = false) (ho : s.heap.DictOfH (tupleKind (mixKind prog w)) o xs)
    (hnd : (xs.map fun x => (tupleKind (mixKind prog w)).hash x.1).Nodup) (hsz : xs.length ≤ sizeLine)
    (h : ∀ h', h'.DictOfH (tupleKind (mixKind prog w)) s.heap.objs.size xs → (∀ b u, s.heap.get? b = some u → h'.get? b = some u) → Q (.ref s.heap.objs.size) { s with heap := h' }) :
    wpAny (model prog w) A (call (.type "dict") [.ref o]) Q E s := by
  refine callType_codes (Q₁ := fun obj s₁ => obj = .ref s.heap.objs.size ∧ s₁ = { s with heap := s.heap.push { cls := .type "dict", data := .dict #[] } }) PySem.F.kt_called_dict (PySem.F.kt_typeCall_dict_1 _) PySem.F.entry_dict_init (kt_code_dict_new _ ⟨rfl, rfl⟩) ?_
  rintro obj s₁ ⟨rfl, rfl⟩
  have hnew : (s.heap.push { cls := .type "dict", data := .dict #[] }).DictOfH (tupleKind (mixKind prog w)) s.heap.objs.size [] := Heap.DictOfH.new s.heap
  have k0 : ∀ b u, s.heap.get? b = some u → (s.heap.push { cls := .type "dict", data := .dict #[] }).get? b = some u := fun b u e => Heap.get?_push_of_some _ e
  have his : ∀ x ∈ xs, (tupleKind (mixKind prog w)).is s.heap x.1 x.2.1 := let ⟨_, _, _, _, _, _, _, q, _⟩ := ho; q
  have hkn : (xs.map (·.1)).Nodup := let ⟨_, _, _, _, _, _, _, _, q⟩ := ho; q
  have ho' : (s.heap.push { cls := .type "dict", data := .dict #[] }).DictOfH (tupleKind (mixKind prog w)) o xs := ho.at' (k0 o) fun x hx => tupleKind_stays.stays (fun b u _ _ e _ => k0 b u e) (his x hx)
  have hdo : s.heap.objs.size ≠ o := fun e => absurd ho.lt_size (by rw [← e]; exact Nat.lt_irrefl _)
  refine ⟨hnew.typeIs, PySem.F.args_dict_init_2 _ _, ?_⟩
  unfold Builtin.«dict.__init__»
  refine wpAny_bind ?_
  unfold Builtin.Dict.selfAndRest
  refine wpAny_bind (wpAny_notOrdered_dict hnew.typeIs ?_)
  show wpAny _ _ (pure (s.heap.objs.size, [Value.ref o])) _ _ _
  refine wpAny_pure ?_
  show wpAny _ _ (Builtin.Dict.updateFrom "dict.__init__" s.heap.objs.size (.ref o) [] .none) _ _ _
  refine updateFrom_dictH (A := A.in1) (R := wants (fun r s₂ => r = .none ∧ Q (.ref s.heap.objs.size) s₂) E) .none hu hdo hoS hnew ho' (.inr ⟨keyed_apart tupleKind_stays ho', hnd⟩) (by simpa using hsz) fun h' hd' _ hs' => ?_
  rw [storedAllH_nil_of_nodup xs hkn] at hd'
  exact ⟨rfl, h h' hd' fun b u e => (hs'.2 b (Nat.ne_of_lt (Heap.lt_size e))).trans (k0 b u e)⟩
end
section
variable {X : Cx}
/-- dict(d) -/
theorem call_dict_of (hu : X.A.units + 65 < cLine) : CallR X (.type "dict") (fun xs H Q => ∃ (a : Addr) (kvs : List (List Key × V)), xs = [.ref a] ∧ H a = some (.dT kvs) ∧ (kvs.all fun p => smKey p.1) = true ∧ ∀ p, H p = none → Q (.ref p) (upd H p (.dT kvs))) := by
  intro pins s σ H xs us Q I r h
  obtain ⟨a, kvs, rfl, ha, hk, q⟩ := h
  obtain ⟨u, eu, rx⟩ := vals1 r
  subst eu
  cases rx
  obtain ⟨z, hd, xs', rel, dd⟩ := dt_of I.hok ha
  have hz : xs'.length ≤ sizeLine := by rw [← Paired.length rel]; exact z
  have hkn : (xs'.map (·.1)).Nodup := let ⟨_, _, _, _, _, _, _, _, q⟩ := dd; q
  have hsm : (xs'.map (·.1)).all smKey = true := by
    have key : ∀ {l : List (List Key × V)} {m : List (List Key × Addr × Value)}, KT H l m → (l.all fun p => smKey p.1) = true → (m.map (·.1)).all smKey = true := by
      intro l m r
      induction r with
      | nil => exact fun _ => rfl
      | cons e t ih =>
        intro hl
        rw [List.all_cons, Bool.and_eq_true] at hl
        rw [List.map_cons, List.all_cons, Bool.and_eq_true]
        exact ⟨by rw [← e.1]; exact hl.1, ih hl.2⟩
    exact key rel hk
  have hnd := hash_apart (prog := X.prog) (w := X.w) hsm hkn
  rw [List.map_map] at hnd
  refine call_dict_T (show X.A.units + 1 + 1 < cLine by omega) hd dd hnd hz fun h' dd' k => ?_
  have hm : (s.heap.objs.size == sysModules) = false := beq_eq_false_iff_ne.mpr (Nat.ne_of_gt I.big)
  have hn : H s.heap.objs.size = none := I.hok.fresh (Nat.le_refl _)
  refine ⟨.ref s.heap.objs.size, upd H s.heap.objs.size (.dT kvs), I.laid (t' := s.toks) k (Nat.le_refl _) ?_, rfl, q _ hn⟩
  obtain ⟨o, es, ep, d1, d2, d3, d4, _, d5⟩ := dd'
  refine ⟨z, hm, xs', ?_, o, es, ep, d1, d2, d3, d4, d5⟩
  have key : ∀ {l : List (List Key × V)} {m : List (List Key × Addr × Value)}, KT H l m → KT (upd H s.heap.objs.size (.dT kvs)) l m := by
    intro l m r
    induction r with
    | nil => exact .nil
    | cons e t ih => exact .cons ⟨e.1, by rw [upd_ne (ne_of_none e.2.1 hn)]; exact e.2.1, e.2.2⟩ ih
  exact key rel
theorem call_dictV (hu : X.A.units + 65 < cLine) : CallR X (.type "dict") (rs X.mg (biV .dict)) := by
  intro pins s σ H xs us Q I r h
  obtain ⟨ι, ph, as, hr, ra, q⟩ := h
  simp only [biV] at q
  split at q
  · obtain ⟨v, rfl, rv⟩ := ra.one
    split at q
    · rename_i kvs e
      obtain ⟨g, q⟩ := q.guard
      obtain ⟨p, _, rfl, l, hp, hl, hs⟩ := ref_at hr rv e
      have key : ∀ {kvs : List (List Key × PV)} {l : List (List Key × V)}, RepF X.mg ι H kvs l → (kvs.all fun p => smKey p.1) = true → (l.all fun p => smKey p.1) = true := by
        intro kvs
        induction kvs with
        | nil =>
          intro l r _
          cases r
          rfl
        | cons p ps ih =>
          intro l r hl
          obtain ⟨v, r', rfl, _, h2⟩ := r
          rw [List.all_cons, Bool.and_eq_true] at hl ⊢
          exact ⟨hl.1, ih h2 hl.2⟩
      exact call_dict_of hu pins s σ H _ us Q I r ⟨p, l, rfl, hp, key hs g, fun t ht => new_fin q hr ht fun e => ⟨l, upd_same, hl, hs.mono e⟩⟩
    · exact False.elim q
  · exact False.elim q
end
end Pu

set_option Elab.async false
set_option linter.all false
set_option maxRecDepth 100000
/-! Pu8: methods. -/
namespace Pu
open PySem PySem.Spec PyProof.Rows L2
section
variable {X : Cx}
def rm (mg : Str → Option Value) (m : Mt) : V → List V → Hp → VK → Prop := fun x xs H Q => ∃ ι ph a as, HRep mg ι H ph ∧ Rep mg ι H a x ∧ Reps mg ι H as xs ∧ Fin mg W0 [] (Rep mg) Q ι H (mtV m a as ph)
theorem Reps.sing {mg : Str → Option Value} {ι : List Addr} {H : Hp} {x : PV} {v : V} (h : Rep mg ι H x v) : Reps mg ι H [x] [v] := ⟨v, [], rfl, h, rfl⟩
theorem mtA : MtR X "list.append" (rm X.mg .append) := by
  intro pins s σ H x xs v us Q I rx rs h
  obtain ⟨ι, ph, a, as, hr, ra, rb, q⟩ := h
  simp only [mtV] at q
  split at q <;> try exact False.elim q
  split at q <;> try exact False.elim q
  · rename_i ys e
    obtain ⟨p, hn, rfl, vs, hp, hl, hv⟩ := ref_at hr ra e
    split at q
    · obtain ⟨w, rfl, rw'⟩ := rb.one
      obtain ⟨g, q⟩ := q.guard
      have g := of_decide_eq_true g
      have hz : vs.length < sizeLine := by rw [← hv.length]; exact g
      exact mt_append pins s σ H _ _ v us Q I rx rs ⟨p, vs, w, rfl, rfl, hp, hz, set_fin q hr hn hp rfl fun ex => ⟨_, upd_same, by rw [List.length_append]; exact hz, (hv.mono ex).append ⟨w, [], rfl, rw'.mono ex, rfl⟩⟩⟩
    · exact False.elim q
theorem mtE : MtR X "list.extend" (rm X.mg .extend) := by
  intro pins s σ H x xs v us Q I rx rs h
  obtain ⟨ι, ph, a, as, hr, ra, rb, q⟩ := h
  simp only [mtV] at q
  split at q <;> try exact False.elim q
  split at q <;> try exact False.elim q
  · rename_i ys e
    obtain ⟨p, hn, rfl, vs, hp, hl, hv⟩ := ref_at hr ra e
    split at q
    · obtain ⟨w, rfl, rw'⟩ := rb.one
      split at q
      · rename_i zs e2
        obtain ⟨p2, _, rfl, ws, hp2, hl2, hv2⟩ := ref_at hr rw' e2
        obtain ⟨g, q⟩ := q.guard
        have g := of_decide_eq_true g
        have hz : vs.length + ws.length ≤ sizeLine := by rw [← hv.length, ← hv2.length]; exact g
        exact mt_extend pins s σ H _ _ v us Q I rx rs ⟨p, p2, vs, ws, rfl, rfl, hp, hp2, hz, set_fin q hr hn hp rfl fun ex => ⟨_, upd_same, by rw [List.length_append]; exact hz, (hv.mono ex).append (hv2.mono ex)⟩⟩
      · exact False.elim q
    · exact False.elim q
theorem mtP : MtR X "list.pop" (rm X.mg .pop) := by
  intro pins s σ H x xs v us Q I rx rs h
  obtain ⟨ι, ph, a, as, hr, ra, rb, q⟩ := h
  simp only [mtV] at q
  split at q <;> try exact False.elim q
  split at q <;> try exact False.elim q
  · rename_i ys e
    obtain ⟨p, hn, rfl, vs, hp, hl, hv⟩ := ref_at hr ra e
    split at q
    · have e0 : xs = [] := rb
      subst e0
      split at q
      · rename_i y ey
        rw [hv.length] at ey
        obtain ⟨w, ew, rw'⟩ := hv.get ey
        exact mt_pop pins s σ H _ _ v us Q I rx rs ⟨p, vs, w, rfl, rfl, hp, ew, set_fin q hr hn hp rw' fun ex => ⟨_, upd_same, by rw [List.length_dropLast]; omega, (hv.mono ex).dropLast⟩⟩
      · exact False.elim q
    · obtain ⟨w, rfl, rw'⟩ := rb.one
      cases rw'
      split at q
      · rename_i k ek
        split at q
        · rename_i y ey
          obtain ⟨g, q⟩ := q.guard
          obtain ⟨g1, g2⟩ := of_decide_eq_true g
          obtain ⟨w, ew, rw'⟩ := hv.get ey
          refine mt_popAt pins s σ H _ _ v us Q I rx rs ⟨p, vs, _, k, w, rfl, rfl, hp, g1, g2, by rw [← hv.length]; exact ek, ew, set_fin q hr hn hp rw' fun ex => ⟨_, upd_same, Nat.le_trans (len_erase _ _) hl, (hv.mono ex).eraseIdx k⟩⟩
        · exact False.elim q
      · exact False.elim q
    · exact False.elim q
theorem mtR_ : MtR X "list.reverse" (rm X.mg .reverse) := by
  intro pins s σ H x xs v us Q I rx rs h
  obtain ⟨ι, ph, a, as, hr, ra, rb, q⟩ := h
  simp only [mtV] at q
  split at q <;> try exact False.elim q
  split at q <;> try exact False.elim q
  · rename_i ys e
    obtain ⟨p, hn, rfl, vs, hp, hl, hv⟩ := ref_at hr ra e
    split at q
    · have e0 : xs = [] := rb
      subst e0
      exact mt_reverse pins s σ H _ _ v us Q I rx rs ⟨p, vs, rfl, rfl, hp, set_fin q hr hn hp rfl fun ex => ⟨_, upd_same, by rw [List.length_reverse]; exact hl, (hv.mono ex).reverse⟩⟩
    · exact False.elim q
theorem mtI : MtR X "list.insert" (rm X.mg .insert) := by
  intro pins s σ H x xs v us Q I rx rs h
  obtain ⟨ι, ph, a, as, hr, ra, rb, q⟩ := h
  simp only [mtV] at q
  split at q <;> try exact False.elim q
  split at q <;> try exact False.elim q
  · rename_i ys e
    obtain ⟨p, hn, rfl, vs, hp, hl, hv⟩ := ref_at hr ra e
    split at q
    · obtain ⟨w, z, rfl, rw', rz⟩ := rb.two
      cases rw'
      obtain ⟨g, q⟩ := q.guard
      obtain ⟨g1, g2, g3⟩ := of_decide_eq_true g
      have hz : vs.length < sizeLine := by rw [← hv.length]; exact g1
      refine mt_insert pins s σ H _ _ v us Q I rx rs ⟨p, vs, _, z, rfl, rfl, hp, hz, g2, g3, set_fin q hr hn hp rfl fun ex => ⟨_, upd_same, ?_, (((hv.mono ex).take _).append (Reps.sing (rz.mono ex))).append ((hv.mono ex).drop _)⟩⟩
      simp only [List.length_append, List.length_take, List.length_drop, List.length_cons, List.length_nil]
      omega
    · exact False.elim q
theorem mtG (hu : X.A.units + 1 < cLine) : MtR X "dict.get" (rm X.mg .get) := by
  intro pins s σ H x xs v us Q I rx rs h
  obtain ⟨ι, ph, a, as, hr, ra, rb, q⟩ := h
  simp only [mtV] at q
  split at q <;> try exact False.elim q
  have fin : ∀ {p : Addr} {y z : V} {o : Option V} {o' : Option PV} {b : PV}, x = .ref p → xs = [y, z] → DGet H p y o → Rep X.mg ι H b z → ((o' = none ∧ o = none) ∨ ∃ x v, o' = some x ∧ o = some v ∧ Rep X.mg ι H x v) → Fin X.mg W0 [] (Rep X.mg) Q ι H (.ok (o'.getD b) ph) →
      wpAny (model X.prog X.w) X.A (call (.builtin "dict.get") (v :: us)) (EP X pins σ Q) X.xe s := by
    intro p y z o o' b ex es g rz ho q
    subst ex es
    cases rx
    obtain ⟨u1, u2, rfl, r1, r2⟩ := Vals.two rs
    refine d_get2 hu I g r1 r2 fun w' s' I' r' => ⟨_, H, I', r', ?_⟩
    rcases ho with ⟨rfl, rfl⟩ | ⟨x', v', rfl, rfl, rv⟩
    · exact q.here hr rz
    · exact q.here hr rv
  split at q <;> try exact False.elim q
  · rename_i kvs e
    obtain ⟨p, hn, rfl, ho⟩ := ref_at hr ra e
    split at q
    · obtain ⟨y, z, rfl, ry, rz⟩ := rb.two
      obtain ⟨k, ek, q⟩ := q.optb
      obtain ⟨o, g, h3, _⟩ := dget_k ho ek ry
      exact fin rfl rfl g rz h3 q
    · exact False.elim q
  · rename_i kvs e
    obtain ⟨p, hn, rfl, ho⟩ := ref_at hr ra e
    split at q
    · obtain ⟨y, z, rfl, ry, rz⟩ := rb.two
      obtain ⟨k, ek, q⟩ := q.optb
      obtain ⟨o, g, h3, _⟩ := dget_t ho ek ry
      exact fin rfl rfl g rz h3 q
    · exact False.elim q
theorem mtS : MtR X "dict.setdefault" (rm X.mg .setdefault) := by
  intro pins s σ H x xs v us Q I rx rs h
  obtain ⟨ι, ph, a, as, hr, ra, rb, q⟩ := h
  simp only [mtV] at q
  split at q <;> try exact False.elim q
  split at q <;> try exact False.elim q
  · rename_i kvs e
    obtain ⟨p, hn, rfl, l, hp, hl, hf⟩ := ref_at hr ra e
    split at q
    · obtain ⟨y, z, rfl, ry, rz⟩ := rb.two
      obtain ⟨k, ek, q⟩ := q.optb
      cases key_v ek ry
      obtain ⟨u1, u2, rfl, r1, r2⟩ := Vals.two rs
      cases rx
      have hg := hf.get k
      split at q
      · rename_i w ew
        obtain ⟨g, q⟩ := q.guard
        have hz : l.length < sizeLine := by rw [← hf.length]; exact of_decide_eq_true g
        rcases hg with ⟨h3, _⟩ | ⟨x', v', h3, h4, rv⟩
        · rw [ew] at h3; cases h3
        · rw [ew] at h3; cases h3
          refine d_setd I hp r1 r2 hz (fun v hv w' s4 I4 rw' => ⟨v, _, I4, rw', ?_⟩) fun hn w' s4 I4 rw' => ?_
          · rw [h4] at hv; cases hv
            exact q.here hr rv
          · rw [h4] at hn; cases hn
      · rename_i ew
        obtain ⟨g, q⟩ := q.guard
        have hz : l.length < sizeLine := by rw [← hf.length]; exact of_decide_eq_true g
        rcases hg with ⟨_, h4⟩ | ⟨x', v', h3, h4, rv⟩
        · refine d_setd I hp r1 r2 hz (fun v hv w' s4 I4 rw' => ?_) fun _ w' s4 I4 rw' => ⟨z, _, I4, rw', ?_⟩
          · rw [h4] at hv; cases hv
          · exact set_fin q hr hn hp rz fun ex => ⟨_, upd_same, put_len hz, (hf.mono ex).put (rz.mono ex)⟩
        · rw [ew] at h3; cases h3
    · exact False.elim q
theorem allStr_of : ∀ {xs : List PV} {ys : List Str} {vs : List V} {mg : Str → Option Value} {ι : List Addr} {H : Hp}, allStr xs = some ys → Reps mg ι H xs vs → vs = ys.map V.str
  | [], _, _, _, _, _, e, h => by cases h; simp [allStr] at e; subst e; rfl
  | .str z :: xs, ys, _, _, _, _, e, ⟨v, r, h1, h2, h3⟩ => by
    subst h1
    simp only [allStr, Option.map_eq_some_iff] at e
    obtain ⟨zs, e1, rfl⟩ := e
    cases h2
    rw [allStr_of e1 h3]
    rfl
  | .non :: _, _, _, _, _, _, e, _ => by simp [allStr] at e
  | .bl _ :: _, _, _, _, _, _, e, _ => by simp [allStr] at e
  | .int _ :: _, _, _, _, _, _, e, _ => by simp [allStr] at e
  | .ty _ :: _, _, _, _, _, _, e, _ => by simp [allStr] at e
  | .gl _ :: _, _, _, _, _, _, e, _ => by simp [allStr] at e
  | .ref _ :: _, _, _, _, _, _, e, _ => by simp [allStr] at e
  | .tup _ :: _, _, _, _, _, _, e, _ => by simp [allStr] at e
theorem mtJ : MtR X "str.join" (rm X.mg .join) := by
  intro pins s σ H x xs v us Q I rx rs h
  obtain ⟨ι, ph, a, as, hr, ra, rb, q⟩ := h
  cases a with
  | str z =>
    simp only [mtV] at q
    cases ra
    split at q
    · rename_i w
      obtain ⟨y, rfl, ry⟩ := rb.one
      obtain ⟨ys, ey, q⟩ := q.optb
      obtain ⟨xs, ex, ez⟩ := Option.bind_eq_some_iff.mp ey
      obtain ⟨p, vs, rfl, _, hs, hp⟩ := lst_at (K := X.K) hr ry ex
      obtain ⟨g, q⟩ := q.guard
      have g := of_decide_eq_true g
      have ev := allStr_of ez hs
      subst ev
      refine mt_join pins s σ H _ _ v us Q I rx rs ⟨z, p, ys, rfl, rfl, ?_, g, q.here hr rfl⟩
      rcases hp with hp | ⟨hp, _⟩
      · exact .inl hp
      · exact .inr (.of hp)
    · exact False.elim q
  | ref n =>
    simp only [mtV] at q
    split at q <;> exact False.elim q
  | _ => exact False.elim q
end
end Pu

set_option Elab.async false
set_option linter.all false
set_option maxRecDepth 100000
/-! Pu9: enumerate of a tuple. -/
namespace Pu
open PySem PySem.Spec PyProof.Rows L2
set_option maxHeartbeats 1000000 in
theorem meets_enum1 {v : Value} {o : Obj} {H : Heap → Prop} (B : Begins v o H) :
    Meets (Builtin.«enumerate.__new__» ⟨[.type "enumerate", v], []⟩) (fun _ R s => H s.heap ∧
      R (.ok (.ret (.ref (s.heap.push o).objs.size))) { s with heap := (s.heap.push o).push { cls := .type "enumerate", data := .fields #[.none, .bool false, .ref s.heap.objs.size, rawInt 0, .none, .none] } }) :=
  .of_wp fun prog w A R s h => by
    obtain ⟨hp, g, d, tk, os⟩ := s
    obtain ⟨h1, h⟩ := h
    have hsub := sub_enumerate
    have go : ∀ {A' : Around} {E : Value → Shared → Prop} {Q : Value → Shared → Prop}, Q (.ref hp.objs.size) ⟨hp.push o, g, d, tk, os⟩ → wpAny (model prog w) A' (pyIter v) Q E ⟨hp, g, d, tk, os⟩ :=
      fun q => B.iter prog w _ _ ⟨hp, g, d, tk, os⟩ _ h1 q
    wp_walk using go
    refine wpAny_stack_any fun st => wpAny_pure ?_
    split
    · rename_i c _ _ _ _ _
      cases (c == Value.type "enumerate") <;> (wp_walk using go; exact ⟨_, rfl, h⟩)
    · wp_walk using go
      exact ⟨_, rfl, h⟩
theorem enum1 {prog : Program} {w : World} {A : Around} {E : Value → Shared → Prop} {s : Shared} {v : Value} {o : Obj} {H : Heap → Prop} {Q : Value → Shared → Prop} (B : Begins v o H) (h1 : H s.heap)
    (h : ∀ h', IsEnum h' (s.heap.objs.size + 1) s.heap.objs.size 0 .none → h'.get? s.heap.objs.size = some o → (∀ b u, s.heap.get? b = some u → h'.get? b = some u) → Q (.ref (s.heap.objs.size + 1)) { s with heap := h' }) :
    wpAny (model prog w) A (call (.type "enumerate") [v]) Q E s := by
  refine callType_new F.called_enumerate (by decide) (F.typeCall_enumerate_1 _) (F.newCall_enumerate_1 _) (fun obj => F.args_object_init_2 obj _) F.entry_enumerate_new (meets_enum1 B) ⟨h1, ?_⟩
  have hz : (s.heap.push o).objs.size = s.heap.objs.size + 1 := Heap.size_push ..
  show _ ∧ _
  rw [hz]
  have he := Heap.get?_push_size (s.heap.push o) (o := { cls := .type "enumerate", data := .fields #[.none, .bool false, .ref s.heap.objs.size, rawInt 0, .none, .none] }) rfl
  rw [hz] at he
  exact ⟨⟨_, he, rfl⟩, h _ he (Heap.get?_push_of_some _ (Heap.get?_push_size _ B.free)) fun b u x => Heap.get?_push_of_some _ (Heap.get?_push_of_some _ x)⟩
/-- the tuple at a, each item in a new pair -/
def ItT (a : Addr) : It :=
  ⟨fun i H => ∃ (xs : List V) (x : V), H a = some (.tup xs) ∧ xs[i]? = some x, fun i H v H' => ∃ T x, v = .ref T ∧ H T = none ∧ H' = upd H T (.tup [.int (i : Nat), x]) ∧ ∀ xs, H a = some (.tup xs) → xs[i]? = some x, fun i H => ∃ xs : List V, H a = some (.tup xs) ∧ xs.length = i⟩
theorem turn_enumT {P : Program} {w : World} {K : PySem.W.Frag} {elts : List Expr} {kk : Nat} {tpos : Pos} (a e it : Addr) :
    Turn P w K (.Tuple elts kk tpos) (ItT a) [e, it] e (fun i h => (∃ old, IsEnum h e it ((i : Nat) : Int) old) ∧ h.IsTupleIter it a i ∧ e ≠ it) where
  mem := List.mem_cons_self
  obj := fun i h st b hb => by
    obtain ⟨⟨old, he⟩, ⟨o, ho, hc, hd⟩, _⟩ := st
    rcases List.mem_cons.mp hb with rfl | hb
    · exact ⟨_, he, fun v q => nomatch q⟩
    · rw [List.mem_singleton.mp hb]
      exact ⟨o, ho, fun v q => by rw [hd] at q; cases q⟩
  keep := fun i h h' st k => by
    obtain ⟨⟨old, he⟩, hi, hne⟩ := st
    exact ⟨⟨old, k e (by simp) _ he⟩, hi.at fun o q => k it (by simp) o q, hne⟩
  item := by
    intro X hP hw hK hc i pins s σ H E I hf st hg
    subst hP hw hK
    obtain ⟨⟨old, he⟩, hit, hne⟩ := st
    obtain ⟨xs, x, hq, hx⟩ := hg
    obtain ⟨its, rv, p, hz⟩ := I.tuple (SqT.of hq)
    obtain ⟨u, hu, ru⟩ := rv.get hx
    have hel : e < s.heap.objs.size := Heap.lt_size he
    have hil : it < s.heap.objs.size := by
      obtain ⟨_, q, _⟩ := hit
      exact Heap.lt_size q
    have hai : a ≠ it := ne_of_none hq (hf it (by simp)).1
    have hae : a ≠ e := ne_of_none hq (hf e (by simp)).1
    have hil2 : i < its.toArray.size := by
      obtain ⟨hl, _⟩ := List.getElem?_eq_some_iff.mp hu
      simpa using hl
    refine wpAny_pyNext_enum_itemD (Draws.tuple (prog := X.prog) (w := X.w) (A := X.A.in1) (I.ok.hd hc) it a hai its.toArray) he ⟨hit, p⟩ hil2 hne (by simp; exact ⟨hne, Ne.symm hae⟩) fun y h' tk hy ho hst' hT hsz hk => ?_
    have ey : y = u := by
      have hu' : its.toArray[i]? = some u := by simpa using hu
      exact Option.some.inj (hy.symm.trans hu')
    subst ey
    refine ⟨_, rfl, wpAny_letOwnedTupleGo_enum (s := { s with heap := h', toks := tk + 1 }) ho fun h'' he' sb => ?_⟩
    have hT2 : h''.get? s.heap.objs.size = some { cls := .type "tuple", data := .seq #[.int i tk, y] } := (sb.2 _ (Nat.ne_of_gt hel)).trans hT
    have obj : ObjOk X.prog X.w (upd H s.heap.objs.size (.tup [.int (i : Nat), x])) h'' s.heap.objs.size (.tup [.int (i : Nat), x]) :=
      ⟨by show 2 ≤ sizeLine; decide, [.int i tk, y], .cons ⟨_, rfl⟩ (.cons ru .nil), _, hT2, rfl, _, rfl⟩
    have J : Inv X pins σ (upd H s.heap.objs.size (.tup [.int (i : Nat), x])) { s with heap := h'', toks := tk + 1 } := by
      refine I.turnedNew (ch := [e, it]) (fun b ob hb q => ?_) hf (Nat.le_refl _) obj
      have hbe : b ≠ e := fun z => hb (by simp [z])
      exact (sb.2 b hbe).trans (hk b ob hbe (fun z => hb (by simp [z])) q)
    refine ⟨.ref s.heap.objs.size, _, J, rfl, ⟨_, x, rfl, I.hok.fresh (Nat.le_refl _), rfl, fun ys hys => ?_⟩, ⟨⟨y, ?_⟩, hst'.1.at fun o q => (sb.2 it (Ne.symm hne)).trans q, hne⟩, fun b hb => ?_⟩
    · rw [hq] at hys; cases hys
      exact hx
    · have e1 : ((i + 1 : Nat) : Int) = (i : Int) + 1 := by omega
      rw [e1]
      exact he'
    · have hb' : b < s.heap.objs.size := by
        rcases List.mem_cons.mp hb with rfl | hb
        · exact hel
        · rw [List.mem_singleton.mp hb]; exact hil
      rw [upd_ne (Nat.ne_of_lt hb')]
      exact (hf b hb).1
  done := by
    intro X hP hw hK hc i pins s σ H E I hf st hg
    subst hP hw hK
    obtain ⟨⟨old, he⟩, hit, hne⟩ := st
    obtain ⟨xs, hq, hx⟩ := hg
    obtain ⟨its, rv, p, hz⟩ := I.tuple (SqT.of hq)
    have hai : a ≠ it := ne_of_none hq (hf it (by simp)).1
    have hl := rv.length
    have hn : its.toArray.size = i := by simp; omega
    subst hn
    obtain ⟨f0, f1, f2, f3, f4, f5⟩ := hf it (by simp)
    exact wpAny_pyNext_enum_endD (Draws.tuple (prog := X.prog) (w := X.w) (A := X.A.in1) (I.ok.hd hc) it a hai its.toArray) he ⟨hit, p⟩ fun h' eb => ⟨rfl, I.turned (t' := s.toks) (fun b o hb q => eb b o hb q) f0 f1 f3 f4 f5⟩
  self := fun A i s Q E st h => by
    obtain ⟨⟨_, he⟩, _⟩ := st
    exact wpAny_pyIter_enum he h
def iEnumT (ta : TA) : TI := fun σ H R => ta σ H fun vs H1 => ∃ a xs, vs = [.ref a] ∧ H1 a = some (.tup xs) ∧ R (ItT a) H1
theorem pi_enumT {X : Cx} {e : Expr} {ta : TA} {p pos tpos : Pos} {elts : List Expr} {kk : Nat} (hg : Gl X "enumerate") (hm : X.mg "enumerate" = none) (ha : PA X [e] ta) (hs : starEach [e] X.env = [(false, eval e X.env)] := by rfl) :
    PI X (.Tuple elts kk tpos) (.Call (.Name "enumerate" p) [e] [] pos) (iEnumT ta) := by
  refine ⟨fun pins s σ H R I h => ?_⟩
  refine Call_ (ld_blt I hg hm boot_enumerate (PyProof.Rows.callWith_type1 (thn (ha.run pos pins s σ H _ I h) fun us s1 q => ?_) hs rfl))
  obtain ⟨vs, H1, I1, r1, a, xs, rfl, hq, q⟩ := q
  obtain ⟨u, rfl, ru⟩ := Vals.one r1
  cases ru
  obtain ⟨its, rv, tp, hz⟩ := I1.tuple (SqT.of hq)
  refine enum1 (begins_tuple a its.toArray) tp fun h' he hit hk => wpAny_pyIter_enum he ?_
  have I2 : Inv X pins σ H1 { s1 with heap := h' } := I1.kept (t' := s1.toks) hk
  refine ⟨s1.heap.objs.size + 1, [s1.heap.objs.size + 1, s1.heap.objs.size], _, _, H1, rfl, I2, turn_enumT a (s1.heap.objs.size + 1) s1.heap.objs.size, ⟨⟨.none, he⟩, ⟨_, hit, rfl, rfl⟩, Nat.succ_ne_self _⟩, fun b hb => ?_, q⟩
  have hle : s1.heap.objs.size ≤ b := by
    rcases List.mem_cons.mp hb with rfl | hb
    · exact Nat.le_succ _
    · rw [List.mem_singleton.mp hb]; exact Nat.le_refl _
  exact I1.fpOk hle (I1.hok.fresh hle)
end Pu

set_option Elab.async false
set_option linter.all false
set_option maxRecDepth 100000
/-! Pu10: the readings of expressions. -/
namespace Pu
open PySem PySem.Spec PyProof.Rows L2
def eqb : List Addr → Hp → Bool → Bool → Prop := fun _ _ a b => a = b
section
variable (X : Cx) (C : Cfg) (W : WX)
def SE (E : Expr) (e : Ex) : Prop := PE X E (rd X.mg W (Rep X.mg) (ev C e))
def ST (E : Expr) (e : Ex) : Prop := PT X E (rd X.mg W eqb (evT C e))
def SA (E : List Expr) (e : Exs) : Prop := PA X E (rd X.mg W (Reps X.mg) (evs C e))
end
/-- an expression as it may stand anywhere -/
def plain : Expr → Bool
  | .Starred _ _ => false
  | .Slice _ _ _ _ => false
  | .Set _ _ _ => false
  | _ => true
theorem plain_star {E : Expr} (h : plain E = true) (Es : List Expr) (env : PySem.Env) : starEach (E :: Es) env = (false, eval E env) :: starEach Es env := by
  cases E <;> first | rfl | exact nomatch h
theorem plain_ix {E : Expr} (h : plain E = true) : PlainIx E := fun o i => by
  cases E <;> first | rfl | exact nomatch h
theorem plain_mark {E : Expr} (h : plain E = true) (op : CmpOp) : behindInMarks op E = false := by
  cases E <;> first | rfl | exact nomatch h
section
variable {mg : Str → Option Value} {ι : List Addr} {H : Hp} {ph : PH} {W : WX} {σ : L2.St} {α β α' β' : Type} {R : List Addr → Hp → α → β → Prop} {R' : List Addr → Hp → α' → β' → Prop}
theorem rd_mono {m : Pu.Env → PH → Res α} {Q Q' : β → Hp → Prop} (h : rd mg W R m σ H Q) (i : ∀ b H', Q b H' → Q' b H') : rd mg W R m σ H Q' := by
  obtain ⟨ι, ρ, ph, h1, h2, h3⟩ := h
  exact ⟨ι, ρ, ph, h1, h2, h3.mono i⟩
/-- one step: what is evaluated first, and how it goes on from there -/
theorem step {m : Pu.Env → PH → Res α} {f : Pu.Env → α → PH → Res α'} {Q : β' → Hp → Prop} {Q' : β → Hp → Prop} (h : rd mg W R' (fun ρ ph => (m ρ ph).bind (f ρ)) σ H Q)
    (i : ∀ b H1 ι1 ρ ph1 a, HRep mg ι1 H1 ph1 → REnv mg ι1 H1 ρ σ → R ι1 H1 a b → Fin mg W σ R' Q ι1 H1 (f ρ a ph1) → Q' b H1) : rd mg W R m σ H Q' :=
  rd_mono (rd_bind h) fun b H1 ⟨ι1, ρ, ph1, a, h1, h2, h3, h4⟩ => i b H1 ι1 ρ ph1 a h1 h2 h3 h4
/-- the next step, from an answer -/
theorem Fin.then {r : Res α} {f : α → PH → Res α'} {Q : β' → Hp → Prop} {Q' : β → Hp → Prop} (h : Fin mg W σ R' Q ι H (r.bind f))
    (i : ∀ b H1 ι1 ph1 a, Ext ι H ι1 H1 → HRep mg ι1 H1 ph1 → R ι1 H1 a b → Fin mg W σ R' Q ι1 H1 (f a ph1) → Q' b H1) : Fin mg W σ R Q' ι H r :=
  Fin.mono (fun b H1 ⟨ι1, ph1, a, h1, h2, h3, h4⟩ => i b H1 ι1 ph1 a h1 h2 h3 h4) (Fin.bind h)
theorem Fin.prim {r : Res α} {σ' : L2.St} {Q : β → Hp → Prop} (h : Fin mg W σ R Q ι H (Pu.noX r)) : Fin mg W0 σ' R Q ι H r := h.noX.w0
end
section
variable {X : Cx} {C : Cfg} {W : WX} {A B D : Expr} {a b c : Ex} {pos : Pos} {Es : List Expr} {es : Exs}
/-- a thing that stands as it is -/
theorem s_here {E : Expr} {t : TE} (h : PE X E t) {e : Ex} (i : ∀ ι ρ ph σ H Q, HRep X.mg ι H ph → REnv X.mg ι H ρ σ → Fin X.mg W σ (Rep X.mg) Q ι H (ev C e ρ ph) → t σ H Q) : SE X C W E e :=
  h.imp fun σ H Q ⟨ι, ρ, ph, h1, h2, h3⟩ => i ι ρ ph σ H Q h1 h2 h3
theorem s_var {i : Nat} {x : Str} (hN : X.N[i]? = some x) (hv : Vis X.env.scope x) (hd : (x == ("__debug__" : Str)) = false) (hcd : (x == ("__classdict__" : Str)) = false) : SE X C W (.Name x pos) (.var i) :=
  s_here (pe_var hN hv hd hcd) fun ι ρ ph σ H Q h1 h2 h3 => by
    obtain ⟨v, e, h3⟩ := Fin.opt h3
    obtain ⟨y, hy, ry⟩ := h2.at_ i v e
    exact ⟨y, hy, h3.here h1 ry⟩
theorem s_int {i : Int} {j : Nat} : SE X C W (.Constant (.int i) j pos) (.con (.int i)) := s_here pe_int fun _ _ _ _ _ _ h1 _ h3 => h3.here h1 rfl
theorem s_bool {i : Bool} {j : Nat} : SE X C W (.Constant (.bool i) j pos) (.con (.bl i)) := s_here pe_bl fun _ _ _ _ _ _ h1 _ h3 => h3.here h1 rfl
theorem s_none {j : Nat} : SE X C W (.Constant .none j pos) (.con .non) := s_here pe_non fun _ _ _ _ _ _ h1 _ h3 => h3.here h1 rfl
theorem s_str {i : Str} {j : Nat} : SE X C W (.Constant (.str i) j pos) (.con (.str i)) := s_here pe_str fun _ _ _ _ _ _ h1 _ h3 => h3.here h1 rfl
theorem s_gcon {x : Str} {i : Int} {t : Tok} (hg : Gl X x) (hm : X.mg x = some (.int i t)) (hd : (x == ("__debug__" : Str)) = false) : SE X C W (.Name x pos) (.gcon x (.int i)) :=
  s_here (pe_glob hg hm (v := .int i) ⟨t, rfl⟩ hd) fun _ _ _ _ _ _ h1 _ h3 => h3.here h1 rfl
theorem s_ty {x : Str} {n : String} (hg : Gl X x) (hm : X.mg x = none) (hv : bootBuiltins x = some (.type n)) (hn : x ≠ "__name__") (hd : (x == ("__debug__" : Str)) = false) : SE X C W (.Name x pos) (.con (.ty n)) :=
  s_here (pe_bltn hg hm hv (v := .ty n) rfl hn hd) fun _ _ _ _ _ _ h1 _ h3 => h3.here h1 rfl
/-! arguments -/
theorem a_nil : SA X C W [] .nil := pa_nil.imp fun σ H Q ⟨ι, ρ, ph, h1, h2, h3⟩ => h3.here h1 (R := Reps X.mg) rfl
theorem a_cons (hp : plain A = true) (ha : SE X C W A a) (hr : SA X C W Es es) : SA X C W (A :: Es) (.cons a es) :=
  (pa_cons ha hr (plain_star hp Es _)).imp fun σ H Q h => step (m := ev C a) h fun x H1 ι1 ρ ph1 p h1 h2 h3 h4 =>
    ⟨ι1, ρ, ph1, h1, h2, h4.then fun ys H2 ι2 ph2 ps e k1 k2 k3 => k3.here k1 ⟨x, ys, rfl, h3.mono e, k2⟩⟩
theorem s_tup {k : Nat} (h : SA X C W Es es) : SE X C W (.Tuple Es k pos) (.tup es) :=
  (pe_tup h).imp fun σ H Q h => step (m := evs C es) h fun xs H1 ι1 ρ ph1 ps h1 h2 h3 h4 => by
    obtain ⟨g, h4⟩ := h4.guard
    have g := of_decide_eq_true g
    have hl : xs.length ≤ sizeLine := by rw [← h3.length]; exact g
    exact ⟨hl, fun p hp => tup_fin h4 h1 hp h3 hl⟩
theorem s_lst (h : SA X C W Es es) : SE X C W (.List Es pos) (.lst es) :=
  (pe_lst h).imp fun σ H Q h => step (m := evs C es) h fun xs H1 ι1 ρ ph1 ps h1 h2 h3 h4 => by
    obtain ⟨g, h4⟩ := h4.guard
    have g := of_decide_eq_true g
    have hl : xs.length ≤ sizeLine := by rw [← h3.length]; exact g
    exact ⟨hl, fun p hp => newL_fin h4 h1 hp h3 hl⟩
theorem s_bin {op : Operator} (ha : SE X C W A a) (hb : SE X C W B b) : SE X C W (.BinOp A op B pos) (.bin op a b) :=
  (pe_op (op_binop op) ha hb).imp fun σ H Q h => step (m := ev C a) h fun x H1 ι1 ρ ph1 p h1 h2 h3 h4 =>
    ⟨ι1, ρ, ph1, h1, h2, h4.then fun y H2 ι2 ph2 q e k1 k2 k3 => ⟨ι2, ph2, p, q, k1, h3.mono e, k2, k3.prim⟩⟩
theorem s_neg (ha : SE X C W A a) : SE X C W (.UnaryOp .USub A pos) (.neg a) :=
  (pe_un un_negV ha).imp fun σ H Q h => step (m := ev C a) h fun x H1 ι1 ρ ph1 p h1 h2 h3 h4 => ⟨ι1, ph1, p, h1, h3, h4.prim⟩
/-- truth, where it is asked -/
theorem tru_at {K : PySem.W.Frag} {mg : Str → Option Value} {ι : List Addr} {H : Hp} {ph : PH} {σ : L2.St} {α β : Type} {R : List Addr → Hp → α → β → Prop} {Q : β → Hp → Prop} {p : PV} {x : V} {f : Bool → PH → Res α} (h1 : HRep mg ι H ph) (h3 : Rep mg ι H p x) (h4 : Fin mg W σ R Q ι H ((truthy p ph).bind f)) :
    ∃ k, TruV K x H k ∧ Fin mg W σ R Q ι H (f k ph) := by
  have same : ∀ k ph', truthy p ph = .ok k ph' → ph' = ph := by
    intro k ph' e
    unfold truthy at e
    repeat' split at e
    all_goals first | (cases e; rfl) | (unfold guardR at e; split at e <;> cases e; rfl) | cases e
  have no := truthy_noX p ph
  cases ht : truthy p ph with
  | ok k ph' =>
    rw [ht] at h4
    obtain rfl := same k ph' ht
    obtain ⟨k', h, rfl⟩ := rT_tru (K := K) (mg := mg) (x := x) (H := H) (Q := fun c _ => c = k) ⟨ι, ph', p, h1, h3, by rw [ht]; exact fun _ _ b _ _ e => e.symm⟩
    exact ⟨k', h, h4⟩
  | exc _ _ _ => rw [ht] at no; cases no
  | bad => rw [ht] at h4; exact False.elim h4
theorem Res.bind_ret {α : Type} (r : Res α) : (r.bind fun x h => .ok x h) = r := by cases r <;> rfl
theorem s_not (ha : SE X C W A a) : SE X C W (.UnaryOp .Not A pos) (.not a) :=
  (pe_notT ha).imp fun σ H Q h => step (m := ev C a) h fun x H1 ι1 ρ ph1 p h1 h2 h3 h4 => by
    obtain ⟨k, hk, h5⟩ := tru_at (K := X.K) h1 h3 h4
    exact ⟨k, hk, h5.here h1 rfl⟩
theorem s_and1 (ha : SE X C W A a) : SE X C W (.BoolOp .And [A] pos) (.and (.cons a .nil)) :=
  (pe_one ha).imp fun σ H Q ⟨ι, ρ, ph, h1, h2, h3⟩ => ⟨ι, ρ, ph, h1, h2, by
    have e : ev C (.and (.cons a .nil)) ρ ph = (ev C a ρ ph).bind fun x h => .ok x h := rfl
    rw [e, Res.bind_ret] at h3
    exact h3⟩
theorem s_or1 (ha : SE X C W A a) : SE X C W (.BoolOp .Or [A] pos) (.or (.cons a .nil)) :=
  (pe_one ha).imp fun σ H Q ⟨ι, ρ, ph, h1, h2, h3⟩ => ⟨ι, ρ, ph, h1, h2, by
    have e : ev C (.or (.cons a .nil)) ρ ph = (ev C a ρ ph).bind fun x h => .ok x h := rfl
    rw [e, Res.bind_ret] at h3
    exact h3⟩
theorem s_and (ha : SE X C W A a) (hb : SE X C W (.BoolOp .And (B :: Es) pos) (.and (.cons b es))) : SE X C W (.BoolOp .And (A :: B :: Es) pos) (.and (.cons a (.cons b es))) :=
  (pe_andT ha hb).imp fun σ H Q h => step (m := ev C a) h fun x H1 ι1 ρ ph1 p h1 h2 h3 h4 => by
    obtain ⟨k, hk, h5⟩ := tru_at (K := X.K) h1 h3 h4
    refine ⟨k, hk, ?_⟩
    cases k with
    | true => exact ⟨ι1, ρ, ph1, h1, h2, h5⟩
    | false => exact h5.here h1 h3
theorem s_or (ha : SE X C W A a) (hb : SE X C W (.BoolOp .Or (B :: Es) pos) (.or (.cons b es))) : SE X C W (.BoolOp .Or (A :: B :: Es) pos) (.or (.cons a (.cons b es))) :=
  (pe_orT ha hb).imp fun σ H Q h => step (m := ev C a) h fun x H1 ι1 ρ ph1 p h1 h2 h3 h4 => by
    obtain ⟨k, hk, h5⟩ := tru_at (K := X.K) h1 h3 h4
    refine ⟨k, hk, ?_⟩
    cases k with
    | true => exact h5.here h1 h3
    | false => exact ⟨ι1, ρ, ph1, h1, h2, h5⟩
theorem s_ite (hc : ST X C W D c) (ha : SE X C W A a) (hb : SE X C W B b) : SE X C W (.IfExp D A B pos) (.ite c a b) :=
  (pe_ifExp hc ha hb).imp fun σ H Q ⟨ι, ρ, ph, h1, h2, h3⟩ => by
    have e : ev C (.ite c a b) ρ ph = (evT C c ρ ph).bind fun t h => if t = true then ev C a ρ h else ev C b ρ h := (Res.bind_assoc _ _ _).symm
    rw [e] at h3
    refine ⟨ι, ρ, ph, h1, h2, h3.then fun k H1 ι1 ph1 t ex k1 k2 k3 => ?_⟩
    cases k2
    cases k with
    | true => exact ⟨ι1, ρ, ph1, k1, h2.mono ex, k3⟩
    | false => exact ⟨ι1, ρ, ph1, k1, h2.mono ex, k3⟩
theorem s_cmp (hu : X.A.units + 65 < cLine) (hp : plain B = true) {op : CmpOp} (ha : SE X C W A a) (hb : SE X C W B b) : SE X C W (.Compare A [op] [B] pos) (.cmp op a b) :=
  (pe_cmpR (op_cmpop hu op) ha hb (plain_mark hp op)).imp fun σ H Q h => step (m := ev C a) h fun x H1 ι1 ρ ph1 p h1 h2 h3 h4 =>
    ⟨ι1, ρ, ph1, h1, h2, h4.then fun y H2 ι2 ph2 q e k1 k2 k3 => ⟨ι2, ph2, p, q, k1, h3.mono e, k2, k3.prim⟩⟩
theorem s_cmp2 (hu : X.A.units + 65 < cLine) (hp : plain D = true) {o1 o2 : CmpOp} (ha : SE X C W A a) (hb : SE X C W B b) (hc : SE X C W D c) : SE X C W (.Compare A [o1, o2] [B, D] pos) (.cmp2 o1 o2 a b c) :=
  (pe_chain (op_cmpR hu o1) (op_cmpop hu o2) ha hb hc (plain_mark hp o2)).imp fun σ H Q h => step (m := ev C a) h fun x H1 ι1 ρ ph1 p h1 h2 h3 h4 =>
    ⟨ι1, ρ, ph1, h1, h2, h4.then fun y H2 ι2 ph2 q e k1 k2 k3 => by
      have h3' := h3.mono e
      have h2' := h2.mono e
      refine ⟨ι2, ph2, p, q, k1, h3', k2, ?_⟩
      have k4 := Fin.then (R := fun _ _ k c => V.bl k = c) k3 (Q' := fun z H3 => ∃ k, z = .bl k ∧ (if k = true then rd X.mg W (Rep X.mg) (ev C c) σ H3 (fun w H4 => r2 X.mg (cmpop o2) y w H4 Q) else Q (.bl false) H3)) fun z H3 ι3 ph3 t ex m1 m2 m3 => ⟨t, m2.symm, ?_⟩
      · exact k4.prim
      · cases t with
        | true => exact ⟨ι3, ρ, ph3, m1, h2'.mono ex, m3.then fun w H4 ι4 ph4 r e4 n1 n2 n3 => ⟨ι4, ph4, q, r, n1, (k2.mono ex).mono e4, n2, n3.prim⟩⟩
        | false => exact m3.here m1 rfl⟩
theorem s_ix (hu : X.A.units + 1 < cLine) (hp : plain B = true) (ha : SE X C W A a) (hb : SE X C W B b) : SE X C W (.Subscript A B pos) (.ix a b) :=
  (pe_ix (ix_of hu) ha hb (plain_ix hp)).imp fun σ H Q h => step (m := ev C a) h fun x H1 ι1 ρ ph1 p h1 h2 h3 h4 =>
    ⟨ι1, ρ, ph1, h1, h2, h4.then fun y H2 ι2 ph2 q e k1 k2 k3 => ⟨ι2, ph2, p, q, k1, h3.mono e, k2, k3.prim⟩⟩
/-! slices -/
def opi : List Addr → Hp → Option Int → Option Int → Prop := fun _ _ a b => a = b
def SO (X : Cx) (C : Cfg) (W : WX) (E : Option Expr) (e : Exs) : Prop := L2.PO X E (rd X.mg W opi fun ρ h => (evs C e ρ h).bind fun l h => noX (bnd l h))
theorem o_none : SO X C W none .nil := ⟨fun pins s σ H Q I ⟨ι, ρ, ph, h1, h2, h3⟩ => po_none.run pins s σ H Q I (h3.here h1 rfl)⟩
theorem o_some (ha : SE X C W A a) : SO X C W (some A) (.cons a .nil) := ⟨fun pins s σ H Q I h => (po_some ha).run pins s σ H Q I (by
  obtain ⟨ι, ρ, ph, h1, h2, h3⟩ := h
  have e : ((evs C (.cons a .nil) ρ ph).bind fun l h => noX (bnd l h)) = (ev C a ρ ph).bind fun x h => noX (bnd [x] h) := Res.bind_assoc _ _ _
  change Fin X.mg W σ opi Q ι H ((evs C (.cons a .nil) ρ ph).bind fun l h => noX (bnd l h)) at h3
  rw [e] at h3
  refine ⟨ι, ρ, ph, h1, h2, h3.then fun y H1 ι1 ph1 x ex k1 k2 k3 => ?_⟩
  cases x <;> try exact False.elim k3
  cases k2
  exact ⟨_, rfl, k3.here k1 rfl⟩)⟩
theorem s_sl {lo hi : Option Expr} {l u : Exs} {p2 : Pos} (ha : SE X C W A a) (hl : SO X C W lo l) (hh : SO X C W hi u) : SE X C W (.Subscript A (.Slice lo hi none p2) pos) (.sl a l u) :=
  (pe_slice sl_of ha hl hh).imp fun σ H Q h => step (m := ev C a) h fun x H1 ι1 ρ ph1 p h1 h2 h3 h4 => by
    rw [← Res.bind_assoc] at h4
    refine ⟨ι1, ρ, ph1, h1, h2, h4.then fun y H2 ι2 ph2 q e k1 k2 k3 => ?_⟩
    cases k2
    rw [← Res.bind_assoc] at k3
    refine ⟨ι2, ρ, ph2, k1, h2.mono e, k3.then fun y H3 ι3 ph3 q' e3 m1 m2 m3 => ?_⟩
    cases m2
    exact ⟨ι3, ph3, p, m1, (h3.mono e).mono e3, m3.prim⟩
theorem s_rev {k : Nat} {p1 p2 p3 : Pos} (ha : SE X C W A a) : SE X C W (.Subscript A (.Slice none none (some (.UnaryOp .USub (.Constant (.int 1) k p1) p2)) p3) pos) (.rev a) :=
  (pe_revA ha).imp fun σ H Q h => step (m := ev C a) h fun x H1 ι1 ρ ph1 p h1 h2 h3 h4 => by
    have h4 := h4.prim (σ' := [])
    cases p with
    | tup xs =>
      obtain ⟨q, vs, rfl, hq, hl, hs⟩ := h3
      exact .inr ⟨q, vs, rfl, .of hq, fun t ht => tup_fin h4 h1 ht hs.reverse (by rw [List.length_reverse]; exact hl)⟩
    | ref n =>
      simp only [revV] at h4
      split at h4
      · rename_i xs e
        obtain ⟨q, _, rfl, vs, hq, hl, hs⟩ := ref_at h1 h3 e
        exact .inl ⟨q, vs, rfl, .of hq, fun t ht => newL_fin h4 h1 ht hs.reverse (by rw [List.length_reverse]; exact hl)⟩
      · exact False.elim h4
    | _ => exact False.elim h4
/-! tests -/
theorem t_val (ha : SE X C W A a) (he : ∀ whole, isTrue A X.env whole = (do let v ← whole; standAt A.pos; holding [v] (PySem.truthy v))) : ST X C W A a :=
  (pt_truth ha he).imp fun σ H Q h => step (m := ev C a) h fun x H1 ι1 ρ ph1 p h1 h2 h3 h4 => by
    have e : (Pu.truthy p ph1) = (Pu.truthy p ph1).bind fun k h => .ok k h := (Res.bind_ret _).symm
    rw [e] at h4
    obtain ⟨k, hk, h5⟩ := tru_at (K := X.K) h1 h3 h4
    exact ⟨k, hk, h5.here h1 rfl⟩
theorem t_not (ha : ST X C W A a) : ST X C W (.UnaryOp .Not A pos) (.not a) :=
  (pt_not ha).imp fun σ H Q ⟨ι, ρ, ph, h1, h2, h3⟩ => by
    have e : evT C (.not a) ρ ph = (evT C a ρ ph).bind fun b h => .ok (!b) h := by
      unfold evT
      show ((ev C a ρ ph).bind fun x h => (Pu.truthy x h).bind fun b h => Res.ok (PV.bl (!b)) h).bind (fun x h => Pu.truthy x h) = _
      rw [Res.bind_assoc, Res.bind_assoc]
      congr 1
      funext x h
      rw [Res.bind_assoc]
      rfl
    rw [e] at h3
    exact ⟨ι, ρ, ph, h1, h2, h3.then fun y H1 ι1 ph1 q ex k1 k2 k3 => by cases k2; exact k3.here k1 rfl⟩
theorem t_cmp (hu : X.A.units + 65 < cLine) (hp : plain B = true) {op : CmpOp} (ha : SE X C W A a) (hb : SE X C W B b) : ST X C W (.Compare A [op] [B] pos) (.cmp op a b) :=
  (pt_cmpR (op_cmpR hu op) ha hb (plain_mark hp op)).imp fun σ H Q ⟨ι, ρ, ph, h1, h2, h3⟩ => by
    have e : evT C (.cmp op a b) ρ ph = (ev C a ρ ph).bind fun x h => (ev C b ρ h).bind fun y h => noX (cmpR op x y h) := by
      unfold evT
      show ((ev C a ρ ph).bind fun x h => (ev C b ρ h).bind fun y h => noX (cmpop op x y h)).bind _ = _
      rw [Res.bind_assoc]
      congr 1
      funext x h
      rw [Res.bind_assoc]
      congr 1
      funext y h
      unfold cmpop
      cases cmpR op x y h <;> rfl
    rw [e] at h3
    exact ⟨ι, ρ, ph, h1, h2, h3.then fun x H1 ι1 ph1 p ex k1 k2 k3 => ⟨ι1, ρ, ph1, k1, h2.mono ex, k3.then fun y H2 ι2 ph2 q e2 m1 m2 m3 => ⟨ι2, ph2, p, q, m1, k2.mono e2, m2,
      Fin.mono (fun _ _ q => q) (Fin.then (R := fun _ _ k c => V.bl k = c) (f := fun k h => .ok k h) (Q := Q) (R' := eqb) (by rw [Res.bind_ret]; exact m3.prim) fun z H3 ι3 ph3 t ex n1 n2 n3 => ⟨t, n2.symm, n3.here n1 rfl⟩)⟩⟩⟩
end
end Pu

set_option Elab.async false
set_option linter.all false
set_option maxRecDepth 100000
/-! Pu11: calls: own defs, built-in functions, methods. -/
namespace Pu
open PySem PySem.Spec PyProof.Rows L2
/-- what a def promises: what the evaluator's call tells -/
def spC (mg : Str → Option Value) (call : Nat → List PV → PH → Res PV) (i n : Nat) : Sp := fun vs H Q E => vs.length = n ∧ ∃ ι ph xs, HRep mg ι H ph ∧ Reps mg ι H xs vs ∧ Fin mg (fun cls d _ H' => E cls d H') [] (Rep mg) Q ι H (call i xs ph)
section
variable {mg : Str → Option Value} {ι : List Addr} {H : Hp} {ph : PH} {W W' : WX} {σ σ' : L2.St} {α β : Type} {R : List Addr → Hp → α → β → Prop} {Q : β → Hp → Prop}
theorem Fin.at_ (hW : ∀ c d H', W c d σ H' → W' c d σ' H') : ∀ {r : Res α}, Fin mg W σ R Q ι H r → Fin mg W' σ' R Q ι H r
  | .ok _ _, h => h
  | .exc _ _ _, h => fun i2 H2 c d e2 h2 r2 => hW _ _ _ (h i2 H2 c d e2 h2 r2)
  | .bad, h => h
end
def plains (Es : List Expr) : Bool := Es.all plain
theorem plains_any {pos : Pos} {env : PySem.Env} : ∀ {Es : List Expr}, plains Es = true → (backTo pos (starEach Es env)).any (·.1) = false
  | [], _ => rfl
  | E :: Es, h => by
    simp only [plains, List.all_cons, Bool.and_eq_true] at h
    rw [plain_star h.1]
    show (false || (backTo pos (starEach Es env)).any (·.1)) = false
    rw [plains_any (Es := Es) h.2]
    rfl
theorem plains_all {pos : Pos} {env : PySem.Env} : ∀ {Es : List Expr}, plains Es = true → ((backTo pos (starEach Es env)).all fun x => !x.1) = true
  | [], _ => rfl
  | E :: Es, h => by
    simp only [plains, List.all_cons, Bool.and_eq_true] at h
    rw [plain_star h.1]
    show (true && (backTo pos (starEach Es env)).all fun x => !x.1) = true
    rw [plains_all (Es := Es) h.2]
    rfl
section
variable {X : Cx} {C : Cfg} {W : WX} {A : Expr} {a : Ex} {pos p apos : Pos} {Es : List Expr} {es : Exs} {k i : Nat} {f : Addr} {fd : FuncData} {ps : List Str} {x : Str}
theorem takesW0 {X : Cx} : L2N.Takes X W0 := fun _ _ ⟨_, _, _, _, _, _, _, _, _, _, _, _, _, _, _, _, h⟩ => False.elim h
theorem s_call (F : FnOk X.prog X.w X.K X.mg X.base (L2N.CX X.prog X.w) k f fd ps (spC X.mg C.call i ps.length)) (hr : Room k X.A) (hg : Gl X x) (hm : X.mg x = some (.ref f)) (hk : PySem.W.keepIn X.K (.ref f) = true) (hb : Binds X.K fd ps [])
    (hn : ∀ xs ph, xs.length ≠ ps.length → C.call i xs ph = .bad) (tk : L2N.Takes X W) (ha : SA X C W (A :: Es) (.cons a es)) (hp : plains (A :: Es) = true) (hdb : (x == ("__debug__" : Str)) = false) :
    SE X C W (.Call (.Name x p) (A :: Es) [] pos) (.call i (.cons a es)) := by
  have hp' : plain A = true ∧ plains Es = true := by simpa [plains] using hp
  refine (pe_callS F hr hg hm hk hb (fun σ => L2N.passAt tk σ) ha hdb (plain_star hp'.1 _ _) (plains_any hp'.2)).imp fun σ H Q h => step (m := evs C (.cons a es)) h fun vs H1 ι1 ρ ph1 xs h1 h2 h3 h4 => ?_
  by_cases hl : xs.length = ps.length
  · exact ⟨by rw [← h3.length]; exact hl, ι1, ph1, xs, h1, h3, h4.at_ fun _ _ _ w => w⟩
  · rw [hn xs ph1 hl] at h4
    exact False.elim h4
/-- a call while an exception is handled -/
theorem s_callH (F : L2H.FnH X.prog X.w X.K X.mg X.base (L2N.CX X.prog X.w) k f fd ps (spC X.mg C.call i ps.length)) (hr : L2H.RoomH k X.A) (hc : L2H.HotC X) (hg : Gl X x) (hm : X.mg x = some (.ref f)) (hk : PySem.W.keepIn X.K (.ref f) = true) (hb : Binds X.K fd ps [])
    (hn : ∀ xs ph, xs.length ≠ ps.length → C.call i xs ph = .bad) (tk : L2N.Takes X W) (ha : SA X C W (A :: Es) (.cons a es)) (hp : plains (A :: Es) = true) (hdb : (x == ("__debug__" : Str)) = false) :
    SE X C W (.Call (.Name x p) (A :: Es) [] pos) (.call i (.cons a es)) := by
  have hp' : plain A = true ∧ plains Es = true := by simpa [plains] using hp
  refine (L2H.pe_callH F hr hc hg hm hk hb (fun σ => L2N.passAt tk σ) ha hdb (plain_star hp'.1 _ _) (plains_any hp'.2)).imp fun σ H Q h => step (m := evs C (.cons a es)) h fun vs H1 ι1 ρ ph1 xs h1 h2 h3 h4 => ?_
  by_cases hl : xs.length = ps.length
  · exact ⟨by rw [← h3.length]; exact hl, ι1, ph1, xs, h1, h3, h4.at_ fun _ _ _ w => w⟩
  · rw [hn xs ph1 hl] at h4
    exact False.elim h4
theorem s_call0 (F : FnOk X.prog X.w X.K X.mg X.base (L2N.CX X.prog X.w) k f fd ps (spC X.mg C.call i ps.length)) (hr : Room k X.A) (hg : Gl X x) (hm : X.mg x = some (.ref f)) (hk : PySem.W.keepIn X.K (.ref f) = true) (hb : Binds X.K fd ps [])
    (hn : ∀ xs ph, xs.length ≠ ps.length → C.call i xs ph = .bad) (hdb : (x == ("__debug__" : Str)) = false) : SE X C W (.Call (.Name x p) [] [] pos) (.call0 i) := by
  refine (pe_call0 (E := fun _ _ _ => False) F hr hg hm hk hb .nil (fun pins σ H s e s' I c => ?_) hdb).imp fun σ H Q ⟨ι, ρ, ph, h1, h2, h3⟩ => ?_
  · exact (L2N.passAt (W := W0) takesW0 σ) pins H s e s' I c
  · have h4 : Fin X.mg W0 [] (Rep X.mg) Q ι H (C.call i [] ph) := h3.prim
    by_cases hl : ([] : List PV).length = ps.length
    · exact ⟨hl, ι, ph, [], h1, rfl, h4⟩
    · rw [hn [] ph hl] at h4
      exact False.elim h4
/-! with keywords -/
/-- how a call with npos positional arguments and the keywords ks binds: pm tells which value comes to each parameter -/
def KwBinds (K : PySem.W.Frag) (fd : FuncData) (ps ks : List Str) (npos : Nat) (pm : List Nat) : Prop :=
  ∀ (s : Shared) (us ws zs : List Value), K.In s.heap → us.length = npos → ws.length = ks.length → pm.mapM (fun i => (us ++ ws)[i]?) = some zs → BindsTo s fd ⟨us, ks.zip ws⟩ (ps.zip zs)
def kwVals (kws : List Keyword) : List Expr := kws.map fun k => k.value
def kwNames (kws : List Keyword) : List (Option Str) := kws.map fun k => k.arg
def SK (X : Cx) (C : Cfg) (W : WX) (kws : List Keyword) (es : Exs) : Prop := PK X kws (rd X.mg W (Reps X.mg) (evs C es))
theorem k_nil : SK X C W [] .nil := ⟨fun pos pins s σ H Q I ⟨ι, ρ, ph, h1, h2, h3⟩ => pk_nil.run pos pins s σ H Q I (h3.here h1 (R := Reps X.mg) rfl)⟩
theorem k_cons {nm : Option Str} {kpos : Pos} {kws : List Keyword} (ha : SE X C W A a) (hr : SK X C W kws es) : SK X C W (⟨nm, A, kpos⟩ :: kws) (.cons a es) :=
  ⟨fun pos pins s σ H Q I h => (pk_cons ha hr).run pos pins s σ H Q I (step (m := ev C a) h fun x H1 ι1 ρ ph1 p h1 h2 h3 h4 =>
    ⟨ι1, ρ, ph1, h1, h2, h4.then fun ys H2 ι2 ph2 qs e k1 k2 k3 => k3.here k1 ⟨x, ys, rfl, h3.mono e, k2⟩⟩)⟩
theorem mapM_reps {mg : Str → Option Value} {ι : List Addr} {H : Hp} {xs : List PV} {vs : List V} (h : Reps mg ι H xs vs) : ∀ {pm : List Nat} {zs : List PV}, pm.mapM (fun i => xs[i]?) = some zs → ∃ ws, pm.mapM (fun i => vs[i]?) = some ws ∧ Reps mg ι H zs ws
  | [], zs, e => by simp at e; subst e; exact ⟨[], rfl, rfl⟩
  | i :: pm, zs, e => by
    simp only [List.mapM_cons, Option.bind_eq_bind, Option.bind_eq_some_iff] at e
    obtain ⟨y, e1, ys, e2, e3⟩ := e
    cases e3
    obtain ⟨v, h1, h2⟩ := h.get e1
    obtain ⟨ws, h3, h4⟩ := mapM_reps h e2
    exact ⟨v :: ws, by simp [h1, h3], v, ws, rfl, h2, h4⟩
theorem mapM_vals {vs : List V} {us : List Value} (h : Vals vs us) : ∀ {pm : List Nat} {zs : List V}, pm.mapM (fun i => vs[i]?) = some zs → ∃ ws, pm.mapM (fun i => us[i]?) = some ws ∧ Vals zs ws
  | [], zs, e => by simp at e; subst e; exact ⟨[], rfl, .nil⟩
  | i :: pm, zs, e => by
    simp only [List.mapM_cons, Option.bind_eq_bind, Option.bind_eq_some_iff] at e
    obtain ⟨y, e1, ys, e2, e3⟩ := e
    cases e3
    obtain ⟨v, h1, h2⟩ := h.get e1
    obtain ⟨ws, h3, h4⟩ := mapM_vals h e2
    exact ⟨v :: ws, by simp [h1, h3], .cons h2 h4⟩
theorem mapM_length {α : Type} {xs : List α} : ∀ {pm : List Nat} {zs : List α}, pm.mapM (fun i => xs[i]?) = some zs → zs.length = pm.length
  | [], zs, e => by simp at e; subst e; rfl
  | i :: pm, zs, e => by
    simp only [List.mapM_cons, Option.bind_eq_bind, Option.bind_eq_some_iff] at e
    obtain ⟨y, e1, ys, e2, e3⟩ := e
    cases e3
    simp [mapM_length e2]
theorem run_kw {pins : List (Addr × Obj)} {σ : L2.St} {H : Hp} {s : Shared} {Q : VK} {us ws : List Value} {vs zs : List V} {ks : List Str} {npos : Nat} {pm : List Nat} {xs ys ts : List PV} {ι : List Addr} {ph : PH}
    (F : FnOk X.prog X.w X.K X.mg X.base (L2N.CX X.prog X.w) k f fd ps (spC X.mg C.call i ps.length)) (hr : Room k X.A) (hb : KwBinds X.K fd ps ks npos pm) (tk : L2N.Takes X W) (hpm : pm.length = ps.length)
    (I : L2.Inv X pins σ H s) (r : Vals vs us) (rz : Vals zs ws) (h1 : HRep X.mg ι H ph) (hx : Reps X.mg ι H xs vs) (hy : Reps X.mg ι H ys zs) (ht : pm.mapM (fun i => (xs ++ ys)[i]?) = some ts) (hl1 : us.length = npos) (hl2 : ws.length = ks.length)
    (h4 : Fin X.mg W σ (Rep X.mg) Q ι H (C.call i ts ph)) : wpAny (model X.prog X.w) X.A (call (.ref f) us (ks.zip ws)) (EP X pins σ Q) X.xe s := by
  obtain ⟨vv, e1, rv⟩ := mapM_reps (hx.append hy) ht
  obtain ⟨uu, e2, ru⟩ := mapM_vals (r.append rz) e1
  have hl := mapM_length e1
  have hsp : spC X.mg C.call i ps.length vv H Q (WE W σ) := ⟨by rw [hl]; exact hpm, ι, ph, ts, h1, rv, h4.at_ fun _ _ _ w => w⟩
  refine wpAny_call (codeAny_mono (F.run X.A X.stack s H ⟨us, ks.zip ws⟩ uu vv Q (WE W σ) hr I.env0 (hb s us ws uu I.kIn hl1 hl2 e2) ru hsp) fun r s' hq => ?_)
  cases r with
  | error e => exact L2N.passAt tk σ pins H s e s' I hq
  | ok fl =>
    cases fl with
    | ret u => exact I.after hq
    | next => exact False.elim hq
    | brk => exact False.elim hq
    | cont => exact False.elim hq
theorem s_callk {kws : List Keyword} {ks : List Str} {ke : Exs} {pm : List Nat} (F : FnOk X.prog X.w X.K X.mg X.base (L2N.CX X.prog X.w) k f fd ps (spC X.mg C.call i ps.length)) (hr : Room k X.A) (hg : Gl X x) (hm : X.mg x = some (.ref f)) (hk : PySem.W.keepIn X.K (.ref f) = true)
    (hb : KwBinds X.K fd ps ks (A :: Es).length pm) (hpm : pm.length = ps.length) (tk : L2N.Takes X W) (ha : SA X C W (A :: Es) (.cons a es)) (hkw : SK X C W kws ke) (hp : plains (A :: Es) = true)
    (hall : (backToKw pos (keywordEach kws X.env)).all (·.1.isSome) = true) (hks : (backToKw pos (keywordEach kws X.env)).filterMap (·.1) = ks) (hno : (backToKw pos (keywordEach kws X.env)).any (·.1.isNone) = false)
    (hdb : (x == ("__debug__" : Str)) = false) (hla : ∀ {ρ h xs h'}, evs C (.cons a es) ρ h = .ok xs h' → xs.length = (A :: Es).length) (hlk : ∀ {ρ h xs h'}, evs C ke ρ h = .ok xs h' → xs.length = ks.length) :
    SE X C W (.Call (.Name x p) (A :: Es) kws pos) (.callk i (.cons a es) ke pm) := by
  have hp' : plain A = true ∧ plains Es = true := by simpa [plains] using hp
  refine ⟨fun pins s σ H Q I h => ?_⟩
  obtain ⟨ι, ρ, ph, h1, h2, h3⟩ := h
  refine wpAny_Call_Name_kw (ld_glob I hg hm ?_ hdb)
  have hA := ha.run pos pins s σ H (fun vs H1 => ∃ ι1 ph1 xs, HRep X.mg ι1 H1 ph1 ∧ REnv X.mg ι1 H1 ρ σ ∧ Reps X.mg ι1 H1 xs vs ∧ xs.length = (A :: Es).length ∧ Fin X.mg W σ (Rep X.mg) Q ι1 H1 ((evs C ke ρ ph1).bind fun ys h => (opt (pm.mapM fun i => (xs ++ ys)[i]?) h).bind fun zs h => C.call i zs h)) I ⟨ι, ρ, ph, h1, h2, ?_⟩
  · refine PySem.W.callWith_KW (h₀ := X.base) I.ok.mod.kin hk hall (thn hA fun us s1 q => ?_) (by rw [plains_any hp, hno]; rfl) (plain_star hp'.1 _ _)
    obtain ⟨vs, H1, I1, r, ι1, ph1, xs, k1, k2, k3, k4, k5⟩ := q
    have hK := hkw.run pos pins s1 σ H1 (fun zs H2 => ∃ ι2 ph2 ys ts, HRep X.mg ι2 H2 ph2 ∧ Reps X.mg ι2 H2 xs vs ∧ Reps X.mg ι2 H2 ys zs ∧ ys.length = ks.length ∧ pm.mapM (fun i => (xs ++ ys)[i]?) = some ts ∧ Fin X.mg W σ (Rep X.mg) Q ι2 H2 (C.call i ts ph2)) I1 ⟨ι1, ρ, ph1, k1, k2, ?_⟩
    · refine thn hK fun ws s2 q2 => ?_
      obtain ⟨zs, H2, I2, rz, ι2, ph2, ys, ts, m1, m2, m3, m4, m5, m6⟩ := q2
      refine ⟨I2.kIn, ?_⟩
      rw [hks]
      exact run_kw (us := us) F hr hb tk hpm I2 r rz m1 m2 m3 m5 (by rw [← r.length, ← k3.length]; exact k4) (by rw [← rz.length, ← m3.length]; exact m4) m6
    · cases he : evs C ke ρ ph1 with
      | ok ys ph2 =>
        rw [he] at k5
        intro ι2 H2 zs e n1 n2
        obtain ⟨ts, t1, t2⟩ := (Fin.base e k5).optb
        exact ⟨ι2, ph2, ys, ts, n1, k3.mono e, n2, hlk he, t1, t2⟩
      | exc _ _ _ => rw [he] at k5; exact k5
      | bad => rw [he] at k5; exact k5
  · change Fin X.mg W σ (Rep X.mg) Q ι H ((evs C (.cons a es) ρ ph).bind _) at h3
    cases he : evs C (.cons a es) ρ ph with
    | ok xs ph1 =>
      rw [he] at h3
      intro ι1 H1 vs e n1 n2
      exact ⟨ι1, ph1, xs, n1, h2.mono e, n2, hla he, Fin.base e h3⟩
    | exc _ _ _ => rw [he] at h3; exact h3
    | bad => rw [he] at h3; exact h3
theorem s_callk0 {kws : List Keyword} {ks : List Str} {ke : Exs} {pm : List Nat} (F : FnOk X.prog X.w X.K X.mg X.base (L2N.CX X.prog X.w) k f fd ps (spC X.mg C.call i ps.length)) (hr : Room k X.A) (hg : Gl X x) (hm : X.mg x = some (.ref f)) (hk : PySem.W.keepIn X.K (.ref f) = true)
    (hb : KwBinds X.K fd ps ks 0 pm) (hpm : pm.length = ps.length) (tk : L2N.Takes X W) (hkw : SK X C W kws ke)
    (hall : (backToKw pos (keywordEach kws X.env)).all (·.1.isSome) = true) (hks : (backToKw pos (keywordEach kws X.env)).filterMap (·.1) = ks) (hno : (backToKw pos (keywordEach kws X.env)).any (·.1.isNone) = false)
    (hdb : (x == ("__debug__" : Str)) = false) (hlk : ∀ {ρ h xs h'}, evs C ke ρ h = .ok xs h' → xs.length = ks.length) :
    SE X C W (.Call (.Name x p) [] kws pos) (.callk i .nil ke pm) := by
  refine ⟨fun pins s σ H Q I h => ?_⟩
  obtain ⟨ι, ρ, ph, h1, h2, h3⟩ := h
  change Fin X.mg W σ (Rep X.mg) Q ι H ((evs C ke ρ ph).bind fun ys h => (opt (pm.mapM fun i => ([] ++ ys)[i]?) h).bind fun zs h => C.call i zs h) at h3
  refine wpAny_Call_Name_kw (ld_glob I hg hm ?_ hdb)
  refine PySem.W.callWith_KW0 (h₀ := X.base) I.ok.mod.kin hk hall ?_ (by rw [hno]; rfl)
  have hK := hkw.run pos pins s σ H (fun zs H2 => ∃ ι2 ph2 ys ts, HRep X.mg ι2 H2 ph2 ∧ Reps X.mg ι2 H2 ys zs ∧ ys.length = ks.length ∧ pm.mapM (fun i => ([] ++ ys)[i]?) = some ts ∧ Fin X.mg W σ (Rep X.mg) Q ι2 H2 (C.call i ts ph2)) I ⟨ι, ρ, ph, h1, h2, ?_⟩
  · refine thn hK fun ws s2 q2 => ?_
    obtain ⟨zs, H2, I2, rz, ι2, ph2, ys, ts, m1, m3, m4, m5, m6⟩ := q2
    refine ⟨I2.kIn, ?_⟩
    rw [hks]
    exact run_kw (us := []) (vs := []) (xs := []) F hr hb tk hpm I2 .nil rz m1 rfl m3 m5 rfl (by rw [← rz.length, ← m3.length]; exact m4) m6
  · cases he : evs C ke ρ ph with
    | ok ys ph2 =>
      rw [he] at h3
      intro ι2 H2 zs e n1 n2
      obtain ⟨ts, t1, t2⟩ := (Fin.base e h3).optb
      exact ⟨ι2, ph2, ys, ts, n1, n2, hlk he, t1, t2⟩
    | exc _ _ _ => rw [he] at h3; exact h3
    | bad => rw [he] at h3; exact h3
/-! built-in functions, types -/
theorem cb_imp {r : List V → Hp → VK → Prop} {b : Bi} {h : SA X C W (A :: Es) (.cons a es)} {t : TE} (hr : r = rs X.mg (biV b)) (ht : t = tCB r (rd X.mg W (Reps X.mg) (evs C (.cons a es)))) {E : Expr} (he : PE X E t) : SE X C W E (.bi b (.cons a es)) := by
  subst hr ht
  exact he.imp fun σ H Q h => step (m := evs C (.cons a es)) h fun xs H1 ι1 ρ ph1 ys h1 h2 h3 h4 => ⟨ι1, ph1, ys, h1, h3, h4.prim⟩
theorem s_bi {b : Bi} {id : String} (hc : CallR X (.builtin id) (rs X.mg (biV b))) (hg : Gl X x) (hm : X.mg x = none) (hv : bootBuiltins x = some (.builtin id)) (ha : SA X C W (A :: Es) (.cons a es)) (hp : plains (A :: Es) = true) (hn : x ≠ "__name__") (hdb : (x == ("__debug__" : Str)) = false) :
    SE X C W (.Call (.Name x p) (A :: Es) [] pos) (.bi b (.cons a es)) := by
  have hp' : plain A = true ∧ plains Es = true := by simpa [plains] using hp
  exact cb_imp (h := ha) rfl rfl (pe_callB hc hg hm hv ha hn hdb (plain_star hp'.1 _ _) (plains_any hp'.2))
theorem s_biT {b : Bi} {T : String} (hc : CallR X (.type T) (rs X.mg (biV b))) (hg : Gl X x) (hm : X.mg x = none) (hv : bootBuiltins x = some (.type T)) (ha : SA X C W (A :: Es) (.cons a es)) (hp : plains (A :: Es) = true) (hn : x ≠ "__name__") (hdb : (x == ("__debug__" : Str)) = false) :
    SE X C W (.Call (.Name x p) (A :: Es) [] pos) (.bi b (.cons a es)) := by
  have hp' : plain A = true ∧ plains Es = true := by simpa [plains] using hp
  exact cb_imp (h := ha) rfl rfl (pe_callTy hc hg hm hv ha hn hdb (plain_star hp'.1 _ _) (plains_any hp'.2))
theorem s_biI {b : Bi} {id : String} (hc : CallR X (.builtin id) (rs X.mg (biV b))) (hg : Gl X x) (hm : X.mg x = some (.builtin id)) (ha : SA X C W (A :: Es) (.cons a es)) (hp : plains (A :: Es) = true) (hdb : (x == ("__debug__" : Str)) = false) :
    SE X C W (.Call (.Name x p) (A :: Es) [] pos) (.bi b (.cons a es)) := by
  have hp' : plain A = true ∧ plains Es = true := by simpa [plains] using hp
  exact cb_imp (h := ha) rfl rfl (pe_callBfun hc hg hm ha hdb (plain_star hp'.1 _ _) (plains_any hp'.2))
/-! methods -/
/-- what a method's receiver must be -/
def mtT : Mt → String
  | .join => "str"
  | .get => "dict"
  | .setdefault => "dict"
  | _ => "list"
theorem ty_at {K : PySem.W.Frag} {mg : Str → Option Value} {ι : List Addr} {H : Hp} {ph : PH} {m : Mt} {q : PV} {y : V} (h1 : HRep mg ι H ph) (h3 : Rep mg ι H q y) (h : mtTy m q ph = true) : tyV K (mtT m) y H := by
  cases q with
  | ref n =>
    have lst : ∀ {xs}, ph[n]? = some (.lst xs) → mtT m = "list" → tyV K (mtT m) y H := fun {xs} e em => by
      obtain ⟨p, _, rfl, vs, hp, _⟩ := ref_at h1 h3 e
      exact .inl ⟨em, vs, .of hp⟩
    have dk : ∀ {xs}, ph[n]? = some (.dk xs) → mtT m = "dict" → tyV K (mtT m) y H := fun {xs} e em => by
      obtain ⟨p, _, rfl, vs, hp, _⟩ := ref_at h1 h3 e
      exact .inr (.inr (.inl ⟨em, .inl ⟨vs, hp⟩⟩))
    have dt : ∀ {xs}, ph[n]? = some (.dt xs) → mtT m = "dict" → tyV K (mtT m) y H := fun {xs} e em => by
      obtain ⟨p, _, rfl, vs, hp, _⟩ := ref_at h1 h3 e
      exact .inr (.inr (.inl ⟨em, .inr ⟨vs, hp⟩⟩))
    cases m <;> simp only [mtTy] at h <;> first
      | (split at h <;> first | (rename_i e; exact lst e rfl) | (rename_i e; exact dk e rfl) | (rename_i e; exact dt e rfl) | cases h)
      | cases h
  | str z =>
    cases h3
    cases m <;> first | rfl | cases h
  | _ => cases m <;> cases h
/-- a receiver that is no bare call of no argument (super) -/
def noSup : Expr → Bool
  | .Call (.Name _ _) [] [] _ => false
  | _ => true
theorem noSup_base {o : Expr} {m : Str} {env : PySem.Env} (h : noSup o = true) : attributeBase o m env (eval o env) = eval o env := by
  unfold attributeBase
  split
  · exact nomatch h
  · rfl
theorem s_mt0 {o : Expr} {q : Ex} {m : Mt} {name : Str} {id : String} {cpos : Pos} (pa : PlainAttrs (mtT m)) (slot : Slot (mtT m) name id) (hty : typeOf (.builtin id) = pure (.type "method_descriptor")) (hm : MtR X id (rm X.mg m)) (ho : SE X C W o q) (hb : noSup o = true) (hline : (apos.endLine == cpos.line) = true) :
    SE X C W (.Call (.Attribute o name apos) [] [] cpos) (.mt m q .nil) :=
  (pe_bm0 pa slot hty hm ho (noSup_base hb) hline).imp fun σ H Q h => step (m := ev C q) h fun x H1 ι1 ρ ph1 p h1 h2 h3 h4 => by
    obtain ⟨g, h4⟩ := h4.guard
    exact ⟨ty_at h1 h3 g, ι1, ph1, p, [], h1, h3, rfl, h4.prim⟩
theorem s_mt {o : Expr} {q : Ex} {m : Mt} {name : Str} {id : String} {cpos : Pos} (pa : PlainAttrs (mtT m)) (slot : Slot (mtT m) name id) (hty : typeOf (.builtin id) = pure (.type "method_descriptor")) (hm : MtR X id (rm X.mg m)) (ho : SE X C W o q) (hb : noSup o = true) (hline : (apos.endLine == cpos.line) = true)
    (ha : SA X C W (A :: Es) (.cons a es)) (hp : plains (A :: Es) = true) (hl : (A :: Es).length < 30) : SE X C W (.Call (.Attribute o name apos) (A :: Es) [] cpos) (.mt m q (.cons a es)) := by
  have hp' : plain A = true ∧ plains Es = true := by simpa [plains] using hp
  refine (pe_bm pa slot hty hm ho ha (noSup_base hb) ?_ hline (plain_star hp'.1 _ _) (plains_any hp'.2)).imp fun σ H Q h => step (m := ev C q) h fun x H1 ι1 ρ ph1 p h1 h2 h3 h4 => ?_
  · rw [plains_all hp]
    show (true && true && decide ((A :: Es).length + 0 + 0 < 30)) = true
    simpa using hl
  · obtain ⟨g, h4⟩ := h4.guard
    exact ⟨ty_at h1 h3 g, ι1, ρ, ph1, h1, h2, h4.then fun ys H2 ι2 ph2 qs e k1 k2 k3 => ⟨ι2, ph2, p, qs, k1, h3.mono e, k2, k3.prim⟩⟩
/-! tests: and, or -/
def SW (X : Cx) (C : Cfg) (W : WX) (E : Expr) (e : Ex) : Prop := PW X E (rd X.mg W eqb (evT C e))
end
end Pu

set_option Elab.async false
set_option linter.all false
set_option maxRecDepth 100000
/-! Pu12: tests by and, or; what is walked; targets. -/
namespace Pu
open PySem PySem.Spec PyProof.Rows L2
section
variable {X : Cx} {C : Cfg} {W : WX} {A B D : Expr} {a b c : Ex} {pos p : Pos} {Es : List Expr} {es : Exs}
theorem SW.st (h : SW X C W A a) : ST X C W A a := PW.pt h
/-- a test of and, or: one step -/
theorem evT_one (C : Cfg) (a : Ex) (ρ : Pu.Env) (ph : PH) : evT C (.and (.cons a .nil)) ρ ph = evT C a ρ ph ∧ evT C (.or (.cons a .nil)) ρ ph = evT C a ρ ph := by
  have e1 : ev C (.and (.cons a .nil)) ρ ph = (ev C a ρ ph).bind fun x h => .ok x h := rfl
  have e2 : ev C (.or (.cons a .nil)) ρ ph = (ev C a ρ ph).bind fun x h => .ok x h := rfl
  unfold evT
  rw [e1, e2, Res.bind_ret]
  exact ⟨rfl, rfl⟩
theorem truthy_same {v : PV} {h h' : PH} {t : Bool} (e : truthy v h = .ok t h') : h' = h := by
  unfold truthy at e
  repeat' split at e
  all_goals first | (cases e; rfl) | (unfold guardR at e; split at e <;> cases e; rfl) | cases e
theorem evT_and (C : Cfg) (a b : Ex) (es : Exs) (ρ : Pu.Env) (ph : PH) : evT C (.and (.cons a (.cons b es))) ρ ph = (evT C a ρ ph).bind fun t h => if t = true then evT C (.and (.cons b es)) ρ h else .ok false h := by
  have e1 : ev C (.and (.cons a (.cons b es))) ρ ph = (ev C a ρ ph).bind fun x h => (truthy x h).bind fun t h => if t = true then ev C (.and (.cons b es)) ρ h else .ok x h := rfl
  unfold evT
  rw [e1, Res.bind_assoc, Res.bind_assoc]
  congr 1
  funext x h
  rw [Res.bind_assoc]
  cases ht : truthy x h with
  | ok t h' =>
    obtain rfl := truthy_same ht
    cases t with
    | true => rfl
    | false => exact ht
  | exc _ _ _ => rfl
  | bad => rfl
theorem evT_or (C : Cfg) (a b : Ex) (es : Exs) (ρ : Pu.Env) (ph : PH) : evT C (.or (.cons a (.cons b es))) ρ ph = (evT C a ρ ph).bind fun t h => if t = true then .ok true h else evT C (.or (.cons b es)) ρ h := by
  have e1 : ev C (.or (.cons a (.cons b es))) ρ ph = (ev C a ρ ph).bind fun x h => (truthy x h).bind fun t h => if t = true then .ok x h else ev C (.or (.cons b es)) ρ h := rfl
  unfold evT
  rw [e1, Res.bind_assoc, Res.bind_assoc]
  congr 1
  funext x h
  rw [Res.bind_assoc]
  cases ht : truthy x h with
  | ok t h' =>
    obtain rfl := truthy_same ht
    cases t with
    | false => rfl
    | true => exact ht
  | exc _ _ _ => rfl
  | bad => rfl
theorem w_and1 (ha : ST X C W A a) : SW X C W (.BoolOp .And [A] pos) (.and (.cons a .nil)) :=
  (pw_and1 ha).imp fun σ H Q ⟨ι, ρ, ph, h1, h2, h3⟩ => ⟨ι, ρ, ph, h1, h2, by rw [(evT_one C a ρ ph).1] at h3; exact h3⟩
theorem w_or1 (ha : ST X C W A a) : SW X C W (.BoolOp .Or [A] pos) (.or (.cons a .nil)) :=
  (pw_or1 ha).imp fun σ H Q ⟨ι, ρ, ph, h1, h2, h3⟩ => ⟨ι, ρ, ph, h1, h2, by rw [(evT_one C a ρ ph).2] at h3; exact h3⟩
theorem w_and (ha : ST X C W A a) (hb : SW X C W (.BoolOp .And (B :: Es) pos) (.and (.cons b es))) : SW X C W (.BoolOp .And (A :: B :: Es) pos) (.and (.cons a (.cons b es))) :=
  (pw_and ha hb).imp fun σ H Q ⟨ι, ρ, ph, h1, h2, h3⟩ => by
    rw [evT_and] at h3
    refine ⟨ι, ρ, ph, h1, h2, h3.then fun k H1 ι1 ph1 t ex k1 k2 k3 => ?_⟩
    cases k2
    cases k with
    | true => exact ⟨ι1, ρ, ph1, k1, h2.mono ex, k3⟩
    | false => exact k3.here k1 rfl
theorem w_or (ha : ST X C W A a) (hb : SW X C W (.BoolOp .Or (B :: Es) pos) (.or (.cons b es))) : SW X C W (.BoolOp .Or (A :: B :: Es) pos) (.or (.cons a (.cons b es))) :=
  (pw_or ha hb).imp fun σ H Q ⟨ι, ρ, ph, h1, h2, h3⟩ => by
    rw [evT_or] at h3
    refine ⟨ι, ρ, ph, h1, h2, h3.then fun k H1 ι1 ph1 t ex k1 k2 k3 => ?_⟩
    cases k2
    cases k with
    | false => exact ⟨ι1, ρ, ph1, k1, h2.mono ex, k3⟩
    | true => exact k3.here k1 rfl
theorem t_ite (hc : ST X C W D c) (ha : ST X C W A a) (hb : ST X C W B b) : ST X C W (.IfExp D A B pos) (.ite c a b) := by
  refine ⟨fun pins s σ H Q I h => ?_⟩
  obtain ⟨ι, ρ, ph, h1, h2, h3⟩ := h
  have e : evT C (.ite c a b) ρ ph = (evT C c ρ ph).bind fun t h => if t = true then evT C a ρ h else evT C b ρ h := by
    have e1 : ev C (.ite c a b) ρ ph = (evT C c ρ ph).bind fun t h => if t = true then ev C a ρ h else ev C b ρ h := (Res.bind_assoc _ _ _).symm
    unfold evT at e1 ⊢
    rw [e1, Res.bind_assoc]
    congr 1
    funext t h
    cases t <;> rfl
  rw [e] at h3
  refine isTrue_IfExp (thn (hc.run pins s σ H _ I ⟨ι, ρ, ph, h1, h2, Fin.bind h3⟩) fun t s1 ⟨H1, I1, ι1, ph1, t', ex, k1, k2, k3⟩ => ?_)
  cases k2
  cases t with
  | true => exact ha.run pins s1 σ H1 Q I1 ⟨ι1, ρ, ph1, k1, h2.mono ex, k3⟩
  | false => exact hb.run pins s1 σ H1 Q I1 ⟨ι1, ρ, ph1, k1, h2.mono ex, k3⟩
end
/-! ### what is walked -/
/-- an iterator of the machine that walks these items while these objects stay -/
def WalkP (mg : Str → Option Value) : List Addr → Hp → (List PV × Gd) → It → Prop := fun ι H s J => ∃ G Y, Walk J s.1.length G Y ∧
  (∀ ι2 H2 ph2, MonF ι H ι2 H2 → HRep mg ι2 H2 ph2 → gdOk s.2 ph2 = true → G H2) ∧
  ∀ i H2 x H3 ι2 ph2, i < s.1.length → MonF ι H ι2 H2 → HRep mg ι2 H2 ph2 → gdOk s.2 ph2 = true → Y i H2 x H3 → Ext ι2 H2 ι2 H3 ∧ HRep mg ι2 H3 ph2 ∧ ∃ p, s.1[i]? = some p ∧ Rep mg ι2 H3 p x
def SI (X : Cx) (C : Cfg) (W : WX) (tg E : Expr) (it : Si) : Prop := PI X tg E (rd X.mg W (WalkP X.mg) (evIt C it))
section
variable {mg : Str → Option Value} {ι : List Addr} {H : Hp} {ph : PH} {K : PySem.W.Frag}
/-- a pair that a walk lays -/
theorem pair_rep {ι2 : List Addr} {H2 : Hp} {ph2 : PH} {T : Addr} {p q : PV} {x y : V} (h : HRep mg ι2 H2 ph2) (hT : H2 T = none) (rp : Rep mg ι2 H2 p x) (rq : Rep mg ι2 H2 q y) :
    Ext ι2 H2 ι2 (upd H2 T (.tup [x, y])) ∧ HRep mg ι2 (upd H2 T (.tup [x, y])) ph2 ∧ Rep mg ι2 (upd H2 T (.tup [x, y])) (.tup [p, q]) (.ref T) :=
  ⟨ext0 hT, h.aside hT, T, _, rfl, upd_same, by show 2 ≤ sizeLine; decide, x, [y], rfl, rp.mono (ext0 hT), y, [], rfl, rq.mono (ext0 hT), rfl⟩
theorem gd_at {g : Gd} {n : Nat} {o : PO} {ph2 : PH} (h : gdOk g ph2 = true) (hm : (n, o) ∈ g) : ph2[n]? = some o := by
  have := List.all_eq_true.mp h _ hm
  simpa using this
/-- what stands of a thing that is walked: a tuple, a list, the script -/
inductive Src (mg : Str → Option Value) (K : PySem.W.Frag) (ι : List Addr) (H : Hp) (s : List PV × Gd) (v : V) : Prop where
  | tup (a : Addr) (vs : List V) (e : v = .ref a) (h : H a = some (.tup vs)) (r : Reps mg ι H s.1 vs)
  | lst (a : Addr) (n : Nat) (e : v = .ref a) (hn : ι[n]? = some a) (hm : (n, PO.lst s.1) ∈ s.2) (h : ∃ vs, SqL K H a vs ∧ vs.length = s.1.length)
  | fz (a : Addr) (n : Nat) (ns : List Int) (e : v = .ref a) (hn : ι[n]? = some a) (hm : (n, PO.fz ns) ∈ s.2) (hs : s.1 = ns.map .int) (h : ∃ vs, SqL K H a vs ∧ vs.length = s.1.length)
theorem src_of {v : PV} {x : V} {s : List PV × Gd} {ph' : PH} (hr : HRep mg ι H ph) (r : Rep mg ι H v x) (e : walkV v ph = .ok s ph') : ph' = ph ∧ Src mg K ι H s x := by
  unfold walkV at e
  split at e
  · cases e
    obtain ⟨a, vs, rfl, h, _, hs⟩ := r
    exact ⟨rfl, .tup a vs rfl h hs⟩
  · rename_i n
    obtain ⟨a, ha, rfl⟩ := r
    split at e
    · rename_i xs e1
      cases e
      obtain ⟨vs, h1, _, h2⟩ := hr.obj n _ _ ha e1
      exact ⟨rfl, .lst a n rfl ha (by simp) ⟨vs, .of h1, h2.length.symm⟩⟩
    · rename_i ns e1
      cases e
      obtain ⟨o, h1, _⟩ := hr.obj n _ _ ha e1
      exact ⟨rfl, .fz a _ _ rfl ha (by simp) rfl ⟨_, .inl (.inr ⟨o, h1⟩), by simp⟩⟩
    · cases e
  · cases e
/-- the list at a's place, later -/
theorem Src.list {s : List PV × Gd} {v : V} (h : Src mg K ι H s v) {a : Addr} (ha : v = .ref a) (nt : ∀ vs, H a ≠ some (.tup vs)) {ι2 : List Addr} {H2 : Hp} {ph2 : PH} (ex : Mon ι H ι2 H2) (hr : HRep mg ι2 H2 ph2) (hg : gdOk s.2 ph2 = true) :
    ∃ vs, SqL K H2 a vs ∧ Reps mg ι2 H2 s.1 vs := by
  subst ha
  cases h with
  | tup b vs e h r => cases e; exact (nt _ h).elim
  | lst b n e hn hm _ =>
    cases e
    obtain ⟨vs, h1, _, h2⟩ := hr.obj n _ _ (ex.get _ _ hn) (gd_at hg hm)
    exact ⟨vs, .of h1, h2⟩
  | fz b n ns e hn hm hs _ =>
    cases e
    obtain ⟨o, h1, _⟩ := hr.obj n _ _ (ex.get _ _ hn) (gd_at hg hm)
    exact ⟨_, .inl (.inr ⟨o, h1⟩), by rw [hs]; exact Reps.ofInts ns⟩
/-- whether it is a tuple -/
theorem Src.kind {s : List PV × Gd} {v : V} (hr : HRep mg ι H ph) (h : Src mg K ι H s v) : ∃ a, v = .ref a ∧ ((∃ vs, H a = some (.tup vs) ∧ Reps mg ι H s.1 vs) ∨ ∀ vs, H a ≠ some (.tup vs)) := by
  have no : ∀ {n : Nat} {a : Addr}, ι[n]? = some a → ∀ vs, H a ≠ some (.tup vs) := fun {n a} hn vs e => by
    obtain ⟨u, hu, hut⟩ := hr.mem (List.mem_of_getElem? hn)
    rw [e] at hu; cases hu
    exact hut _ rfl
  cases h with
  | tup a vs e h r => exact ⟨a, e, .inl ⟨vs, h, r⟩⟩
  | lst a n e hn hm _ => exact ⟨a, e, .inr (no hn)⟩
  | fz a n ns e hn hm hs _ => exact ⟨a, e, .inr (no hn)⟩
theorem walk_tupP {s : List PV × Gd} {a : Addr} {vs : List V} (h : H a = some (.tup vs)) (r : Reps mg ι H s.1 vs) : WalkP mg ι H s (Itt K a) :=
  ⟨fun H => SqT K H a vs, YAt vs, by rw [r.length]; exact walk_tup, fun ι2 H2 ph2 ex _ _ => .of (ex.tups _ _ h), fun i H2 x H3 ι2 ph2 hi ex hr hg y => by
    obtain ⟨rfl, hx⟩ := y
    obtain ⟨p, hp, rp⟩ := (Reps.mon ex.toMon _ _ r).getV hx
    exact ⟨.refl, hr, p, hp, rp⟩⟩
theorem walk_listP {s : List PV × Gd} {a : Addr} (h : Src mg K ι H s (.ref a)) (nt : ∀ vs, H a ≠ some (.tup vs)) : WalkP mg ι H s (Itl K a) :=
  ⟨fun H => ∃ vs, SqL K H a vs ∧ vs.length = s.1.length, fun i H x H' => H' = H ∧ ∀ vs, SqL K H a vs → vs[i]? = some x,
    ⟨fun i H hi ⟨vs, h1, h2⟩ => ⟨vs, vs[i]'(by omega), h1, by simp⟩, fun H ⟨vs, h1, h2⟩ => ⟨vs, h1, by omega⟩, fun i H x H' _ _ y => y⟩,
    fun ι2 H2 ph2 ex hr hg => by
      obtain ⟨vs, h1, h2⟩ := h.list rfl nt ex.toMon hr hg
      exact ⟨vs, h1, h2.length.symm⟩,
    fun i H2 x H3 ι2 ph2 hi ex hr hg y => by
      obtain ⟨rfl, hx⟩ := y
      obtain ⟨vs, h1, h2⟩ := h.list rfl nt ex.toMon hr hg
      obtain ⟨p, hp, rp⟩ := h2.getV (hx vs h1)
      exact ⟨.refl, hr, p, hp, rp⟩⟩
theorem walk_rngP {i j : Int} {n : Nat} (hn : n = (j - i).toNat) : WalkP mg ι H ((List.range n).map (fun (k : Nat) => PV.int (i + k)), []) (Itr i n) :=
  ⟨fun _ => True, YFn fun k => .int (i + k), by rw [List.length_map, List.length_range]; exact walk_range, fun _ _ _ _ _ _ => trivial, fun k H2 x H3 ι2 ph2 hk ex hr hg y => by
    obtain ⟨rfl, rfl⟩ := y
    have hk : k < n := by simpa using hk
    exact ⟨.refl, hr, .int (i + k), by simp [hk], rfl⟩⟩
theorem walk_rngCP {i c : Int} {n : Nat} : WalkP mg ι H ((List.range n).map (fun (k : Nat) => PV.int (i + (k : Int) * c)), []) (Itc i c n) :=
  ⟨fun _ => True, YFn fun k => .int (i + (k : Int) * c), by rw [List.length_map, List.length_range]; exact walk_rangeC, fun _ _ _ _ _ _ => trivial, fun k H2 x H3 ι2 ph2 hk ex hr hg y => by
    obtain ⟨rfl, rfl⟩ := y
    have hk : k < n := by simpa using hk
    exact ⟨.refl, hr, .int (i + (k : Int) * c), by simp [hk], rfl⟩⟩
end
section
variable {X : Cx} {C : Cfg} {W : WX} {tg A B : Expr} {a b : Ex} {pos p tpos : Pos} {Es : List Expr} {es : Exs}
/-- a tuple, or not: that is settled where the evaluation begins -/
theorem split_src {m : Pu.Env → PH → Res PV} {g : (List PV × Gd) → PH → Res (List PV × Gd)} {σ : L2.St} {H : Hp} {R : It → Hp → Prop} (h : rd X.mg W (WalkP X.mg) (fun ρ ph => (m ρ ph).bind fun v h => (noX (walkV v h)).bind g) σ H R) :
    (rd X.mg W (Rep X.mg) m σ H fun x H1 => ∃ ι1 ph1 s a vs, HRep X.mg ι1 H1 ph1 ∧ x = .ref a ∧ H1 a = some (.tup vs) ∧ Reps X.mg ι1 H1 s.1 vs ∧ Fin X.mg W σ (WalkP X.mg) R ι1 H1 (g s ph1)) ∨
    rd X.mg W (Rep X.mg) m σ H fun x H1 => ∃ ι1 ph1 s a, HRep X.mg ι1 H1 ph1 ∧ x = .ref a ∧ Src X.mg X.K ι1 H1 s (.ref a) ∧ (∀ vs, H1 a ≠ some (.tup vs)) ∧ Fin X.mg W σ (WalkP X.mg) R ι1 H1 (g s ph1) := by
  obtain ⟨ι, ρ, ph, h1, h2, h3⟩ := h
  change Fin X.mg W σ (WalkP X.mg) R ι H ((m ρ ph).bind fun v h => (noX (walkV v h)).bind g) at h3
  cases hm : m ρ ph with
  | exc _ _ _ => rw [hm] at h3; exact .inl ⟨ι, ρ, ph, h1, h2, by rw [hm]; exact h3⟩
  | bad => rw [hm] at h3; exact False.elim h3
  | ok v ph1 =>
    rw [hm] at h3
    change Fin X.mg W σ (WalkP X.mg) R ι H ((noX (walkV v ph1)).bind g) at h3
    cases hw : walkV v ph1 with
    | exc _ _ _ => rw [hw] at h3; exact False.elim h3
    | bad => rw [hw] at h3; exact False.elim h3
    | ok s ph2 =>
      rw [hw] at h3
      cases v with
      | tup xs =>
        refine .inl ⟨ι, ρ, ph, h1, h2, ?_⟩
        rw [hm]
        intro ι1 H1 x e k1 k2
        cases hw
        obtain ⟨a, vs, rfl, hv, _, hs⟩ := k2
        exact ⟨ι1, ph1, _, a, vs, k1, rfl, hv, hs, Fin.base e h3⟩
      | ref n =>
        refine .inr ⟨ι, ρ, ph, h1, h2, ?_⟩
        rw [hm]
        intro ι1 H1 x e k1 k2
        obtain ⟨rfl, hs⟩ := src_of (K := X.K) k1 k2 hw
        obtain ⟨a, ha, rfl⟩ := k2
        refine ⟨ι1, ph2, s, a, k1, rfl, hs, fun vs hv => ?_, Fin.base e h3⟩
        obtain ⟨u, hu, hut⟩ := k1.mem (List.mem_of_getElem? ha)
        rw [hv] at hu; cases hu
        exact hut _ rfl
      | _ => cases hw
theorem PI.or' {t t' u : TI} (h : PI X tg A t) (h' : PI X tg A t') (i : ∀ σ H R, u σ H R → t σ H R ∨ t' σ H R) : PI X tg A u := ⟨fun pins s σ H R I q => by
  rcases i σ H R q with q | q
  · exact h.run pins s σ H R I q
  · exact h'.run pins s σ H R I q⟩
theorem i_val (ha : SE X C W A a) : SI X C W tg A (.val a) :=
  PI.or' (pi_tup ha) (pi_list ha) fun σ H R h => by
    have h' : rd X.mg W (WalkP X.mg) (fun ρ ph => (ev C a ρ ph).bind fun v h => (noX (walkV v h)).bind fun s h => .ok s h) σ H R := by
      obtain ⟨ι, ρ, ph, h1, h2, h3⟩ := h
      refine ⟨ι, ρ, ph, h1, h2, ?_⟩
      have e : ((ev C a ρ ph).bind fun v h => (noX (walkV v h)).bind fun s h => .ok s h) = (ev C a ρ ph).bind fun v h => noX (walkV v h) := by
        congr 1
        funext v h
        exact Res.bind_ret _
      show Fin X.mg W σ (WalkP X.mg) R ι H ((ev C a ρ ph).bind fun v h => (noX (walkV v h)).bind fun s h => .ok s h)
      rw [e]
      exact h3
    rcases split_src h' with h | h
    · exact .inl (rd_mono h fun x H1 ⟨ι1, ph1, s, a, vs, k1, e, hv, hs, hF⟩ => ⟨a, e, ⟨vs, .of hv⟩, hF.here k1 (walk_tupP hv hs)⟩)
    · refine .inr (rd_mono h fun x H1 ⟨ι1, ph1, s, a, k1, e, hs, nt, hF⟩ => ⟨a, e, ?_, hF.here k1 (walk_listP hs nt)⟩)
      cases hs with
      | tup b vs e h r => cases e; exact (nt _ h).elim
      | lst b n e hn hm h => cases e; exact let ⟨vs, q, _⟩ := h; ⟨vs, q⟩
      | fz b n ns e hn hm hs h => cases e; exact let ⟨vs, q, _⟩ := h; ⟨vs, q⟩
theorem Src.sql {mg : Str → Option Value} {K : PySem.W.Frag} {ι : List Addr} {H : Hp} {s : List PV × Gd} {a : Addr} (h : Src mg K ι H s (.ref a)) (nt : ∀ vs, H a ≠ some (.tup vs)) : ∃ vs, SqL K H a vs ∧ vs.length = s.1.length := by
  cases h with
  | tup b vs e h r => cases e; exact (nt _ h).elim
  | lst b n e hn hm h => cases e; exact h
  | fz b n ns e hn hm hs h => cases e; exact h
/-- a step that tells what was answered -/
theorem stepE {mg : Str → Option Value} {W : WX} {σ : L2.St} {H : Hp} {α β α' β' : Type} {R : List Addr → Hp → α → β → Prop} {R' : List Addr → Hp → α' → β' → Prop} {m : Pu.Env → PH → Res α} {f : Pu.Env → α → PH → Res α'} {Q : β' → Hp → Prop} {Q' : β → Hp → Prop} (h : rd mg W R' (fun ρ ph => (m ρ ph).bind (f ρ)) σ H Q)
    (i : ∀ b H1 ι1 ρ ph0 ph1 a, m ρ ph0 = .ok a ph1 → HRep mg ι1 H1 ph1 → REnv mg ι1 H1 ρ σ → R ι1 H1 a b → Fin mg W σ R' Q ι1 H1 (f ρ a ph1) → Q' b H1) : rd mg W R m σ H Q' := by
  obtain ⟨ι, ρ, ph, h1, h2, h3⟩ := h
  change Fin mg W σ R' Q ι H ((m ρ ph).bind (f ρ)) at h3
  refine ⟨ι, ρ, ph, h1, h2, ?_⟩
  cases hm : m ρ ph with
  | ok a ph1 =>
    rw [hm] at h3
    intro ι1 H1 b e k1 k2
    exact i b H1 ι1 ρ ph ph1 a hm k1 (h2.mono e) k2 (Fin.base e h3)
  | exc _ _ _ => rw [hm] at h3; exact h3
  | bad => rw [hm] at h3; exact False.elim h3
def Exs.len : Exs → Nat
  | .nil => 0
  | .cons _ es => es.len + 1
theorem evs_len : ∀ {es : Exs} {ρ : Pu.Env} {h : PH} {xs : List PV} {h' : PH}, evs C es ρ h = .ok xs h' → xs.length = es.len
  | .nil, _, _, _, _, e => by cases e; rfl
  | .cons a es, ρ, h, xs, h', e => by
    change ((ev C a ρ h).bind fun x h => (evs C es ρ h).bind fun xs h => .ok (x :: xs) h) = _ at e
    cases h1 : ev C a ρ h with
    | ok x h2 =>
      rw [h1] at e
      change ((evs C es ρ h2).bind fun xs h => .ok (x :: xs) h) = _ at e
      cases h3 : evs C es ρ h2 with
      | ok ys h4 =>
        rw [h3] at e
        cases e
        simp [Exs.len, evs_len h3]
      | exc _ _ _ => rw [h3] at e; cases e
      | bad => rw [h3] at e; cases e
    | exc _ _ _ => rw [h1] at e; cases e
    | bad => rw [h1] at e; cases e
theorem i_rng1 (hg : Gl X "range") (hm : X.mg "range" = none) (hp : plain A = true) (ha : SA X C W [A] (.cons a .nil)) : SI X C W tg (.Call (.Name "range" p) [A] [] pos) (.rng (.cons a .nil)) :=
  (pi_range1 hg hm ha (by rw [plain_star hp]; rfl)).imp fun σ H R h => stepE (m := evs C (.cons a .nil)) h fun vs H1 ι1 ρ ph0 ph1 xs he h1 h2 h3 h4 => by
    have h4 := h4.prim (σ' := [])
    obtain ⟨x, rfl⟩ : ∃ x, xs = [x] := List.length_eq_one_iff.mp (evs_len he)
    cases x with
    | int j =>
      obtain ⟨v, rfl, rv⟩ := h3.one
      cases rv
      obtain ⟨g, h4⟩ := h4.guard
      obtain ⟨g1, g2, _⟩ := of_decide_eq_true g
      refine ⟨j, rfl, g1, g2, h4.here h1 ?_⟩
      have := walk_rngP (mg := X.mg) (ι := ι1) (H := H1) (i := 0) (j := j) (n := j.toNat) (by simp)
      simpa using this
    | _ => exact False.elim h4
theorem i_rng2 (hg : Gl X "range") (hm : X.mg "range" = none) (hp : plain A = true) (hp2 : plain B = true) (ha : SA X C W [A, B] (.cons a (.cons b .nil))) : SI X C W tg (.Call (.Name "range" p) [A, B] [] pos) (.rng (.cons a (.cons b .nil))) :=
  (pi_range2 hg hm ha (by rw [plain_star hp, plain_star hp2]; rfl) (by rw [plain_star hp2]; rfl)).imp fun σ H R h => stepE (m := evs C (.cons a (.cons b .nil))) h fun vs H1 ι1 ρ ph0 ph1 xs he h1 h2 h3 h4 => by
    have h4 := h4.prim (σ' := [])
    obtain ⟨x, y, rfl⟩ : ∃ x y, xs = [x, y] := by
      have hl := evs_len he
      match xs, hl with
      | [x, y], _ => exact ⟨x, y, rfl⟩
    cases x with
    | int i =>
      cases y with
      | int j =>
        obtain ⟨v, w, rfl, rv, rw'⟩ := h3.two
        cases rv; cases rw'
        obtain ⟨g, h4⟩ := h4.guard
        obtain ⟨g1, g2, g3, g4⟩ := of_decide_eq_true g
        exact ⟨i, j, rfl, ⟨g1, g2, g3, g4⟩, h4.here h1 (walk_rngP rfl)⟩
      | _ => exact False.elim h4
    | _ => exact False.elim h4
theorem i_rng3 {D : Expr} {d : Ex} (hg : Gl X "range") (hm : X.mg "range" = none) (hp : plain A = true) (hp2 : plain B = true) (hp3 : plain D = true) (ha : SA X C W [A, B, D] (.cons a (.cons b (.cons d .nil)))) : SI X C W tg (.Call (.Name "range" p) [A, B, D] [] pos) (.rng (.cons a (.cons b (.cons d .nil)))) :=
  (pi_range3 hg hm ha (by rw [plain_star hp, plain_star hp2, plain_star hp3]) (by rw [plain_star hp2, plain_star hp3]; rfl)).imp fun σ H R h => stepE (m := evs C (.cons a (.cons b (.cons d .nil)))) h fun vs H1 ι1 ρ ph0 ph1 xs he h1 h2 h3 h4 => by
    have h4 := h4.prim (σ' := [])
    obtain ⟨x, y, z, rfl⟩ : ∃ x y z, xs = [x, y, z] := by
      have hl := evs_len he
      match xs, hl with
      | [x, y, z], _ => exact ⟨x, y, z, rfl⟩
    cases x with
    | int i =>
      cases y with
      | int j =>
        cases z with
        | int c =>
          obtain ⟨v, rest, rfl, rv, h3⟩ := h3
          obtain ⟨w, u, rfl, rw', ru⟩ := Reps.two h3
          cases rv; cases rw'; cases ru
          obtain ⟨g, h4⟩ := h4.guard
          obtain ⟨rfl, g1, g2, g3, g4⟩ := of_decide_eq_true g
          exact ⟨i, j, -1, (i - j).toNat, rfl, .neg (by omega) (by omega) (by omega) (by omega), h4.here h1 walk_rngCP⟩
        | _ => exact False.elim h4
      | _ => exact False.elim h4
    | _ => exact False.elim h4
theorem pairs_get {xs : List PV} {i : Nat} {q : PV} (h : xs[i]? = some q) : (pairs (nums xs.length) xs)[i]? = some (.tup [.int (i : Nat), q]) := by
  have hl : i < xs.length := (List.getElem?_eq_some_iff.mp h).1
  unfold pairs nums
  rw [List.getElem?_zipWith, h, List.getElem?_map, List.getElem?_range hl]
  rfl
theorem i_enum {ets : List Expr} {kk : Nat} (hg : Gl X "enumerate") (hm : X.mg "enumerate" = none) (hp : plain A = true) (ha : SE X C W A a) : SI X C W (.Tuple ets kk tpos) (.Call (.Name "enumerate" p) [A] [] pos) (.enum a) := by
  have hA : SA X C W [A] (.cons a .nil) := a_cons hp ha a_nil
  have hs : starEach [A] X.env = [(false, eval A X.env)] := by rw [plain_star hp]; rfl
  refine PI.or' (pi_enumT hg hm hA hs) (pi_enum hg hm hA hs) fun σ H R h => ?_
  have up : ∀ {Q : List V → Hp → Prop}, rd X.mg W (Rep X.mg) (ev C a) σ H (fun x H1 => Q [x] H1) → rd X.mg W (Reps X.mg) (evs C (.cons a .nil)) σ H Q := fun {Q} ⟨ι, ρ, ph, h1, h2, h3⟩ => ⟨ι, ρ, ph, h1, h2, by
    change Fin X.mg W σ (Reps X.mg) Q ι H ((ev C a ρ ph).bind fun x h => .ok [x] h)
    cases hm : ev C a ρ ph with
    | ok x ph1 =>
      rw [hm] at h3
      intro ι1 H1 vs e k1 k2
      obtain ⟨v, rfl, rv⟩ := k2.one
      exact h3 ι1 H1 v e k1 rv
    | exc _ _ _ => rw [hm] at h3; exact h3
    | bad => rw [hm] at h3; exact h3⟩
  rcases split_src h with h | h
  · refine .inl (up (rd_mono h fun x H1 ⟨ι1, ph1, s, t, vs, k1, e, hv, hs, hF⟩ => ⟨t, vs, by rw [e], hv, hF.here k1 ?_⟩))
    have hl : (pairs (nums s.1.length) s.1).length = vs.length := by simp [pairs, nums, hs.length]
    refine ⟨fun H => H t = some (.tup vs), fun i H v H' => ∃ T x, v = .ref T ∧ H T = none ∧ H' = upd H T (.tup [.int (i : Nat), x]) ∧ ∀ xs, H t = some (.tup xs) → xs[i]? = some x, ?_, fun ι2 H2 ph2 ex _ _ => ex.tups _ _ hv, ?_⟩
    · show Walk (ItT t) (pairs (nums s.1.length) s.1).length _ _
      rw [hl]
      exact ⟨fun i H hi q => ⟨vs, vs[i], q, by simp⟩, fun H q => ⟨vs, q, rfl⟩, fun i H x H' _ _ y => y⟩
    · intro i H2 x H3 ι2 ph2 hi ex hr _ y
      obtain ⟨T, z, rfl, hT, rfl, hz⟩ := y
      have hz := hz vs (ex.tups _ _ hv)
      obtain ⟨q, hq, rq⟩ := (Reps.mon ex.toMon _ _ hs).getV hz
      obtain ⟨r1, r2, r3⟩ := pair_rep (p := .int (i : Nat)) (x := .int (i : Nat)) hr hT rfl rq
      exact ⟨r1, r2, .tup [.int (i : Nat), q], pairs_get hq, r3⟩
  · refine .inr (up (rd_mono h fun x H1 ⟨ι1, ph1, s, t, k1, e, hs, nt, hF⟩ => ?_))
    obtain ⟨vs0, hv0, _⟩ := hs.sql nt
    refine ⟨t, vs0, by rw [e], hv0, hF.here k1 ?_⟩
    refine ⟨fun H => ∃ vs, SqL X.K H t vs ∧ vs.length = s.1.length, fun i H v H' => ∃ T x, v = .ref T ∧ H T = none ∧ H' = upd H T (.tup [.int (i : Nat), x]) ∧ ∀ xs, SqL X.K H t xs → xs[i]? = some x, ?_, ?_, ?_⟩
    · have hl : (pairs (nums s.1.length) s.1).length = s.1.length := by simp [pairs, nums]
      show Walk (Ite X.K t) (pairs (nums s.1.length) s.1).length _ _
      rw [hl]
      exact ⟨fun i H hi ⟨vs, q1, q2⟩ => ⟨vs, vs[i]'(by omega), q1, by simp⟩, fun H ⟨vs, q1, q2⟩ => ⟨vs, q1, by omega⟩, fun i H x H' _ _ y => y⟩
    · intro ι2 H2 ph2 ex hr hg
      obtain ⟨vs, q1, q2⟩ := hs.list rfl nt ex.toMon hr hg
      exact ⟨vs, q1, q2.length.symm⟩
    · intro i H2 x H3 ι2 ph2 hi ex hr hg y
      obtain ⟨T, z, rfl, hT, rfl, hz⟩ := y
      obtain ⟨vs, q1, q2⟩ := hs.list rfl nt ex.toMon hr hg
      obtain ⟨q, hq, rq⟩ := q2.getV (hz vs q1)
      obtain ⟨r1, r2, r3⟩ := pair_rep (p := .int (i : Nat)) (x := .int (i : Nat)) hr hT rfl rq
      exact ⟨r1, r2, .tup [.int (i : Nat), q], pairs_get hq, r3⟩
theorem i_rev (hg : Gl X "reversed") (hm : X.mg "reversed" = none) (hp : plain A = true) (ha : SE X C W A a) : SI X C W tg (.Call (.Name "reversed" p) [A] [] pos) (.rev a) := by
  refine (RT.pi_revA hg hm ha (plain_star hp [] _)).imp fun σ H R h => ?_
  have back : ∀ {α : Type} {xs : List α} {i : Nat} {x : α}, i < xs.length → xs[xs.length - 1 - i]? = some x → xs.reverse[i]? = some x := fun {α xs i x} hi h => by
    rw [List.getElem?_reverse hi]
    exact h
  rcases split_src h with h | h
  · refine rd_mono h fun x H1 ⟨ι1, ph1, s, t, vs, k1, e, hv, hs, hF⟩ => ⟨t, vs, e, .inr ⟨.of hv, hF.here k1 ?_⟩⟩
    have hl : s.1.reverse.length = vs.length := by rw [List.length_reverse, hs.length]
    refine ⟨fun H => H t = some (.tup vs), fun i H x H' => H' = H ∧ ∀ xs, SqT X.K H t xs → xs[vs.length - 1 - i]? = some x, ?_, fun ι2 H2 ph2 ex _ _ => ex.tups _ _ hv, ?_⟩
    · show Walk (RT.ItvT X.K t vs.length) s.1.reverse.length _ _
      rw [hl]
      exact ⟨fun i H hi q => ⟨hi, vs, vs[vs.length - 1 - i]'(by omega), .of q, by simp [show vs.length - 1 - i < vs.length by omega]⟩, fun H q => Nat.le_refl _, fun i H x H' _ _ y => y⟩
    · intro i H2 x H3 ι2 ph2 hi ex hr _ y
      obtain ⟨rfl, hz⟩ := y
      have hz := hz vs (.of (ex.tups _ _ hv))
      obtain ⟨q, hq, rq⟩ := (Reps.mon ex.toMon _ _ hs).getV hz
      refine ⟨.refl, hr, q, back (by simpa using hi) (by rw [hs.length]; exact hq), rq⟩
  · refine rd_mono h fun x H1 ⟨ι1, ph1, s, t, k1, e, hs, nt, hF⟩ => ?_
    obtain ⟨vs0, hv0, len0⟩ := hs.sql nt
    refine ⟨t, vs0, e, .inl ⟨hv0, hF.here k1 ?_⟩⟩
    refine ⟨fun H => ∃ vs, SqL X.K H t vs ∧ vs.length = s.1.length, fun i H x H' => H' = H ∧ ∀ xs, SqL X.K H t xs → xs[vs0.length - 1 - i]? = some x, ?_, ?_, ?_⟩
    · show Walk (Itv X.K t vs0.length) s.1.reverse.length _ _
      rw [List.length_reverse, len0]
      exact ⟨fun i H hi ⟨vs, q1, q2⟩ => ⟨hi, vs, vs[s.1.length - 1 - i]'(by omega), q1, by simp [show s.1.length - 1 - i < vs.length by omega]⟩, fun H q => Nat.le_refl _, fun i H x H' _ _ y => y⟩
    · intro ι2 H2 ph2 ex hr hg
      obtain ⟨vs, q1, q2⟩ := hs.list rfl nt ex.toMon hr hg
      exact ⟨vs, q1, q2.length.symm⟩
    · intro i H2 x H3 ι2 ph2 hi ex hr hg y
      obtain ⟨rfl, hz⟩ := y
      obtain ⟨vs, q1, q2⟩ := hs.list rfl nt ex.toMon hr hg
      obtain ⟨q, hq, rq⟩ := q2.getV (hz vs q1)
      rw [len0] at hq
      exact ⟨.refl, hr, q, back (by simpa using hi) hq, rq⟩
end
end Pu

set_option Elab.async false
set_option linter.all false
set_option maxRecDepth 100000
/-! Pu13: targets; loops of comprehensions. -/
namespace Pu
open PySem PySem.Spec PyProof.Rows L2
/-! ### frames -/
theorem look_get : ∀ (ρ : Pu.Env) (i : Nat), look ρ i = (ρ[i]?).getD none
  | [], _ => rfl
  | _ :: _, 0 => rfl
  | _ :: r, n + 1 => by rw [look, look_get r n]; simp
theorem look_set (ρ : Pu.Env) (i j : Nat) (v : Option PV) : look (ρ.set i v) j = if i = j then (if i < ρ.length then v else none) else look ρ j := by
  rw [look_get, look_get, List.getElem?_set]
  by_cases h : i = j
  · subst h
    rw [if_pos rfl, if_pos rfl]
    by_cases hl : i < ρ.length
    · rw [if_pos hl, if_pos hl]; rfl
    · rw [if_neg hl, if_neg hl]; rfl
  · rw [if_neg h, if_neg h]
section
variable {mg : Str → Option Value} {ι ι' ι'' : List Addr} {H H' H'' : Hp} {ph : PH} {ρ : Pu.Env} {σ : L2.St}
theorem REnv.set (r : REnv mg ι H ρ σ) {x : PV} {v : V} (q : Rep mg ι H x v) (i : Nat) : REnv mg ι H (ρ.set i (some x)) (σ.set i (some v)) := by
  refine ⟨by simp [r.len], fun j y h => ?_⟩
  rw [look_set] at h
  split at h
  · rename_i e
    subst e
    split at h
    · rename_i hl
      cases h
      exact ⟨v, by rw [List.getElem?_set_self (by rw [← r.len]; exact hl)], q⟩
    · cases h
  · rename_i e
    obtain ⟨z, h1, h2⟩ := r.at_ j y h
    exact ⟨z, by rw [List.getElem?_set_ne e]; exact h1, h2⟩
theorem REnv.unset (r : REnv mg ι H ρ σ) (i : Nat) : REnv mg ι H (ρ.set i none) (σ.set i none) := by
  refine ⟨by simp [r.len], fun j y h => ?_⟩
  rw [look_set] at h
  split at h
  · split at h <;> cases h
  · rename_i e
    obtain ⟨z, h1, h2⟩ := r.at_ j y h
    exact ⟨z, by rw [List.getElem?_set_ne e]; exact h1, h2⟩
theorem REnv.wipe (r : REnv mg ι H ρ σ) : ∀ vs : List Nat, REnv mg ι H (wipeE ρ vs) (L2.wipe σ vs)
  | [] => r
  | v :: vs => (REnv.wipe r vs).unset v
end
theorem wipe_set (σ : L2.St) (i : Nat) (y : Option V) : ∀ vs : List Nat, L2.wipe (σ.set i y) vs = if i ∈ vs then L2.wipe σ vs else (L2.wipe σ vs).set i y
  | [] => by simp [L2.wipe]
  | v :: vs => by
    show (L2.wipe (σ.set i y) vs).set v none = _
    rw [wipe_set σ i y vs]
    by_cases h : i = v
    · subst h
      rw [if_pos List.mem_cons_self]
      show _ = (L2.wipe σ vs).set i none
      split
      · rfl
      · rw [List.set_set]
    · by_cases hm : i ∈ vs
      · rw [if_pos hm, if_pos (List.mem_cons_of_mem _ hm)]; rfl
      · rw [if_neg hm, if_neg (by simp [h, hm])]
        show _ = ((L2.wipe σ vs).set v none).set i y
        rw [List.set_comm _ _ h]
/-! ### targets -/
mutual
/-- the names of a target are among these -/
def Tg.within (vs : List Nat) : Tg → Bool
  | .name i => vs.contains i
  | .tup ts => Tgs.within vs ts
  | .sub _ _ => true
def Tgs.within (vs : List Nat) : Tgs → Bool
  | .nil => true
  | .cons t ts => Tg.within vs t && Tgs.within vs ts
end
section
variable (X : Cx) (C : Cfg)
/-- what a target stores -/
def gR (tg : Tg) : TG := fun v σ H Q => ∃ ι ρ ph x ρ' ph', HRep X.mg ι H ph ∧ REnv X.mg ι H ρ σ ∧ Rep X.mg ι H x v ∧ asg C tg x ρ ph = .ok ρ' ph' ∧
  ∀ ι' H' σ', Ext ι H ι' H' → HRep X.mg ι' H' ph' → REnv X.mg ι' H' ρ' σ' → (∀ vs, tg.within vs = true → L2.wipe σ' vs = L2.wipe σ vs) → Q σ' H'
def gRs (tg : Tgs) : TGs := fun vs σ H Q => ∃ ι ρ ph xs ρ' ph', HRep X.mg ι H ph ∧ REnv X.mg ι H ρ σ ∧ Reps X.mg ι H xs vs ∧ asgs C tg xs ρ ph = .ok ρ' ph' ∧
  ∀ ι' H' σ', Ext ι H ι' H' → HRep X.mg ι' H' ph' → REnv X.mg ι' H' ρ' σ' → (∀ vs, tg.within vs = true → L2.wipe σ' vs = L2.wipe σ vs) → Q σ' H'
def SG (E : Expr) (tg : Tg) : Prop := PG X E (gR X C tg)
def SGs (Es : List Expr) (tg : Tgs) : Prop := PGs X Es (gRs X C tg)
end
theorem Res.bind_inv {α β : Type} {r : Res α} {f : α → PH → Res β} {b : β} {h : PH} (e : r.bind f = .ok b h) : ∃ a h', r = .ok a h' ∧ f a h' = .ok b h := by
  cases r with
  | ok a h' => exact ⟨a, h', rfl, e⟩
  | exc _ _ _ => cases e
  | bad => cases e
theorem noX_inv {α : Type} {r : Res α} {a : α} {h : PH} (e : noX r = .ok a h) : r = .ok a h := by cases r <;> first | exact e | cases e
theorem guardR_inv {α : Type} {c : Bool} {r : Res α} {a : α} {h : PH} (e : guardR c r = .ok a h) : c = true ∧ r = .ok a h := by
  cases c with
  | false => cases e
  | true => exact ⟨rfl, e⟩
theorem opt_inv {α : Type} {o : Option α} {a : α} {h h' : PH} (e : opt o h = .ok a h') : o = some a ∧ h' = h := by
  cases o <;> cases e
  exact ⟨rfl, rfl⟩
/-- a reading from a plain answer -/
theorem rd_ok {mg : Str → Option Value} {W : WX} {σ : L2.St} {α β : Type} {R : List Addr → Hp → α → β → Prop} {ι : List Addr} {H : Hp} {ph ph' : PH} {ρ : Pu.Env} {m : Pu.Env → PH → Res α} {a : α} {Q : β → Hp → Prop} (h1 : HRep mg ι H ph) (h2 : REnv mg ι H ρ σ) (e : m ρ ph = .ok a ph')
    (h : ∀ ι' H' b, Ext ι H ι' H' → HRep mg ι' H' ph' → R ι' H' a b → Q b H') : rd mg W R m σ H Q := ⟨ι, ρ, ph, h1, h2, by rw [e]; exact h⟩
section
variable {X : Cx} {C : Cfg} {W : WX} {A B : Expr} {a b : Ex} {pos : Pos} {Es : List Expr}
theorem g_name {i : Nat} {x : Str} (hN : X.N.Nodup) (hi : X.N[i]? = some x) (hx : Loc X.env.scope x) (hf : X.fn x = true ∨ X.env.scope.names.lookup x = some .local) : SG X C (.Name x pos) (.name i) :=
  (pg_name hN hi hx hf).imp fun v σ H Q ⟨ι, ρ, ph, p, ρ', ph', h1, h2, h3, e, h⟩ => by
    cases e
    refine h ι H _ .refl h1 (h2.set h3 i) fun vs hv => ?_
    rw [wipe_set, if_pos (by simpa [Tg.within] using hv)]
theorem gs_nil : SGs X C [] .nil := ⟨fun pins s σ H vs us Q I r ⟨ι, ρ, ph, xs, ρ', ph', h1, h2, h3, e, h⟩ => by
  cases xs with
  | nil =>
    cases e
    cases h3
    exact pgs_nil.run pins s σ H [] us Q I r ⟨rfl, h ι H σ .refl h1 h2 fun _ _ => rfl⟩
  | cons _ _ => cases e⟩
theorem gs_cons {t : Tg} {ts : Tgs} (h1 : SG X C A t) (h2 : SGs X C Es ts) (hs : (assignEach (A :: Es) X.env).map (·.2) = assign A X.env :: (assignEach Es X.env).map (·.2)) : SGs X C (A :: Es) (.cons t ts) := ⟨fun pins s σ H vs us Q I r ⟨ι, ρ, ph, xs, ρ', ph', k1, k2, k3, e, k⟩ => by
  cases xs with
  | nil => cases e
  | cons x xs =>
    obtain ⟨v, vr, rfl, r1, r2⟩ := k3
    obtain ⟨ρ1, ph1, e1, e2⟩ := Res.bind_inv (r := asg C t x ρ ph) (f := fun ρ h => asgs C ts xs ρ h) e
    refine (pgs_cons h1 h2 hs).run pins s σ H _ us Q I r ⟨v, vr, rfl, ι, ρ, ph, x, ρ1, ph1, k1, k2, r1, e1, fun ι1 H1 σ1 x1 m1 m2 m3 => ⟨ι1, ρ1, ph1, xs, ρ', ph', m1, m2, r2.mono x1, e2, fun ι2 H2 σ2 x2 n1 n2 n3 => k ι2 H2 σ2 (x1.trans x2) n1 n2 fun ws hw => ?_⟩⟩
    have hw : Tg.within ws t = true ∧ Tgs.within ws ts = true := by simpa [Tgs.within] using hw
    rw [n3 ws hw.2, m3 ws hw.1]⟩
def Tgs.len : Tgs → Nat
  | .nil => 0
  | .cons _ ts => ts.len + 1
theorem asgs_len : ∀ {ts : Tgs} {xs : List PV} {ρ ρ' : Pu.Env} {h h' : PH}, asgs C ts xs ρ h = .ok ρ' h' → xs.length = ts.len
  | .nil, [], _, _, _, _, _ => rfl
  | .nil, _ :: _, _, _, _, _, e => by cases e
  | .cons t ts, [], _, _, _, _, e => by cases e
  | .cons t ts, x :: xs, ρ, ρ', h, h', e => by
    obtain ⟨ρ1, ph1, e1, e2⟩ := Res.bind_inv (r := asg C t x ρ h) (f := fun ρ h => asgs C ts xs ρ h) e
    simp [Tgs.len, asgs_len e2]
/-- a target as it may stand in a list -/
def plainT : Expr → Bool
  | .Starred _ _ => false
  | _ => true
def plainTs (Es : List Expr) : Bool := Es.all plainT
theorem plainT_each {E : Expr} (h : plainT E = true) (Es : List Expr) (env : PySem.Env) : assignEach (E :: Es) env = (false, assign E env) :: assignEach Es env := by
  cases E <;> first | rfl | exact nomatch h
theorem plainTs_find {env : PySem.Env} : ∀ {Es : List Expr}, plainTs Es = true → (assignEach Es env).findIdx? (·.1) = none ∧ (assignEach Es env).length = Es.length
  | [], _ => ⟨rfl, rfl⟩
  | E :: Es, h => by
    simp only [plainTs, List.all_cons, Bool.and_eq_true] at h
    rw [plainT_each h.1]
    obtain ⟨h1, h2⟩ := plainTs_find (env := env) (Es := Es) h.2
    refine ⟨?_, by rw [List.length_cons, h2, List.length_cons]⟩
    rw [List.findIdx?_cons]
    simp [h1]
theorem gs_cons' {t : Tg} {ts : Tgs} (hp : plainT A = true) (h1 : SG X C A t) (h2 : SGs X C Es ts) : SGs X C (A :: Es) (.cons t ts) := gs_cons h1 h2 (by rw [plainT_each hp]; rfl)
theorem g_tup {k : Nat} {ts : Tgs} (hc : X.calm = true) (hp : plainTs Es = true) (hl : Es.length = ts.len) (h : SGs X C Es ts) : SG X C (.Tuple Es k pos) (.tup ts) :=
  (pg_tup (n := ts.len) hc h (by rw [(plainTs_find hp).2, hl]) (plainTs_find hp).1).imp fun v σ H Q ⟨ι, ρ, ph, p, ρ', ph', h1, h2, h3, e, h⟩ => by
    cases p with
    | tup xs =>
      obtain ⟨a, vs, rfl, hv, _, hs⟩ := h3
      exact ⟨a, vs, rfl, .of hv, by rw [← hs.length]; exact asgs_len e, ι, ρ, ph, xs, ρ', ph', h1, h2, hs, e, h⟩
    | _ => cases e
theorem g_tupH {k : Nat} {ts : Tgs} (hc : L2H.HotC X) (hp : plainTs Es = true) (hl : Es.length = ts.len) (h : SGs X C Es ts) : SG X C (.Tuple Es k pos) (.tup ts) :=
  (pg_tupH (n := ts.len) hc h (by rw [(plainTs_find hp).2, hl]) (plainTs_find hp).1).imp fun v σ H Q ⟨ι, ρ, ph, p, ρ', ph', h1, h2, h3, e, h⟩ => by
    cases p with
    | tup xs =>
      obtain ⟨a, vs, rfl, hv, _, hs⟩ := h3
      exact ⟨a, vs, rfl, .of hv, by rw [← hs.length]; exact asgs_len e, ι, ρ, ph, xs, ρ', ph', h1, h2, hs, e, h⟩
    | _ => cases e
theorem g_sub (hs : PSet X (rSet X.mg)) (ha : SE X C W A a) (hb : SE X C W B b) (hi : ∀ v, assign (.Subscript A B pos) X.env v = (do
      let ov ← holding [v] (eval A X.env)
      let iv ← holding [v, ov] (eval B X.env)
      standAt pos
      holding [v, ov, iv] (setItem ov iv v)
      release [v, ov, iv] [])) : SG X C (.Subscript A B pos) (.sub a b) :=
  (pg_sub ha hb hs hi).imp fun v σ H Q ⟨ι, ρ, ph, p, ρ', ph', h1, h2, h3, e, h⟩ => by
    obtain ⟨x, ph1, e1, e⟩ := Res.bind_inv (r := ev C a ρ ph) e
    obtain ⟨y, ph2, e2, e⟩ := Res.bind_inv (r := ev C b ρ ph1) e
    obtain ⟨_, ph3, e3, e⟩ := Res.bind_inv (r := noX (setV x y p ph2)) e
    cases e
    refine rd_ok h1 h2 e1 fun ι1 H1 o x1 k1 k2 => rd_ok k1 (h2.mono x1) e2 fun ι2 H2 i x2 m1 m2 => ?_
    have x12 := x1.trans x2
    refine ⟨ι2, ph2, x, y, p, m1, k2.mono x2, m2, h3.mono x12, ?_⟩
    rw [noX_inv e3]
    intro ι3 H3 _ x3 n1 _
    exact h ι3 H3 σ (x12.trans x3) n1 (h2.mono (x12.trans x3)) fun _ _ => rfl
end
end Pu

set_option Elab.async false
set_option linter.all false
set_option maxRecDepth 100000
/-! Pu14: comprehensions. -/
namespace Pu
open PySem PySem.Spec PyProof.Rows L2
section
variable {mg : Str → Option Value} {ι ι' ι'' : List Addr} {H H' H'' : Hp} {ph : PH}
/-- a thing aside that is no tuple is changed -/
theorem Mon.aside {D : Addr} {o u : HO} (hD : H D = some u) (nt : ∀ xs, u ≠ .tup xs) : Mon ι H ι (upd H D o) := ⟨fun _ _ h => h, fun a xs e => by
  rw [upd_ne (ne_of e hD fun z => nt xs z.symm)]
  exact e⟩
theorem HRep.asideMon (h : HRep mg ι H ph) {D : Addr} {o u : HO} (hD : H D = some u) (nt : ∀ xs, u ≠ .tup xs) (hn : D ∉ ι) : HRep mg ι (upd H D o) ph :=
  ⟨h.len, h.nd, fun n a o' e1 e2 => (h.obj n a o' e1 e2).mon (.aside hD nt) (upd_ne fun z => hn (z ▸ List.mem_of_getElem? e1))⟩
/-- a thing aside comes in -/
theorem HRep.adopt (h : HRep mg ι H ph) {D : Addr} {o : PO} (hn : D ∉ ι) (new : RepO mg (ι ++ [D]) H D o) : HRep mg (ι ++ [D]) H (ph ++ [o]) := by
  have e : Mon ι H (ι ++ [D]) H := ⟨fun n a q => by
    rw [List.getElem?_append_left (List.getElem?_eq_some_iff.mp q).1]
    exact q, fun _ _ q => q⟩
  refine ⟨by simp [h.len], List.nodup_append.mpr ⟨h.nd, by simp, fun a ha b hb => ?_⟩, fun n a u e1 e2 => ?_⟩
  · rintro rfl
    simp at hb
    exact hn (hb ▸ ha)
  · by_cases hl : n < ι.length
    · rw [List.getElem?_append_left hl] at e1
      rw [List.getElem?_append_left (by rw [← h.len]; exact hl)] at e2
      exact (h.obj n a u e1 e2).mon e rfl
    · rw [List.getElem?_append_right (by omega)] at e1
      rw [List.getElem?_append_right (by rw [← h.len]; omega)] at e2
      have hz : n - ι.length = 0 := by
        obtain ⟨hq, _⟩ := List.getElem?_eq_some_iff.mp e1
        simp at hq
        omega
      rw [hz] at e1
      rw [← h.len, hz] at e2
      simp at e1 e2
      subst e1 e2
      exact new
theorem mon_adopt {D : Addr} : Mon ι H (ι ++ [D]) H := ⟨fun n a q => by
    rw [List.getElem?_append_left (List.getElem?_eq_some_iff.mp q).1]
    exact q, fun _ _ q => q⟩
/-- what is aside stays aside -/
theorem Ext.out (e : Ext ι H ι' H') {D : Addr} {u : HO} (hD : H D = some u) (hn : D ∉ ι) : D ∉ ι' ∧ H' D = some u := by
  refine ⟨fun hm => ?_, e.keep D u hD hn⟩
  obtain ⟨t, rfl, ht⟩ := e.more
  rcases List.mem_append.mp hm with hm | hm
  · exact hn hm
  · rw [ht D hm] at hD; cases hD
/-- a thing that was not there at first is changed -/
theorem Ext.later (e : Ext ι H ι' H') {D : Addr} {o : HO} (hD : H D = none) : Ext ι H ι' (upd H' D o) :=
  ⟨e.more, fun a xs h => by rw [upd_ne (ne_of_none h hD)]; exact e.tups a xs h, fun a u h ha => by rw [upd_ne (ne_of_none h hD)]; exact e.keep a u h ha, fun b h => by
    by_cases hb : b = D
    · rw [hb]; exact hD
    · rw [upd_ne hb] at h; exact e.dom b h, fun a o u h => by rw [upd_ne (ne_of_none h hD)]; exact e.frz a o u h⟩
theorem Ext.adopt (e : Ext ι H ι' H') {D : Addr} (hD : H D = none) : Ext ι H (ι' ++ [D]) H' := by
  obtain ⟨t, rfl, ht⟩ := e.more
  exact ⟨⟨t ++ [D], by simp, fun b hb => by
    rcases List.mem_append.mp hb with hb | hb
    · exact ht b hb
    · simp at hb; rw [hb]; exact hD⟩, e.tups, e.keep, e.dom, e.frz⟩
/-- a comprehension's loop: I at each turn -/
theorem loop_core {β : Type} {ι1 : List Addr} {H1 Hs : Hp} {s : List PV × Gd} {J : It} (w : WalkP mg ι1 H1 s J) {step : PV → β → PH → Res β} (I : List Addr → Hp → β → PH → Prop) {acc0 accF : β} {ph0 phF : PH} {Qd : Hp → Prop} {Body : (Hp → Prop) → V → Hp → Prop}
    (hI : ∀ ι H acc ph, I ι H acc ph → MonF ι1 H1 ι H ∧ HRep mg ι H ph) (hrun : lcL step s.2 s.1 acc0 ph0 = .ok accF phF) (h0 : ∃ ι, I ι Hs acc0 ph0) (hend : ∀ ι H, I ι H accF phF → Qd H)
    (hstep : ∀ ι H acc ph acc' ph' p x H3 (Nx : Hp → Prop), I ι H acc ph → step p acc ph = .ok acc' ph' → Ext ι H ι H3 → HRep mg ι H3 ph → Rep mg ι H3 p x → (∀ ι' H', I ι' H' acc' ph' → Nx H') → Body Nx x H3) :
    ∃ W : Nat → Nat → Hp → Prop, (∃ m, W 0 m Hs) ∧ ∀ i m H, W i m H → (J.stop i H ∧ Qd H) ∨ (J.go i H ∧ ∃ Nx : Hp → Prop, (∀ H', Nx H' → ∃ m', m' < m ∧ W (i + 1) m' H') ∧ ∀ x H', J.yld i H x H' → Body Nx x H') := by
  obtain ⟨G, Y, wk, hG, hY⟩ := w
  have gd : ∀ xs (acc : β) ph, lcL step s.2 xs acc ph = .ok accF phF → gdOk s.2 ph = true := fun xs acc ph e => by
    cases xs <;> exact (guardR_inv e).1
  refine ⟨fun i m H => m = s.1.length - i ∧ i ≤ s.1.length ∧ ∃ ι acc ph, I ι H acc ph ∧ lcL step s.2 (s.1.drop i) acc ph = .ok accF phF, ⟨s.1.length, by simp, Nat.zero_le _, ?_⟩, ?_⟩
  · obtain ⟨ι, h⟩ := h0
    exact ⟨ι, acc0, ph0, h, hrun⟩
  · rintro i m H ⟨rfl, hi, ι, acc, ph, hinv, e⟩
    obtain ⟨x1, r1⟩ := hI _ _ _ _ hinv
    have q := hG ι H ph x1 r1 (gd _ _ _ e)
    by_cases hlt : i < s.1.length
    · have hd : s.1.drop i = s.1[i] :: s.1.drop (i + 1) := List.drop_eq_getElem_cons hlt
      have e' := e
      rw [hd] at e'
      obtain ⟨g, e'⟩ := guardR_inv e'
      obtain ⟨acc', ph', e1, e2⟩ := Res.bind_inv e'
      refine .inr ⟨wk.goes i H hlt q, fun H' => ∃ ι', I ι' H' acc' ph', fun H' ⟨ι', h'⟩ => ⟨s.1.length - (i + 1), by omega, rfl, hlt, ι', acc', ph', h', e2⟩, fun x H3 y => ?_⟩
      obtain ⟨x2, r2, p, hp, rp⟩ := hY i H x H3 ι ph hlt x1 r1 g (wk.yields i H x H3 hlt q y)
      obtain rfl : s.1[i] = p := by
        rw [List.getElem?_eq_getElem hlt] at hp
        exact Option.some.inj hp
      exact hstep ι H acc ph acc' ph' _ x H3 _ hinv e1 x2 r2 rp fun ι' H' h' => ⟨ι', h'⟩
    · have ei : i = s.1.length := by omega
      subst ei
      rw [List.drop_length] at e
      obtain ⟨_, e⟩ := guardR_inv e
      cases e
      exact .inl ⟨wk.stops H q, hend _ _ hinv⟩
end
/-! tests of a clause -/
def STs (X : Cx) (C : Cfg) (W : WX) (E : List Expr) (e : Exs) : Prop := PTs X E (rd X.mg W eqb (evTs C e))
section
variable {X : Cx} {C : Cfg} {W : WX} {A B : Expr} {a b : Ex} {pos : Pos} {Es : List Expr}
theorem PTs.imp {E : List Expr} {t t' : TT} (h : PTs X E t) (i : ∀ σ H Q, t' σ H Q → t σ H Q) : PTs X E t' := ⟨fun pins s σ H Q I q => h.run pins s σ H Q I (i σ H Q q)⟩
theorem ts_nil : STs X C W [] .nil := PTs.imp pts_nil fun σ H Q ⟨ι, ρ, ph, h1, h2, h3⟩ => h3.here h1 rfl
theorem ts_one (h : ST X C W A a) : STs X C W [A] (.cons a .nil) := PTs.imp (pts_one h) fun σ H Q h => h
end
end Pu

set_option Elab.async false
set_option linter.all false
set_option maxRecDepth 100000
/-! Pu15: comprehensions, the rules. -/
namespace Pu
open PySem PySem.Spec PyProof.Rows L2
section
variable {mg : Str → Option Value} {ι1 : List Addr} {H1 : Hp} {D : Addr}
/-- the invariant of a list that grows -/
def LI (mg : Str → Option Value) (ι1 : List Addr) (H1 : Hp) (D : Addr) (ι : List Addr) (H : Hp) (acc : List PV) (ph : PH) : Prop :=
  Ext ι1 H1 ι H ∧ HRep mg ι H ph ∧ D ∉ ι ∧ ∃ vs, H D = some (.lst vs) ∧ vs.length ≤ sizeLine ∧ Reps mg ι H acc vs
theorem LI.start {ph : PH} (hr : HRep mg ι1 H1 ph) (hD : H1 D = none) : ∃ ι, LI mg ι1 H1 D ι (upd H1 D (.lst [])) [] ph :=
  ⟨ι1, Ext.new0 hD, hr.aside hD, (fun hm => by obtain ⟨u, hu, _⟩ := hr.mem hm; rw [hD] at hu; cases hu), [], upd_same, Nat.zero_le _, rfl⟩
/-- a turn that grows it -/
theorem LI.push {ι : List Addr} {H : Hp} {acc : List PV} {ph : PH} (hD : H1 D = none) (h : LI mg ι1 H1 D ι H acc ph) {ι' : List Addr} {H' : Hp} {ph' : PH} {x : PV} {v : V} (e : Ext ι H ι' H') (hr : HRep mg ι' H' ph') (rx : Rep mg ι' H' x v) (hl : acc.length < sizeLine) :
    ∃ vs, H' D = some (.lst vs) ∧ vs.length < sizeLine ∧ LI mg ι1 H1 D ι' (upd H' D (.lst (vs ++ [v]))) (acc ++ [x]) ph' := by
  obtain ⟨h1, h2, h3, vs, h4, h5, h6⟩ := h
  obtain ⟨o1, o2⟩ := e.out h4 h3
  have hv : vs.length < sizeLine := by rw [← h6.length]; exact hl
  have m : Mon ι' H' ι' (upd H' D (.lst (vs ++ [v]))) := .aside o2 fun _ z => nomatch z
  refine ⟨vs, o2, hv, (h1.trans e).later hD, hr.asideMon o2 (fun _ z => nomatch z) o1, o1, _, upd_same, by simp; omega, ?_⟩
  exact ((h6.mono e).mon m).append ⟨v, [], rfl, rx.mon m, rfl⟩
/-- a turn that does not -/
theorem LI.skip {ι : List Addr} {H : Hp} {acc : List PV} {ph : PH} (h : LI mg ι1 H1 D ι H acc ph) {ι' : List Addr} {H' : Hp} {ph' : PH} (e : Ext ι H ι' H') (hr : HRep mg ι' H' ph') : LI mg ι1 H1 D ι' H' acc ph' := by
  obtain ⟨h1, h2, h3, vs, h4, h5, h6⟩ := h
  obtain ⟨o1, o2⟩ := e.out h4 h3
  exact ⟨h1.trans e, hr, o1, vs, o2, h5, h6.mono e⟩
theorem LI.finish {W : WX} {σ : L2.St} {Q : VK} {ι : List Addr} {H : Hp} {acc : List PV} {ph : PH} (hD : H1 D = none) (h : LI mg ι1 H1 D ι H acc ph) (hF : Fin mg W σ (Rep mg) Q ι1 H1 (new (.lst acc) ph)) : Q (.ref D) H := by
  obtain ⟨h1, h2, h3, vs, h4, h5, h6⟩ := h
  have l : ph.length = ι.length := h2.len.symm
  exact hF (ι ++ [D]) H (.ref D) (h1.adopt hD) (h2.adopt h3 ⟨vs, h4, h5, h6.mon mon_adopt⟩) ⟨D, by rw [l, List.getElem?_append_right (Nat.le_refl _)]; simp, rfl⟩
end
/-- an answer that went through -/
theorem Fin.nobind {mg : Str → Option Value} {W : WX} {σ : L2.St} {α α' β' : Type} {R' : List Addr → Hp → α' → β' → Prop} {Q : β' → Hp → Prop} {ι : List Addr} {H : Hp} {r : Res α} {f : α → PH → Res α'} (h : Fin mg W σ R' Q ι H ((Pu.noX r).bind f)) :
    ∃ a ph, r = .ok a ph ∧ Fin mg W σ R' Q ι H (f a ph) := by
  cases r with
  | ok a ph => exact ⟨a, ph, rfl, h⟩
  | exc _ _ _ => exact False.elim h
  | bad => exact False.elim h
theorem rd_it {mg : Str → Option Value} {W : WX} {σ : L2.St} {H : Hp} {α' β' : Type} {R' : List Addr → Hp → α' → β' → Prop} {C : Cfg} {it : Si} {f : Pu.Env → (List PV × Gd) → PH → Res α'} {Q : β' → Hp → Prop} {Q' : It → Hp → Prop} (h : rd mg W R' (fun ρ ph => (evIt C it ρ ph).bind (f ρ)) σ H Q)
    (i : ∀ J H1 ι1 ρ ph1 s, HRep mg ι1 H1 ph1 → REnv mg ι1 H1 ρ σ → WalkP mg ι1 H1 s J → Fin mg W σ R' Q ι1 H1 (f ρ s ph1) → Q' J H1) : rd mg W (WalkP mg) (evIt C it) σ H Q' :=
  step (m := evIt C it) h fun J H1 ι1 ρ ph1 s h1 h2 h3 h4 => i J H1 ι1 ρ ph1 s h1 h2 h3 h4
theorem wipe_wipe (σ : L2.St) : ∀ (vs ws : List Nat), (∀ v ∈ vs, v ∈ ws) → L2.wipe (L2.wipe σ vs) ws = L2.wipe σ ws
  | [], _, _ => rfl
  | v :: vs, ws, h => by
    show L2.wipe ((L2.wipe σ vs).set v none) ws = _
    rw [wipe_set, if_pos (h v List.mem_cons_self)]
    exact wipe_wipe σ vs ws fun u hu => h u (List.mem_cons_of_mem _ hu)
theorem lc_sem {X : Cx} {C : Cfg} {W : WX} {own : List Nat} {T : Tg} {it : Si} {ti : Exs} {e : Ex} {σ : L2.St} {H : Hp} {Q : VK} (hw : T.within own = true) (h : rd X.mg W (Rep X.mg) (ev C (.lc own T it ti e)) σ H Q) :
    tLc (rd X.mg W (WalkP X.mg) (evIt C it)) (gR X C T) (rd X.mg W0 eqb (evTs C ti)) (rd X.mg W0 (Rep X.mg) (ev C e)) own σ H Q := by
  refine rd_it h fun J H1 ι1 ρ ph1 s h1 h2 h3 h4 D hD => ?_
  obtain ⟨accF, phF, hrun, h4⟩ := h4.nobind
  refine loop_core h3 (LI X.mg ι1 H1 D) (fun ι H acc ph i => ⟨i.1.monF, i.2.1⟩) hrun (LI.start h1 hD) (fun ι H i => i.finish hD h4) ?_
  intro ι H2 acc ph acc' ph' p x H3 Nx inv es x3 r3 rp hN
  obtain ⟨ρ1, pa, ea, es⟩ := Res.bind_inv es
  obtain ⟨b, pb, eb, es⟩ := Res.bind_inv es
  have inv3 := inv.skip x3 r3
  refine ⟨ι, wipeE ρ own, ph, p, ρ1, pa, r3, (h2.mono (inv.1.trans x3)).wipe own, rp, ea, fun ι4 H4 σ4 x4 r4 v4 w4 => ⟨?_, rd_ok r4 v4 eb fun ι5 H5 t x5 r5 e5 => ?_⟩⟩
  · rw [w4 own hw]
    exact wipe_wipe σ own own fun _ h => h
  · cases e5
    have inv5 := inv3.skip (x4.trans x5) r5
    cases b with
    | false => cases es; exact hN _ _ inv5
    | true =>
      obtain ⟨v, pv, ev', es⟩ := Res.bind_inv es
      obtain ⟨g, es⟩ := guardR_inv es
      cases es
      exact rd_ok r5 (v4.mono x5) ev' fun ι6 H6 y x6 r6 ry => by
        obtain ⟨vs, q1, q2, q3⟩ := inv5.push hD x6 r6 ry (of_decide_eq_true g)
        exact ⟨vs, q1, q2, hN _ _ q3⟩

theorem lc2_sem {X : Cx} {C : Cfg} {W : WX} {own own1 : List Nat} {T T1 : Tg} {it it1 : Si} {ti ti1 : Exs} {e : Ex} {σ : L2.St} {H : Hp} {Q : VK} (hw : T.within own = true) (hw1 : T1.within own1 = true) (h : rd X.mg W (Rep X.mg) (ev C (.lc2 own own1 T it ti T1 it1 ti1 e)) σ H Q) :
    tLc2 (rd X.mg W (WalkP X.mg) (evIt C it)) (gR X C T) (rd X.mg W0 eqb (evTs C ti)) (rd X.mg W0 (WalkP X.mg) (evIt C it1)) (gR X C T1) (rd X.mg W0 eqb (evTs C ti1)) (rd X.mg W0 (Rep X.mg) (ev C e)) own own1 σ H Q := by
  refine rd_it h fun J H1 ι1 ρ ph1 s h1 h2 h3 h4 D hD => ?_
  obtain ⟨accF, phF, hrun, h4⟩ := h4.nobind
  refine loop_core h3 (LI X.mg ι1 H1 D) (fun ι H acc ph i => ⟨i.1.monF, i.2.1⟩) hrun (LI.start h1 hD) (fun ι H i => i.finish hD h4) ?_
  intro ι H2 acc ph acc' ph' p x H3 Nx inv es x3 r3 rp hN
  obtain ⟨ρ1, pa, ea, es⟩ := Res.bind_inv es
  obtain ⟨b, pb, eb, es⟩ := Res.bind_inv es
  have inv3 := inv.skip x3 r3
  refine ⟨ι, wipeE ρ own, ph, p, ρ1, pa, r3, (h2.mono (inv.1.trans x3)).wipe own, rp, ea, fun ι4 H4 σ4 x4 r4 v4 w4 => ⟨?_, rd_ok r4 v4 eb fun ι5 H5 t x5 r5 e5 => ?_⟩⟩
  · rw [w4 own hw]
    exact wipe_wipe σ own own fun _ h => h
  · cases e5
    have inv5 := inv3.skip (x4.trans x5) r5
    cases b with
    | false => cases es; exact hN _ _ inv5
    | true =>
      obtain ⟨s1, p1, e1, es⟩ := Res.bind_inv es
      have v5 := v4.mono x5
      refine rd_ok r5 v5 e1 fun ι6 H6 J1 x6 r6 wk => ?_
      have inv6 := inv5.skip x6 r6
      refine loop_core wk (fun ι H acc ph => LI X.mg ι1 H1 D ι H acc ph ∧ MonF ι6 H6 ι H) (fun ι H acc ph i => ⟨i.2, i.1.2.1⟩) es ⟨ι6, inv6, .refl⟩ (fun ι H i => hN _ _ i.1) ?_
      intro κ G2 acc2 g acc2' g' q y G3 Nx1 ⟨jnv, jm⟩ es y3 s3 rq hN1
      obtain ⟨ρ2, pc, ec, es⟩ := Res.bind_inv es
      obtain ⟨b2, pd, ed, es⟩ := Res.bind_inv es
      have jnv3 := jnv.skip y3 s3
      have v6 : REnv X.mg κ G3 ρ1 σ4 := REnv.mon ((x6.mon.trans jm.toMon).trans y3.mon) v5
      refine ⟨κ, wipeE ρ1 own1, g, q, ρ2, pc, s3, v6.wipe own1, rq, ec, fun κ4 G4 τ4 y4 s4 u4 z4 => ⟨?_, rd_ok s4 u4 ed fun κ5 G5 t y5 s5 f5 => ?_⟩⟩
      · rw [z4 own1 hw1]
        exact wipe_wipe σ4 own1 own1 fun _ h => h
      · cases f5
        have jnv5 := jnv3.skip (y4.trans y5) s5
        have jm5 := jm.trans ((y3.trans (y4.trans y5)).monF)
        cases b2 with
        | false => cases es; exact hN1 _ _ ⟨jnv5, jm5⟩
        | true =>
          obtain ⟨v, pv, ev', es⟩ := Res.bind_inv es
          obtain ⟨gg, es⟩ := guardR_inv es
          cases es
          exact rd_ok s5 (u4.mono y5) ev' fun κ6 G6 z y6 s6 rz => by
            obtain ⟨vs, q1, q2, q3⟩ := jnv5.push hD y6 s6 rz (of_decide_eq_true gg)
            exact ⟨vs, q1, q2, hN1 _ _ ⟨q3, jm5.trans (y6.monF.trans (.aside q1))⟩⟩
/-! dicts -/
section
variable {mg : Str → Option Value} {ι1 : List Addr} {H1 : Hp} {D : Addr}
def DI (mg : Str → Option Value) (ι1 : List Addr) (H1 : Hp) (D : Addr) (ι : List Addr) (H : Hp) (acc : List (Key × PV)) (ph : PH) : Prop :=
  Ext ι1 H1 ι H ∧ HRep mg ι H ph ∧ D ∉ ι ∧ ∃ vs, H D = some (.dK vs) ∧ vs.length ≤ sizeLine ∧ RepF mg ι H acc vs
theorem DI.start {ph : PH} (hr : HRep mg ι1 H1 ph) (hD : H1 D = none) : ∃ ι, DI mg ι1 H1 D ι (upd H1 D (.dK [])) [] ph :=
  ⟨ι1, Ext.new0 hD, hr.aside hD, (fun hm => by obtain ⟨u, hu, _⟩ := hr.mem hm; rw [hD] at hu; cases hu), [], upd_same, Nat.zero_le _, rfl⟩
theorem DI.put {ι : List Addr} {H : Hp} {acc : List (Key × PV)} {ph : PH} (hD : H1 D = none) (h : DI mg ι1 H1 D ι H acc ph) {ι' : List Addr} {H' : Hp} {ph' : PH} {k : Key} {x : PV} {v : V} (e : Ext ι H ι' H') (hr : HRep mg ι' H' ph') (rx : Rep mg ι' H' x v) (hl : acc.length < sizeLine) :
    ∃ vs, H' D = some (.dK vs) ∧ vs.length < sizeLine ∧ DI mg ι1 H1 D ι' (upd H' D (.dK (putK vs k v))) (aput acc k x) ph' := by
  obtain ⟨h1, h2, h3, vs, h4, h5, h6⟩ := h
  obtain ⟨o1, o2⟩ := e.out h4 h3
  have hv : vs.length < sizeLine := by rw [← h6.length]; exact hl
  have m : Mon ι' H' ι' (upd H' D (.dK (putK vs k v))) := .aside o2 fun _ z => nomatch z
  have hq := L2.length_putK vs k v
  exact ⟨vs, o2, hv, (h1.trans e).later hD, hr.asideMon o2 (fun _ z => nomatch z) o1, o1, _, upd_same, by omega, ((h6.mono e).mon m).put (rx.mon m)⟩
theorem DI.skip {ι : List Addr} {H : Hp} {acc : List (Key × PV)} {ph : PH} (h : DI mg ι1 H1 D ι H acc ph) {ι' : List Addr} {H' : Hp} {ph' : PH} (e : Ext ι H ι' H') (hr : HRep mg ι' H' ph') : DI mg ι1 H1 D ι' H' acc ph' := by
  obtain ⟨h1, h2, h3, vs, h4, h5, h6⟩ := h
  obtain ⟨o1, o2⟩ := e.out h4 h3
  exact ⟨h1.trans e, hr, o1, vs, o2, h5, h6.mono e⟩
theorem DI.finish {W : WX} {σ : L2.St} {Q : VK} {ι : List Addr} {H : Hp} {acc : List (Key × PV)} {ph : PH} (hD : H1 D = none) (h : DI mg ι1 H1 D ι H acc ph) (hF : Fin mg W σ (Rep mg) Q ι1 H1 (new (.dk acc) ph)) : Q (.ref D) H := by
  obtain ⟨h1, h2, h3, vs, h4, h5, h6⟩ := h
  have l : ph.length = ι.length := h2.len.symm
  exact hF (ι ++ [D]) H (.ref D) (h1.adopt hD) (h2.adopt h3 ⟨vs, h4, h5, h6.mon mon_adopt⟩) ⟨D, by rw [l, List.getElem?_append_right (Nat.le_refl _)]; simp, rfl⟩
end
theorem key_V {mg : Str → Option Value} {ι : List Addr} {H : Hp} {p : PV} {k : Key} {v : V} (e : p.key? = some k) (r : Rep mg ι H p v) : v = kV k := by
  cases p <;> cases e <;> cases r <;> rfl
theorem dc_sem {X : Cx} {C : Cfg} {W : WX} {own : List Nat} {T : Tg} {it : Si} {ti : Exs} {k e : Ex} {σ : L2.St} {H : Hp} {Q : VK} (hw : T.within own = true) (h : rd X.mg W (Rep X.mg) (ev C (.dcK own T it ti k e)) σ H Q) :
    tDc (rd X.mg W (WalkP X.mg) (evIt C it)) (gR X C T) (rd X.mg W0 eqb (evTs C ti)) (rd X.mg W0 (Rep X.mg) (ev C k)) (rd X.mg W0 (Rep X.mg) (ev C e)) own σ H Q := by
  refine rd_it h fun J H1 ι1 ρ ph1 s h1 h2 h3 h4 D hD => ?_
  obtain ⟨accF, phF, hrun, h4⟩ := h4.nobind
  refine loop_core h3 (DI X.mg ι1 H1 D) (fun ι H acc ph i => ⟨i.1.monF, i.2.1⟩) hrun (DI.start h1 hD) (fun ι H i => i.finish hD h4) ?_
  intro ι H2 acc ph acc' ph' p x H3 Nx inv es x3 r3 rp hN
  obtain ⟨ρ1, pa, ea, es⟩ := Res.bind_inv es
  obtain ⟨b, pb, eb, es⟩ := Res.bind_inv es
  have inv3 := inv.skip x3 r3
  refine ⟨ι, wipeE ρ own, ph, p, ρ1, pa, r3, (h2.mono (inv.1.trans x3)).wipe own, rp, ea, fun ι4 H4 σ4 x4 r4 v4 w4 => ⟨?_, rd_ok r4 v4 eb fun ι5 H5 t x5 r5 e5 => ?_⟩⟩
  · rw [w4 own hw]
    exact wipe_wipe σ own own fun _ h => h
  · cases e5
    have inv5 := inv3.skip (x4.trans x5) r5
    cases b with
    | false => cases es; exact hN _ _ inv5
    | true =>
      obtain ⟨kv, pk, ek, es⟩ := Res.bind_inv es
      obtain ⟨v, pv, ev', es⟩ := Res.bind_inv es
      unfold putKR at es
      cases hk : kv.key? with
      | none => rw [hk] at es; cases es
      | some kk =>
        rw [hk] at es
        obtain ⟨g, es⟩ := guardR_inv es
        cases es
        refine rd_ok r5 (v4.mono x5) ek fun ι6 H6 y x6 r6 ry => rd_ok r6 ((v4.mono x5).mono x6) ev' fun ι7 H7 z x7 r7 rz => ?_
        obtain ⟨vs, q1, q2, q3⟩ := inv5.put (k := kk) hD (x6.trans x7) r7 rz (of_decide_eq_true g)
        exact ⟨vs, kk, key_V hk ry, q1, q2, hN _ _ q3⟩
/-! ### the rules -/
section
variable {X : Cx} {C : Cfg} {W : WX} {A B : Expr} {a b : Ex} {pos spos py : Pos} {Es : List Expr}
abbrev blkX (X : Cx) (scope : Scope) (s : Shared) (H : Hp) (c : Addr) (cl : List (Str × Addr)) (fp : List Addr) : Cx := X.blk s H scope (compEnvC scope cl c X.env) fp
theorem s_lc {elt tg iter : Expr} {ifs : List Expr} {scope : Scope} {own : List (Str × Nat)} {T : Tg} {it : Si} {ti : Exs} {e : Ex} (hc : X.calm = true) (hN : X.N.Nodup) (hi : SI X C W tg iter it) (ok : BlkOk X.N X.env.scope scope own) (hw : T.within (own.map (·.2)) = true)
    (hg : ∀ s H c cl fp, SG (blkX X scope s H c cl fp) C tg T) (ht : ∀ s H c cl fp, STs (blkX X scope s H c cl fp) C W0 ifs ti) (he : ∀ s H c cl fp, SE (blkX X scope s H c cl fp) C W0 elt e) (hs : ∀ x, foldedSetIterable iter X.env x = pure x) :
    SE X C W (.ListComp elt [⟨tg, iter, ifs, 0⟩] scope pos) (.lc (own.map (·.2)) T it ti e) := (pe_lc (g := gR X C T) (tt := rd X.mg W0 eqb (evTs C ti)) (te := rd X.mg W0 (Rep X.mg) (ev C e)) hc hN hi ok hg ht he hs).imp fun _ _ _ h => lc_sem hw h
theorem s_lc2 {elt tg iter tg1 iter1 : Expr} {ifs ifs1 : List Expr} {scope : Scope} {own : List (Str × Nat)} {own1 : List Nat} {T T1 : Tg} {it it1 : Si} {ti ti1 : Exs} {e : Ex} (hc : X.calm = true) (hN : X.N.Nodup) (hi : SI X C W tg iter it) (ok : BlkOk X.N X.env.scope scope own) (hv : ∀ i ∈ own1, i ∈ own.map (·.2)) (hw : T.within (own.map (·.2)) = true) (hw1 : T1.within own1 = true)
    (hg : ∀ s H c cl fp, SG (blkX X scope s H c cl fp) C tg T) (ht : ∀ s H c cl fp, STs (blkX X scope s H c cl fp) C W0 ifs ti) (hi1 : ∀ s H c cl fp, SI (blkX X scope s H c cl fp) C W0 tg1 iter1 it1) (hg1 : ∀ s H c cl fp, SG (blkX X scope s H c cl fp) C tg1 T1) (ht1 : ∀ s H c cl fp, STs (blkX X scope s H c cl fp) C W0 ifs1 ti1)
    (he : ∀ s H c cl fp, SE (blkX X scope s H c cl fp) C W0 elt e) (hs : ∀ env x, foldedSetIterable iter env x = pure x) (hs1 : ∀ env x, foldedSetIterable iter1 env x = pure x) :
    SE X C W (.ListComp elt [⟨tg, iter, ifs, 0⟩, ⟨tg1, iter1, ifs1, 0⟩] scope pos) (.lc2 (own.map (·.2)) own1 T it ti T1 it1 ti1 e) := (pe_lc2 (g := gR X C T) (g1 := gR X C T1) (tt := rd X.mg W0 eqb (evTs C ti)) (tt1 := rd X.mg W0 eqb (evTs C ti1)) (wi1 := rd X.mg W0 (WalkP X.mg) (evIt C it1)) (te := rd X.mg W0 (Rep X.mg) (ev C e)) hc hN hi ok hv hg ht hi1 hg1 ht1 he (hs X.env) hs1).imp fun _ _ _ h => lc2_sem hw hw1 h
theorem s_dcK {kx vx tg iter : Expr} {ifs : List Expr} {scope : Scope} {own : List (Str × Nat)} {T : Tg} {it : Si} {ti : Exs} {k e : Ex} (hc : X.calm = true) (hN : X.N.Nodup) (hi : SI X C W tg iter it) (ok : BlkOk X.N X.env.scope scope own) (hw : T.within (own.map (·.2)) = true)
    (hg : ∀ s H c cl fp, SG (blkX X scope s H c cl fp) C tg T) (ht : ∀ s H c cl fp, STs (blkX X scope s H c cl fp) C W0 ifs ti) (hk : ∀ s H c cl fp, SE (blkX X scope s H c cl fp) C W0 kx k) (he : ∀ s H c cl fp, SE (blkX X scope s H c cl fp) C W0 vx e) (hs : ∀ x, foldedSetIterable iter X.env x = pure x) :
    SE X C W (.DictComp kx vx [⟨tg, iter, ifs, 0⟩] scope pos) (.dcK (own.map (·.2)) T it ti k e) := (pe_dc (g := gR X C T) (tt := rd X.mg W0 eqb (evTs C ti)) (tk := rd X.mg W0 (Rep X.mg) (ev C k)) (tv := rd X.mg W0 (Rep X.mg) (ev C e)) hc hN hi ok hg ht hk he hs).imp fun _ _ _ h => dc_sem hw h
theorem s_dnewK : SE X C W (.Dict [] [] pos) (.dicK .nil) := s_here pe_dnewK fun ι ρ ph σ H Q h1 h2 h3 p hp => by
  have h3 : Fin X.mg W σ (Rep X.mg) Q ι H (new (.dk []) ph) := h3
  exact new_fin h3 h1 hp fun _ => ⟨[], upd_same, Nat.zero_le _, rfl⟩
theorem s_dnewT : SE X C W (.Dict [] [] pos) (.dicT .nil) := s_here pe_dnewT fun ι ρ ph σ H Q h1 h2 h3 p hp => by
  have h3 : Fin X.mg W σ (Rep X.mg) Q ι H (new (.dt []) ph) := h3
  exact new_fin h3 h1 hp fun _ => ⟨[], upd_same, ⟨Nat.zero_le _, fun _ h => nomatch h⟩, rfl⟩
end
end Pu

set_option Elab.async false
set_option linter.all false
set_option maxRecDepth 100000
/-! Pu16: statements. -/
namespace Pu
open PySem PySem.Spec PyProof.Rows L2
section
variable (mg : Str → Option Value)
/-- what a statement's answer means -/
def FinS (W : WX) (D : Ends) (ι : List Addr) (H : Hp) : Res Fl → Prop
  | .ok (.nx ρ) ph => ∀ ι' H' σ', Ext ι H ι' H' → HRep mg ι' H' ph → REnv mg ι' H' ρ σ' → D.nx σ' H'
  | .ok (.bk ρ) ph => ∀ ι' H' σ', Ext ι H ι' H' → HRep mg ι' H' ph → REnv mg ι' H' ρ σ' → D.bk σ' H'
  | .ok (.ct ρ) ph => ∀ ι' H' σ', Ext ι H ι' H' → HRep mg ι' H' ph → REnv mg ι' H' ρ σ' → D.ct σ' H'
  | .ok (.rt v) ph => ∀ ι' H' x, Ext ι H ι' H' → HRep mg ι' H' ph → Rep mg ι' H' v x → D.rt x H'
  | .exc c fs ph => ∀ ι' H' σ' cls d, Ext ι H ι' H' → HRep mg ι' H' ph → ExcR mg ι' H' c fs cls d → W cls d σ' H'
  | .bad => False
def rdS (W : WX) (m : Pu.Env → PH → Res Fl) : TS := fun D σ H => ∃ ι ρ ph, HRep mg ι H ph ∧ REnv mg ι H ρ σ ∧ FinS mg W D ι H (m ρ ph)
end
section
variable {mg : Str → Option Value} {ι ι' : List Addr} {H H' : Hp} {ph : PH} {W : WX} {D : Ends} {σ : L2.St} {α β : Type} {R : List Addr → Hp → α → β → Prop}
theorem FinS.base (e : Ext ι H ι' H') : ∀ {r : Res Fl}, FinS mg W D ι H r → FinS mg W D ι' H' r
  | .ok (.nx _) _, h => fun i2 H2 s e2 => h i2 H2 s (e.trans e2)
  | .ok (.bk _) _, h => fun i2 H2 s e2 => h i2 H2 s (e.trans e2)
  | .ok (.ct _) _, h => fun i2 H2 s e2 => h i2 H2 s (e.trans e2)
  | .ok (.rt _) _, h => fun i2 H2 x e2 => h i2 H2 x (e.trans e2)
  | .exc _ _ _, h => fun i2 H2 s c d e2 => h i2 H2 s c d (e.trans e2)
  | .bad, h => h
/-- an evaluation ahead -/
theorem FinS.bind {f : α → PH → Res Fl} : ∀ {r : Res α}, FinS mg W D ι H (r.bind f) → Fin mg W σ R (fun b H1 => ∃ ι1 ph1 a, Ext ι H ι1 H1 ∧ HRep mg ι1 H1 ph1 ∧ R ι1 H1 a b ∧ FinS mg W D ι1 H1 (f a ph1)) ι H r
  | .ok a ph, h => fun i2 H2 b e2 h2 r2 => ⟨i2, ph, a, e2, h2, r2, FinS.base e2 h⟩
  | .exc _ _ _, h => fun i2 H2 c d e2 h2 r2 => h i2 H2 σ c d e2 h2 r2
  | .bad, h => h
theorem stepS {m : Pu.Env → PH → Res α} {f : Pu.Env → α → PH → Res Fl} {Q' : β → Hp → Prop} (h : rdS mg W (fun ρ ph => (m ρ ph).bind (f ρ)) D σ H) (i : ∀ b H1 ι1 ρ ph1 a, HRep mg ι1 H1 ph1 → REnv mg ι1 H1 ρ σ → R ι1 H1 a b → FinS mg W D ι1 H1 (f ρ a ph1) → Q' b H1) : rd mg W R m σ H Q' := by
  obtain ⟨ι, ρ, ph, h1, h2, h3⟩ := h
  exact ⟨ι, ρ, ph, h1, h2, Fin.mono (fun b H1 ⟨i1, p1, a, e, q1, q2, q3⟩ => i b H1 i1 ρ p1 a q1 (h2.mono e) q2 q3) (FinS.bind h3)⟩
/-- how a statement goes on -/
def cont (k : Pu.Env → PH → Res Fl) : Fl → PH → Res Fl := fun f h => match f with
  | .nx ρ => k ρ h
  | .bk ρ => .ok (.bk ρ) h
  | .ct ρ => .ok (.ct ρ) h
  | .rt v => .ok (.rt v) h
theorem FinS.seq {k : Pu.Env → PH → Res Fl} : ∀ {r : Res Fl}, FinS mg W D ι H (r.bind (cont k)) → FinS mg W { D with nx := rdS mg W k D } ι H r
  | .ok (.nx ρ) ph, h => fun i2 H2 s e2 h2 v2 => ⟨i2, ρ, ph, h2, v2, FinS.base e2 h⟩
  | .ok (.bk ρ) ph, h => h
  | .ok (.ct ρ) ph, h => h
  | .ok (.rt _) _, h => h
  | .exc _ _ _, h => h
  | .bad, h => h
theorem FinS.nobind {r : Res α} {f : α → PH → Res Fl} (h : FinS mg W D ι H ((Pu.noX r).bind f)) : ∃ a ph, r = .ok a ph ∧ FinS mg W D ι H (f a ph) := by
  cases r with
  | ok a ph => exact ⟨a, ph, rfl, h⟩
  | exc _ _ _ => exact False.elim h
  | bad => exact False.elim h
theorem FinS.obind {o : Option α} {h0 : PH} {f : α → PH → Res Fl} (h : FinS mg W D ι H ((Pu.opt o h0).bind f)) : ∃ a, o = some a ∧ FinS mg W D ι H (f a h0) := by
  cases o with
  | none => exact False.elim h
  | some a => exact ⟨a, rfl, h⟩
theorem FinS.guard {c : Bool} {r : Res Fl} (h : FinS mg W D ι H (guardR c r)) : c = true ∧ FinS mg W D ι H r := by
  cases c with
  | false => exact False.elim h
  | true => exact ⟨rfl, h⟩
end
section
variable (X : Cx) (C : Cfg) (W : WX)
def SS (S : Stmt) (s : Sm) : Prop := PS X S (rdS X.mg W (evS C s))
def SB (S : List Stmt) (b : Bk) : Prop := PSs X S (rdS X.mg W (evB C b))
end
/-- no comprehension whose store is folded into it -/
def noComp : Expr → Bool
  | .ListComp _ _ _ _ => false
  | .SetComp _ _ _ _ => false
  | .DictComp _ _ _ _ _ => false
  | _ => true
theorem swaps_no {E : Expr} (h : noComp E = true) (t : Option Expr) (l : Nat) (env : PySem.Env) : swapsWith E t l env = pure false := by
  cases E <;> first | rfl | exact nomatch h
def noTup : Expr → Bool
  | .Tuple _ _ _ => false
  | _ => true
theorem swapped_no {E : Expr} (h : noTup E = true) (tg : Expr) (env : PySem.Env) : swappedStores [tg] E env = pure none := by
  unfold swappedStores
  cases E <;> first | (cases tg <;> rfl) | exact nomatch h
/-- the target is no bare name -/
def noName : Expr → Bool
  | .Name _ _ => false
  | _ => true
theorem swaps_noName {tg : Expr} (h : noName tg = true) (E : Expr) (l : Nat) (env : PySem.Env) : swapsWithSole [tg] E l env = pure false := by
  show swapsWith E (some tg) l env = pure false
  unfold swapsWith
  cases E <;> first | rfl | (cases tg <;> first | rfl | exact nomatch h)
section
variable {X : Cx} {C : Cfg} {W : WX} {A B E : Expr} {a b e c : Ex} {pos p : Pos} {Es : List Expr} {S : Stmt} {Ss : List Stmt} {s : Sm} {bs b1 b2 : Bk} {B1 B2 : List Stmt}
theorem ss_pass : SS X C W (.Pass pos) .pass := ps_pass.imp fun D σ H ⟨ι, ρ, ph, h1, h2, h3⟩ => h3 ι H σ .refl h1 h2
theorem ss_doc {x : Str} {j : Nat} {p1 p2 : Pos} : SS X C W (.Expr (.Constant (.str x) j p1) p2) .pass := ps_doc.imp fun D σ H ⟨ι, ρ, ph, h1, h2, h3⟩ => h3 ι H σ .refl h1 h2
theorem ss_brk : SS X C W (.Break pos) .brk := ps_break.imp fun D σ H ⟨ι, ρ, ph, h1, h2, h3⟩ => h3 ι H σ .refl h1 h2
theorem ss_cnt : SS X C W (.Continue pos) .cnt := ps_continue.imp fun D σ H ⟨ι, ρ, ph, h1, h2, h3⟩ => h3 ι H σ .refl h1 h2
theorem ss_retN : SS X C W (.Return none pos) .retN := ps_retN.imp fun D σ H ⟨ι, ρ, ph, h1, h2, h3⟩ => h3 ι H .non .refl h1 rfl
theorem ss_ret (h : SE X C W E e) : SS X C W (.Return (some E) pos) (.ret e) := (ps_ret h).imp fun D σ H h => stepS (m := ev C e) h fun x H1 ι1 ρ ph1 p h1 h2 h3 h4 => h4 ι1 H1 x .refl h1 h3
theorem ss_exp (hn : noComp E = true) (h : SE X C W E e) : SS X C W (.Expr E pos) (.exp e) := (ps_expr h (swaps_no hn _ _ _)).imp fun D σ H h => stepS (m := ev C e) h fun x H1 ι1 ρ ph1 p h1 h2 h3 h4 => h4 ι1 H1 σ .refl h1 h2
/-- what is stored -/
theorem asg_sem {tg : Tg} {D : Ends} {σ : L2.St} {H : Hp} (h : rdS X.mg W (evS C (.asg tg e)) D σ H) : tAsg (rd X.mg W (Rep X.mg) (ev C e)) (gR X C tg) D σ H :=
  stepS (m := ev C e) h fun x H1 ι1 ρ ph1 p h1 h2 h3 h4 => by
    obtain ⟨ρ', ph2, e2, h4⟩ := h4.nobind
    exact ⟨ι1, ρ, ph1, p, ρ', ph2, h1, h2, h3, e2, fun ι' H' σ' x1 r1 v1 _ => h4 ι' H' σ' x1 r1 v1⟩
theorem ss_asg {tg : Tg} {TG : Expr} (hn : noName TG = true) (ht : noTup E = true) (hp : plainT TG = true) (he : SE X C W E e) (hg : SG X C TG tg) : SS X C W (.Assign [TG] E pos) (.asg tg e) :=
  (ps_asg he hg (swaps_noName hn _ _ _) (swapped_no ht _ _) (by rw [plainT_each hp]; rfl)).imp fun D σ H h => asg_sem h
theorem gname_sem {i : Nat} {D : Ends} {σ : L2.St} {H : Hp} (h : rdS X.mg W (evS C (.asg (.name i) e)) D σ H) : tAsg (rd X.mg W (Rep X.mg) (ev C e)) (gName i) D σ H :=
  stepS (m := ev C e) h fun x H1 ι1 ρ ph1 p h1 h2 h3 h4 => by
    obtain ⟨ρ', ph2, e2, h4⟩ := h4.nobind
    cases e2
    exact h4 ι1 H1 _ .refl h1 (h2.set h3 i)
theorem ss_set {i : Nat} {x : Str} (hN : X.N.Nodup) (hi : X.N[i]? = some x) (hx : Loc X.env.scope x) (hn : noComp E = true) (he : SE X C W E e) (hf : X.fn x = true ∨ X.env.scope.names.lookup x = some .local) : SS X C W (.Assign [.Name x p] E pos) (.asg (.name i) e) :=
  (ps_set hN hi hx he (swaps_no hn _ _ _) hf).imp fun D σ H h => gname_sem h
theorem ss_setF {i : Nat} {x : Str} (hN : X.N.Nodup) (hi : X.N[i]? = some x) (hx : Loc X.env.scope x) (hs : swapsWith E (some (.Name x p)) pos.line X.env = pure false) (he : SE X C W E e) (hf : X.fn x = true ∨ X.env.scope.names.lookup x = some .local) : SS X C W (.Assign [.Name x p] E pos) (.asg (.name i) e) :=
  (ps_set hN hi hx he hs hf).imp fun D σ H h => gname_sem h
theorem ss_setLc {i : Nat} {y : Str} {py spos : Pos} {elt tg iter : Expr} {ifs : List Expr} {scope : Scope} {own : List (Str × Nat)} {T : Tg} {it : Si} {ti : Exs} {e : Ex} (hc : X.calm = true) (hN : X.N.Nodup) (hy : X.N[i]? = some y) (hyl : X.env.scope.names.lookup y = some .local)
    (hsw : swapsWith (.ListComp elt [⟨tg, iter, ifs, 0⟩] scope pos) (some (.Name y py)) spos.line X.env = pure true) (hi : SI X C W tg iter it) (ok : BlkOk X.N X.env.scope scope own) (hw : T.within (own.map (·.2)) = true)
    (hg : ∀ s H c cl fp, SG (blkX X scope s H c cl fp) C tg T) (ht : ∀ s H c cl fp, STs (blkX X scope s H c cl fp) C W0 ifs ti) (he : ∀ s H c cl fp, SE (blkX X scope s H c cl fp) C W0 elt e) (hs : ∀ x, foldedSetIterable iter X.env x = pure x) :
    SS X C W (.Assign [.Name y py] (.ListComp elt [⟨tg, iter, ifs, 0⟩] scope pos) spos) (.asg (.name i) (.lc (own.map (·.2)) T it ti e)) :=
  (ps_setLc (g := gR X C T) (tt := rd X.mg W0 eqb (evTs C ti)) (te := rd X.mg W0 (Rep X.mg) (ev C e)) hc hN hy hyl hsw hi ok hg ht he hs).imp fun D σ H h => lc_sem hw (gname_sem h)
theorem ss_setLc2 {i : Nat} {y : Str} {py spos : Pos} {elt tg iter tg1 iter1 : Expr} {ifs ifs1 : List Expr} {scope : Scope} {own : List (Str × Nat)} {own1 : List Nat} {T T1 : Tg} {it it1 : Si} {ti ti1 : Exs} {e : Ex} (hc : X.calm = true) (hN : X.N.Nodup) (hy : X.N[i]? = some y) (hyl : X.env.scope.names.lookup y = some .local)
    (hsw : swapsWith (.ListComp elt [⟨tg, iter, ifs, 0⟩, ⟨tg1, iter1, ifs1, 0⟩] scope pos) (some (.Name y py)) spos.line X.env = pure true) (hi : SI X C W tg iter it) (ok : BlkOk X.N X.env.scope scope own) (hv : ∀ i ∈ own1, i ∈ own.map (·.2)) (hw : T.within (own.map (·.2)) = true) (hw1 : T1.within own1 = true)
    (hg : ∀ s H c cl fp, SG (blkX X scope s H c cl fp) C tg T) (ht : ∀ s H c cl fp, STs (blkX X scope s H c cl fp) C W0 ifs ti) (hi1 : ∀ s H c cl fp, SI (blkX X scope s H c cl fp) C W0 tg1 iter1 it1) (hg1 : ∀ s H c cl fp, SG (blkX X scope s H c cl fp) C tg1 T1) (ht1 : ∀ s H c cl fp, STs (blkX X scope s H c cl fp) C W0 ifs1 ti1)
    (he : ∀ s H c cl fp, SE (blkX X scope s H c cl fp) C W0 elt e) (hs : ∀ env x, foldedSetIterable iter env x = pure x) (hs1 : ∀ env x, foldedSetIterable iter1 env x = pure x) :
    SS X C W (.Assign [.Name y py] (.ListComp elt [⟨tg, iter, ifs, 0⟩, ⟨tg1, iter1, ifs1, 0⟩] scope pos) spos) (.asg (.name i) (.lc2 (own.map (·.2)) own1 T it ti T1 it1 ti1 e)) :=
  (ps_setLc2 (g := gR X C T) (g1 := gR X C T1) (tt := rd X.mg W0 eqb (evTs C ti)) (tt1 := rd X.mg W0 eqb (evTs C ti1)) (wi1 := rd X.mg W0 (WalkP X.mg) (evIt C it1)) (te := rd X.mg W0 (Rep X.mg) (ev C e)) hc hN hy hyl hsw hi ok hv hg ht hi1 hg1 ht1 he (hs X.env) hs1).imp fun D σ H h => lc2_sem hw hw1 (gname_sem h)
theorem ss_par {i j : Nat} {x y : Str} {px py pt pt2 : Pos} {kt k2 : Nat} (hc : X.calm = true) (hN : X.N.Nodup) (hi : X.N[i]? = some x) (hj : X.N[j]? = some y) (hij : i ≠ j) (hx : X.env.scope.names.lookup x = some .local) (hy : X.env.scope.names.lookup y = some .local) (hpa : plain A = true) (hpb : plain B = true)
    (ha : SE X C W A a) (hb : SE X C W B b) (hw : swappedStores [.Tuple [.Name x px, .Name y py] kt pt] (.Tuple [A, B] k2 pt2) X.env = pure (some [x, y])) :
    SS X C W (.Assign [.Tuple [.Name x px, .Name y py] kt pt] (.Tuple [A, B] k2 pt2) pos) (.par i j a b) :=
  (ps_par hc hN hi hj hij hx hy (a_cons hpa ha (a_cons hpb hb a_nil)) hw (swaps_noName rfl _ _ _)).imp fun D σ H h => by
    refine stepS (D := D) (m := evs C (.cons a (.cons b .nil))) (f := fun ρ xs h => match xs with
      | [x, y] => .ok (.nx ((ρ.set i (some x)).set j (some y))) h
      | _ => .bad) ?_ fun vs H1 ι1 ρ ph1 xs h1 h2 h3 h4 => ?_
    · obtain ⟨ι, ρ, ph, h1, h2, h3⟩ := h
      refine ⟨ι, ρ, ph, h1, h2, ?_⟩
      have e : ((evs C (.cons a (.cons b .nil)) ρ ph).bind fun xs h => match xs with
        | [x, y] => Res.ok (Fl.nx ((ρ.set i (some x)).set j (some y))) h
        | _ => Res.bad) = evS C (.par i j a b) ρ ph := by
        show Res.bind (Res.bind (ev C a ρ ph) fun x h => (evs C (.cons b .nil) ρ h).bind fun xs h => .ok (x :: xs) h) _ = Res.bind (ev C a ρ ph) fun x h => (ev C b ρ h).bind fun y h => Res.ok (Fl.nx ((ρ.set i (some x)).set j (some y))) h
        rw [Res.bind_assoc]
        congr 1
        funext x h
        show Res.bind (Res.bind (Res.bind (ev C b ρ h) fun x h => (Res.ok [] h).bind fun xs h => .ok (x :: xs) h) _) _ = _
        rw [Res.bind_assoc, Res.bind_assoc]
        rfl
      exact (congrArg (FinS X.mg W D ι H) e).mpr h3
    · match xs, h3, h4 with
      | [x, y], h3, h4 =>
        obtain ⟨v, w, rfl, rv, rw'⟩ := h3.two
        exact ⟨v, w, rfl, h4 ι1 H1 _ .refl h1 ((h2.set rv i).set rw' j)⟩
      | [], _, h4 => exact False.elim h4
      | [_], _, h4 => exact False.elim h4
      | _ :: _ :: _ :: _, _, h4 => exact False.elim h4
theorem ss_aug {i : Nat} {x : Str} {op : Operator} (hN : X.N.Nodup) (hi : X.N[i]? = some x) (hx : Loc X.env.scope x) (he : SE X C W E e) (hf : X.fn x = true ∨ X.env.scope.names.lookup x = some .local) : SS X C W (.AugAssign (.Name x p) op E pos) (.aug i op e) :=
  (ps_aug hN hi hx he (ip_of op) hf).imp fun D σ H ⟨ι, ρ, ph, h1, h2, h3⟩ => by
    obtain ⟨y, ey, h3⟩ := FinS.obind h3
    obtain ⟨v, hv, rv⟩ := h2.at_ i y ey
    refine ⟨v, hv, ι, ρ, ph, h1, h2, Fin.mono (fun z H1 ⟨ι1, ph1, q, x1, k1, k2, k3⟩ => ?_) (FinS.bind h3)⟩
    obtain ⟨r, ph2, er, k3⟩ := k3.nobind
    refine ⟨ι1, ph1, y, q, k1, rv.mono x1, k2, ?_⟩
    rw [er]
    exact fun ι2 H2 u x2 m1 m2 => k3 ι2 H2 _ x2 m1 ((h2.mono (x1.trans x2)).set m2 i)
theorem ss_ite (hc : ST X C W E c) (ha : SB X C W B1 b1) (hb : SB X C W B2 b2) : SS X C W (.If E B1 B2 pos) (.ite c b1 b2) :=
  (ps_if hc ha hb).imp fun D σ H h => stepS (m := evT C c) h fun t H1 ι1 ρ ph1 k h1 h2 h3 h4 => by
    cases h3
    cases t with
    | true => exact ⟨ι1, ρ, ph1, h1, h2, h4⟩
    | false => exact ⟨ι1, ρ, ph1, h1, h2, h4⟩
theorem sb_nil : SB X C W [] .nil := pss_nil.imp fun D σ H ⟨ι, ρ, ph, h1, h2, h3⟩ => h3 ι H σ .refl h1 h2
theorem sb_cons (h1 : SS X C W S s) (h2 : SB X C W Ss bs) : SB X C W (S :: Ss) (.cons s bs) :=
  (pss_cons h1 h2).imp fun D σ H ⟨ι, ρ, ph, r1, r2, h3⟩ => by
    have e : evB C (.cons s bs) ρ ph = (evS C s ρ ph).bind (cont (evB C bs)) := by
      show ((evS C s ρ ph).bind _) = _
      congr 1
    rw [e] at h3
    exact ⟨ι, ρ, ph, r1, r2, FinS.seq h3⟩
theorem ss_wh (hp : PassesOwn (model X.prog X.w) X.A X.env X.xe) (hc : ST X C W E c) (hb : SB X C W B1 b1) : SS X C W (.While E B1 [] pos) (.wh c b1) :=
  (ps_while hp hc hb).imp fun D σ H ⟨ι, ρ, ph, h1, h2, h3⟩ => by
    refine ⟨fun n σ H => ∃ ι ρ ph, HRep X.mg ι H ph ∧ REnv X.mg ι H ρ σ ∧ FinS X.mg W D ι H (whL (evT C c) (evB C b1) n ρ ph), ⟨C.fuel, ι, ρ, ph, h1, h2, h3⟩, ?_⟩
    rintro n σ H ⟨ι, ρ, ph, h1, h2, h3⟩
    cases n with
    | zero => exact False.elim h3
    | succ n =>
      refine ⟨ι, ρ, ph, h1, h2, Fin.mono (fun t H1 ⟨ι1, ph1, k, x1, k1, k2, k3⟩ => ?_) (FinS.bind h3)⟩
      cases k2
      have v1 := h2.mono x1
      cases t with
      | false => exact k3 ι1 H1 σ .refl k1 v1
      | true =>
        refine ⟨fun σ' H' => ∃ ι ρ ph, HRep X.mg ι H' ph ∧ REnv X.mg ι H' ρ σ' ∧ FinS X.mg W D ι H' (whL (evT C c) (evB C b1) n ρ ph), fun σ' H' q => ⟨n, Nat.lt_succ_self n, q⟩, ι1, ρ, ph1, k1, v1, ?_⟩
        simp only [if_true] at k3
        cases hr : evB C b1 ρ ph1 with
        | ok f ph2 =>
          rw [hr] at k3
          cases f with
          | nx ρ' => exact fun ι2 H2 σ2 x2 m1 m2 => ⟨ι2, ρ', ph2, m1, m2, FinS.base x2 k3⟩
          | ct ρ' => exact fun ι2 H2 σ2 x2 m1 m2 => ⟨ι2, ρ', ph2, m1, m2, FinS.base x2 k3⟩
          | bk ρ' => exact k3
          | rt v => exact k3
        | exc _ _ _ => rw [hr] at k3; exact k3
        | bad => rw [hr] at k3; exact k3
theorem ss_fr {TG IT : Expr} {tg : Tg} {it : Si} (hp : PassesOwn (model X.prog X.w) X.A X.env X.xe) (hc : X.calm = true) (hi : SI X C W TG IT it) (hg : SG X C TG tg) (hb : SB X C W B1 b1) (hs : ∀ x, foldedSetIterable IT X.env x = pure x) : SS X C W (.For TG IT B1 [] pos) (.fr tg it b1) :=
  (ps_for hp hc hi hg hb hs).imp fun D σ H h => stepS (m := evIt C it) h fun J H1 ι1 ρ0 ph0 s h1 h2 h3 h4 => by
    obtain ⟨G, Y, wk, hG, hY⟩ := h3
    have gd : ∀ {xs ρ ph ι H}, FinS X.mg W D ι H (forL (fun x ρ h => (noX (asg C tg x ρ h)).bind fun ρ h => evB C b1 ρ h) s.2 xs ρ ph) → gdOk s.2 ph = true := fun {xs ρ ph ι H} e => by
      cases xs <;> exact e.guard.1
    refine for_it wk (fun i σ H => ∃ ι ρ ph, Ext ι1 H1 ι H ∧ HRep X.mg ι H ph ∧ REnv X.mg ι H ρ σ ∧ FinS X.mg W D ι H (forL (fun x ρ h => (noX (asg C tg x ρ h)).bind fun ρ h => evB C b1 ρ h) s.2 (s.1.drop i) ρ ph)) ⟨ι1, ρ0, ph0, .refl, h1, h2, h4⟩
      (fun i σ H hi ⟨ι, ρ, ph, x1, r1, v1, f1⟩ => hG ι H ph x1.monF r1 (gd f1)) ?_ ?_
    · rintro i x σ H2 H3 hi ⟨ι, ρ, ph, x1, r1, v1, f1⟩ y
      have g1 := gd f1
      obtain ⟨x2, r2, p, hp', rp⟩ := hY i H2 x H3 ι ph hi x1.monF r1 g1 y
      have hd : s.1.drop i = s.1[i] :: s.1.drop (i + 1) := List.drop_eq_getElem_cons hi
      obtain rfl : s.1[i] = p := by
        rw [List.getElem?_eq_getElem hi] at hp'
        exact Option.some.inj hp'
      rw [hd] at f1
      obtain ⟨_, f1⟩ := f1.guard
      have f2 := FinS.base x2 f1
      rw [Res.bind_assoc] at f2
      obtain ⟨ρ1, ph1, ea, f2⟩ := f2.nobind
      refine ⟨ι, ρ, ph, s.1[i], ρ1, ph1, r2, v1.mono x2, rp, ea, fun ι4 H4 σ4 x4 r4 v4 _ => ⟨ι4, ρ1, ph1, r4, v4, ?_⟩⟩
      have f3 := FinS.base x4 f2
      have x14 := (x1.trans x2).trans x4
      cases hr : evB C b1 ρ1 ph1 with
      | ok f ph2 =>
        rw [hr] at f3
        cases f with
        | nx ρ' => exact fun ι5 H5 σ5 x5 m1 m2 => ⟨ι5, ρ', ph2, x14.trans x5, m1, m2, FinS.base x5 f3⟩
        | ct ρ' => exact fun ι5 H5 σ5 x5 m1 m2 => ⟨ι5, ρ', ph2, x14.trans x5, m1, m2, FinS.base x5 f3⟩
        | bk ρ' => exact f3
        | rt v => exact f3
      | exc _ _ _ => rw [hr] at f3; exact f3
      | bad => rw [hr] at f3; exact f3
    · rintro σ H2 ⟨ι, ρ, ph, x1, r1, v1, f1⟩
      rw [List.drop_length] at f1
      obtain ⟨_, f1⟩ := f1.guard
      exact f1 ι H2 σ .refl r1 v1
end
end Pu

set_option Elab.async false
set_option linter.all false
set_option maxRecDepth 100000
/-! Pu17: dropping what nothing reaches; bodies of defs. -/
namespace Pu
open PySem PySem.Spec PyProof.Rows L2
section
variable {mg : Str → Option Value} {ι t : List Addr} {H H' : Hp} {ph ph' : PH}
mutual
theorem Rep.lo_of : ∀ (x : PV) (v : V), Rep mg ι H x v → x.lo ι.length = true
  | .non, _, _ => rfl
  | .bl _, _, _ => rfl
  | .int _, _, _ => rfl
  | .str _, _, _ => rfl
  | .ty _, _, _ => rfl
  | .gl _, _, _ => rfl
  | .ref n, _, ⟨a, h1, _⟩ => decide_eq_true (List.getElem?_eq_some_iff.mp h1).1
  | .tup xs, _, ⟨_, vs, _, _, _, h4⟩ => Reps.lo_of xs vs h4
theorem Reps.lo_of : ∀ (xs : List PV) (vs : List V), Reps mg ι H xs vs → PV.los ι.length xs = true
  | [], _, _ => rfl
  | x :: xs, _, ⟨v, r, _, h2, h3⟩ => by
    show (PV.lo ι.length x && PV.los ι.length xs) = true
    rw [Rep.lo_of x v h2, Reps.lo_of xs r h3]
    rfl
end
mutual
theorem Rep.cut : ∀ (x : PV) (v : V), Rep mg (ι ++ t) H x v → x.lo ι.length = true → Rep mg ι H x v
  | .non, _, h, _ => h
  | .bl _, _, h, _ => h
  | .int _, _, h, _ => h
  | .str _, _, h, _ => h
  | .ty _, _, h, _ => h
  | .gl _, _, h, _ => h
  | .ref n, _, ⟨a, h1, h2⟩, hl => ⟨a, by rw [List.getElem?_append_left (of_decide_eq_true hl)] at h1; exact h1, h2⟩
  | .tup xs, _, ⟨a, vs, h1, h2, h3, h4⟩, hl => ⟨a, vs, h1, h2, h3, Reps.cut xs vs h4 hl⟩
theorem Reps.cut : ∀ (xs : List PV) (vs : List V), Reps mg (ι ++ t) H xs vs → PV.los ι.length xs = true → Reps mg ι H xs vs
  | [], _, h, _ => h
  | x :: xs, _, ⟨v, r, h1, h2, h3⟩, hl => by
    have hl : PV.lo ι.length x = true ∧ PV.los ι.length xs = true := by simpa [PV.los] using hl
    exact ⟨v, r, h1, Rep.cut x v h2 hl.1, Reps.cut xs r h3 hl.2⟩
end
theorem RepF.lo_of {κ : Type} : ∀ (xs : List (κ × PV)) (vs : List (κ × V)), RepF mg ι H xs vs → (xs.all fun p => p.2.lo ι.length) = true
  | [], _, _ => rfl
  | x :: xs, _, ⟨v, r, _, h2, h3⟩ => by
    rw [List.all_cons, Rep.lo_of x.2 v h2, RepF.lo_of xs r h3]
    rfl
theorem RepF.cut {κ : Type} : ∀ (xs : List (κ × PV)) (vs : List (κ × V)), RepF mg (ι ++ t) H xs vs → (xs.all fun p => p.2.lo ι.length) = true → RepF mg ι H xs vs
  | [], _, h, _ => h
  | x :: xs, _, ⟨v, r, h1, h2, h3⟩, hl => by
    rw [List.all_cons, Bool.and_eq_true] at hl
    exact ⟨v, r, h1, Rep.cut x.2 v h2 hl.1, RepF.cut xs r h3 hl.2⟩
theorem RepO.lo_of {a : Addr} : ∀ {o : PO}, RepO mg ι H a o → o.lo ι.length = true
  | .lst _, ⟨vs, _, _, h3⟩ => Reps.lo_of _ _ h3
  | .dk _, ⟨vs, _, _, h3⟩ => RepF.lo_of _ _ h3
  | .dt _, ⟨vs, _, _, h3⟩ => RepF.lo_of _ _ h3
  | .fz _, _ => rfl
  | .lk _, ⟨vs, _, _, _, h3⟩ => RepF.lo_of _ _ h3
  | .lt _, ⟨vs, _, _, _, h3⟩ => RepF.lo_of _ _ h3
theorem RepO.cut {a : Addr} : ∀ {o : PO}, RepO mg (ι ++ t) H a o → o.lo ι.length = true → RepO mg ι H a o
  | .lst _, ⟨vs, h1, h2, h3⟩, hl => ⟨vs, h1, h2, Reps.cut _ _ h3 hl⟩
  | .dk _, ⟨vs, h1, h2, h3⟩, hl => ⟨vs, h1, h2, RepF.cut _ _ h3 hl⟩
  | .dt _, ⟨vs, h1, h2, h3⟩, hl => ⟨vs, h1, h2, RepF.cut _ _ h3 hl⟩
  | .fz _, h, _ => h
  | .lk _, ⟨vs, o, h1, h2, h3⟩, hl => ⟨vs, o, h1, h2, RepF.cut _ _ h3 hl⟩
  | .lt _, ⟨vs, o, h1, h2, h3⟩, hl => ⟨vs, o, h1, h2, RepF.cut _ _ h3 hl⟩
theorem okOld_at {n : Nat} : ∀ {h0 h : PH} {i : Nat} {o : PO}, okOld n h0 h = true → h0[i]? = some o → ∃ o', h[i]? = some o' ∧ (o = o' ∨ o'.lo n = true)
  | [], _, _, _, _, e => by simp at e
  | x :: xs, [], _, _, h, _ => by cases h
  | x :: xs, y :: ys, 0, o, h, e => by
    simp only [okOld, Bool.and_eq_true, Bool.or_eq_true, decide_eq_true_eq] at h
    simp at e
    subst e
    exact ⟨y, rfl, h.1⟩
  | x :: xs, y :: ys, i + 1, o, h, e => by
    simp only [okOld, Bool.and_eq_true] at h
    obtain ⟨o', h1, h2⟩ := okOld_at h.2 (i := i) (by simpa using e)
    exact ⟨o', by simpa using h1, h2⟩
theorem okOld_len {n : Nat} : ∀ {h0 h : PH}, okOld n h0 h = true → h0.length ≤ h.length
  | [], _, _ => Nat.zero_le _
  | x :: xs, [], h => by cases h
  | x :: xs, y :: ys, h => by
    simp only [okOld, Bool.and_eq_true] at h
    have := okOld_len h.2
    simp; omega
/-- what was there at first, as it is now -/
theorem HRep.cut (h0 : HRep mg ι H ph) (e : Ext ι H (ι ++ t) H') (h : HRep mg (ι ++ t) H' ph') (ok : okOld ph.length ph ph' = true) : HRep mg ι H' (ph'.take ph.length) := by
  have hl := okOld_len ok
  refine ⟨by rw [List.length_take, h0.len]; omega, h0.nd, fun n a o e1 e2 => ?_⟩
  have hn : n < ph.length := by rw [← h0.len]; exact (List.getElem?_eq_some_iff.mp e1).1
  rw [List.getElem?_take_of_lt hn] at e2
  have r := h.obj n a o (by rw [List.getElem?_append_left (by rw [h0.len]; exact hn)]; exact e1) e2
  obtain ⟨o', q1, q2⟩ := okOld_at ok (List.getElem?_eq_getElem hn)
  rw [e2] at q1
  cases q1
  refine r.cut ?_
  rw [h0.len]
  rcases q2 with q | q
  · have r0 := h0.obj n a _ e1 (List.getElem?_eq_getElem hn)
    rw [q] at r0
    rw [← h0.len]
    exact r0.lo_of
  · exact q
theorem Ext.cut (e : Ext ι H (ι ++ t) H') : Ext ι H ι H' := ⟨⟨[], by simp, by simp⟩, e.tups, e.keep, e.dom, e.frz⟩
theorem REnv.cut {ρ : Pu.Env} {σ : L2.St} (r : REnv mg (ι ++ t) H ρ σ) : REnv mg ι H (kill ι.length ρ) σ := by
  refine ⟨by unfold kill; rw [List.length_map]; exact r.len, fun i v e => ?_⟩
  rw [look_get] at e
  unfold kill at e
  rw [List.getElem?_map] at e
  cases hq : ρ[i]? with
  | none => rw [hq] at e; cases e
  | some o =>
    rw [hq] at e
    cases o with
    | none => cases e
    | some x =>
      simp only [Option.map_some, Option.getD_some] at e
      by_cases hl : PV.lo ι.length x = true
      · rw [if_pos hl] at e
        cases e
        obtain ⟨z, h1, h2⟩ := r.at_ i v (by rw [look_get, hq]; rfl)
        exact ⟨z, h1, Rep.cut v z h2 hl⟩
      · rw [if_neg hl] at e
        cases e
variable {W : WX} {σ : L2.St} {Q : VK} {D : Ends}
/-- what was dropped is not missed -/
theorem trim_fin (h0 : HRep mg ι H ph) {v : PV} {b : Bool} (hb : b = true → v.lo ph.length = true) (hF : Fin mg W σ (Rep mg) Q ι H (.ok v (trimH b ph ph'))) : Fin mg W σ (Rep mg) Q ι H (.ok v ph') := by
  unfold trimH at hF
  split at hF
  · rename_i hc
    rw [Bool.and_eq_true] at hc
    intro ι' H' x e hr rx
    obtain ⟨t, rfl, ht⟩ := e.more
    have hl := hb hc.1
    rw [← h0.len] at hl
    exact hF ι H' x e.cut (h0.cut e hr hc.2) (Rep.cut v x rx hl)
  · exact hF
theorem trim_finS (h0 : HRep mg ι H ph) {f : Fl} (hF : FinS mg W D ι H (trS ph f ph')) : FinS mg W D ι H (.ok f ph') := by
  unfold trS at hF
  split at hF
  · rename_i hc
    cases f with
    | nx ρ =>
      intro ι' H' σ' e hr rv
      obtain ⟨t, rfl, ht⟩ := e.more
      exact hF ι H' σ' e.cut (h0.cut e hr hc) (by rw [← h0.len]; exact rv.cut)
    | bk ρ =>
      intro ι' H' σ' e hr rv
      obtain ⟨t, rfl, ht⟩ := e.more
      exact hF ι H' σ' e.cut (h0.cut e hr hc) (by rw [← h0.len]; exact rv.cut)
    | ct ρ =>
      intro ι' H' σ' e hr rv
      obtain ⟨t, rfl, ht⟩ := e.more
      exact hF ι H' σ' e.cut (h0.cut e hr hc) (by rw [← h0.len]; exact rv.cut)
    | rt v =>
      simp only at hF
      split at hF
      · rename_i hl
        intro ι' H' x e hr rx
        obtain ⟨t, rfl, ht⟩ := e.more
        exact hF ι H' x e.cut (h0.cut e hr hc) (Rep.cut v x rx (by rw [h0.len]; exact hl))
      · exact hF
  · exact hF
end
section
variable {X : Cx} {C : Cfg} {W : WX} {E : Expr} {e : Ex} {S : Stmt} {s : Sm}
theorem s_tr (h : SE X C W E e) : SE X C W E (.tr e) := h.imp fun σ H Q ⟨ι, ρ, ph, h1, h2, h3⟩ => ⟨ι, ρ, ph, h1, h2, by
  change Fin X.mg W σ (Rep X.mg) Q ι H ((ev C e ρ ph).bind fun v h' => .ok v (trimH (v.lo ph.length) ph h')) at h3
  cases hr : ev C e ρ ph with
  | ok v ph' => rw [hr] at h3; exact trim_fin h1 (fun q => q) h3
  | exc _ _ _ => rw [hr] at h3; exact h3
  | bad => rw [hr] at h3; exact h3⟩
theorem ss_tr (h : SS X C W S s) : SS X C W S (.tr s) := h.imp fun D σ H ⟨ι, ρ, ph, h1, h2, h3⟩ => ⟨ι, ρ, ph, h1, h2, by
  change FinS X.mg W D ι H ((evS C s ρ ph).bind fun f h' => trS ph f h') at h3
  cases hr : evS C s ρ ph with
  | ok f ph' => rw [hr] at h3; exact trim_finS h1 h3
  | exc _ _ _ => rw [hr] at h3; exact h3
  | bad => rw [hr] at h3; exact h3⟩
end
/-! ### bodies -/
theorem look_app (xs : List PV) (n : Nat) (i : Nat) (v : PV) (h : look (xs.map some ++ List.replicate n none) i = some v) : xs[i]? = some v := by
  rw [look_get] at h
  by_cases hl : i < xs.length
  · rw [List.getElem?_append_left (by simpa using hl), List.getElem?_map, List.getElem?_eq_getElem hl] at h
    rw [List.getElem?_eq_getElem hl]
    exact h
  · rw [List.getElem?_append_right (by simpa using hl), List.getElem?_replicate] at h
    split at h <;> cases h
theorem frame_rep {mg : Str → Option Value} {ι : List Addr} {H : Hp} {xs : List PV} {vs : List V} (d : FD) (N : List Str) (hN : N.length = d.ns) (r : Reps mg ι H xs vs) : REnv mg ι H (frame d xs) (L2.start N vs) := by
  refine ⟨by unfold frame L2.start; simp [hN, r.length], fun i v e => ?_⟩
  obtain ⟨w, h1, h2⟩ := r.get (look_app xs _ i v e)
  refine ⟨w, ?_, h2⟩
  unfold L2.start
  have hl : i < vs.length := (List.getElem?_eq_some_iff.mp h1).1
  rw [List.getElem?_append_left (by simpa using hl), List.getElem?_map, h1]
  rfl
/-- the context of a def's body: what it promises is kept by the evaluator's answer -/
theorem body_ok {P : Program} {w : World} {K : PySem.W.Frag} {mg : Str → Option Value} {base : Heap} {N ps : List Str} {qual : Str} {scope : Scope} {f : Addr} {cdv : Value} {A : Around} {outer : List PySem.Env} {s : Shared} {H : Hp} {vs : List V} {Q : VK} {E : XK} {body : List Stmt} {d : FD} {Γ : List FD} {fuel k i : Nat}
    (hd : Γ[i]? = some d) (hnp : d.np = ps.length) (hN : N.length = d.ns) (hb : SB (cxOf (L2N.CX P w) P w K mg base N qual scope f cdv A outer s H E) ⟨callN Γ fuel k, fuel⟩ (fun cls dd _ H' => E cls dd H') body d.body) (hsp : spC mg (callN Γ fuel (k + 1)) i ps.length vs H Q E) :
    ∃ t, PSs (cxOf (L2N.CX P w) P w K mg base N qual scope f cdv A outer s H E) body t ∧ t { nx := fun _ H' => Q .non H', rt := Q } (L2.start N vs) H := by
  obtain ⟨hl, ι, ph, xs, h1, h2, h3⟩ := hsp
  refine ⟨_, hb, ι, frame d xs, ph, h1, frame_rep d N hN h2, ?_⟩
  have hx : xs.length = d.np := by rw [h2.length, hl, hnp]
  have e : callN Γ fuel (k + 1) i xs ph = ends ph (evB ⟨callN Γ fuel k, fuel⟩ d.body (frame d xs) ph) := by
    show (match Γ[i]? with
      | some d => if xs.length = d.np then ends ph (evB ⟨callN Γ fuel k, fuel⟩ d.body (frame d xs) ph) else Res.bad
      | none => Res.bad) = _
    rw [hd]
    exact if_pos hx
  rw [e] at h3
  show FinS mg (fun cls dd _ H' => E cls dd H') { nx := fun _ H' => Q .non H', rt := Q } ι H (evB ⟨callN Γ fuel k, fuel⟩ d.body (frame d xs) ph)
  generalize evB ⟨callN Γ fuel k, fuel⟩ d.body (frame d xs) ph = r at h3
  cases r with
  | ok f ph' =>
    cases f with
    | nx ρ =>
      have q := trim_fin (ph' := ph') h1 (v := .non) (fun _ => rfl) h3
      exact fun ι' H' _ e r _ => q ι' H' .non e r rfl
    | rt v => exact trim_fin (ph' := ph') h1 (fun q => q) h3
    | bk _ => exact False.elim h3
    | ct _ => exact False.elim h3
  | exc c fs ph' => exact fun ι' H' _ cls dd e r x => h3 ι' H' cls dd e r x
  | bad => exact False.elim h3
/-- .. while an exception is handled -/
theorem body_okH {P : Program} {w : World} {K : PySem.W.Frag} {mg : Str → Option Value} {base : Heap} {N ps : List Str} {qual : Str} {scope : Scope} {f : Addr} {cdv : Value} {A : Around} {outer : List PySem.Env} {s : Shared} {H : Hp} {vs : List V} {Q : VK} {E : XK} {body : List Stmt} {d : FD} {p : Addr × Obj} {Γ : List FD} {fuel k i : Nat}
    (hd : Γ[i]? = some d) (hnp : d.np = ps.length) (hN : N.length = d.ns) (hb : SB (L2H.cxH (L2N.CX P w) P w K mg base N qual scope f cdv A outer s H E p) ⟨callN Γ fuel k, fuel⟩ (fun cls dd _ H' => E cls dd H') body d.body) (hsp : spC mg (callN Γ fuel (k + 1)) i ps.length vs H Q E) :
    ∃ t, PSs (L2H.cxH (L2N.CX P w) P w K mg base N qual scope f cdv A outer s H E p) body t ∧ t { nx := fun _ H' => Q .non H', rt := Q } (L2.start N vs) H := by
  obtain ⟨hl, ι, ph, xs, h1, h2, h3⟩ := hsp
  refine ⟨_, hb, ι, frame d xs, ph, h1, frame_rep d N hN h2, ?_⟩
  have hx : xs.length = d.np := by rw [h2.length, hl, hnp]
  have e : callN Γ fuel (k + 1) i xs ph = ends ph (evB ⟨callN Γ fuel k, fuel⟩ d.body (frame d xs) ph) := by
    show (match Γ[i]? with
      | some d => if xs.length = d.np then ends ph (evB ⟨callN Γ fuel k, fuel⟩ d.body (frame d xs) ph) else Res.bad
      | none => Res.bad) = _
    rw [hd]
    exact if_pos hx
  rw [e] at h3
  show FinS mg (fun cls dd _ H' => E cls dd H') { nx := fun _ H' => Q .non H', rt := Q } ι H (evB ⟨callN Γ fuel k, fuel⟩ d.body (frame d xs) ph)
  generalize evB ⟨callN Γ fuel k, fuel⟩ d.body (frame d xs) ph = r at h3
  cases r with
  | ok f ph' =>
    cases f with
    | nx ρ =>
      have q := trim_fin (ph' := ph') h1 (v := .non) (fun _ => rfl) h3
      exact fun ι' H' _ e r _ => q ι' H' .non e r rfl
    | rt v => exact trim_fin (ph' := ph') h1 (fun q => q) h3
    | bk _ => exact False.elim h3
    | ct _ => exact False.elim h3
  | exc c fs ph' => exact fun ι' H' _ cls dd e r x => h3 ι' H' cls dd e r x
  | bad => exact False.elim h3
end Pu

set_option Elab.async false
set_option linter.all false
set_option maxRecDepth 100000
/-! Pu18: a dict is locked while it is walked. -/
namespace Pu
open PySem PySem.Spec PyProof.Rows L2
/-- an exception leaves: the dict is as it was -/
theorem takes_unlock {X : Cx} {W : WX} (tk : L2N.Takes X W) {d : Addr} {od : Obj} {u : HO} (hn : ∀ o' u', X.H_0 d ≠ some (.frz o' u')) : L2N.Takes X (fun cls dd σ H => H d = some (.frz od u) ∧ W cls dd σ (upd H d u)) := fun x s' ⟨a, B, sI, pins, σ, H, cls, dd, e, I, nb, up, sky, na, os, ag, hd, w⟩ =>
  tk x s' ⟨a, B, sI, pins, σ, upd H d u, cls, dd, e, I.unlock hd hn, nb, up, sky, by rw [upd_ne (fun z => by rw [z, hd] at na; cases na)]; exact na, os, ag, w⟩
section
variable {mg : Str → Option Value} {ι : List Addr} {H : Hp} {ph : PH} {ρ : Pu.Env} {σ : L2.St} {i n : Nat} {o o' : PO}
/-- what is locked -/
structure LockS (mg : Str → Option Value) (ι : List Addr) (H : Hp) (ph : PH) (n : Nat) (o o' : PO) (d : Addr) (u : HO) : Prop where
  hn : ι[n]? = some d
  hd : H d = some u
  wr : wrO u = true
  mu : Mut (some u)
  on : ∀ od, HRep mg ι (upd H d (.frz od u)) (ph.set n o')
  back : ∀ ι' H' ph' od, Ext ι (upd H d (.frz od u)) ι' H' → HRep mg ι' H' ph' → HRep mg ι' (upd H' d u) (ph'.set n o)
theorem lock_at (h1 : HRep mg ι H ph) (e : lockAt (look ρ i) ph = some (n, o, o')) : ∃ d u, LockS mg ι H ph n o o' d u := by
  unfold lockAt at e
  split at e
  · rename_i m
    split at e
    · rename_i kvs e1
      cases e
      obtain ⟨d, hn, l, hd, hl, hf⟩ := h1.at_ e1
      have m0 : ∀ {O : HO}, Mon ι H ι (upd H d O) := ⟨fun _ _ h => h, fun a xs q => by rw [upd_ne (ne_of q hd fun z => nomatch z)]; exact q⟩
      exact ⟨d, .dK l, hn, hd, rfl, trivial, fun od => h1.write hn ⟨l, od, upd_same, hl, hf.mon m0⟩, fun ι' H' ph' od x r => r.write (x.get hn) ⟨l, upd_same, hl, hf.mon ((Mon.trans m0 x.mon).trans ⟨fun _ _ h => h, fun a xs q => by
        rw [upd_ne (ne_of q (x.frz d od _ upd_same) fun z => nomatch z)]; exact q⟩)⟩⟩
    · rename_i kvs e1
      cases e
      obtain ⟨d, hn, l, hd, hl, hf⟩ := h1.at_ e1
      have m0 : ∀ {O : HO}, Mon ι H ι (upd H d O) := ⟨fun _ _ h => h, fun a xs q => by rw [upd_ne (ne_of q hd fun z => nomatch z)]; exact q⟩
      exact ⟨d, .dT l, hn, hd, rfl, trivial, fun od => h1.write hn ⟨l, od, upd_same, hl, hf.mon m0⟩, fun ι' H' ph' od x r => r.write (x.get hn) ⟨l, upd_same, hl, hf.mon ((Mon.trans m0 x.mon).trans ⟨fun _ _ h => h, fun a xs q => by
        rw [upd_ne (ne_of q (x.frz d od _ upd_same) fun z => nomatch z)]; exact q⟩)⟩⟩
    · cases e
  · cases e
variable {d : Addr} {u : HO}
theorem LockS.env (L : LockS mg ι H ph n o o' d u) (h2 : REnv mg ι H ρ σ) (od : Obj) : REnv mg ι (upd H d (.frz od u)) ρ σ :=
  REnv.mon ⟨fun _ _ h => h, fun a xs q => by rw [upd_ne (ne_of q L.hd fun z => (wrO_tup L.wr).1 xs z.symm)]; exact q⟩ h2
theorem LockS.ext (L : LockS mg ι H ph n o o' d u) {ι' : List Addr} {H' : Hp} {od : Obj} (x : Ext ι (upd H d (.frz od u)) ι' H') : Ext ι H ι' (upd H' d u) ∧ Mon ι' H' ι' (upd H' d u) ∧ H' d = some (.frz od u) := by
  have hf := x.frz d od u upd_same
  obtain ⟨t, rfl, ht⟩ := x.more
  have nt : ∀ {b w}, H b = some w → w ≠ u → b ≠ d := fun {b w} q hw z => hw (by rw [z, L.hd] at q; cases q; rfl)
  refine ⟨⟨⟨t, rfl, fun b hb => ?_⟩, fun a xs q => ?_, fun a w q ha => ?_, fun b q => ?_, fun a o2 w q => ?_⟩, ⟨fun _ _ h => h, fun a xs q => ?_⟩, hf⟩
  · have := ht b hb
    by_cases hbd : b = d
    · rw [hbd, upd_same] at this; cases this
    · rw [upd_ne hbd] at this; exact this
  · have hb := nt q fun z => (wrO_tup L.wr).1 xs z.symm
    rw [upd_ne hb]
    exact x.tups a xs (by rw [upd_ne hb]; exact q)
  · have hb : a ≠ d := fun z => ha (z ▸ List.mem_of_getElem? L.hn)
    rw [upd_ne hb]
    exact x.keep a w (by rw [upd_ne hb]; exact q) ha
  · by_cases hbd : b = d
    · rw [hbd, upd_same] at q; cases q
    · rw [upd_ne hbd] at q
      have := x.dom b q
      rw [upd_ne hbd] at this
      exact this
  · have hb := nt q fun z => (wrO_tup L.wr).2 o2 w z.symm
    rw [upd_ne hb]
    exact x.frz a o2 w (by rw [upd_ne hb]; exact q)
  · rw [upd_ne (ne_of q hf fun z => nomatch z)]
    exact q
variable {W : WX} {D : Ends} {Q : VK}
theorem ExcR.mon {ι' : List Addr} {H' H'' : Hp} {c : Str} {fs : List (Str × PV)} {cls : Value} {dd : Option Addr} (m : Mon ι' H' ι' H'') (hx : ∀ a l, H' a = some (.xd l) → H'' a = some (.xd l)) (h : ExcR mg ι' H' c fs cls dd) : ExcR mg ι' H'' c fs cls dd := by
  obtain ⟨C, e, l, h1, h2, h3, h4, h5⟩ := h
  exact ⟨C, e, l, h1, h2, h3, hx _ _ h4, h5.mon m⟩
theorem LockS.fin (L : LockS mg ι H ph n o o' d u) (od : Obj) : ∀ {r : Res PV}, Fin mg W σ (Rep mg) Q ι H (onH (fun h => h.set n o) r) →
    Fin mg (fun cls dd σ H' => H' d = some (.frz od u) ∧ W cls dd σ (upd H' d u)) σ (Rep mg) (fun v H' => H' d = some (.frz od u) ∧ Q v (upd H' d u)) ι (upd H d (.frz od u)) r
  | .ok v ph', h => fun ι' H' b x hr rb => by
    obtain ⟨e1, e2, e3⟩ := L.ext x
    exact ⟨e3, h ι' _ b e1 (L.back ι' H' ph' od x hr) (Rep.mon e2 v b rb)⟩
  | .exc c fs ph', h => fun ι' H' cls dd x hr rb => by
    obtain ⟨e1, e2, e3⟩ := L.ext x
    exact ⟨e3, h ι' _ cls dd e1 (L.back ι' H' ph' od x hr) (rb.mon e2 fun a l q => by rw [upd_ne (ne_of q e3 fun z => nomatch z)]; exact q)⟩
  | .bad, h => h
theorem LockS.finS (L : LockS mg ι H ph n o o' d u) (od : Obj) : ∀ {r : Res Fl}, FinS mg W D ι H (onH (fun h => h.set n o) r) →
    FinS mg (fun cls dd σ H' => H' d = some (.frz od u) ∧ W cls dd σ (upd H' d u)) ⟨fun σ' H' => H' d = some (.frz od u) ∧ D.nx σ' (upd H' d u), fun v H' => H' d = some (.frz od u) ∧ D.rt v (upd H' d u), fun σ' H' => H' d = some (.frz od u) ∧ D.bk σ' (upd H' d u), fun σ' H' => H' d = some (.frz od u) ∧ D.ct σ' (upd H' d u)⟩ ι (upd H d (.frz od u)) r
  | .ok (.nx ρ) ph', h => fun ι' H' s x hr rv => by
    obtain ⟨e1, e2, e3⟩ := L.ext x
    exact ⟨e3, h ι' _ s e1 (L.back ι' H' ph' od x hr) (rv.mon e2)⟩
  | .ok (.bk ρ) ph', h => fun ι' H' s x hr rv => by
    obtain ⟨e1, e2, e3⟩ := L.ext x
    exact ⟨e3, h ι' _ s e1 (L.back ι' H' ph' od x hr) (rv.mon e2)⟩
  | .ok (.ct ρ) ph', h => fun ι' H' s x hr rv => by
    obtain ⟨e1, e2, e3⟩ := L.ext x
    exact ⟨e3, h ι' _ s e1 (L.back ι' H' ph' od x hr) (rv.mon e2)⟩
  | .ok (.rt v) ph', h => fun ι' H' b x hr rb => by
    obtain ⟨e1, e2, e3⟩ := L.ext x
    exact ⟨e3, h ι' _ b e1 (L.back ι' H' ph' od x hr) (Rep.mon e2 v b rb)⟩
  | .exc c fs ph', h => fun ι' H' s cls dd x hr rb => by
    obtain ⟨e1, e2, e3⟩ := L.ext x
    exact ⟨e3, h ι' _ s cls dd e1 (L.back ι' H' ph' od x hr) (rb.mon e2 fun a l q => by rw [upd_ne (ne_of q e3 fun z => nomatch z)]; exact q)⟩
  | .bad, h => h
end
section
variable {X : Cx} {C : Cfg} {W : WX} {E : Expr} {e : Ex} {S : Stmt} {s : Sm} {tg : Expr} {i : Nat}
theorem s_lk (tk : L2N.Takes X W) (he : ∀ W', L2N.Takes X W' → SE X C W' E e) : SE X C W E (.lk i e) := ⟨fun pins s σ H Q I ⟨ι, ρ, ph, h1, h2, h3⟩ => by
  change Fin X.mg W σ (Rep X.mg) Q ι H (match lockAt (look ρ i) ph with
    | some (n, o, o') => onH (fun h => h.set n o) (ev C e ρ (ph.set n o'))
    | none => .bad) at h3
  cases hl : lockAt (look ρ i) ph with
  | none => rw [hl] at h3; exact False.elim h3
  | some p =>
    obtain ⟨n, o, o'⟩ := p
    rw [hl] at h3
    obtain ⟨d, u, L⟩ := lock_at h1 hl
    obtain ⟨od, I1⟩ := I.lock L.hd L.mu
    have nf := I.nofrz L.hd L.mu
    exact thn ((he _ (takes_unlock tk (od := od) (u := u) nf)).run pins s σ _ _ I1 ⟨ι, ρ, ph.set n o', L.on od, L.env h2 od, L.fin od h3⟩) fun v s1 ⟨x, H1, I2, r, e2, q⟩ => ⟨x, _, I2.unlock e2 nf, r, q⟩⟩
theorem ss_lk (tk : L2N.Takes X W) (he : ∀ W', L2N.Takes X W' → SS X C W' S s) : SS X C W S (.lk i s) := ⟨fun pins st σ H D I ⟨ι, ρ, ph, h1, h2, h3⟩ => by
  change FinS X.mg W D ι H (match lockAt (look ρ i) ph with
    | some (n, o, o') => onH (fun h => h.set n o) (evS C s ρ (ph.set n o'))
    | none => .bad) at h3
  cases hl : lockAt (look ρ i) ph with
  | none => rw [hl] at h3; exact False.elim h3
  | some p =>
    obtain ⟨n, o, o'⟩ := p
    rw [hl] at h3
    obtain ⟨d, u, L⟩ := lock_at h1 hl
    obtain ⟨od, I1⟩ := I.lock L.hd L.mu
    have nf := I.nofrz L.hd L.mu
    refine thn ((he _ (takes_unlock tk (od := od) (u := u) nf)).run pins st σ _ _ I1 ⟨ι, ρ, ph.set n o', L.on od, L.env h2 od, L.finS od h3⟩) fun f s1 q => ?_
    cases f with
    | next => obtain ⟨σ', H', I2, e, q⟩ := q; exact ⟨σ', _, I2.unlock e nf, q⟩
    | brk => obtain ⟨σ', H', I2, e, q⟩ := q; exact ⟨σ', _, I2.unlock e nf, q⟩
    | cont => obtain ⟨σ', H', I2, e, q⟩ := q; exact ⟨σ', _, I2.unlock e nf, q⟩
    | ret v => obtain ⟨x, σ', H', I2, r, e, q⟩ := q; exact ⟨x, σ', _, I2.unlock e nf, r, q⟩⟩
theorem ofKey_rep {mg : Str → Option Value} {ι : List Addr} {H : Hp} (k : Key) : Rep mg ι H (ofKey k) (kV k) := by cases k <;> rfl
theorem ofKeys_rep {mg : Str → Option Value} {ι : List Addr} {H : Hp} : ∀ ks : List Key, Reps mg ι H (ks.map ofKey) (ks.map kV)
  | [] => rfl
  | k :: ks => ⟨_, _, rfl, ofKey_rep k, ofKeys_rep ks⟩
theorem RepF.key {κ : Type} {mg : Str → Option Value} {ι : List Addr} {H : Hp} : ∀ {kvs : List (κ × PV)} {l : List (κ × V)}, RepF mg ι H kvs l → ∀ {i : Nat} {k : κ} {v : V}, l[i]? = some (k, v) → ∃ x, kvs[i]? = some (k, x) ∧ Rep mg ι H x v
  | [], _, h, _, _, _, e => by cases h; simp at e
  | p :: ps, _, ⟨v, r, h1, h2, h3⟩, 0, k, w, e => by
    subst h1
    simp at e
    obtain ⟨rfl, rfl⟩ := e
    exact ⟨p.2, rfl, h2⟩
  | p :: ps, _, ⟨v, r, h1, h2, h3⟩, i + 1, k, w, e => by
    subst h1
    obtain ⟨x, h, h'⟩ := RepF.key h3 (i := i) (by simpa using e)
    exact ⟨x, by simpa using h, h'⟩
theorem i_keys (ha : SE X C W E e) : SI X C W tg E (.keys e) :=
  (pi_keys ha).imp fun σ H R h => step (m := ev C e) h fun x H1 ι1 ρ ph1 p h1 h2 h3 h4 => by
    have h4 := h4.prim (σ' := [])
    cases p with
    | ref n =>
      simp only [keysV] at h4
      split at h4
      · rename_i kvs e1
        obtain ⟨d, hn, rfl, l, od, hd, hl, hf⟩ := ref_at h1 h3 e1
        refine ⟨d, od, rfl, .inl ⟨l, hd, h4.here h1 ⟨fun H => H d = some (.frz od (.dK l)), fun i H x H' => H' = H ∧ ∃ k v, l[i]? = some (k, v) ∧ x = kV k, ?_, fun ι2 H2 ph2 m _ _ => m.frz _ _ _ hd, ?_⟩⟩⟩
        · show Walk (Itk d od l) (kvs.map fun p => ofKey p.1).length _ _
          rw [List.length_map, hf.length]
          exact walk_keys
        · intro i H2 x H3 ι2 ph2 hi m hr g y
          obtain ⟨rfl, k, v, q, rfl⟩ := y
          obtain ⟨z, q1, _⟩ := hf.key q
          exact ⟨.refl, hr, ofKey k, by simp [q1], ofKey_rep k⟩
      · rename_i kvs e1
        obtain ⟨d, hn, rfl, l, od, hd, hl, hf⟩ := ref_at h1 h3 e1
        refine ⟨d, od, rfl, .inr ⟨l, hd, h4.here h1 ⟨fun H => H d = some (.frz od (.dT l)), fun i H x H' => H' = H ∧ ∃ (k : List Key) (v : V) (q : Addr), l[i]? = some (k, v) ∧ x = .ref q ∧ H q = some (.tup (k.map kV)), ?_, fun ι2 H2 ph2 m _ _ => m.frz _ _ _ hd, ?_⟩⟩⟩
        · show Walk (Itkt d od l) (kvs.map fun p => PV.tup (p.1.map ofKey)).length _ _
          rw [List.length_map, hf.length]
          exact walk_keysT
        · intro i H2 x H3 ι2 ph2 hi m hr g y
          obtain ⟨rfl, k, v, a, q, rfl, ha⟩ := y
          obtain ⟨z, q1, _⟩ := hf.key q
          exact ⟨.refl, hr, .tup (k.map ofKey), by simp [q1], a, _, rfl, ha, by rw [List.length_map]; exact hl.2 _ (List.mem_of_getElem? q), ofKeys_rep k⟩
      · exact False.elim h4
    | _ => exact False.elim h4
end
end Pu

set_option Elab.async false
set_option linter.all false
set_option maxRecDepth 100000
set_option maxHeartbeats 1000000
/-! Pu19: comprehensions of dicts, keys of any kind, one clause or two. -/
namespace Pu
open PySem PySem.Spec PyProof.Rows L2
/-! ### stores -/
section
variable {X : Cx} {pins : List (Addr × Obj)} {σ : L2.St} {H H' : Hp} {s : Shared} {E : Value → Shared → Prop} {D : Addr} {y z : V} {u r : Value}
/-- the store of a comprehension, of a display -/
theorem put_any {Q : Unit → Shared → Prop} (hu : X.A.units + 1 < cLine) (I : L2.Inv X pins σ H s) (g : DPut H D y z H') (ry : RelV y u) (rz : RelV z r) (fin : ∀ t, L2.Inv X pins σ H' t → Q () t) : wpAny (model X.prog X.w) X.A (dictSet D u r) Q E s := by
  rcases g with ⟨kvs, k, hD, rfl, hl, rfl⟩ | ⟨kvs, k, b, hD, rfl, hb, hl, rfl⟩
  · exact d_dictSet I hD hl ry rz fin
  · cases (show u = Value.ref b from ry)
    obtain ⟨n1, n2, ks, kt, dd⟩ := dt_of I.hok hD
    have h1 : ks.length ≤ sizeLine := by
      rw [← Paired.length kt]
      exact n1
    have h2 : (putK kvs k z).length ≤ sizeLine := by
      have := length_putK kvs k z
      omega
    refine wpAny_dictSet_heap (hsz := h1) (show (tupleKind (mixKind X.prog X.w)).room X.A from (by show X.A.units < cLine; omega)) (key_of I.hok hb) dd fun hp2 dd2 same => fin _ ?_
    obtain ⟨ob, ents, ep, g1, g2, g3, g4, _, g5⟩ := dd2
    have up : KT (upd H D (.dT (putK kvs k z))) (putK kvs k z) (storedH ks k b r) :=
      (kt.put k hb rz).keeps fun c ys ec => by
        rw [upd_ne (ne_of ec hD fun z => nomatch z)]
        exact ec
    exact d_write I (by rw [hD]; trivial) same ⟨ob, g1⟩ ⟨h2, n2, _, up, ob, ents, ep, g1, g2, g3, g4, g5⟩
end
/-! ### the turns -/
section
variable {prog : Program} {w : World} {A : Around} {R : Result → Shared → Prop} {s : Shared} {kx vx t0 i0 t1 i1 : Expr} {c0 c1 : List Expr} {scope : Scope} {pos : Pos} {it : Value} {D : Addr} {env : PySem.Env}
abbrev dc2 (kx vx t0 i0 t1 i1 : Expr) (c0 c1 : List Expr) (scope : Scope) (pos : Pos) : Expr := .DictComp kx vx [⟨t0, i0, c0, 0⟩, ⟨t1, i1, c1, 0⟩] scope pos
theorem turn2_first : compTurn (dc2 kx vx t0 i0 t1 i1 c0 c1 scope pos) 0 it (.ref D) env = (do
    standAt i0.pos
    let got ← pyNext it
    match got with
    | none => pure (.done .next)
    | some v =>
      letOwnedTupleGo t0 it v
      assign t0 env v
      let mut ok := true
      for c in c0 do
        if ok then ok ← isTrue c env (eval c env)
      if ok then
        let x ← eval i1 env
        standAt i1.pos
        let x ← foldedSetIterable i1 env x
        let _ ← runOwn (.compStart (dc2 kx vx t0 i0 t1 i1 c0 c1 scope pos) 1 (← holding [x] (pyIter x)) (.ref D) env) env
      again (.compLoop (dc2 kx vx t0 i0 t1 i1 c0 c1 scope pos) 0 it (.ref D) env)) := by rfl
theorem turn2_second : compTurn (dc2 kx vx t0 i0 t1 i1 c0 c1 scope pos) 1 it (.ref D) env = (do
    standAt i1.pos
    let got ← pyNext it
    match got with
    | none => pure (.done .next)
    | some v =>
      letOwnedTupleGo t1 it v
      assign t1 env v
      let mut ok := true
      for c in c1 do
        if ok then ok ← isTrue c env (eval c env)
      if ok then
        (do
          let kv ← eval kx env
          let vv ← holding [kv] (eval vx env)
          standAt { kx.pos with endLine := vx.pos.endLine, endCol := vx.pos.endCol }
          holding [kv, vv] (dictSet D kv vv))
      again (.compLoop (dc2 kx vx t0 i0 t1 i1 c0 c1 scope pos) 1 it (.ref D) env)) := by rfl
/-- what the tests of a clause are to lead to -/
abbrev tests (env : PySem.Env) (cs : List Expr) : Sem Bool := forIn cs true fun c r => if r = true then do let ok ← isTrue c env (eval c env); pure (ForInStep.yield ok) else pure (ForInStep.yield r)
abbrev errs (prog : Program) (w : World) (A : Around) (env : PySem.Env) (R : Result → Shared → Prop) : Value → Shared → Prop := notedBy (model prog w) A env fun e t => R (.error e) t
theorem loop2_first (plainI : ∀ x, foldedSetIterable i1 env x = pure x) (J : Nat → Shared → Prop) (each : ∀ n s, J n s → wpAny (model prog w) A (pyNext it) (fun got s1 => match got with
      | none => R (.ok .next) s1
      | some v => wpAny (model prog w) A (letOwnedTupleGo t0 it v) (fun _ s2 => wpAny (model prog w) A (assign t0 env v) (fun _ s3 => wpAny (model prog w) A (tests env c0) (fun yes s4 =>
          if yes = true then wpAny (model prog w) A (eval i1 env) (fun x s5 => wpAny (model prog w) A (pyIter x) (fun it1 s6 =>
            codeAny (model prog w) A (.compStart (dc2 kx vx t0 i0 t1 i1 c0 c1 scope pos) 1 it1 (.ref D) env) (fun r t => match r with
              | .ok _ => ∃ m, m < n ∧ J m t
              | .error _ => False) s6) (errs prog w A env R) s5) (errs prog w A env R) s4
          else ∃ m, m < n ∧ J m s4) (errs prog w A env R) s3) (errs prog w A env R) s2) (errs prog w A env R) s1) (errs prog w A env R) s) (n : Nat) (h : J n s) :
    codeAny (model prog w) A (.compLoop (dc2 kx vx t0 i0 t1 i1 c0 c1 scope pos) 0 it (.ref D) env) R s := by
  refine codeAny_loop rfl J (fun n s j => ?_) n h
  show wpAny _ A ((compTurn (dc2 kx vx t0 i0 t1 i1 c0 c1 scope pos) 0 it (.ref D) env).onRaise fun x => do noteFrame x env; theTreesLotGoes x) _ _ s
  refine wpAny_noted ?_
  rw [turn2_first]
  refine wpAny_bind (wpAny_standAt (wpAny_bind (wpAny_mono (each n s j) (fun got s1 g1 => ?_) fun _ _ q => q)))
  cases got with
  | none => exact wpAny_pure g1
  | some v =>
    refine wpAny_bind (wpAny_mono g1 (fun _ s2 g2 => ?_) fun _ _ q => q)
    refine wpAny_bind (wpAny_mono g2 (fun _ s3 g3 => ?_) fun _ _ q => q)
    refine wpAny_bind (wpAny_mono g3 (fun yes s4 g4 => ?_) fun _ _ q => q)
    cases yes with
    | false => exact wpAny_pure ⟨rfl, g4⟩
    | true =>
      refine wpAny_bind (wpAny_mono g4 (fun x s5 g5 => ?_) fun _ _ q => q)
      refine wpAny_bind (wpAny_standAt (wpAny_bind (wpAny_of_eq (plainI x) (wpAny_bind (wpAny_holding (wpAny_mono g5 (fun it1 s6 g6 => ?_) fun _ _ q => q))))))
      refine wpAny_bind (wpAny_runOwn ?_)
      rw [Around.mark_none]
      refine codeAny_mono g6 fun r t g7 => ?_
      cases r with
      | ok f => first | exact wpAny_pure ⟨rfl, g7⟩ | exact wpAny_bind (wpAny_pure (wpAny_pure ⟨rfl, g7⟩))
      | error e => exact g7.elim
theorem loop2_second (J : Nat → Shared → Prop) (each : ∀ n s, J n s → wpAny (model prog w) A (pyNext it) (fun got s1 => match got with
      | none => R (.ok .next) s1
      | some v => wpAny (model prog w) A (letOwnedTupleGo t1 it v) (fun _ s2 => wpAny (model prog w) A (assign t1 env v) (fun _ s3 => wpAny (model prog w) A (tests env c1) (fun yes s4 =>
          if yes = true then wpAny (model prog w) A (eval kx env) (fun k s5 => wpAny (model prog w) A (eval vx env) (fun x s6 =>
            wpAny (model prog w) A (dictSet D k x) (fun _ s7 => ∃ m, m < n ∧ J m s7) (errs prog w A env R) s6) (errs prog w A env R) s5) (errs prog w A env R) s4
          else ∃ m, m < n ∧ J m s4) (errs prog w A env R) s3) (errs prog w A env R) s2) (errs prog w A env R) s1) (errs prog w A env R) s) (n : Nat) (h : J n s) :
    codeAny (model prog w) A (.compLoop (dc2 kx vx t0 i0 t1 i1 c0 c1 scope pos) 1 it (.ref D) env) R s := by
  refine codeAny_loop rfl J (fun n s j => ?_) n h
  show wpAny _ A ((compTurn (dc2 kx vx t0 i0 t1 i1 c0 c1 scope pos) 1 it (.ref D) env).onRaise fun x => do noteFrame x env; theTreesLotGoes x) _ _ s
  refine wpAny_noted ?_
  rw [turn2_second]
  refine wpAny_bind (wpAny_standAt (wpAny_bind (wpAny_mono (each n s j) (fun got s1 g1 => ?_) fun _ _ q => q)))
  cases got with
  | none => exact wpAny_pure g1
  | some v =>
    refine wpAny_bind (wpAny_mono g1 (fun _ s2 g2 => ?_) fun _ _ q => q)
    refine wpAny_bind (wpAny_mono g2 (fun _ s3 g3 => ?_) fun _ _ q => q)
    refine wpAny_bind (wpAny_mono g3 (fun yes s4 g4 => ?_) fun _ _ q => q)
    cases yes with
    | false => exact wpAny_pure ⟨rfl, g4⟩
    | true =>
      refine wpAny_bind (wpAny_bind (wpAny_mono g4 (fun k s5 g5 => ?_) fun _ _ q => q))
      refine wpAny_bind (wpAny_holding (wpAny_mono g5 (fun x s6 g6 => ?_) fun _ _ q => q))
      exact wpAny_bind (wpAny_standAt (wpAny_holding (wpAny_mono g6 (fun _ s7 g7 => wpAny_pure ⟨rfl, g7⟩) fun _ _ q => q)))
theorem start2_second (h0 : codeAny (model prog w) A (.compLoop (dc2 kx vx t0 i0 t1 i1 c0 c1 scope pos) 1 it (.ref D) env) R s)
    (h : wpAny (model prog w) A (pyIter it) (fun it' t => codeAny (model prog w) A (.compLoop (dc2 kx vx t0 i0 t1 i1 c0 c1 scope pos) 1 it' (.ref D) env) R t) (errs prog w A env R) s) :
    codeAny (model prog w) A (.compStart (dc2 kx vx t0 i0 t1 i1 c0 c1 scope pos) 1 it (.ref D) env) R s := by
  refine codeAny_of_tree ?_
  show wpAny _ _ ((compStart (dc2 kx vx t0 i0 t1 i1 c0 c1 scope pos) 1 it (.ref D) env).onRaise fun x => do noteFrame x env; standAt theWindowsPlace) _ _ s
  refine wpAny_notedAt ?_
  unfold compStart
  show wpAny _ _ (ask >>= _) _ _ s
  refine wpAny_bind (wpAny_askSetting (wpAny_ite ?_))
  split
  · first | exact wpAny_bind (wpAny_pure (wpAny_pure ⟨rfl, h0⟩)) | exact wpAny_pure ⟨rfl, h0⟩
  · exact wpAny_bind (wpAny_rule (wpAny_bind (wpAny_standAt (wpAny_bind (wpAny_mono h (fun it' t g => wpAny_pure (And.intro rfl g)) fun _ _ q => q)))))
end
/-! ### the block -/
section
variable {X : Cx}
/-- all that a comprehension's block has at its start -/
structure Ent (X : Cx) (pins : List (Addr × Obj)) (σ : L2.St) (own : List Nat) (scope : Scope) (tg : Expr) (s3 : Shared) (H3 : Hp) (ce : PySem.Env) (fp : List Addr) (it : Addr) (J : It) (tn : Nat → Heap → Prop) (s4 : Shared) : Prop where
  env : ∃ cl C, ce = compEnvC scope cl C X.env
  turn : Turn X.prog X.w X.K tg J fp it tn
  inv : L2.Inv (X.blk s3 H3 scope ce fp) [] (L2.wipe σ own) H3 s4
  clear : ∀ b ∈ fp, H3 b = none
  at0 : tn 0 s4.heap
  back : ∀ s H, L2.Inv (X.blk s3 H3 scope ce fp) [] (L2.wipe σ own) H s → L2.Inv X pins σ H s ∧ (∃ m, s.heap.Ns ce.locals m) ∧ FpOk X pins H ce.locals
theorem Ent.fp {pins : List (Addr × Obj)} {σ σ' : L2.St} {own : List Nat} {scope : Scope} {tg : Expr} {s3 s4 s : Shared} {H3 H : Hp} {ce : PySem.Env} {fp : List Addr} {it : Addr} {J : It} {tn : Nat → Heap → Prop}
    (_ : Ent X pins σ own scope tg s3 H3 ce fp it J tn s4) (I : L2.Inv (X.blk s3 H3 scope ce fp) [] σ' H s) (h : ∀ b ∈ fp, H b = none) : ∀ b ∈ fp, FpOk (X.blk s3 H3 scope ce fp) [] H b := fun b hb => by
  obtain ⟨e1, e2⟩ := I.ok.exf b hb
  exact ⟨h b hb, e1, I.ok.exfs b hb, .inl hb, fun x c e => e2 x c e, fun p hp => by cases hp⟩
/-- into the block: z the new dict -/
theorem dc_enter {pins : List (Addr × Obj)} {s : Shared} {σ : L2.St} {H : Hp} {kx vx tg iter : Expr} {ifs : List Expr} {rest : List Comprehension} {scope : Scope} {own : List (Str × Nat)} {pos pos' : Pos} {wi : TI} {use : Option (Value → Sem Unit)} {Qf : Value → Shared → Prop} {Z : It → Addr → Hp → Prop} {z : HO}
    (hz : z = .dK [] ∨ z = .dT []) (hN : X.N.Nodup) (I : L2.Inv X pins σ H s) (hi : PI X tg iter wi) (ok : BlkOk X.N X.env.scope scope own) (hs : ∀ x, foldedSetIterable iter X.env x = pure x)
    (h : wi σ H fun J H1 => ∀ D, H1 D = none → Z J D (upd H1 D z))
    (loop : ∀ s3 H3 ce fp it J tn s4 D, Ent X pins σ (own.map (·.2)) scope tg s3 H3 ce fp it J tn s4 → Z J D H3 →
      codeAny (model X.prog X.w) X.A (.compLoop (.DictComp kx vx (⟨tg, iter, ifs, 0⟩ :: rest) scope pos) 0 (.ref it) (.ref D) ce) (compPost (model X.prog X.w) X.A X.xe use Qf (.ref D) ce.locals) s4) :
    wpAny (model X.prog X.w) X.A (comprehension (.DictComp kx vx (⟨tg, iter, ifs, 0⟩ :: rest) scope pos) scope X.env pos' newDict false (eval iter X.env) use) Qf X.xe s := by
  have caught : ∀ y ∈ scope.names, y.2 = .free → ∃ c, X.env.cells.lookup y.1 = some c := fun y hy e => I.ok.has _ (ok.free y hy e)
  refine wpAny_comprehension_free (use := use) rfl hs (closure_ok caught) ok.kind (fun y hy e => by rw [ok.uniq y hy, e]) ?_
  refine thn (hi.run pins s σ H _ I h) fun _ s1 g1 => thn g1 fun _ s2 g2 => ?_
  obtain ⟨it, fp, tn, J, H2, rfl, I2, T, a2, f2, q⟩ := g2
  refine wpAny_newObj_type (newEnv_comp ?_)
  have free2 : H2 s2.heap.objs.size = none := I2.hok.fresh (Nat.le_refl _)
  have zq := q _ free2
  generalize hD : s2.heap.objs.size = D at free2 zq ⊢
  have I3 : L2.Inv X pins σ (upd H2 D z) { s2 with heap := s2.heap.push { cls := .type "dict", data := .dict #[] } } := by
    rw [← hD]
    refine I2.laid (t' := s2.toks) (fun b o e => Heap.get?_push_of_some _ e) (Nat.le_refl _) ?_
    rcases hz with rfl | rfl
    · exact dk_empty s2.heap I2.big
    · exact dt_empty s2.heap I2.big
  have small : ∀ b ∈ fp, b < s2.heap.objs.size := fun b hb => by
    obtain ⟨o, e, _⟩ := T.obj _ _ a2 b hb
    exact Heap.lt_size e
  generalize hs3 : ({ s2 with heap := s2.heap.push { cls := .type "dict", data := .dict #[] } } : Shared) = s3 at I3 ⊢
  have e3 : s3.heap = s2.heap.push { cls := .type "dict", data := .dict #[] } := by rw [← hs3]
  have f3 : ∀ b ∈ fp, FpOk X pins (upd H2 D z) b ∧ b < s3.heap.objs.size := fun b hb => by
    have lt := small b hb
    obtain ⟨n0, more⟩ := f2 b hb
    refine ⟨⟨?_, more⟩, ?_⟩
    · rw [upd_ne (by rw [← hD]; exact Nat.ne_of_lt lt)]
      exact n0
    · rw [e3, Heap.size_push]
      exact Nat.lt_succ_of_lt lt
  have a3 : tn 0 s3.heap := T.keep _ _ _ a2 fun b _ o e => by
    rw [e3]
    exact Heap.get?_push_of_some _ e
  have I4 := block_start I3 ok hN f3
  have n3 : ∀ b ∈ fp, upd H2 D z b = none := fun b hb => (f3 b hb).1.1
  show codeAny _ _ (.compStart (.DictComp kx vx (⟨tg, iter, ifs, 0⟩ :: rest) scope pos) 0 (.ref it) (.ref D) (compEnvC scope (cellsFrom (s3.heap.objs.size + 1) scope.names (cloFrom X.env.cells scope.names [])) s3.heap.objs.size X.env)) (compPost (model X.prog X.w) X.A X.xe use Qf (.ref D) s3.heap.objs.size) { s3 with heap := pushCells (s3.heap.push { cls := .type "dict", data := .dict #[] }) scope.names }
  have a4 : tn 0 (pushCells (s3.heap.push { cls := .type "dict", data := .dict #[] }) scope.names) := T.keep _ _ _ a3 fun b _ o e => pushCells_keeps _ _ _ _ (Heap.get?_push_of_some _ e)
  have run := loop s3 (upd H2 D z) _ fp it J tn { s3 with heap := pushCells (s3.heap.push { cls := .type "dict", data := .dict #[] }) scope.names } D ⟨⟨_, _, rfl⟩, T, I4, n3, a4, fun t H' I' => ⟨?_, ?_, ?_⟩⟩ zq
  · exact codeAny_compStart_dict run (T.self X.A 0 _ _ _ a4 run)
  · exact I3.call' (ch := fp) I'.os I'.base I'.hok I'.bare fun b hb => by
      obtain ⟨⟨_, k1, _, k3, k4, k5⟩, _⟩ := f3 b hb
      exact ⟨k3, k1, k4, k5⟩
  · obtain ⟨m, hn, _⟩ := I'.loc
    exact ⟨m, hn⟩
  · exact I3.fpOk (Nat.le_refl _) I'.free
/-- behind the block: the value -/
theorem post_val {pins : List (Addr × Obj)} {σ : L2.St} {own : List Nat} {scope : Scope} {tg : Expr} {s3 s4 s : Shared} {H3 H : Hp} {ce : PySem.Env} {fp : List Addr} {it D : Addr} {J : It} {tn : Nat → Heap → Prop} {Q : VK}
    (B : Ent X pins σ own scope tg s3 H3 ce fp it J tn s4) (I : L2.Inv (X.blk s3 H3 scope ce fp) [] (L2.wipe σ own) H s) (q : Q (.ref D) H) : compPost (model X.prog X.w) X.A X.xe none (EP X pins σ Q) (.ref D) ce.locals (.ok .next) s := by
  obtain ⟨I', ⟨m, hm⟩, f0, f1, f2, f3, f4, f5⟩ := B.back s H I
  exact ⟨m, hm, fun h2 same => ⟨.ref D, H, I'.turned (t' := s.toks) (fun b o hb e => (same.2 b hb).trans e) f0 f1 f3 f4 f5, rfl, q⟩⟩
/-- .. a local name on the same line takes it -/
theorem post_set {pins : List (Addr × Obj)} {σ : L2.St} {own : List Nat} {scope : Scope} {tg : Expr} {s3 s4 s : Shared} {H3 H : Hp} {ce : PySem.Env} {fp : List Addr} {it D : Addr} {J : It} {tn : Nat → Heap → Prop} {E : Ends} {i : Nat} {y : Str} {py : Pos}
    (hN : X.N.Nodup) (hy : X.N[i]? = some y) (hyl : X.env.scope.names.lookup y = some .local) (B : Ent X pins σ own scope tg s3 H3 ce fp it J tn s4) (I : L2.Inv (X.blk s3 H3 scope ce fp) [] (L2.wipe σ own) H s) (q : E.nx (σ.set i (some (.ref D))) H) :
    compPost (model X.prog X.w) X.A X.xe (some (assign (.Name y py) X.env)) (fun _ t => SP X pins E .next t) (.ref D) ce.locals (.ok .next) s := by
  obtain ⟨I', ⟨m, hm⟩, f0, f1, f2, f3, f4, f5⟩ := B.back s H I
  show wpAny _ _ (assign (.Name y py) X.env (.ref D)) _ _ _
  refine wpAny_assign_Name (store_ok2 (v := V.ref D) I' hN hy (.inl hyl) rfl (fun t I2 ⟨a, same, ha⟩ => ?_) (.inr hyl))
  have apart : ce.locals ≠ a := by
    rcases ha with z | z
    · rw [z]; exact f1
    · exact fun e => f4 y a z e.symm
  exact ⟨m, hm.sameBut same apart, fun h3 same3 => ⟨_, H, I2.turned (t' := t.toks) (fun b o hb e => (same3.2 b hb).trans e) f0 f1 f3 f4 f5, q⟩⟩
/-! ### one clause -/
/-- a turn leads on, or it ends -/
def Steps (J : It) (W : Nat → Nat → Hp → Prop) (Qd : Hp → Prop) (Body : (Hp → Prop) → V → Hp → Prop) : Prop :=
  ∀ i m H, W i m H → (J.stop i H ∧ Qd H) ∨ (J.go i H ∧ ∃ Nx : Hp → Prop, (∀ H', Nx H' → ∃ m', m' < m ∧ W (i + 1) m' H') ∧ ∀ x H', J.yld i H x H' → Body Nx x H')
def bodyD (g : TG) (tt : TT) (tk tv : TE) (vs : List Nat) (D : Addr) (σ : L2.St) : (Hp → Prop) → V → Hp → Prop := fun Nx x H =>
  g x (L2.wipe σ vs) H fun σ2 H2 => L2.wipe σ2 vs = L2.wipe σ vs ∧ tt σ2 H2 fun b H3 =>
    if b = true then tk σ2 H3 fun y H4 => tv σ2 H4 fun u H5 => ∃ H6, DPut H5 D y u H6 ∧ Nx H6 else Nx H3
def tDcA (z : HO) (wi : TI) (g : TG) (tt : TT) (tk tv : TE) (vs : List Nat) : TE := fun σ H Q => wi σ H fun J H1 => ∀ D, H1 D = none →
  ∃ W : Nat → Nat → Hp → Prop, (∃ m, W 0 m (upd H1 D z)) ∧ Steps J W (Q (.ref D)) (bodyD g tt tk tv vs D σ)
section
variable {kx vx tg iter : Expr} {ifs : List Expr} {scope : Scope} {own : List (Str × Nat)} {pos pos' : Pos} {wi : TI} {g : TG} {tt : TT} {tk tv : TE} {z : HO}
/-- rules that hold in the block -/
structure InBlk (X : Cx) (scope : Scope) (tg : Expr) (ifs : List Expr) (g : TG) (tt : TT) : Prop where
  tg : ∀ s H c cl fp, PG (blkX X scope s H c cl fp) tg g
  ifs : ∀ s H c cl fp, PTs (blkX X scope s H c cl fp) ifs tt
theorem dcA_core {pins : List (Addr × Obj)} {s : Shared} {σ : L2.St} {H : Hp} {Q : VK} {use : Option (Value → Sem Unit)} {Qf : Value → Shared → Prop} (hu : X.A.units + 1 < cLine) (hc : X.calm = true) (hz : z = .dK [] ∨ z = .dT []) (hN : X.N.Nodup) (I : L2.Inv X pins σ H s) (hi : PI X tg iter wi) (ok : BlkOk X.N X.env.scope scope own)
    (hb : InBlk X scope tg ifs g tt) (hk : ∀ s H c cl fp, PE (blkX X scope s H c cl fp) kx tk) (he : ∀ s H c cl fp, PE (blkX X scope s H c cl fp) vx tv) (hs : ∀ x, foldedSetIterable iter X.env x = pure x) (h : tDcA z wi g tt tk tv (own.map (·.2)) σ H Q)
    (leave : ∀ s3 H3 ce fp it J tn s4 D s5 H5, Ent X pins σ (own.map (·.2)) scope tg s3 H3 ce fp it J tn s4 → L2.Inv (X.blk s3 H3 scope ce fp) [] (L2.wipe σ (own.map (·.2))) H5 s5 → Q (.ref D) H5 → compPost (model X.prog X.w) X.A X.xe use Qf (.ref D) ce.locals (.ok .next) s5) :
    wpAny (model X.prog X.w) X.A (comprehension (.DictComp kx vx [⟨tg, iter, ifs, 0⟩] scope pos) scope X.env pos' newDict false (eval iter X.env) use) Qf X.xe s := by
  refine dc_enter (Z := fun J D H' => ∃ W : Nat → Nat → Hp → Prop, (∃ m, W 0 m H') ∧ Steps J W (Q (.ref D)) (bodyD g tt tk tv (own.map fun (p : Str × Nat) => p.2) D σ)) hz hN I hi ok hs h fun s3 H3 ce fp it J tn s4 D B ⟨W, ⟨m0, w0⟩, steps⟩ => ?_
  obtain ⟨cl, C, hce⟩ := B.env
  have pg : PG (X.blk s3 H3 scope ce fp) tg g := by rw [hce]; exact hb.tg _ _ _ _ _
  have pt : PTs (X.blk s3 H3 scope ce fp) ifs tt := by rw [hce]; exact hb.ifs _ _ _ _ _
  have pk : PE (X.blk s3 H3 scope ce fp) kx tk := by rw [hce]; exact hk _ _ _ _ _
  have pv : PE (X.blk s3 H3 scope ce fp) vx tv := by rw [hce]; exact he _ _ _ _ _
  refine compLoop_anyD (fun n t => ∃ i H', L2.Inv (X.blk s3 H3 scope ce fp) [] (L2.wipe σ (own.map (·.2))) H' t ∧ tn i t.heap ∧ (∀ b ∈ fp, H' b = none) ∧ W i n H') ?_ m0 ⟨0, H3, B.inv, B.at0, B.clear, w0⟩
  rintro n s5 ⟨i, H5, I5, a5, n5, w5⟩
  rcases steps i n H5 w5 with ⟨stop, fin⟩ | ⟨go, Nx, down, each⟩
  · refine thnF (B.turn.done (X.blk s3 H3 scope ce fp) rfl rfl rfl hc i [] s5 _ H5 (fun _ _ => False) I5 (B.fp I5 n5) a5 stop) fun r s6 ⟨hr, I6⟩ => ?_
    subst hr
    exact leave _ _ _ _ _ _ _ _ D _ _ B I6 fin
  · refine thnF (B.turn.item (X.blk s3 H3 scope ce fp) rfl rfl rfl hc i [] s5 _ H5 (fun _ _ => False) I5 (B.fp I5 n5) a5 go) fun r s6 ⟨u, hr, g6⟩ => ?_
    subst hr
    refine thnF g6 fun _ s7 ⟨x, H7, I7, r7, y7, a7, n7⟩ => ?_
    have P7 := I7.pinned (B.fp I7 n7) (B.turn.obj _ _ a7)
    have on : ∀ {t : Shared} {H' : Hp} {σ8 : L2.St}, L2.Inv (X.blk s3 H3 scope ce fp) ([] ++ pinsAt fp s7.heap) σ8 H' t → L2.wipe σ8 (own.map (·.2)) = L2.wipe σ (own.map (·.2)) → Nx H' →
        ∃ m, m < n ∧ ∃ i H', L2.Inv (X.blk s3 H3 scope ce fp) [] (L2.wipe σ (own.map (·.2))) H' t ∧ tn i t.heap ∧ (∀ b ∈ fp, H' b = none) ∧ W i m H' := fun {t H' σ8} I' hw nx => by
      obtain ⟨m', lt, w'⟩ := down H' nx
      have kept : ∀ b ∈ fp, ∀ o, s7.heap.get? b = some o → t.heap.get? b = some o ∧ H' b = none := fun b hb o e => by
        obtain ⟨k1, k2, _⟩ := I'.pin (b, o) (List.mem_append_right _ (List.mem_append_right _ (mem_pinsAt hb e)))
        exact ⟨k1, k2⟩
      refine ⟨m', lt, i + 1, H', (I'.unpinned (pins := [])).weak (by rw [← hw, L2.wipe_length]) (fun j v e => ?_), B.turn.keep _ _ _ a7 fun b hb o e => (kept b hb o e).1, fun b hb => ?_, w'⟩
      · rw [← hw] at e
        exact (wipe_some e).1
      · obtain ⟨o, e, _⟩ := B.turn.obj _ _ a7 b hb
        exact (kept b hb o e).2
    refine thnF (pg.run _ s7 _ H7 x u _ P7 r7 (each x H7 y7)) fun _ s8 ⟨σ8, H8, I8, hw, q8⟩ => ?_
    refine thnF (pt.run _ s8 σ8 H8 _ I8 q8) fun yes s9 ⟨H9, I9, q9⟩ => ?_
    cases yes with
    | false =>
      simp only [Bool.false_eq_true, if_false] at q9 ⊢
      exact on I9 hw q9
    | true =>
      simp only [if_true] at q9 ⊢
      refine thnF (pk.run _ s9 σ8 H9 _ I9 q9) fun kv t1 ⟨y, G1, J1, ry, q1⟩ => ?_
      refine thnF (pv.run _ t1 σ8 G1 _ J1 q1) fun vv t2 ⟨w, G2, J2, rw', G3, put, nx⟩ => ?_
      exact put_any (X := X.blk s3 H3 scope ce fp) hu J2 put ry rw' fun t3 J3 => on J3 hw nx
theorem pe_dcA (hu : X.A.units + 1 < cLine) (hc : X.calm = true) (hz : z = .dK [] ∨ z = .dT []) (hN : X.N.Nodup) (hi : PI X tg iter wi) (ok : BlkOk X.N X.env.scope scope own)
    (hb : InBlk X scope tg ifs g tt) (hk : ∀ s H c cl fp, PE (blkX X scope s H c cl fp) kx tk) (he : ∀ s H c cl fp, PE (blkX X scope s H c cl fp) vx tv) (hs : ∀ x, foldedSetIterable iter X.env x = pure x) :
    PE X (.DictComp kx vx [⟨tg, iter, ifs, 0⟩] scope pos) (tDcA z wi g tt tk tv (own.map (·.2))) := ⟨fun pins s σ H Q I h => by
  rw [arm_eval_DictComp]
  exact dcA_core hu hc hz hN I hi ok hb hk he hs h fun s3 H3 ce fp it J tn s4 D s5 H5 B I5 q => post_val B I5 q⟩
theorem ps_setDcA {i : Nat} {y : Str} {py spos : Pos} (hu : X.A.units + 1 < cLine) (hc : X.calm = true) (hz : z = .dK [] ∨ z = .dT []) (hN : X.N.Nodup) (hy : X.N[i]? = some y) (hyl : X.env.scope.names.lookup y = some .local) (hsw : swapsWith (.DictComp kx vx [⟨tg, iter, ifs, 0⟩] scope pos) (some (.Name y py)) spos.line X.env = pure true)
    (hi : PI X tg iter wi) (ok : BlkOk X.N X.env.scope scope own) (hb : InBlk X scope tg ifs g tt) (hk : ∀ s H c cl fp, PE (blkX X scope s H c cl fp) kx tk) (he : ∀ s H c cl fp, PE (blkX X scope s H c cl fp) vx tv) (hs : ∀ x, foldedSetIterable iter X.env x = pure x) :
    PS X (.Assign [.Name y py] (.DictComp kx vx [⟨tg, iter, ifs, 0⟩] scope pos) spos) (tAsg (tDcA z wi g tt tk tv (own.map (·.2))) (gName i)) := ⟨fun pins s σ H E I h => by
  rw [exec_Assign_Name_used _ _ _ _ hsw]
  refine wpAny_bind (wpAny_standAt (wpAny_bind ?_))
  show wpAny _ X.A (do let _ ← comprehension (.DictComp kx vx [⟨tg, iter, ifs, 0⟩] scope pos) scope X.env (firstIterPos [⟨tg, iter, ifs, 0⟩] pos) newDict false (eval iter X.env) (some (assign (.Name y py) X.env))) _ _ s
  have h : tDcA z wi g tt tk tv (own.map (·.2)) σ H (fun x H1 => gName i x σ H1 E.nx) := h
  exact wpAny_bind (thn (dcA_core (Qf := fun _ t => SP X pins E .next t) hu hc hz hN I hi ok hb hk he hs h fun s3 H3 ce fp it J tn s4 D s5 H5 B I5 q => post_set hN hy hyl B I5 q) fun _ t q => wpAny_pure (wpAny_pure q))⟩
end
end
end Pu

set_option Elab.async false
set_option linter.all false
set_option maxRecDepth 100000
set_option maxHeartbeats 1000000
/-! Pu20: comprehensions of dicts by two clauses. -/
namespace Pu
open PySem PySem.Spec PyProof.Rows L2
def bodyD2 (g : TG) (tt : TT) (wi1 : TI) (g1 : TG) (tt1 : TT) (tk tv : TE) (vs vs1 : List Nat) (D : Addr) (σ : L2.St) : (Hp → Prop) → V → Hp → Prop := fun Nx x H =>
  g x (L2.wipe σ vs) H fun σ2 H2 => L2.wipe σ2 vs = L2.wipe σ vs ∧ tt σ2 H2 fun b H3 =>
    if b = true then wi1 σ2 H3 fun J1 H4 => ∃ W1 : Nat → Nat → Hp → Prop, (∃ m, W1 0 m H4) ∧ Steps J1 W1 Nx (bodyD g1 tt1 tk tv vs1 D σ2) else Nx H3
def tDcA2 (z : HO) (wi : TI) (g : TG) (tt : TT) (wi1 : TI) (g1 : TG) (tt1 : TT) (tk tv : TE) (vs vs1 : List Nat) : TE := fun σ H Q => wi σ H fun J H1 => ∀ D, H1 D = none →
  ∃ W : Nat → Nat → Hp → Prop, (∃ m, W 0 m (upd H1 D z)) ∧ Steps J W (Q (.ref D)) (bodyD2 g tt wi1 g1 tt1 tk tv vs vs1 D σ)
section
variable {X : Cx} {kx vx tg iter tg1 iter1 : Expr} {ifs ifs1 : List Expr} {scope : Scope} {own : List (Str × Nat)} {vs1 : List Nat} {pos pos' : Pos} {wi wi1 : TI} {g g1 : TG} {tt tt1 : TT} {tk tv : TE} {z : HO}
theorem dcA2_core {pins : List (Addr × Obj)} {s : Shared} {σ : L2.St} {H : Hp} {Q : VK} {use : Option (Value → Sem Unit)} {Qf : Value → Shared → Prop} (hu : X.A.units + 1 < cLine) (hc : X.calm = true) (hz : z = .dK [] ∨ z = .dT []) (hN : X.N.Nodup) (I : L2.Inv X pins σ H s) (hi : PI X tg iter wi) (ok : BlkOk X.N X.env.scope scope own) (hv : ∀ i ∈ vs1, i ∈ own.map (·.2))
    (hb : InBlk X scope tg ifs g tt) (hi1 : ∀ s H c cl fp, PI (blkX X scope s H c cl fp) tg1 iter1 wi1) (hb1 : InBlk X scope tg1 ifs1 g1 tt1) (hk : ∀ s H c cl fp, PE (blkX X scope s H c cl fp) kx tk) (he : ∀ s H c cl fp, PE (blkX X scope s H c cl fp) vx tv)
    (hs : ∀ x, foldedSetIterable iter X.env x = pure x) (hs1 : ∀ env x, foldedSetIterable iter1 env x = pure x) (h : tDcA2 z wi g tt wi1 g1 tt1 tk tv (own.map (·.2)) vs1 σ H Q)
    (leave : ∀ s3 H3 ce fp it J tn s4 D s5 H5, Ent X pins σ (own.map (·.2)) scope tg s3 H3 ce fp it J tn s4 → L2.Inv (X.blk s3 H3 scope ce fp) [] (L2.wipe σ (own.map (·.2))) H5 s5 → Q (.ref D) H5 → compPost (model X.prog X.w) X.A X.xe use Qf (.ref D) ce.locals (.ok .next) s5) :
    wpAny (model X.prog X.w) X.A (comprehension (.DictComp kx vx [⟨tg, iter, ifs, 0⟩, ⟨tg1, iter1, ifs1, 0⟩] scope pos) scope X.env pos' newDict false (eval iter X.env) use) Qf X.xe s := by
  refine dc_enter (Z := fun J D H' => ∃ W : Nat → Nat → Hp → Prop, (∃ m, W 0 m H') ∧ Steps J W (Q (.ref D)) (bodyD2 g tt wi1 g1 tt1 tk tv (own.map fun (p : Str × Nat) => p.2) vs1 D σ)) hz hN I hi ok hs h fun s3 H3 ce fp it J tn s4 D B ⟨W, ⟨m0, w0⟩, steps⟩ => ?_
  obtain ⟨cl, C, hce⟩ := B.env
  have pg : PG (X.blk s3 H3 scope ce fp) tg g := by rw [hce]; exact hb.tg _ _ _ _ _
  have pt : PTs (X.blk s3 H3 scope ce fp) ifs tt := by rw [hce]; exact hb.ifs _ _ _ _ _
  have pi1 : PI (X.blk s3 H3 scope ce fp) tg1 iter1 wi1 := by rw [hce]; exact hi1 _ _ _ _ _
  have pg1 : PG (X.blk s3 H3 scope ce fp) tg1 g1 := by rw [hce]; exact hb1.tg _ _ _ _ _
  have pt1 : PTs (X.blk s3 H3 scope ce fp) ifs1 tt1 := by rw [hce]; exact hb1.ifs _ _ _ _ _
  have pk : PE (X.blk s3 H3 scope ce fp) kx tk := by rw [hce]; exact hk _ _ _ _ _
  have pv : PE (X.blk s3 H3 scope ce fp) vx tv := by rw [hce]; exact he _ _ _ _ _
  refine loop2_first (hs1 ce) (fun n t => ∃ i H', L2.Inv (X.blk s3 H3 scope ce fp) [] (L2.wipe σ (own.map (·.2))) H' t ∧ tn i t.heap ∧ (∀ b ∈ fp, H' b = none) ∧ W i n H') ?_ m0 ⟨0, H3, B.inv, B.at0, B.clear, w0⟩
  rintro n s5 ⟨i, H5, I5, a5, n5, w5⟩
  rcases steps i n H5 w5 with ⟨stop, fin⟩ | ⟨go, Nx, down, each⟩
  · refine thnF (B.turn.done (X.blk s3 H3 scope ce fp) rfl rfl rfl hc i [] s5 _ H5 (fun _ _ => False) I5 (B.fp I5 n5) a5 stop) fun r s6 ⟨hr, I6⟩ => ?_
    subst hr
    exact leave _ _ _ _ _ _ _ _ D _ _ B I6 fin
  · refine thnF (B.turn.item (X.blk s3 H3 scope ce fp) rfl rfl rfl hc i [] s5 _ H5 (fun _ _ => False) I5 (B.fp I5 n5) a5 go) fun r s6 ⟨u, hr, g6⟩ => ?_
    subst hr
    refine thnF g6 fun _ s7 ⟨x, H7, I7, r7, y7, a7, n7⟩ => ?_
    have P7 := I7.pinned (B.fp I7 n7) (B.turn.obj _ _ a7)
    -- the turn's end, from slots that know what the block knew at first
    have on : ∀ {t : Shared} {H' : Hp} {τ : L2.St}, L2.Inv (X.blk s3 H3 scope ce fp) ([] ++ pinsAt fp s7.heap) τ H' t → (L2.wipe σ (own.map (·.2))).length = τ.length → (∀ (j : Nat) v, (L2.wipe σ (own.map (·.2)))[j]? = some (some v) → τ[j]? = some (some v)) → Nx H' →
        ∃ m, m < n ∧ ∃ i H', L2.Inv (X.blk s3 H3 scope ce fp) [] (L2.wipe σ (own.map (·.2))) H' t ∧ tn i t.heap ∧ (∀ b ∈ fp, H' b = none) ∧ W i m H' := fun {t H' τ} I' hl hk nx => by
      obtain ⟨m', lt, w'⟩ := down H' nx
      have kept : ∀ b ∈ fp, ∀ o, s7.heap.get? b = some o → t.heap.get? b = some o ∧ H' b = none := fun b hb o e => by
        obtain ⟨k1, k2, _⟩ := I'.pin (b, o) (List.mem_append_right _ (List.mem_append_right _ (mem_pinsAt hb e)))
        exact ⟨k1, k2⟩
      refine ⟨m', lt, i + 1, H', (I'.unpinned (pins := [])).weak hl hk, B.turn.keep _ _ _ a7 fun b hb o e => (kept b hb o e).1, fun b hb => ?_, w'⟩
      obtain ⟨o, e, _⟩ := B.turn.obj _ _ a7 b hb
      exact (kept b hb o e).2
    refine thnF (pg.run _ s7 _ H7 x u _ P7 r7 (each x H7 y7)) fun _ s8 ⟨σ8, H8, I8, hw, q8⟩ => ?_
    refine thnF (pt.run _ s8 σ8 H8 _ I8 q8) fun yes s9 ⟨H9, I9, q9⟩ => ?_
    have l8 : (L2.wipe σ (own.map (·.2))).length = σ8.length := by rw [← hw, L2.wipe_length]
    have k8 : ∀ (j : Nat) v, (L2.wipe σ (own.map (·.2)))[j]? = some (some v) → σ8[j]? = some (some v) ∧ j ∉ own.map (·.2) := fun j v e => by
      rw [← hw] at e
      exact wipe_some e
    cases yes with
    | false =>
      simp only [Bool.false_eq_true, if_false] at q9 ⊢
      exact on I9 l8 (fun j v e => (k8 j v e).1) q9
    | true =>
      simp only [if_true] at q9 ⊢
      refine thnF (pi1.run _ s9 σ8 H9 _ I9 q9) fun _ s10 gx => thnF gx fun _ s11 g11 => ?_
      obtain ⟨it1, fp1, tn1, J1, H11, rfl, I11, T1, a11, f11, W1, ⟨m1, w1⟩, steps1⟩ := g11
      have fresh1 : ∀ {H' : Hp}, (∀ b ∈ fp1, H' b = none) → ∀ b ∈ fp1, FpOk (X.blk s3 H3 scope ce fp) ([] ++ pinsAt fp s7.heap) H' b := fun hn b hb => by
        obtain ⟨_, more⟩ := f11 b hb
        exact ⟨hn b hb, more⟩
      have inner : codeAny (model X.prog X.w) X.A (.compLoop (dc2 kx vx tg iter tg1 iter1 ifs ifs1 scope pos) 1 (.ref it1) (.ref D) ce) (fun r t => match r with
          | .ok _ => ∃ m, m < n ∧ ∃ i H', L2.Inv (X.blk s3 H3 scope ce fp) [] (L2.wipe σ (own.map (·.2))) H' t ∧ tn i t.heap ∧ (∀ b ∈ fp, H' b = none) ∧ W i m H'
          | .error _ => False) s11 := by
        refine loop2_second (fun k t => ∃ j H', L2.Inv (X.blk s3 H3 scope ce fp) ([] ++ pinsAt fp s7.heap) (L2.wipe σ8 vs1) H' t ∧ tn1 j t.heap ∧ (∀ b ∈ fp1, H' b = none) ∧ W1 j k H') ?_ m1
          ⟨0, H11, I11.weak (L2.wipe_length _ _) (fun j v e => (wipe_some e).1), a11, fun b hb => (f11 b hb).1, w1⟩
        rintro k s12 ⟨j, H12, I12, a12, n12, w12⟩
        rcases steps1 j k H12 w12 with ⟨stop1, fin1⟩ | ⟨go1, Nx1, down1, each1⟩
        · refine thnF (T1.done (X.blk s3 H3 scope ce fp) rfl rfl rfl hc j _ s12 (L2.wipe σ8 vs1) H12 (fun _ _ => False) I12 (fresh1 n12) a12 stop1) fun r s13 ⟨hr, I13⟩ => ?_
          subst hr
          refine on I13 (l8.trans (L2.wipe_length σ8 vs1).symm) (fun j v e => ?_) fin1
          obtain ⟨e1, e2⟩ := k8 j v e
          rw [wipe_out fun m => e2 (hv j m)]
          exact e1
        · refine thnF (T1.item (X.blk s3 H3 scope ce fp) rfl rfl rfl hc j _ s12 (L2.wipe σ8 vs1) H12 (fun _ _ => False) I12 (fresh1 n12) a12 go1) fun r s13 ⟨u1, hr, g13⟩ => ?_
          subst hr
          refine thnF g13 fun _ s14 ⟨x1, H14, I14, r14, y14, a14, n14⟩ => ?_
          have P14 := I14.pinned (fresh1 n14) (T1.obj _ _ a14)
          have on1 : ∀ {t : Shared} {H' : Hp} {τ : L2.St}, L2.Inv (X.blk s3 H3 scope ce fp) (([] ++ pinsAt fp s7.heap) ++ pinsAt fp1 s14.heap) τ H' t → L2.wipe τ vs1 = L2.wipe σ8 vs1 → Nx1 H' →
              ∃ m, m < k ∧ ∃ j H', L2.Inv (X.blk s3 H3 scope ce fp) ([] ++ pinsAt fp s7.heap) (L2.wipe σ8 vs1) H' t ∧ tn1 j t.heap ∧ (∀ b ∈ fp1, H' b = none) ∧ W1 j m H' := fun {t H' τ} I' hw1 nx => by
            obtain ⟨m', lt, w'⟩ := down1 H' nx
            have kept : ∀ b ∈ fp1, ∀ o, s14.heap.get? b = some o → t.heap.get? b = some o ∧ H' b = none := fun b hb o e => by
              obtain ⟨k1, k2, _⟩ := I'.pin (b, o) (List.mem_append_right _ (List.mem_append_right _ (mem_pinsAt hb e)))
              exact ⟨k1, k2⟩
            refine ⟨m', lt, j + 1, H', I'.unpinned.weak (by rw [← hw1, L2.wipe_length]) (fun j v e => ?_), T1.keep _ _ _ a14 fun b hb o e => (kept b hb o e).1, fun b hb => ?_, w'⟩
            · rw [← hw1] at e
              exact (wipe_some e).1
            · obtain ⟨o, e, _⟩ := T1.obj _ _ a14 b hb
              exact (kept b hb o e).2
          refine thnF (pg1.run _ s14 (L2.wipe σ8 vs1) H14 x1 u1 _ P14 r14 (each1 x1 H14 y14)) fun _ s15 ⟨σ15, H15, I15, hw1, q15⟩ => ?_
          refine thnF (pt1.run _ s15 σ15 H15 _ I15 q15) fun yes1 s16 ⟨H16, I16, q16⟩ => ?_
          cases yes1 with
          | false =>
            simp only [Bool.false_eq_true, if_false] at q16 ⊢
            exact on1 I16 hw1 q16
          | true =>
            simp only [if_true] at q16 ⊢
            refine thnF (pk.run _ s16 σ15 H16 _ I16 q16) fun kv t1 ⟨y, G1, J1', ry, q1⟩ => ?_
            refine thnF (pv.run _ t1 σ15 G1 _ J1' q1) fun vv t2 ⟨w, G2, J2, rw', G3, put, nx⟩ => ?_
            exact put_any (X := X.blk s3 H3 scope ce fp) hu J2 put ry rw' fun t3 J3 => on1 J3 hw1 nx
      exact start2_second inner (T1.self X.A 0 _ _ _ a11 inner)
theorem pe_dcA2 (hu : X.A.units + 1 < cLine) (hc : X.calm = true) (hz : z = .dK [] ∨ z = .dT []) (hN : X.N.Nodup) (hi : PI X tg iter wi) (ok : BlkOk X.N X.env.scope scope own) (hv : ∀ i ∈ vs1, i ∈ own.map (·.2))
    (hb : InBlk X scope tg ifs g tt) (hi1 : ∀ s H c cl fp, PI (blkX X scope s H c cl fp) tg1 iter1 wi1) (hb1 : InBlk X scope tg1 ifs1 g1 tt1) (hk : ∀ s H c cl fp, PE (blkX X scope s H c cl fp) kx tk) (he : ∀ s H c cl fp, PE (blkX X scope s H c cl fp) vx tv)
    (hs : ∀ x, foldedSetIterable iter X.env x = pure x) (hs1 : ∀ env x, foldedSetIterable iter1 env x = pure x) :
    PE X (.DictComp kx vx [⟨tg, iter, ifs, 0⟩, ⟨tg1, iter1, ifs1, 0⟩] scope pos) (tDcA2 z wi g tt wi1 g1 tt1 tk tv (own.map (·.2)) vs1) := ⟨fun pins s σ H Q I h => by
  rw [arm_eval_DictComp]
  exact dcA2_core hu hc hz hN I hi ok hv hb hi1 hb1 hk he hs hs1 h fun s3 H3 ce fp it J tn s4 D s5 H5 B I5 q => post_val B I5 q⟩
end
end Pu

set_option Elab.async false
set_option linter.all false
set_option maxRecDepth 100000
/-! Pu21: comprehensions and displays of dicts, the rules. -/
namespace Pu
open PySem PySem.Spec PyProof.Rows L2
section
variable {mg : Str → Option Value} {ι1 : List Addr} {H1 : Hp} {D : Addr}
/-- a dict with tuple keys that grows -/
def TI2 (mg : Str → Option Value) (ι1 : List Addr) (H1 : Hp) (D : Addr) (ι : List Addr) (H : Hp) (acc : List (List Key × PV)) (ph : PH) : Prop :=
  Ext ι1 H1 ι H ∧ HRep mg ι H ph ∧ D ∉ ι ∧ ∃ vs, H D = some (.dT vs) ∧ (vs.length ≤ sizeLine ∧ ∀ p ∈ vs, p.1.length ≤ sizeLine) ∧ RepF mg ι H acc vs
theorem TI2.start {ph : PH} (hr : HRep mg ι1 H1 ph) (hD : H1 D = none) : ∃ ι, TI2 mg ι1 H1 D ι (upd H1 D (.dT [])) [] ph :=
  ⟨ι1, Ext.new0 hD, hr.aside hD, (fun hm => by obtain ⟨u, hu, _⟩ := hr.mem hm; rw [hD] at hu; cases hu), [], upd_same, ⟨Nat.zero_le _, fun _ h => nomatch h⟩, rfl⟩
theorem TI2.skip {ι : List Addr} {H : Hp} {acc : List (List Key × PV)} {ph : PH} (h : TI2 mg ι1 H1 D ι H acc ph) {ι' : List Addr} {H' : Hp} {ph' : PH} (e : Ext ι H ι' H') (hr : HRep mg ι' H' ph') : TI2 mg ι1 H1 D ι' H' acc ph' := by
  obtain ⟨h1, h2, h3, vs, h4, h5, h6⟩ := h
  obtain ⟨o1, o2⟩ := e.out h4 h3
  exact ⟨h1.trans e, hr, o1, vs, o2, h5, h6.mono e⟩
theorem TI2.put {ι : List Addr} {H : Hp} {acc : List (List Key × PV)} {ph : PH} (hD : H1 D = none) (h : TI2 mg ι1 H1 D ι H acc ph) {ks : List PV} {k : List Key} {x : PV} {y v : V} (ek : keys? ks = some k) (ry : Rep mg ι H (.tup ks) y) (rx : Rep mg ι H x v) (hl : acc.length < sizeLine) :
    ∃ H', DPut H D y v H' ∧ TI2 mg ι1 H1 D ι H' (aput acc k x) ph ∧ MonF ι H ι H' := by
  obtain ⟨h1, h2, h3, vs, h4, h5, h6⟩ := h
  have hv : vs.length < sizeLine := by rw [← h6.length]; exact hl
  obtain ⟨b, ws, rfl, hb, hk, hs⟩ := ry
  rw [keys_v ek hs] at hb hk
  have m : Mon ι H ι (upd H D (.dT (putK vs k v))) := .aside h4 fun _ z => nomatch z
  exact ⟨_, .t h4 hb hv, ⟨h1.later hD, h2.asideMon h4 (fun _ z => nomatch z) h3, h3, _, upd_same, ⟨put_len hv, put_keys h5.2 (by rw [List.length_map] at hk; exact hk)⟩, (h6.mon m).put (rx.mon m)⟩, .aside h4⟩
theorem TI2.finish {W : WX} {σ : L2.St} {Q : VK} {ι : List Addr} {H : Hp} {acc : List (List Key × PV)} {ph : PH} (hD : H1 D = none) (h : TI2 mg ι1 H1 D ι H acc ph) (hF : Fin mg W σ (Rep mg) Q ι1 H1 (new (.dt acc) ph)) : Q (.ref D) H := by
  obtain ⟨h1, h2, h3, vs, h4, h5, h6⟩ := h
  have l : ph.length = ι.length := h2.len.symm
  exact hF (ι ++ [D]) H (.ref D) (h1.adopt hD) (h2.adopt h3 ⟨vs, h4, h5, h6.mon mon_adopt⟩) ⟨D, by rw [l, List.getElem?_append_right (Nat.le_refl _)]; simp, rfl⟩
end
theorem putTR_inv {kv v : PV} {acc acc' : List (List Key × PV)} {h h' : PH} (e : putTR kv v acc h = .ok acc' h') : ∃ ks k, kv = .tup ks ∧ keys? ks = some k ∧ acc.length < sizeLine ∧ acc' = aput acc k v ∧ h' = h := by
  unfold putTR at e
  split at e
  · rename_i ks
    split at e
    · rename_i k ek
      obtain ⟨g, e⟩ := guardR_inv e
      cases e
      exact ⟨ks, k, rfl, ek, of_decide_eq_true g, rfl, rfl⟩
    · cases e
  · cases e
theorem dcT_sem {X : Cx} {C : Cfg} {W : WX} {own : List Nat} {T : Tg} {it : Si} {ti : Exs} {k e : Ex} {σ : L2.St} {H : Hp} {Q : VK} (hw : T.within own = true) (h : rd X.mg W (Rep X.mg) (ev C (.dcT own T it ti k e)) σ H Q) :
    tDcA (.dT []) (rd X.mg W (WalkP X.mg) (evIt C it)) (gR X C T) (rd X.mg W0 eqb (evTs C ti)) (rd X.mg W0 (Rep X.mg) (ev C k)) (rd X.mg W0 (Rep X.mg) (ev C e)) own σ H Q := by
  refine rd_it h fun J H1 ι1 ρ ph1 s h1 h2 h3 h4 D hD => ?_
  obtain ⟨accF, phF, hrun, h4⟩ := h4.nobind
  refine loop_core h3 (TI2 X.mg ι1 H1 D) (fun ι H acc ph i => ⟨i.1.monF, i.2.1⟩) hrun (TI2.start h1 hD) (fun ι H i => i.finish hD h4) ?_
  intro ι H2 acc ph acc' ph' p x H3 Nx inv es x3 r3 rp hN
  obtain ⟨ρ1, pa, ea, es⟩ := Res.bind_inv es
  obtain ⟨b, pb, eb, es⟩ := Res.bind_inv es
  have inv3 := inv.skip x3 r3
  refine ⟨ι, wipeE ρ own, ph, p, ρ1, pa, r3, (h2.mono (inv.1.trans x3)).wipe own, rp, ea, fun ι4 H4 σ4 x4 r4 v4 w4 => ⟨?_, rd_ok r4 v4 eb fun ι5 H5 t x5 r5 e5 => ?_⟩⟩
  · rw [w4 own hw]
    exact wipe_wipe σ own own fun _ h => h
  · cases e5
    have inv5 := inv3.skip (x4.trans x5) r5
    cases b with
    | false => cases es; exact hN _ _ inv5
    | true =>
      obtain ⟨kv, pk, ek, es⟩ := Res.bind_inv es
      obtain ⟨v, pv, ev', es⟩ := Res.bind_inv es
      obtain ⟨ks, kk, rfl, ekk, g, rfl, rfl⟩ := putTR_inv es
      refine rd_ok r5 (v4.mono x5) ek fun ι6 H6 y x6 r6 ry => rd_ok r6 ((v4.mono x5).mono x6) ev' fun ι7 H7 z x7 r7 rz => ?_
      obtain ⟨H8, q1, q2, _⟩ := (inv5.skip (x6.trans x7) r7).put hD ekk (ry.mono x7) rz g
      exact ⟨H8, q1, hN _ _ q2⟩
theorem dcT2_sem {X : Cx} {C : Cfg} {W : WX} {own own1 : List Nat} {T T1 : Tg} {it it1 : Si} {ti ti1 : Exs} {k e : Ex} {σ : L2.St} {H : Hp} {Q : VK} (hw : T.within own = true) (hw1 : T1.within own1 = true) (h : rd X.mg W (Rep X.mg) (ev C (.dcT2 own own1 T it ti T1 it1 ti1 k e)) σ H Q) :
    tDcA2 (.dT []) (rd X.mg W (WalkP X.mg) (evIt C it)) (gR X C T) (rd X.mg W0 eqb (evTs C ti)) (rd X.mg W0 (WalkP X.mg) (evIt C it1)) (gR X C T1) (rd X.mg W0 eqb (evTs C ti1)) (rd X.mg W0 (Rep X.mg) (ev C k)) (rd X.mg W0 (Rep X.mg) (ev C e)) own own1 σ H Q := by
  refine rd_it h fun J H1 ι1 ρ ph1 s h1 h2 h3 h4 D hD => ?_
  obtain ⟨accF, phF, hrun, h4⟩ := h4.nobind
  refine loop_core h3 (TI2 X.mg ι1 H1 D) (fun ι H acc ph i => ⟨i.1.monF, i.2.1⟩) hrun (TI2.start h1 hD) (fun ι H i => i.finish hD h4) ?_
  intro ι H2 acc ph acc' ph' p x H3 Nx inv es x3 r3 rp hN
  obtain ⟨ρ1, pa, ea, es⟩ := Res.bind_inv es
  obtain ⟨b, pb, eb, es⟩ := Res.bind_inv es
  have inv3 := inv.skip x3 r3
  refine ⟨ι, wipeE ρ own, ph, p, ρ1, pa, r3, (h2.mono (inv.1.trans x3)).wipe own, rp, ea, fun ι4 H4 σ4 x4 r4 v4 w4 => ⟨?_, rd_ok r4 v4 eb fun ι5 H5 t x5 r5 e5 => ?_⟩⟩
  · rw [w4 own hw]
    exact wipe_wipe σ own own fun _ h => h
  · cases e5
    have inv5 := inv3.skip (x4.trans x5) r5
    cases b with
    | false => cases es; exact hN _ _ inv5
    | true =>
      obtain ⟨s1, p1, e1, es⟩ := Res.bind_inv es
      have v5 := v4.mono x5
      refine rd_ok r5 v5 e1 fun ι6 H6 J1 x6 r6 wk => ?_
      have inv6 := inv5.skip x6 r6
      refine loop_core wk (fun ι H acc ph => TI2 X.mg ι1 H1 D ι H acc ph ∧ MonF ι6 H6 ι H) (fun ι H acc ph i => ⟨i.2, i.1.2.1⟩) es ⟨ι6, inv6, .refl⟩ (fun ι H i => hN _ _ i.1) ?_
      intro κ G2 acc2 g acc2' g' q y G3 Nx1 ⟨jnv, jm⟩ es y3 s3 rq hN1
      obtain ⟨ρ2, pc, ec, es⟩ := Res.bind_inv es
      obtain ⟨b2, pd, ed, es⟩ := Res.bind_inv es
      have jnv3 := jnv.skip y3 s3
      have v6 : REnv X.mg κ G3 ρ1 σ4 := REnv.mon ((x6.mon.trans jm.toMon).trans y3.mon) v5
      refine ⟨κ, wipeE ρ1 own1, g, q, ρ2, pc, s3, v6.wipe own1, rq, ec, fun κ4 G4 τ4 y4 s4 u4 z4 => ⟨?_, rd_ok s4 u4 ed fun κ5 G5 t y5 s5 f5 => ?_⟩⟩
      · rw [z4 own1 hw1]
        exact wipe_wipe σ4 own1 own1 fun _ h => h
      · cases f5
        have jnv5 := jnv3.skip (y4.trans y5) s5
        have jm5 := jm.trans ((y3.trans (y4.trans y5)).monF)
        cases b2 with
        | false => cases es; exact hN1 _ _ ⟨jnv5, jm5⟩
        | true =>
          obtain ⟨kv, pk, ek, es⟩ := Res.bind_inv es
          obtain ⟨v, pv, ev', es⟩ := Res.bind_inv es
          obtain ⟨ks, kk, rfl, ekk, gg, rfl, rfl⟩ := putTR_inv es
          refine rd_ok s5 (u4.mono y5) ek fun κ6 G6 ky y6 s6 rky => rd_ok s6 ((u4.mono y5).mono y6) ev' fun κ7 G7 z y7 s7 rz => ?_
          obtain ⟨G8, q1, q2, q3⟩ := (jnv5.skip (y6.trans y7) s7).put hD ekk (rky.mono y7) rz gg
          exact ⟨G8, q1, hN1 _ _ ⟨q2, jm5.trans ((y6.trans y7).monF.trans q3)⟩⟩
/-! ### the rules -/
section
variable {X : Cx} {C : Cfg} {W : WX} {pos spos py : Pos} {kx vx tg iter tg1 iter1 : Expr} {ifs ifs1 : List Expr} {scope : Scope} {own : List (Str × Nat)} {own1 : List Nat} {T T1 : Tg} {it it1 : Si} {ti ti1 : Exs} {k e : Ex}
/-- a clause's target and tests, in the block -/
structure SBlk (X : Cx) (C : Cfg) (scope : Scope) (tg : Expr) (ifs : List Expr) (T : Tg) (ti : Exs) : Prop where
  tg : ∀ s H c cl fp, SG (blkX X scope s H c cl fp) C tg T
  ifs : ∀ s H c cl fp, STs (blkX X scope s H c cl fp) C W0 ifs ti
theorem SBlk.inBlk (h : SBlk X C scope tg ifs T ti) : InBlk X scope tg ifs (gR X C T) (rd X.mg W0 eqb (evTs C ti)) := ⟨h.tg, h.ifs⟩
theorem s_dcT (hu : X.A.units + 1 < cLine) (hc : X.calm = true) (hN : X.N.Nodup) (hi : SI X C W tg iter it) (ok : BlkOk X.N X.env.scope scope own) (hw : T.within (own.map (·.2)) = true) (hb : SBlk X C scope tg ifs T ti)
    (hk : ∀ s H c cl fp, SE (blkX X scope s H c cl fp) C W0 kx k) (he : ∀ s H c cl fp, SE (blkX X scope s H c cl fp) C W0 vx e) (hs : ∀ x, foldedSetIterable iter X.env x = pure x) :
    SE X C W (.DictComp kx vx [⟨tg, iter, ifs, 0⟩] scope pos) (.dcT (own.map (·.2)) T it ti k e) :=
  (pe_dcA (tk := rd X.mg W0 (Rep X.mg) (ev C k)) (tv := rd X.mg W0 (Rep X.mg) (ev C e)) hu hc (.inr rfl) hN hi ok hb.inBlk hk he hs).imp fun _ _ _ h => dcT_sem hw h
theorem s_dcT2 (hu : X.A.units + 1 < cLine) (hc : X.calm = true) (hN : X.N.Nodup) (hi : SI X C W tg iter it) (ok : BlkOk X.N X.env.scope scope own) (hv : ∀ i ∈ own1, i ∈ own.map (·.2)) (hw : T.within (own.map (·.2)) = true) (hw1 : T1.within own1 = true) (hb : SBlk X C scope tg ifs T ti)
    (hi1 : ∀ s H c cl fp, SI (blkX X scope s H c cl fp) C W0 tg1 iter1 it1) (hb1 : SBlk X C scope tg1 ifs1 T1 ti1) (hk : ∀ s H c cl fp, SE (blkX X scope s H c cl fp) C W0 kx k) (he : ∀ s H c cl fp, SE (blkX X scope s H c cl fp) C W0 vx e)
    (hs : ∀ env x, foldedSetIterable iter env x = pure x) (hs1 : ∀ env x, foldedSetIterable iter1 env x = pure x) :
    SE X C W (.DictComp kx vx [⟨tg, iter, ifs, 0⟩, ⟨tg1, iter1, ifs1, 0⟩] scope pos) (.dcT2 (own.map (·.2)) own1 T it ti T1 it1 ti1 k e) :=
  (pe_dcA2 (wi1 := rd X.mg W0 (WalkP X.mg) (evIt C it1)) (tk := rd X.mg W0 (Rep X.mg) (ev C k)) (tv := rd X.mg W0 (Rep X.mg) (ev C e)) hu hc (.inr rfl) hN hi ok hv hb.inBlk hi1 hb1.inBlk hk he (hs X.env) hs1).imp fun _ _ _ h => dcT2_sem hw hw1 h
theorem dk_dcA {wi : TI} {g : TG} {tt : TT} {tk tv : TE} {vs : List Nat} {σ : L2.St} {H : Hp} {Q : VK} (mt : ∀ σ H Q Q', (∀ b H', Q b H' → Q' b H') → tt σ H Q → tt σ H Q') (mk : ∀ σ H Q Q', (∀ b H', Q b H' → Q' b H') → tk σ H Q → tk σ H Q') (mv : ∀ σ H Q Q', (∀ b H', Q b H' → Q' b H') → tv σ H Q → tv σ H Q')
    (mw : ∀ σ H Q Q', (∀ b H', Q b H' → Q' b H') → wi σ H Q → wi σ H Q') (mgg : ∀ v σ H Q Q', (∀ b H', Q b H' → Q' b H') → g v σ H Q → g v σ H Q') (h : tDc wi g tt tk tv vs σ H Q) : tDcA (.dK []) wi g tt tk tv vs σ H Q := by
  refine mw _ _ _ _ (fun J H1 q D hD => ?_) h
  obtain ⟨W, w0, turn⟩ := q D hD
  refine ⟨W, w0, fun i m H w => ?_⟩
  rcases turn i m H w with q | ⟨go, Nx, hN, each⟩
  · exact .inl q
  · refine .inr ⟨go, Nx, hN, fun x H' y => mgg _ _ _ _ _ (fun σ2 H2 ⟨hw, q⟩ => ⟨hw, mt _ _ _ _ (fun b H3 q => ?_) q⟩) (each x H' y)⟩
    cases b with
    | false => exact q
    | true => exact mk _ _ _ _ (fun y H4 q => mv _ _ _ _ (fun z H5 ⟨kvs, kk, e1, e2, e3, e4⟩ => ⟨_, by rw [e1]; exact .k e2 e3, e4⟩) q) q
theorem ss_setDcK {i : Nat} {y : Str} (hu : X.A.units + 1 < cLine) (hc : X.calm = true) (hN : X.N.Nodup) (hy : X.N[i]? = some y) (hyl : X.env.scope.names.lookup y = some .local) (hsw : swapsWith (.DictComp kx vx [⟨tg, iter, ifs, 0⟩] scope pos) (some (.Name y py)) spos.line X.env = pure true)
    (hi : SI X C W tg iter it) (ok : BlkOk X.N X.env.scope scope own) (hw : T.within (own.map (·.2)) = true) (hb : SBlk X C scope tg ifs T ti)
    (hk : ∀ s H c cl fp, SE (blkX X scope s H c cl fp) C W0 kx k) (he : ∀ s H c cl fp, SE (blkX X scope s H c cl fp) C W0 vx e) (hs : ∀ x, foldedSetIterable iter X.env x = pure x) :
    SS X C W (.Assign [.Name y py] (.DictComp kx vx [⟨tg, iter, ifs, 0⟩] scope pos) spos) (.asg (.name i) (.dcK (own.map (·.2)) T it ti k e)) :=
  (ps_setDcA (tk := rd X.mg W0 (Rep X.mg) (ev C k)) (tv := rd X.mg W0 (Rep X.mg) (ev C e)) hu hc (.inl rfl) hN hy hyl hsw hi ok hb.inBlk hk he hs).imp fun D σ H h =>
    dk_dcA (fun _ _ _ _ i h => rd_mono h i) (fun _ _ _ _ i h => rd_mono h i) (fun _ _ _ _ i h => rd_mono h i) (fun _ _ _ _ i h => rd_mono h i)
      (fun v σ H Q Q' i ⟨ι, ρ, ph, x, ρ', ph', a1, a2, a3, a4, a5⟩ => ⟨ι, ρ, ph, x, ρ', ph', a1, a2, a3, a4, fun ι' H' σ' b1 b2 b3 b4 => i _ _ (a5 ι' H' σ' b1 b2 b3 b4)⟩) (dc_sem hw (gname_sem h))
theorem ss_setDcT {i : Nat} {y : Str} (hu : X.A.units + 1 < cLine) (hc : X.calm = true) (hN : X.N.Nodup) (hy : X.N[i]? = some y) (hyl : X.env.scope.names.lookup y = some .local) (hsw : swapsWith (.DictComp kx vx [⟨tg, iter, ifs, 0⟩] scope pos) (some (.Name y py)) spos.line X.env = pure true)
    (hi : SI X C W tg iter it) (ok : BlkOk X.N X.env.scope scope own) (hw : T.within (own.map (·.2)) = true) (hb : SBlk X C scope tg ifs T ti)
    (hk : ∀ s H c cl fp, SE (blkX X scope s H c cl fp) C W0 kx k) (he : ∀ s H c cl fp, SE (blkX X scope s H c cl fp) C W0 vx e) (hs : ∀ x, foldedSetIterable iter X.env x = pure x) :
    SS X C W (.Assign [.Name y py] (.DictComp kx vx [⟨tg, iter, ifs, 0⟩] scope pos) spos) (.asg (.name i) (.dcT (own.map (·.2)) T it ti k e)) :=
  (ps_setDcA (tk := rd X.mg W0 (Rep X.mg) (ev C k)) (tv := rd X.mg W0 (Rep X.mg) (ev C e)) hu hc (.inr rfl) hN hy hyl hsw hi ok hb.inBlk hk he hs).imp fun D σ H h => dcT_sem hw (gname_sem h)
end
end Pu

set_option Elab.async false
set_option linter.all false
set_option maxRecDepth 100000
/-! Pu22: displays of dicts. -/
namespace Pu
open PySem PySem.Spec PyProof.Rows L2
/-- the stores of a display, one behind the other -/
def Puts (p : Addr) : Hp → List (V × V) → (Hp → Prop) → Prop
  | H, [], Q => Q H
  | H, (k, v) :: ps, Q => ∃ H', DPut H p k v H' ∧ Puts p H' ps Q
def tDispA (z : HO) (trs : List (TE × TE)) : TE := fun σ H Q => ∀ p, H p = none → tPairs trs σ (upd H p z) fun ps H2 => Puts p H2 ps fun H3 => Q (.ref p) H3
section
variable {X : Cx} {pos : Pos}
theorem store_all (hu : X.A.units + 1 < cLine) {pins : List (Addr × Obj)} {σ : L2.St} {p : Addr} {Q : PUnit → Shared → Prop} : ∀ {ps : List (V × V)} {ws : List (Value × Value)} {H : Hp} {s : Shared} {Qh : Hp → Prop}, VV ps ws → L2.Inv X pins σ H s → Puts p H ps Qh →
    (∀ H' t, L2.Inv X pins σ H' t → Qh H' → Q PUnit.unit t) → wpAny (model X.prog X.w) X.A (storeAll p ws) Q X.xe s
  | [], _, H, s, Qh, r, I, h, fin => by
    cases r
    unfold storeAll
    rw [List.forIn_nil]
    exact wpAny_pure (fin H s I h)
  | (k, v) :: ps, _, H, s, Qh, r, I, h, fin => by
    cases r with
    | @cons a b as bs hab t =>
      obtain ⟨H', put, h⟩ := h
      unfold storeAll
      rw [List.forIn_cons]
      refine wpAny_bind (wpAny_bind (put_any hu I put hab.1 hab.2 fun t1 I1 => wpAny_pure ?_))
      exact store_all hu t I1 h fin
theorem pe_dispA {keys : List (Option Expr)} {values : List Expr} {trs : List (TE × TE)} {z : HO} (hu : X.A.units + 1 < cLine) (hz : z = .dK [] ∨ z = .dT []) (h : PPs X pos keys values trs) (hall : keys.all (·.isSome) = true) (hl : keys.length = values.length) (h0 : keys ≠ [])
    (h15 : keys.length ≤ 15) : PE X (.Dict keys values pos) (tDispA z trs) := ⟨fun pins s σ H Q I q => by
  have hn := I.hok.fresh (Nat.le_refl s.heap.objs.size)
  have I1 : L2.Inv X pins σ (upd H s.heap.objs.size z) { s with heap := s.heap.push { cls := .type "dict", data := .dict #[] } } := by
    refine I.laid (a := s.heap.objs.size) (t' := s.toks) (fun _ _ q => Heap.get?_push_of_some _ q) (Nat.le_refl _) ?_
    rcases hz with rfl | rfl
    · exact dk_empty s.heap I.big
    · exact dt_empty s.heap I.big
  refine wpAny_Dict_any hall hl h0 h15 (thn (h.run pins _ σ _ _ I1 (q _ hn)) fun ws s2 ⟨ps, H2, I2, rel, puts⟩ => ?_)
  exact store_all hu rel I2 puts fun H3 t I3 q3 => ⟨.ref _, H3, I3, rfl, q3⟩⟩
end
def trsOf (X : Cx) (C : Cfg) (W : WX) : Kvs → List (TE × TE)
  | .nil => []
  | .cons k v r => (rd X.mg W (Rep X.mg) (ev C k), rd X.mg W (Rep X.mg) (ev C v)) :: trsOf X C W r
def Kvs.len : Kvs → Nat
  | .nil => 0
  | .cons _ _ r => r.len + 1
/-- keys and values of pairs -/
def RepKV (mg : Str → Option Value) : List Addr → Hp → List PV × List PV → List (V × V) → Prop := fun ι H p ps => Reps mg ι H p.1 (ps.map (·.1)) ∧ Reps mg ι H p.2 (ps.map (·.2))
theorem evKV_len {C : Cfg} : ∀ {kvs : Kvs} {ρ : Pu.Env} {h h' : PH} {p : List PV × List PV}, evKV C kvs ρ h = .ok p h' → p.1.length = kvs.len ∧ p.2.length = kvs.len
  | .nil, _, _, _, _, e => by cases e; exact ⟨rfl, rfl⟩
  | .cons k v r, ρ, h, h', p, e => by
    obtain ⟨x, h1, e1, e⟩ := Res.bind_inv (r := ev C k ρ h) e
    obtain ⟨y, h2, e2, e⟩ := Res.bind_inv (r := ev C v ρ h1) e
    obtain ⟨q, h3, e3, e⟩ := Res.bind_inv (r := evKV C r ρ h2) e
    cases e
    obtain ⟨l1, l2⟩ := evKV_len e3
    simp [Kvs.len, l1, l2]
theorem pairs_sem {X : Cx} {C : Cfg} {W : WX} {σ : L2.St} : ∀ {kvs : Kvs} {H : Hp} {Q : List (V × V) → Hp → Prop}, rd X.mg W (RepKV X.mg) (evKV C kvs) σ H Q → tPairs (trsOf X C W kvs) σ H Q
  | .nil, H, Q, ⟨ι, ρ, ph, h1, h2, h3⟩ => h3.here h1 (b := []) ⟨rfl, rfl⟩
  | .cons k v r, H, Q, h => step (m := ev C k) h fun x H1 ι1 ρ ph1 a h1 h2 h3 h4 =>
      ⟨ι1, ρ, ph1, h1, h2, h4.then fun y H2 ι2 ph2 b e k1 k2 k3 => pairs_sem ⟨ι2, ρ, ph2, k1, h2.mono e, k3.then fun ps H3 ι3 ph3 q e3 m1 m2 m3 =>
        m3.here m1 ⟨⟨x, _, rfl, (h3.mono e).mono e3, m2.1⟩, ⟨y, _, rfl, k2.mono e3, m2.2⟩⟩⟩⟩
/-- a dict made by a display's stores -/
theorem puts_T {mg : Str → Option Value} {ι1 : List Addr} {H1 : Hp} {D : Addr} (hD : H1 D = none) : ∀ {ks vs : List PV} {ps : List (V × V)} {acc kvs : List (List Key × PV)} {ι : List Addr} {H : Hp} {ph : PH} {Q : Hp → Prop}, TI2 mg ι1 H1 D ι H acc ph → RepKV mg ι H (ks, vs) ps → dispT ks vs acc = some kvs → acc.length + ks.length ≤ sizeLine →
    (∀ H', TI2 mg ι1 H1 D ι H' kvs ph → Q H') → Puts D H ps Q
  | [], [], ps, acc, kvs, ι, H, ph, Q, i, r, e, hl, fin => by
    cases e
    have : ps = [] := by
      have := r.1.length
      cases ps with
      | nil => rfl
      | cons _ _ => simp at this
    subst this
    exact fin H i
  | [], _ :: _, _, _, _, _, _, _, _, _, _, e, _, _ => by simp [dispT] at e
  | .tup k :: ks, [], _, _, _, _, _, _, _, _, _, e, _, _ => by simp [dispT] at e
  | .tup k :: ks, v :: vs, [], _, _, _, _, _, _, _, r, _, _, _ => by
    have := r.1.length
    simp at this
  | .tup k :: ks, v :: vs, (y, z) :: ps, acc, kvs, ι, H, ph, Q, i, r, e, hl, fin => by
    simp only [dispT] at e
    obtain ⟨kk, e1, e2⟩ := Option.bind_eq_some_iff.mp e
    obtain ⟨⟨y', _, q1, r1, r2⟩, ⟨z', _, q2, r3, r4⟩⟩ := r
    cases q1
    cases q2
    have ll : (aput acc kk v).length ≤ acc.length + 1 := by
      unfold aput
      split
      · rw [List.length_map]; omega
      · simp
    have hz : acc.length < sizeLine := by simp at hl; omega
    obtain ⟨H', g1, g2, g3⟩ := i.put hD e1 r1 r3 hz
    exact ⟨H', g1, puts_T hD g2 ⟨Reps.mon g3.toMon _ _ r2, Reps.mon g3.toMon _ _ r4⟩ e2 (by simp at hl; omega) fin⟩
  | .non :: _, _, _, _, _, _, _, _, _, _, _, e, _, _ => by cases ‹List PV› <;> simp [dispT] at e
  | .bl _ :: _, _, _, _, _, _, _, _, _, _, _, e, _, _ => by cases ‹List PV› <;> simp [dispT] at e
  | .int _ :: _, _, _, _, _, _, _, _, _, _, _, e, _, _ => by cases ‹List PV› <;> simp [dispT] at e
  | .str _ :: _, _, _, _, _, _, _, _, _, _, _, e, _, _ => by cases ‹List PV› <;> simp [dispT] at e
  | .ref _ :: _, _, _, _, _, _, _, _, _, _, _, e, _, _ => by cases ‹List PV› <;> simp [dispT] at e
  | .gl _ :: _, _, _, _, _, _, _, _, _, _, _, e, _, _ => by cases ‹List PV› <;> simp [dispT] at e
  | .ty _ :: _, _, _, _, _, _, _, _, _, _, _, e, _, _ => by cases ‹List PV› <;> simp [dispT] at e
theorem DI.putD {mg : Str → Option Value} {ι1 : List Addr} {H1 : Hp} {D : Addr} {ι : List Addr} {H : Hp} {acc : List (Key × PV)} {ph : PH} (hD : H1 D = none) (h : DI mg ι1 H1 D ι H acc ph) {kp : PV} {k : Key} {x : PV} {y v : V} (ek : kp.key? = some k) (ry : Rep mg ι H kp y) (rx : Rep mg ι H x v) (hl : acc.length < sizeLine) :
    ∃ H', DPut H D y v H' ∧ DI mg ι1 H1 D ι H' (aput acc k x) ph ∧ MonF ι H ι H' := by
  obtain ⟨h1, h2, h3, vs, h4, h5, h6⟩ := h
  have hv : vs.length < sizeLine := by rw [← h6.length]; exact hl
  cases key_V ek ry
  have m : Mon ι H ι (upd H D (.dK (putK vs k v))) := .aside h4 fun _ z => nomatch z
  exact ⟨_, .k h4 hv, ⟨h1.later hD, h2.asideMon h4 (fun _ z => nomatch z) h3, h3, _, upd_same, put_len hv, (h6.mon m).put (rx.mon m)⟩, .aside h4⟩
theorem puts_K {mg : Str → Option Value} {ι1 : List Addr} {H1 : Hp} {D : Addr} (hD : H1 D = none) : ∀ {ks vs : List PV} {ps : List (V × V)} {acc kvs : List (Key × PV)} {ι : List Addr} {H : Hp} {ph : PH} {Q : Hp → Prop}, DI mg ι1 H1 D ι H acc ph → RepKV mg ι H (ks, vs) ps → dispK ks vs acc = some kvs → acc.length + ks.length ≤ sizeLine →
    (∀ H', DI mg ι1 H1 D ι H' kvs ph → Q H') → Puts D H ps Q
  | [], [], ps, acc, kvs, ι, H, ph, Q, i, r, e, hl, fin => by
    cases e
    have : ps = [] := by
      have := r.1.length
      cases ps with
      | nil => rfl
      | cons _ _ => simp at this
    subst this
    exact fin H i
  | [], _ :: _, _, _, _, _, _, _, _, _, _, e, _, _ => by simp [dispK] at e
  | k :: ks, [], _, _, _, _, _, _, _, _, _, e, _, _ => by simp [dispK] at e
  | k :: ks, v :: vs, [], _, _, _, _, _, _, _, r, _, _, _ => by
    have := r.1.length
    simp at this
  | k :: ks, v :: vs, (y, z) :: ps, acc, kvs, ι, H, ph, Q, i, r, e, hl, fin => by
    simp only [dispK] at e
    obtain ⟨kk, e1, e2⟩ := Option.bind_eq_some_iff.mp e
    obtain ⟨⟨y', _, q1, r1, r2⟩, ⟨z', _, q2, r3, r4⟩⟩ := r
    cases q1
    cases q2
    have ll : (aput acc kk v).length ≤ acc.length + 1 := by
      unfold aput
      split
      · rw [List.length_map]; omega
      · simp
    have hz : acc.length < sizeLine := by simp at hl; omega
    obtain ⟨H', g1, g2, g3⟩ := i.putD hD e1 r1 r3 hz
    exact ⟨H', g1, puts_K hD g2 ⟨Reps.mon g3.toMon _ _ r2, Reps.mon g3.toMon _ _ r4⟩ e2 (by simp at hl; omega) fin⟩
theorem tPairs_mono : ∀ {trs : List (TE × TE)} {σ : L2.St} {H : Hp} {Q Q' : List (V × V) → Hp → Prop}, (∀ t ∈ trs, (∀ σ H Q Q', (∀ b H', Q b H' → Q' b H') → t.1 σ H Q → t.1 σ H Q') ∧ ∀ σ H Q Q', (∀ b H', Q b H' → Q' b H') → t.2 σ H Q → t.2 σ H Q') → (∀ ps H', Q ps H' → Q' ps H') → tPairs trs σ H Q → tPairs trs σ H Q'
  | [], _, _, _, _, _, i, h => i _ _ h
  | (a, b) :: r, σ, H, Q, Q', m, i, h => by
    obtain ⟨m1, m2⟩ := m _ List.mem_cons_self
    exact m1 _ _ _ _ (fun x H1 q => m2 _ _ _ _ (fun y H2 q => tPairs_mono (fun t ht => m t (List.mem_cons_of_mem _ ht)) (fun ps H3 q => i _ _ q) q) q) h
section
variable {X : Cx} {C : Cfg} {W : WX} {pos : Pos}
theorem dispT_sem {kvs : Kvs} {σ : L2.St} {H : Hp} {Q : VK} (h15 : kvs.len ≤ 15) (h : rd X.mg W (Rep X.mg) (ev C (.dicT kvs)) σ H Q) : tDispA (.dT []) (trsOf X C W kvs) σ H Q := by
  intro p hp
  obtain ⟨ι, ρ, ph, h1, h2, h3⟩ := h
  have hn : p ∉ ι := fun hm => by obtain ⟨u, hu, _⟩ := h1.mem hm; rw [hp] at hu; cases hu
  have x0 : Ext ι H ι (upd H p (.dT [])) := Ext.new0 hp
  change Fin X.mg W σ (Rep X.mg) Q ι H ((evKV C kvs ρ ph).bind fun p h => (opt (dispT p.1 p.2 []) h).bind fun kvs h => new (.dt kvs) h) at h3
  refine pairs_sem ⟨ι, ρ, ph, h1.aside hp, h2.mono x0, ?_⟩
  cases hk : evKV C kvs ρ ph with
  | exc _ _ _ => rw [hk] at h3; exact fun ι' H' cls d e => h3 ι' H' cls d (x0.trans e)
  | bad => rw [hk] at h3; exact False.elim h3
  | ok q ph1 =>
    rw [hk] at h3
    obtain ⟨fin, ef, h3⟩ := Fin.optb (f := fun kvs h => new (.dt kvs) h) h3
    intro ι2 H2 ps e2 r2 rp
    obtain ⟨o1, o2⟩ := e2.out upd_same hn
    have i0 : TI2 X.mg ι H p ι2 H2 [] ph1 := ⟨x0.trans e2, r2, o1, [], o2, ⟨Nat.zero_le _, fun _ h => nomatch h⟩, rfl⟩
    exact puts_T hp i0 rp ef (by rw [(evKV_len hk).1, sizeLine_eq]; simp; omega) fun H3 i3 => i3.finish hp h3
theorem dispK_sem {kvs : Kvs} {σ : L2.St} {H : Hp} {Q : VK} (h15 : kvs.len ≤ 15) (h : rd X.mg W (Rep X.mg) (ev C (.dicK kvs)) σ H Q) : tDispA (.dK []) (trsOf X C W kvs) σ H Q := by
  intro p hp
  obtain ⟨ι, ρ, ph, h1, h2, h3⟩ := h
  have hn : p ∉ ι := fun hm => by obtain ⟨u, hu, _⟩ := h1.mem hm; rw [hp] at hu; cases hu
  have x0 : Ext ι H ι (upd H p (.dK [])) := Ext.new0 hp
  change Fin X.mg W σ (Rep X.mg) Q ι H ((evKV C kvs ρ ph).bind fun p h => (opt (dispK p.1 p.2 []) h).bind fun kvs h => new (.dk kvs) h) at h3
  refine pairs_sem ⟨ι, ρ, ph, h1.aside hp, h2.mono x0, ?_⟩
  cases hk : evKV C kvs ρ ph with
  | exc _ _ _ => rw [hk] at h3; exact fun ι' H' cls d e => h3 ι' H' cls d (x0.trans e)
  | bad => rw [hk] at h3; exact False.elim h3
  | ok q ph1 =>
    rw [hk] at h3
    obtain ⟨fin, ef, h3⟩ := Fin.optb (f := fun kvs h => new (.dk kvs) h) h3
    intro ι2 H2 ps e2 r2 rp
    obtain ⟨o1, o2⟩ := e2.out upd_same hn
    have i0 : DI X.mg ι H p ι2 H2 [] ph1 := ⟨x0.trans e2, r2, o1, [], o2, Nat.zero_le _, rfl⟩
    exact puts_K hp i0 rp ef (by rw [(evKV_len hk).1, sizeLine_eq]; simp; omega) fun H3 i3 => i3.finish hp h3
/-- keys and values of a display -/
def SKV (X : Cx) (C : Cfg) (W : WX) (pos : Pos) (keys : List (Option Expr)) (values : List Expr) (kvs : Kvs) : Prop := PPs X pos keys values (trsOf X C W kvs)
theorem kv_nil : SKV X C W pos [] [] .nil := pps_nil
theorem kv_cons {K V' : Expr} {k v : Ex} {r : Kvs} {ks : List (Option Expr)} {vs : List Expr} (hk : SE X C W K k) (hv : SE X C W V' v) (hr : SKV X C W pos ks vs r) : SKV X C W pos (some K :: ks) (V' :: vs) (.cons k v r) := pps_cons hk hv hr
theorem s_dicT {keys : List (Option Expr)} {values : List Expr} {kvs : Kvs} (hu : X.A.units + 1 < cLine) (h : SKV X C W pos keys values kvs) (hall : keys.all (·.isSome) = true) (hl : keys.length = values.length) (h0 : keys ≠ []) (h15 : keys.length ≤ 15) (hk : kvs.len ≤ 15) :
    SE X C W (.Dict keys values pos) (.dicT kvs) := (pe_dispA hu (.inr rfl) h hall hl h0 h15).imp fun _ _ _ h => dispT_sem hk h
theorem s_dicK {keys : List (Option Expr)} {values : List Expr} {kvs : Kvs} (hu : X.A.units + 1 < cLine) (h : SKV X C W pos keys values kvs) (hall : keys.all (·.isSome) = true) (hl : keys.length = values.length) (h0 : keys ≠ []) (h15 : keys.length ≤ 15) (hk : kvs.len ≤ 15) :
    SE X C W (.Dict keys values pos) (.dicK kvs) := (pe_dispA hu (.inl rfl) h hall hl h0 h15).imp fun _ _ _ h => dispK_sem hk h
end
end Pu

set_option Elab.async false
set_option linter.all false
set_option maxRecDepth 100000
/-! Pu23: sorted. -/
namespace Pu
open PySem PySem.Spec PyProof.Rows L2
theorem leP_iff {p q : Int × Int} : leP p q = true ↔ p.1 < q.1 ∨ (p.1 = q.1 ∧ p.2 ≤ q.2) := by simp [leP]
theorem sortP_perm (ps : List (Int × Int)) : (sortP ps).Perm ps := List.mergeSort_perm _ _
theorem sortP_sorted (ps : List (Int × Int)) : (sortP ps).Pairwise (fun p q => leP p q = true) :=
  List.pairwise_mergeSort (le := leP) (fun a b c h1 h2 => by rw [leP_iff] at *; omega) (fun a b => by rw [Bool.or_eq_true, leP_iff, leP_iff]; omega) ps
theorem sortP_uniq {qs ps : List (Int × Int)} (h : qs.Perm ps) (hs : qs.Pairwise (fun p q => leP p q = true)) : qs = sortP ps :=
  (h.trans (sortP_perm ps).symm).eq_of_pairwise (fun a b _ _ h1 h2 => by
    rw [leP_iff] at h1 h2
    exact Prod.ext (by omega) (by omega)) hs (sortP_sorted ps)
theorem srtd_leP {α : Type} {k : α → Int × Int} {l : List α} (h : SrtO.Srtd (fun v u => SrtO.lexB (k v) (k u)) l) : (l.map k).Pairwise (fun p q => leP p q = true) := by
  rw [List.pairwise_map]
  refine List.Pairwise.imp (fun {v u} q => ?_) h
  have := SrtO.lexB_no.mp q
  rw [leP_iff]
  omega
theorem allPr_get : ∀ {xs : List PV} {ps : List (Int × Int)}, allPr xs = some ps → xs = ps.map ofPr
  | [], ps, e => by simp [allPr] at e; subst e; rfl
  | x :: xs, ps, e => by
    simp only [allPr] at e
    obtain ⟨p, e1, e2⟩ := Option.bind_eq_some_iff.mp e
    obtain ⟨qs, e3, rfl⟩ := Option.map_eq_some_iff.mp e2
    unfold prOf at e1
    split at e1
    · cases e1
      rw [allPr_get e3]
      rfl
    · cases e1
/-- the pair that stands at a place -/
def pairAt (H : Hp) : V → Int × Int
  | .ref b => match H b with
    | some (.tup [.int x, .int y]) => (x, y)
    | _ => (0, 0)
  | _ => (0, 0)
/-- lists of pairs -/
theorem reps_pairs {mg : Str → Option Value} {ι : List Addr} {H : Hp} : ∀ {ps : List (Int × Int)} {vs : List V}, Reps mg ι H (ps.map ofPr) vs → vs.map (pairAt H) = ps ∧ ∀ v ∈ vs, ∃ t, v = .ref t ∧ H t = some (.tup [.int (pairAt H v).1, .int (pairAt H v).2])
  | [], _, h => by cases h; exact ⟨rfl, fun _ h => nomatch h⟩
  | p :: ps, _, ⟨v, r, h1, h2, h3⟩ => by
    subst h1
    obtain ⟨e1, e2⟩ := reps_pairs h3
    obtain ⟨a, ws, rfl, ha, _, hs⟩ := h2
    obtain ⟨x, y, rfl, rx, ry⟩ := Reps.two hs
    cases rx; cases ry
    have e : pairAt H (.ref a) = p := by simp [pairAt, ha]
    refine ⟨by rw [List.map_cons, e1, e], fun v hv => ?_⟩
    rcases List.mem_cons.mp hv with rfl | hv
    · exact ⟨a, rfl, by rw [e]; exact ha⟩
    · exact e2 v hv
theorem pairs_reps {mg : Str → Option Value} {ι : List Addr} {H : Hp} : ∀ {vs : List V}, (∀ v ∈ vs, ∃ t, v = .ref t ∧ H t = some (.tup [.int (pairAt H v).1, .int (pairAt H v).2])) → Reps mg ι H ((vs.map (pairAt H)).map ofPr) vs
  | [], _ => rfl
  | v :: vs, h => by
    obtain ⟨t, e, ht⟩ := h v List.mem_cons_self
    exact ⟨v, vs, rfl, ⟨t, _, e, ht, by show 2 ≤ sizeLine; decide, _, _, rfl, rfl, _, _, rfl, rfl, rfl⟩, pairs_reps fun u hu => h u (List.mem_cons_of_mem _ hu)⟩
def keyPr : List Key → Int × Int
  | [.inl x, .inl y] => (x, y)
  | _ => (0, 0)
/-- v is a pair of ints -/
def IsPr (H : Hp) (v : V) : Prop := ∃ t : Addr, v = V.ref t ∧ H t = some (.tup [.int (pairAt H v).1, .int (pairAt H v).2])
/-- sorted(d), keys pairs of ints -/
def rSortDP : List V → Hp → VK → Prop := fun xs H Q => ∃ (d : Addr) (kvs : List (List Key × V)), xs = [V.ref d] ∧ H d = some (.dT kvs) ∧ (∀ p ∈ kvs, p.1 = [.inl (keyPr p.1).1, .inl (keyPr p.1).2]) ∧
  ∀ (bs : List V) (p : Addr), (∀ v ∈ bs, IsPr H v) → (bs.map (pairAt H)).Perm (kvs.map fun p => keyPr p.1) → (bs.map (pairAt H)).Pairwise (fun p q => leP p q = true) → H p = none → Q (.ref p) (upd H p (.lst bs))
theorem keys_pairs {H : Hp} {kvs : List (List Key × V)} {ks : List (List Key × Addr × Value)} (r : KT H kvs ks) : (∀ p ∈ kvs, p.1 = [.inl (keyPr p.1).1, .inl (keyPr p.1).2]) →
    (∀ x ∈ ks, IsPr H (.ref x.2.1) ∧ pairAt H (.ref x.2.1) = keyPr x.1) ∧ ks.map (fun x => keyPr x.1) = kvs.map fun p => keyPr p.1 := by
  induction r with
  | nil => exact fun _ => ⟨fun _ h => (nomatch h), rfl⟩
  | @cons p q ps qs hq t ih =>
    intro h
    obtain ⟨h1, h2⟩ := ih fun p hp => h p (List.mem_cons_of_mem _ hp)
    have hp := h p List.mem_cons_self
    have e : H q.2.1 = some (.tup [.int (keyPr p.1).1, .int (keyPr p.1).2]) := by
      have := hq.2.1
      rw [hp] at this
      exact this
    have ep : pairAt H (.ref q.2.1) = keyPr q.1 := by
      rw [← hq.1]
      simp [pairAt, e]
    refine ⟨fun x hx => ?_, by rw [List.map_cons, List.map_cons, h2, hq.1]⟩
    rcases List.mem_cons.mp hx with rfl | hx
    · exact ⟨⟨_, rfl, by rw [ep, ← hq.1]; exact e⟩, ep⟩
    · exact h1 x hx
theorem call_sortedDP {X : Cx} (hc : X.calm = true) : CallR X (.builtin "sorted") rSortDP := by
  intro pins s σ H xs us Q I r q
  obtain ⟨d, kvs, rfl, hd, hk, q⟩ := q
  obtain ⟨u, rfl, rx⟩ := Vals.one r
  cases rx
  obtain ⟨z, hs, ks, pr, o, es, ep, ho, hx, hdt, he, hn⟩ := (show ObjOk X.prog X.w H s.heap d (.dT kvs) from I.hok d _ hd)
  have l1 : es.size = ks.length := size_of_entries he
  have l2 : kvs.length = ks.length := Paired.length pr
  have hn64 : es.size ≤ sizeLine := by omega
  refine Calls.call_function_entry PyProof.Rows.kind_sorted PyProof.Rows.plain_sorted PyProof.Rows.entry_sorted (PyProof.Rows.args_sorted1 _) ?_
  unfold Builtin.«sorted»
  refine wpAny_bind (m := checkCount "sorted" 1 1 _) (wpAny_pure ?_)
  refine wpAny_bind (PySem.W.kdu_collect (A := X.A.in1) (kdl_raw hs hx hdt) (I.ok.hd hc) ho hn64 fun h' tk acc keep items => ?_)
  have ea : acc.toList = (ks.map fun x => x.2.1).map Value.ref := by
    have hl : acc.toList.length = ks.length := by rw [Array.length_toList, items.1]; exact l1
    refine List.ext_getElem? fun j => ?_
    rw [List.getElem?_map, List.getElem?_map]
    cases hj : acc.toList[j]? with
    | none =>
      have := List.getElem?_eq_none_iff.mp hj
      rw [List.getElem?_eq_none (by omega)]
      rfl
    | some v =>
      obtain ⟨en, hen, hv⟩ := items.2 j v (by rw [← Array.getElem?_toList]; exact hj)
      have qe := entry_at he j
      rw [hen] at qe
      cases hb : ks[j]? with
      | none => rw [hb] at qe; cases qe
      | some b =>
        rw [hb] at qe
        cases qe
        rw [hv]
        rfl
  obtain ⟨hp, hm⟩ := keys_pairs pr hk
  have I1 : L2.Inv X pins σ H { s with heap := h', toks := tk } := I.kept keep
  have hz : acc.toList.length ≤ sizeLine := by rw [ea]; simp; omega
  have pairOf : ∀ v ∈ acc.toList, ∃ x ∈ ks, v = .ref x.2.1 := fun v hv => by
    rw [ea, List.map_map] at hv
    obtain ⟨x, hx, rfl⟩ := List.mem_map.mp hv
    exact ⟨x, hx, rfl⟩
  refine wpAny_bind (wpAny_newList ?_ hz)
  have hoL : (h'.push (seqObj "list" acc.toList.toArray 0)).get? h'.objs.size = some (seqObj "list" acc.toList.toArray 0) := Heap.get?_push_size _ rfl
  show wpAny _ _ _ _ _ { s with heap := h'.push (seqObj "list" acc.toList.toArray 0), toks := tk }
  have isP : ∀ v ∈ acc.toList, Srt.IsPair (h'.push (seqObj "list" acc.toList.toArray 0)) v (pairAt H (backV v)).1 (pairAt H (backV v)).2 := fun v hv => by
    obtain ⟨x, hx, rfl⟩ := pairOf v hv
    obtain ⟨⟨t, et, ht⟩, _⟩ := hp x hx
    cases et
    obtain ⟨_, its2, r2, ob, hob, hcl, n, hdat⟩ := I1.hok _ _ ht
    obtain ⟨u1, u2, rfl, ⟨t1, rfl⟩, ⟨t2, rfl⟩⟩ := vals2 r2
    exact ⟨_, ob, t1, t2, n, rfl, Heap.get?_push_of_some _ hob, hcl, hdat⟩
  refine wpAny_bind (wpAny_holding (wpAny_call_entry PyProof.Rows.slot_list_sort ⟨_, hoL, rfl⟩ PyProof.Rows.entry_list_sort (SrtO.list_sort_ord (s := { s with heap := h'.push (seqObj "list" acc.toList.toArray 0), toks := tk }) (SrtO.swo_lex fun v => pairAt H (backV v)) hoL hz
    (fun h2 => SrtO.pairs_sortableO (by omega) isP fun o e => ?_) fun out h1 h2 => ⟨_, rfl, ?_⟩) (PyProof.Rows.args_list_sort _)))
  · rw [hoL] at e
    cases e
    intro c
    exact absurd (Value.type.inj c) (by decide)
  · have h3 : ∀ u ∈ out, ∃ x ∈ ks, u = Value.ref x.2.1 := fun u hu => pairOf u (h2.perm.mem_iff.mp hu)
    have hp2 : (out.map backV).Perm ((ks.map fun x => x.2.1).map V.ref) := by
      have := h2.perm.map backV
      rw [ea, List.map_map, List.map_map] at this
      rw [List.map_map]
      exact this
    have hk2 : (((ks.map fun x => x.2.1).map V.ref).map (pairAt H)) = kvs.map fun p => keyPr p.1 := by
      rw [← hm, List.map_map, List.map_map]
      exact List.map_congr_left fun x hx => (hp x hx).2
    obtain ⟨e', he'⟩ := PyProof.Rows.sortedHeap_at (vs := acc.toList) (out := out.toArray) hoL
    have hlen : (out.map backV).length ≤ sizeLine := by rw [hp2.length_eq]; simp; omega
    refine wpAny_pure ⟨_, rfl, .ref h'.objs.size, upd H h'.objs.size (.lst (out.map backV)), I1.laid (t' := tk) (fun b u e => ?_) (Nat.le_refl _)
      ⟨hlen, out, e', vals_back fun u hu => ?_, he'⟩, rfl, q _ _ (fun v hv => ?_) ?_ ?_ (I1.hok.fresh (Nat.le_refl _))⟩
    · have hb : b < h'.objs.size := Heap.lt_size e
      rw [PyProof.Rows.sortedHeap_old (Nat.ne_of_lt hb) (by rw [size_push']; exact Nat.lt_succ_of_lt hb)]
      exact Heap.get?_push_of_some _ e
    · obtain ⟨x, _, rfl⟩ := h3 u hu
      exact ⟨_, rfl⟩
    · obtain ⟨u, hu, rfl⟩ := List.mem_map.mp hv
      obtain ⟨x, hx, rfl⟩ := h3 u hu
      exact (hp x hx).1
    · rw [← hk2]
      exact hp2.map _
    · rw [List.map_map]
      exact srtd_leP h1
theorem ints_keys {κ : Type} {mg : Str → Option Value} {ι : List Addr} {H : Hp} {kvs : List (Key × PV)} {l : List (Key × V)} (h : RepF mg ι H kvs l) {ns : List Int} (e : allInt (kvs.map fun p => ofKey p.1) = some ns) : l.map (·.1) = ns.map Sum.inl := by
  induction kvs generalizing l ns with
  | nil => cases h; simp [allInt] at e; subst e; rfl
  | cons p ps ih =>
    obtain ⟨v, r, rfl, h2, h3⟩ := h
    rw [List.map_cons] at e
    obtain ⟨k, x⟩ := p
    cases k with
    | inl i =>
      simp only [ofKey, allInt] at e
      obtain ⟨ms, e1, rfl⟩ := Option.map_eq_some_iff.mp e
      rw [List.map_cons, List.map_cons, ih h3 e1]
    | inr z => simp [ofKey, allInt] at e
theorem prs_keys {mg : Str → Option Value} {ι : List Addr} {H : Hp} {kvs : List (List Key × PV)} {l : List (List Key × V)} (h : RepF mg ι H kvs l) {ps : List (Int × Int)} (e : allPr (kvs.map fun p => .tup (p.1.map ofKey)) = some ps) :
    (∀ p ∈ l, p.1 = [.inl (keyPr p.1).1, .inl (keyPr p.1).2]) ∧ l.map (fun p => keyPr p.1) = ps := by
  induction kvs generalizing l ps with
  | nil => cases h; simp [allPr] at e; subst e; exact ⟨fun _ h => (nomatch h), rfl⟩
  | cons p qs ih =>
    obtain ⟨v, r, rfl, h2, h3⟩ := h
    rw [List.map_cons] at e
    simp only [allPr] at e
    obtain ⟨pr, e1, e2⟩ := Option.bind_eq_some_iff.mp e
    obtain ⟨ms, e3, rfl⟩ := Option.map_eq_some_iff.mp e2
    obtain ⟨i1, i2⟩ := ih h3 e3
    have hk : p.1 = [.inl pr.1, .inl pr.2] := by
      obtain ⟨k, x⟩ := p
      match k, e1 with
      | [], e1 => simp [prOf] at e1
      | [_], e1 => simp [prOf] at e1
      | [.inl a, .inl b], e1 => simp [prOf, ofKey] at e1; subst e1; rfl
      | [.inr _, .inl _], e1 => simp [prOf, ofKey] at e1
      | [.inl _, .inr _], e1 => simp [prOf, ofKey] at e1
      | [.inr _, .inr _], e1 => simp [prOf, ofKey] at e1
      | _ :: _ :: _ :: _, e1 => simp [prOf] at e1
    have hp : keyPr p.1 = pr := by rw [hk]; rfl
    refine ⟨fun q hq => ?_, by rw [List.map_cons, i2, hp]⟩
    rcases List.mem_cons.mp hq with rfl | hq
    · show p.1 = [.inl (keyPr p.1).1, .inl (keyPr p.1).2]
      rw [hp]
      exact hk
    · exact i1 q hq
theorem stb_sortP {xs ys : List V} {H : Hp} {ps : List (Int × Int)} (hm : xs.map (pairAt H) = ps) (h1 : SrtO.Srtd (ltP (pairAt H)) ys) (h2 : SrtO.Stb (ltP (pairAt H)) ys xs) : ys.map (pairAt H) = sortP ps := by
  refine sortP_uniq ?_ (srtd_leP h1)
  rw [← hm]
  exact h2.perm.map _
theorem call_sortedV {X : Cx} (hc : X.calm = true) : CallR X (.builtin "sorted") (rs X.mg (biV .sorted)) := by
  intro pins s σ H xs us Q I r h
  obtain ⟨ι, ph, as, hr, ra, q⟩ := h
  simp only [biV] at q
  split at q
  · obtain ⟨v, rfl, rv⟩ := ra.one
    split at q
    · rename_i ys e
      split at q
      · rename_i ns e2
        obtain ⟨p, rfl, hs, hl⟩ := ints_at hr rv e e2
        refine cr_sortedI pins s σ H _ us Q I r ⟨p, ns, rfl, hs, fun ns' t h1 h2 ht => ?_⟩
        have : ns' = sortI ns := perm_sorted (h1.trans (sortI_perm ns).symm) h2 (sortI_sorted ns)
        rw [this]
        exact newL_fin q hr ht (Reps.ofInts _) (by rw [List.length_map, (sortI_perm ns).length_eq]; exact hl)
      · obtain ⟨ps, e2, q⟩ := q.optb
        obtain ⟨p, _, rfl, vs, hp, hl, hv⟩ := ref_at hr rv e
        rw [allPr_get e2] at hv
        obtain ⟨hm, hpr⟩ := reps_pairs hv
        refine cr_sortedPO pins s σ H _ us Q I r ⟨p, vs, pairAt H, rfl, .of hp, hpr, fun zs t h1 h2 ht => ?_⟩
        have hz := stb_sortP hm h1 h2
        have rz := pairs_reps (mg := X.mg) (ι := ι) (vs := zs) fun v hv => hpr v (h2.perm.mem_iff.mp hv)
        rw [hz] at rz
        exact newL_fin q hr ht rz (by rw [h2.perm.length_eq]; exact hl)
    · rename_i kvs e
      obtain ⟨ns, e2, q⟩ := q.optb
      obtain ⟨g, q⟩ := q.guard
      obtain ⟨p, _, rfl, l, hp, hl, hf⟩ := ref_at hr rv e
      refine call_sortedDI hc pins s σ H _ us Q I r ⟨p, l, ns, rfl, .of hp, ints_keys (κ := Key) hf e2, of_decide_eq_true g, fun ns' t h1 h2 ht => ?_⟩
      have : ns' = sortI ns := perm_sorted (h1.trans (sortI_perm ns).symm) h2 (sortI_sorted ns)
      rw [this]
      refine newL_fin q hr ht (Reps.ofInts _) ?_
      rw [List.length_map, (sortI_perm ns).length_eq, sizeLine_eq]
      have := of_decide_eq_true g
      omega
    · rename_i kvs e
      obtain ⟨ps, e2, q⟩ := q.optb
      obtain ⟨p, _, rfl, l, hp, hl, hf⟩ := ref_at hr rv e
      obtain ⟨k1, k2⟩ := prs_keys hf e2
      refine call_sortedDP hc pins s σ H _ us Q I r ⟨p, l, rfl, hp, k1, fun bs t b1 b2 b3 ht => ?_⟩
      rw [k2] at b2
      have hz := sortP_uniq b2 b3
      have rz := pairs_reps (mg := X.mg) (ι := ι) b1
      rw [hz] at rz
      refine newL_fin q hr ht rz ?_
      have := b2.length_eq
      rw [List.length_map, ← k2, List.length_map] at this
      omega
    · exact False.elim q
  · exact False.elim q
end Pu

set_option Elab.async false
set_option linter.all false
set_option maxRecDepth 100000
/-! Pu24: how arguments are bound. -/
namespace Pu
open PySem PySem.Spec PyProof.Rows L2
/-- a def with plain parameters alone -/
structure PlainDef (fd : FuncData) (ps : List Str) : Prop where
  po : fd.params.posonlyargs = []
  ar : fd.params.args.map (·.arg) = ps
  va : fd.params.vararg = none
  ko : fd.params.kwonlyargs = []
  kw : fd.params.kwarg = none
  df : fd.defaults = .none
def slotsFrom (sl : List (Str × Value)) : List (Str × Value) → Option (List (Str × Value))
  | [] => some sl
  | (k, v) :: r => if (sl.lookup k).isSome then none else slotsFrom (sl ++ [(k, v)]) r
theorem slots_loop {ps : List Str} {f : Str × Value → List (Str × Value) × List (Str × Value) → Sem (ForInStep (List (Str × Value) × List (Str × Value)))}
    (hf : ∀ p s, ps.contains p.1 = true → (s.lookup p.1).isSome = false → f p (s, []) = pure (.yield (s ++ [p], []))) : ∀ {kw s0 sl : List (Str × Value)}, (∀ p ∈ kw, ps.contains p.1 = true) → slotsFrom s0 kw = some sl → forIn kw (s0, []) f = pure (sl, [])
  | [], s0, sl, _, e => by
    cases e
    rw [List.forIn_nil]
  | (k, v) :: r, s0, sl, h, e => by
    simp only [slotsFrom] at e
    split at e
    · cases e
    · rename_i hn
      rw [List.forIn_cons, hf (k, v) s0 (h _ List.mem_cons_self) (Bool.not_eq_true _ ▸ hn), pure_bind]
      exact slots_loop hf (fun p hp => h p (List.mem_cons_of_mem _ hp)) e
theorem bind_plain {fd : FuncData} {ps : List Str} (h : PlainDef fd ps) {us : List Value} {kw : List (Str × Value)} (hk : ∀ p ∈ kw, ps.contains p.1 = true) (hl : us.length ≤ ps.length) {sl : List (Str × Value)} (hs : slotsFrom (ps.zip us) kw = some sl)
    (full : ∀ n ∈ ps, (sl.lookup n).isSome = true) : bindArgs fd ⟨us, kw⟩ = pure (ps.filterMap fun n => (sl.lookup n).map (n, ·)) := by
  obtain ⟨name, qual, params, body, scope, globals, closure, defaults, kwd, doc, pm, an, code, ct, bl⟩ := fd
  obtain ⟨po, ar, va, ko, kd, kwarg, dfl⟩ := params
  obtain ⟨h1, h2, h3, h4, h5, h6⟩ := h
  simp only at h1 h2 h3 h4 h5 h6
  subst h1 h3 h4 h5 h6
  unfold bindArgs
  simp only [h2, List.map_nil, List.nil_append]
  rw [slots_loop (ps := ps) (sl := sl) (fun p s hp hn => by
    have e : (ps.contains p.1 || ([] : List Str).contains p.1) = true := by rw [hp]; rfl
    rw [if_pos e, if_neg (by rw [hn]; decide)]) hk hs]
  rw [pure_bind]
  show (seqItems? Value.none >>= _) = _
  have e0 : seqItems? Value.none = pure none := rfl
  rw [e0, pure_bind]
  have e1 : ¬ ((decide (us.length > ps.length) && (none : Option Arg).isNone) = true) := by
    simp
    omega
  have e2 : ((ps.take ps.length).filter fun n => (List.lookup n sl).isNone) = [] := by
    rw [List.take_length, List.filter_eq_nil_iff]
    intro n hn
    have := full n hn
    cases hq : List.lookup n sl with
    | none => rw [hq] at this; cases this
    | some _ => simp
  simp only [List.append_nil, Option.getD_none, List.length_nil, Nat.zero_sub, List.drop_nil, Nat.sub_zero, e2]
  rw [if_neg e1, if_neg (by decide), List.zip_nil_right, List.forIn_nil, pure_bind, List.forIn_nil, pure_bind, if_neg (by show ¬ (!true) = true; decide)]
theorem lookup_zip {α : Type} : ∀ {ps : List Str} {us : List α} {i : Nat} {n : Str} {u : α}, ps.Nodup → ps[i]? = some n → us[i]? = some u → (ps.zip us).lookup n = some u
  | [], _, _, _, _, _, h, _ => by simp at h
  | p :: ps, [], _, _, _, _, _, h => by simp at h
  | p :: ps, v :: us, 0, n, u, _, h1, h2 => by
    simp at h1 h2
    subst h1 h2
    simp [List.lookup_cons]
  | p :: ps, v :: us, i + 1, n, u, nd, h1, h2 => by
    obtain ⟨nd1, nd2⟩ := List.nodup_cons.mp nd
    have ne : (n == p) = false := by
      simp only [beq_eq_false_iff_ne]
      rintro rfl
      exact nd1 (List.mem_of_getElem? (by simpa using h1))
    rw [List.zip_cons_cons, List.lookup_cons, ne]
    exact lookup_zip nd2 (by simpa using h1) (by simpa using h2)
theorem filterMap_zip {ps : List Str} {zs : List Value} {f : Str → Option Value} (hl : zs.length = ps.length) (h : ∀ (i : Nat) n z, ps[i]? = some n → zs[i]? = some z → f n = some z) : (ps.filterMap fun n => (f n).map (n, ·)) = ps.zip zs := by
  induction ps generalizing zs with
  | nil => rfl
  | cons p ps ih =>
    cases zs with
    | nil => simp at hl
    | cons z zs =>
      rw [List.zip_cons_cons, List.filterMap_cons, h 0 p z rfl rfl]
      show (p, z) :: _ = _
      rw [ih (zs := zs) (by simpa using hl) fun i n z' h1 h2 => h (i + 1) n z' (by simpa using h1) (by simpa using h2)]
/-- every parameter is given by its place -/
theorem binds_plain {K : PySem.W.Frag} {fd : FuncData} {ps : List Str} (h : PlainDef fd ps) (nd : ps.Nodup) : Binds K fd ps [] := .all fun us hl => by
  have look : ∀ (i : Nat) n z, ps[i]? = some n → us[i]? = some z → (ps.zip us).lookup n = some z := fun i n z h1 h2 => lookup_zip nd h1 h2
  rw [bind_plain h (kw := []) (sl := ps.zip us) (fun _ h => (nomatch h)) (by omega) rfl fun n hn => ?_, filterMap_zip hl look]
  obtain ⟨i, hi, rfl⟩ := List.mem_iff_getElem.mp hn
  rw [look i _ us[i] (List.getElem?_eq_getElem hi) (List.getElem?_eq_getElem (by omega))]
  rfl
theorem lookup_out {α : Type} : ∀ {l : List (Str × α)} {k : Str}, k ∉ l.map (·.1) → l.lookup k = none
  | [], _, _ => rfl
  | (a, b) :: r, k, h => by
    simp only [List.map_cons, List.mem_cons, not_or] at h
    have ne : (k == a) = false := by simpa using h.1
    rw [List.lookup_cons, ne]
    exact lookup_out h.2
theorem slots_new : ∀ {kw s0 : List (Str × Value)}, ((s0 ++ kw).map (·.1)).Nodup → slotsFrom s0 kw = some (s0 ++ kw)
  | [], s0, _ => by simp [slotsFrom]
  | (k, v) :: r, s0, h => by
    have hn : k ∉ s0.map (·.1) := by
      rw [List.map_append, List.nodup_append] at h
      intro hm
      exact h.2.2 k hm k (by simp) rfl
    unfold slotsFrom
    rw [lookup_out hn]
    simp only [Option.isSome_none, Bool.false_eq_true, if_false]
    rw [slots_new (by simpa using h)]
    simp
/-- how keywords come to their places -/
def kwOk (ps ks : List Str) (npos : Nat) (pm : List Nat) : Bool :=
  decide (npos ≤ ps.length) && decide ((ps.take npos ++ ks).Nodup) && (ks.all fun k => ps.contains k) && decide (pm.length = ps.length) && ((List.range ps.length).all fun j => match pm[j]? with
    | some i => decide ((ps.take npos ++ ks)[i]? = ps[j]?)
    | none => false)
theorem map_fst_zip' {α : Type} : ∀ {l : List Str} {m : List α}, l.length = m.length → (l.zip m).map (·.1) = l
  | [], _, _ => by simp
  | _ :: _, [], h => by simp at h
  | a :: l, b :: m, h => by
    rw [List.zip_cons_cons, List.map_cons, map_fst_zip' (by simpa using h)]
theorem zip_take {α : Type} : ∀ {l : List Str} {m : List α}, m.length ≤ l.length → l.zip m = (l.take m.length).zip m
  | _, [], _ => by simp
  | [], _ :: _, h => by simp at h
  | a :: l, b :: m, h => by
    rw [List.length_cons, List.take_succ_cons, List.zip_cons_cons, List.zip_cons_cons, zip_take (by simpa using h)]
theorem kwBinds_plain {K : PySem.W.Frag} {fd : FuncData} {ps ks : List Str} {npos : Nat} {pm : List Nat} (h : PlainDef fd ps) (hk : kwOk ps ks npos pm = true) : KwBinds K fd ps ks npos pm := by
  simp only [kwOk, Bool.and_eq_true, decide_eq_true_eq, List.all_eq_true, List.mem_range] at hk
  obtain ⟨⟨⟨⟨h1, h2⟩, h3⟩, h4⟩, h5⟩ := hk
  intro s us ws zs _ hu hw hz
  have el : (ps.take npos).length = us.length := by rw [List.length_take, hu]; omega
  have e0 : ps.zip us ++ ks.zip ws = (ps.take npos ++ ks).zip (us ++ ws) := by
    rw [zip_take (by omega), hu, List.zip_append el]
  have names : ((ps.zip us ++ ks.zip ws).map (·.1)) = ps.take npos ++ ks := by
    rw [e0]
    exact map_fst_zip' (by rw [List.length_append, List.length_append, el, hw])
  have sl := slots_new (s0 := ps.zip us) (kw := ks.zip ws) (by rw [names]; exact h2)
  have lz : zs.length = ps.length := by rw [mapM_length hz, h4]
  have look : ∀ (j : Nat) n z, ps[j]? = some n → zs[j]? = some z → (ps.zip us ++ ks.zip ws).lookup n = some z := fun j n z a b => by
    have hj : j < ps.length := (List.getElem?_eq_some_iff.mp a).1
    have q := h5 j hj
    rw [e0]
    cases hp : pm[j]? with
    | none => rw [hp] at q; cases q
    | some i =>
      rw [hp] at q
      have q := of_decide_eq_true q
      rw [a] at q
      refine lookup_zip h2 q ?_
      have : ∀ {pm : List Nat} {zs : List Value} {j i : Nat} {z : Value}, pm.mapM (fun i => (us ++ ws)[i]?) = some zs → pm[j]? = some i → zs[j]? = some z → (us ++ ws)[i]? = some z := by
        intro pm
        induction pm with
        | nil => intro zs j i z e a; simp at a
        | cons p pm ih =>
          intro zs j i z e a b
          simp only [List.mapM_cons, Option.bind_eq_bind, Option.bind_eq_some_iff] at e
          obtain ⟨y, e1, ys, e2, e3⟩ := e
          cases e3
          cases j with
          | zero =>
            simp at a b
            subst a b
            exact e1
          | succ j => exact ih e2 (by simpa using a) (by simpa using b)
      exact this hz hp b
  refine BindsTo.of_eq ?_
  rw [bind_plain h (us := us) (kw := ks.zip ws) (fun p hp => h3 _ (List.of_mem_zip hp).1) (by omega) sl fun n hn => ?_, filterMap_zip lz look]
  obtain ⟨j, hj, rfl⟩ := List.mem_iff_getElem.mp hn
  rw [look j _ zs[j] (List.getElem?_eq_getElem hj) (List.getElem?_eq_getElem (by omega))]
  rfl
end Pu

set_option Elab.async false
set_option linter.all false
set_option maxRecDepth 100000
set_option maxHeartbeats 1000000
/-! Pe5: raise of an own exception; try .. except C as e: return .. . -/
namespace Pu
open PySem PySem.Spec PyProof.Rows L2
section
variable {mg : Str → Option Value} {ι ι' : List Addr} {H H' : Hp} {ph : PH}
theorem RepF.look {fs : List (Str × PV)} {l : List (Str × V)} (h : RepF mg ι H fs l) {f : Str} {x : PV} (e : fs.lookup f = some x) : ∃ v, l.lookup f = some v ∧ Rep mg ι H x v := by
  induction fs generalizing l with
  | nil => cases e
  | cons p fs ih =>
    obtain ⟨v, r, rfl, h1, h2⟩ := h
    obtain ⟨g, y⟩ := p
    rw [List.lookup_cons] at e ⊢
    by_cases hb : (f == g) = true
    · rw [hb] at e ⊢
      cases e
      exact ⟨v, rfl, h1⟩
    · rw [Bool.not_eq_true] at hb
      rw [hb] at e ⊢
      exact ih h2 e
end
/-! ### raise -/
section
variable {X : Cx} {C : Cfg} {W : WX} {A : Expr} {a : Ex} {pos pos2 p : Pos}
theorem ss_rai {x sf w f : Str} {c fI : Addr} {fd : FuncData} (hc : X.calm = true) (tk : L2N.Takes X W) (I0 : InitC X.prog X.K c fI sf w f fd) (iC : PySem.W.findIn X.K (.ref c) "__init__" = some (some (.ref fI))) (tI : PySem.W.typeIn X.K (.ref fI) = some (.type "function"))
    (hsm : X.mg "super" = none) (hb : Binds X.K fd [sf, w] []) (hr : X.A.depth + 5 < recursionLimit) (hg : Gl X x) (hm : X.mg x = some (.ref c)) (hp : plain A = true) (ha : SE X C W A a) (hdb : (x == ("__debug__" : Str)) = false) :
    SS X C W (.Raise (some (.Call (.Name x p) [A] [] pos)) none pos2) (.rai x [f] (.cons a .nil)) :=
  (L2N.ps_raise hc tk (pmk_init I0 iC tI hsm hb hr hg hm (a_cons hp ha a_nil) hdb (plain_star hp [] _))).imp fun D σ H h => by
    refine stepS (D := D) (m := evs C (.cons a .nil)) (f := fun ρ vs h => if vs.length = ([f] : List Str).length then .exc x (([f] : List Str).zip vs) h else .bad) h fun vs H1 ι1 ρ ph1 xs h1 h2 h3 h4 => ?_
    match xs, h3, h4 with
    | [x'], h3, h4 =>
      obtain ⟨y, rfl, ry⟩ := h3.one
      refine ⟨y, rfl, fun d hd => ?_⟩
      exact h4 ι1 (upd H1 d (.xd [(f, y)])) σ (.ref c) (some d) (Ext.new0 hd) (h1.aside hd) ⟨c, d, [(f, y)], rfl, rfl, hm, upd_same, y, [], rfl, ry.mono (Ext.new0 hd), rfl⟩
    | [], _, h4 => exact False.elim h4
    | _ :: _ :: _, _, h4 => exact False.elim h4
end
/-! ### what a suite evaluates -/
/-- an exception that is caught: its name, its class, its object, its dict, its fields -/
structure Cau where
  nm : Str
  fs : List (Str × PV)
  Cc : Addr
  a : Addr
  dd : Addr
  i : Nat
section
variable (mg : Str → Option Value) (k : Cau) {α β : Type}
/-- the reading of an evaluation in a suite -/
def rdX (R : List Addr → Hp → α → β → Prop) (m : PH → Res α) : L2.St → Hp → (β → Hp → Prop) → Prop := fun σ H Q =>
  ∃ ι ph l, HRep mg ι H ph ∧ σ[k.i]? = some (some (.ref k.a)) ∧ k.dd ∉ ι ∧ H k.dd = some (.xd l) ∧ RepF mg ι H k.fs l ∧ Fin mg W0 [] R Q ι H (m ph)
end
section
variable {mg : Str → Option Value} {k : Cau} {α β α' β' : Type} {R : List Addr → Hp → α → β → Prop} {R' : List Addr → Hp → α' → β' → Prop} {σ : L2.St} {H : Hp}
theorem xd_ne {l : List (Str × V)} : (∀ xs, HO.xd l ≠ .tup xs) := fun _ z => nomatch z
/-- one step -/
theorem stepX {m : PH → Res α} {f : α → PH → Res α'} {Q : β' → Hp → Prop} {Q' : β → Hp → Prop} (h : rdX mg k R' (fun ph => (m ph).bind f) σ H Q)
    (i : ∀ b H1 ι1 ph1 x l, HRep mg ι1 H1 ph1 → σ[k.i]? = some (some (.ref k.a)) → k.dd ∉ ι1 → H1 k.dd = some (.xd l) → RepF mg ι1 H1 k.fs l → R ι1 H1 x b → Fin mg W0 [] R' Q ι1 H1 (f x ph1) → Q' b H1) : rdX mg k R m σ H Q' := by
  obtain ⟨ι, ph, l, h1, h2, h3, h4, h5, h6⟩ := h
  refine ⟨ι, ph, l, h1, h2, h3, h4, h5, Fin.mono (fun b H1 ⟨ι1, ph1, x, e, q1, q2, q3⟩ => ?_) (Fin.bind h6)⟩
  have hd : k.dd ∉ ι1 := fun hm => by
    obtain ⟨t, rfl, ht⟩ := e.more
    rcases List.mem_append.mp hm with z | z
    · exact h3 z
    · have := ht _ z
      rw [h4] at this
      cases this
  exact i b H1 ι1 ph1 x l q1 h2 hd (e.keep _ _ h4 h3) (h5.mono e) q2 q3
end
/-- the suite's context: what stands of the exception -/
structure SuX (X : Cx) (k : Cau) (oe : Obj) : Prop where
  hz : L2N.Zn (.ref k.Cc) (some k.dd) oe
  hf : ∃ vs, oe.data = .fields vs
abbrev suX (X : Cx) (k : Cau) (oe : Obj) (pn : List (Addr × Obj)) : Cx := X.suite k.a ((k.a, oe) :: pn)
section
variable (X : Cx) (k : Cau) (oe : Obj) (pn : List (Addr × Obj)) (C : Cfg)
def HE (E : Expr) (e : Hx) : Prop := PE (suX X k oe pn) E (rdX X.mg k (Rep X.mg) (hv C k.nm k.fs e))
def HA (E : List Expr) (e : Hxs) : Prop := PA (suX X k oe pn) E (rdX X.mg k (Reps X.mg) (hvs C k.nm k.fs e))
end
section
variable {X : Cx} {k : Cau} {oe : Obj} {pn : List (Addr × Obj)} {C : Cfg} {A B : Expr} {a b : Hx} {Es : List Expr} {es : Hxs} {pos p p2 : Pos}
theorem hx_here {E : Expr} {t : TE} (h : PE (suX X k oe pn) E t) {e : Hx} (i : ∀ ι ph l σ H Q, HRep X.mg ι H ph → σ[k.i]? = some (some (.ref k.a)) → H k.dd = some (.xd l) → RepF X.mg ι H k.fs l → Fin X.mg W0 [] (Rep X.mg) Q ι H (hv C k.nm k.fs e ph) → t σ H Q) : HE X k oe pn C E e :=
  h.imp fun σ H Q ⟨ι, ph, l, h1, h2, h3, h4, h5, h6⟩ => i ι ph l σ H Q h1 h2 h4 h5 h6
theorem hx_int {i : Int} {j : Nat} : HE X k oe pn C (.Constant (.int i) j pos) (.con (.int i)) := hx_here pe_int fun _ _ _ _ _ _ h1 _ _ _ h => h.here h1 rfl
theorem hx_bool {i : Bool} {j : Nat} : HE X k oe pn C (.Constant (.bool i) j pos) (.con (.bl i)) := hx_here pe_bl fun _ _ _ _ _ _ h1 _ _ _ h => h.here h1 rfl
theorem hx_none {j : Nat} : HE X k oe pn C (.Constant .none j pos) (.con .non) := hx_here pe_non fun _ _ _ _ _ _ h1 _ _ _ h => h.here h1 rfl
theorem hx_str {i : Str} {j : Nat} : HE X k oe pn C (.Constant (.str i) j pos) (.con (.str i)) := hx_here pe_str fun _ _ _ _ _ _ h1 _ _ _ h => h.here h1 rfl
/-- e.f -/
theorem hx_fld {f y : Str} (su : SuX X k oe) (T : XfC X.K k.Cc) (hno : PySem.W.findIn X.K (.ref k.Cc) f = some none) (hN : X.N[k.i]? = some y) (hv' : Vis X.env.scope y) (d1 : (y == ("__debug__" : Str)) = false) (d2 : (y == ("__classdict__" : Str)) = false) :
    HE X k oe pn C (.Attribute (.Name y p) f pos) (.fld f) :=
  hx_here (pe_xf (n := f) (pos := pos) T hno su.hz.zc su.hf (pe_var (X := suX X k oe pn) (pos := p) hN hv' d1 d2)) fun ι ph l σ H Q h1 h2 h4 h5 h => by
    obtain ⟨x, ex, h⟩ := Fin.opt h
    obtain ⟨v, ev, rv⟩ := h5.look ex
    exact ⟨.ref k.a, h2, rfl, rfl, k.dd, l, v, rfl, h4, ev, h.here h1 rv⟩
theorem call_isX (su : SuX X k oe) (c : ExcC X.K k.Cc) : CallR (suX X k oe pn) (.builtin "isinstance") (fun xs H Q => ∃ (Dd : Addr) (z : Bool) (l : List (Str × V)), xs = [.ref k.a, .ref Dd] ∧ PySem.W.kitOne X.K (.ref k.Cc) (.ref Dd) = some z ∧ H k.dd = some (.xd l) ∧ Q (.bl z) H) := by
  intro pins s σ H xs us Q I r h
  obtain ⟨Dd, z, l, rfl, e, hd, q⟩ := h
  obtain ⟨u1, u2, rfl, r1, r2⟩ := Vals.two r
  cases r1
  cases r2
  obtain ⟨ha, _⟩ := I.pin (k.a, oe) (List.mem_append_left _ List.mem_cons_self)
  obtain ⟨vs, hv'⟩ := su.hf
  have hx : ObjOk X.prog X.w H s.heap k.dd (.xd l) := I.hok k.dd _ hd
  obtain ⟨mA, hns, hr⟩ := hx
  obtain ⟨od, ho, _⟩ := lookIn_ns hns
  have J : PySem.W.InstAt s.heap k.a oe k.Cc (some od) := ⟨ha, su.hz.1, by unfold PySem.W.notCls; rw [hv'] <;> rfl, by rw [su.hz.2.1]; exact ho⟩
  exact PySem.W.kia_one (kit_exc c) I.kIn J e (fun y => nomatch y) fun tk => ⟨.bl z, H, I.kept (t' := tk) fun _ _ y => y, rfl, q⟩
/-- isinstance(e, D) -/
theorem hx_isi {x y D : Str} {Dd : Addr} {yes no : List Str} (su : SuX X k oe) (c : ExcC X.K k.Cc) (hg : Gl X x) (hx : x = "isinstance") (hm : X.mg "isinstance" = none) (hN : X.N[k.i]? = some y) (hv' : Vis X.env.scope y) (d1 : (y == ("__debug__" : Str)) = false) (d2 : (y == ("__classdict__" : Str)) = false)
    (hgD : Gl X D) (hmD : X.mg D = some (.ref Dd)) (dD : (D == ("__debug__" : Str)) = false) (hy : yes.contains k.nm = true → PySem.W.kitOne X.K (.ref k.Cc) (.ref Dd) = some true) (hn : no.contains k.nm = true → PySem.W.kitOne X.K (.ref k.Cc) (.ref Dd) = some false) :
    HE X k oe pn C (.Call (.Name x p) [.Name y p2, .Name D p2'] [] pos) (.isi yes no) := by
  subst hx
  refine hx_here (pe_callB (X := suX X k oe pn) (call_isX su c) hg hm PyProof.Rows.Boot.isinstance (pa_cons (pe_var (X := suX X k oe pn) hN hv' d1 d2) (pa_cons (pe_glob (X := suX X k oe pn) (v := .ref Dd) hgD hmD rfl dD) pa_nil))) fun ι ph l σ H Q h1 h2 h4 h5 h => ?_
  refine ⟨.ref k.a, h2, ?_⟩
  simp only [hv] at h
  split at h
  · rename_i e
    exact ⟨Dd, true, l, rfl, hy e, h4, h.here h1 rfl⟩
  · split at h
    · rename_i e
      exact ⟨Dd, false, l, rfl, hn e, h4, h.here h1 rfl⟩
    · exact False.elim h
end
end Pu

set_option Elab.async false
set_option linter.all false
set_option maxRecDepth 100000
set_option maxHeartbeats 1000000
/-! Pe6: try .. except C as e: return .. . -/
namespace Pu
open PySem PySem.Spec PyProof.Rows L2
section
variable {X : Cx} {k : Cau} {oe : Obj} {pn : List (Addr × Obj)} {C : Cfg} {A B : Expr} {a b : Hx} {Es : List Expr} {es : Hxs} {pos p p2 : Pos}
theorem hx_and1 (ha : HE X k oe pn C A a) (hb : HE X k oe pn C B b) : HE X k oe pn C (.BoolOp .And [A, B] pos) (.and a b) :=
  (pe_andT ha (pe_one hb)).imp fun σ H Q h => stepX (m := hv C k.nm k.fs a) h fun x H1 ι1 ph1 q l h1 h2 h3 h4 h5 h6 h7 => by
    obtain ⟨t, ht, h8⟩ := tru_at (K := X.K) h1 h6 h7
    refine ⟨t, ht, ?_⟩
    cases t with
    | true => exact ⟨ι1, ph1, l, h1, h2, h3, h4, h5, h8⟩
    | false => exact h8.here h1 h6
theorem hx_and {rest : List Expr} {D : Expr} (ha : HE X k oe pn C A a) (hb : HE X k oe pn C (.BoolOp .And (B :: D :: rest) pos) b) : HE X k oe pn C (.BoolOp .And (A :: B :: D :: rest) pos) (.and a b) :=
  (pe_andT ha hb).imp fun σ H Q h => stepX (m := hv C k.nm k.fs a) h fun x H1 ι1 ph1 q l h1 h2 h3 h4 h5 h6 h7 => by
    obtain ⟨t, ht, h8⟩ := tru_at (K := X.K) h1 h6 h7
    refine ⟨t, ht, ?_⟩
    cases t with
    | true => exact ⟨ι1, ph1, l, h1, h2, h3, h4, h5, h8⟩
    | false => exact h8.here h1 h6
theorem ha_nil : HA X k oe pn C [] .nil := pa_nil.imp fun σ H Q ⟨ι, ph, l, h1, h2, h3, h4, h5, h6⟩ => h6.here h1 (R := Reps X.mg) rfl
theorem ha_cons (hp : plain A = true) (ha : HE X k oe pn C A a) (hr : HA X k oe pn C Es es) : HA X k oe pn C (A :: Es) (.cons a es) :=
  (pa_cons ha hr (plain_star hp Es _)).imp fun σ H Q h => stepX (m := hv C k.nm k.fs a) h fun x H1 ι1 ph1 q l h1 h2 h3 h4 h5 h6 h7 =>
    ⟨ι1, ph1, l, h1, h2, h3, h4, h5, h7.then fun ys H2 ι2 ph2 ps e k1 k2 k3 => k3.here k1 ⟨x, ys, rfl, h6.mono e, k2⟩⟩
theorem hx_tup {j : Nat} (h : HA X k oe pn C Es es) : HE X k oe pn C (.Tuple Es j pos) (.tup es) :=
  (pe_tup h).imp fun σ H Q h => stepX (m := hvs C k.nm k.fs es) h fun xs H1 ι1 ph1 ps l h1 h2 h3 h4 h5 h6 h7 => by
    obtain ⟨g, h7⟩ := h7.guard
    have hl : xs.length ≤ sizeLine := by rw [← h6.length]; exact of_decide_eq_true g
    exact ⟨hl, fun p hp => tup_fin h7 h1 hp h6 hl⟩
theorem SuX.hot (su : SuX X k oe) : L2H.HotC (suX X k oe pn) := by
  obtain ⟨vs, hv'⟩ := su.hf
  exact ⟨(k.a, oe), ⟨rfl, vs, hv', su.hz.2.2 vs hv'⟩, List.mem_cons_self⟩
theorem hx_call {f : Addr} {fd : FuncData} {ps : List Str} {j i : Nat} {x : Str} (su : SuX X k oe) (F : L2H.FnH X.prog X.w X.K X.mg X.base (L2N.CX X.prog X.w) j f fd ps (spC X.mg C.call i ps.length)) (hr : L2H.RoomH j X.A) (hg : Gl X x) (hm : X.mg x = some (.ref f)) (hk : PySem.W.keepIn X.K (.ref f) = true) (hb : Binds X.K fd ps [])
    (hn : ∀ xs ph, xs.length ≠ ps.length → C.call i xs ph = .bad) (ha : HA X k oe pn C (A :: Es) (.cons a es)) (hp : plains (A :: Es) = true) (hdb : (x == ("__debug__" : Str)) = false) :
    HE X k oe pn C (.Call (.Name x p) (A :: Es) [] pos) (.call i (.cons a es)) := by
  have hp' : plain A = true ∧ plains Es = true := by simpa [plains] using hp
  have hr2 : L2H.RoomH j (suX X k oe pn).A := ⟨hr.dp, hr.un⟩
  refine (L2H.pe_callH (X := suX X k oe pn) (E := fun _ _ _ _ => False) F hr2 su.hot hg hm hk hb (fun σ pins H s e s' I c => ?_) ha hdb (plain_star hp'.1 _ _) (plains_any hp'.2)).imp fun σ H Q h => stepX (m := hvs C k.nm k.fs (.cons a es)) h fun vs H1 ι1 ph1 xs l h1 h2 h3 h4 h5 h6 h7 => ?_
  · obtain ⟨_, _, _, _, _, _, _, _, _, _, _, _, y⟩ := c
    exact False.elim y
  · have h7 : Fin X.mg W0 [] (Rep X.mg) Q ι1 H1 (C.call i xs ph1) := h7.prim
    by_cases hl : xs.length = ps.length
    · exact ⟨by rw [← h6.length]; exact hl, ι1, ph1, xs, h1, h6, h7⟩
    · rw [hn xs ph1 hl] at h7
      exact False.elim h7
end
theorem RepO_noxd {mg : Str → Option Value} {ι : List Addr} {H : Hp} {a : Addr} {l : List (Str × V)} {o : PO} (r : RepO mg ι H a o) (e : H a = some (HO.xd l)) : False := by
  cases o with
  | lst _ => obtain ⟨_, h, _⟩ := r; rw [h] at e; cases e
  | dk _ => obtain ⟨_, h, _⟩ := r; rw [h] at e; cases e
  | dt _ => obtain ⟨_, h, _⟩ := r; rw [h] at e; cases e
  | fz _ => obtain ⟨_, h, _⟩ := r; rw [h] at e; cases e
  | lk _ => obtain ⟨_, _, h, _⟩ := r; rw [h] at e; cases e
  | lt _ => obtain ⟨_, _, h, _⟩ := r; rw [h] at e; cases e
theorem HRep.noxd {mg : Str → Option Value} {ι : List Addr} {H : Hp} {ph : PH} {a : Addr} {l : List (Str × V)} (h : HRep mg ι H ph) (e : H a = some (.xd l)) : a ∉ ι := fun hm => by
  obtain ⟨n, hn, rfl⟩ := List.mem_iff_getElem.mp hm
  have hl : n < ph.length := by rw [← h.len]; exact hn
  exact RepO_noxd (h.obj n _ _ (List.getElem?_eq_getElem hn) (List.getElem?_eq_getElem hl)) e
/-- what the suite is to do -/
def tsX (X : Cx) (C : Cfg) (i : Nat) (cat : List Str) (e : Hx) (a : Addr) (cls : Value) (d : Option Addr) : TS := fun D σ H =>
  ∃ (k : Cau) (ι : List Addr) (ph : PH) (l : List (Str × V)), k.a = a ∧ k.i = i ∧ cat.contains k.nm = true ∧ cls = .ref k.Cc ∧ d = some k.dd ∧ X.mg k.nm = some (.ref k.Cc) ∧ HRep X.mg ι H ph ∧ (∃ σ0 : L2.St, σ = σ0.set i (some (.ref a))) ∧ H k.dd = some (.xd l) ∧ RepF X.mg ι H k.fs l ∧
    Fin X.mg W0 [] (Rep X.mg) D.rt ι H (hv C k.nm k.fs e ph)
theorem Fin.rt {mg : Str → Option Value} {ι : List Addr} {H : Hp} {W : WX} {D : Ends} {r : Res PV} (h : FinS mg W D ι H ((Pu.noX r).bind fun v h => .ok (.rt v) h)) : Fin mg W0 [] (Rep mg) D.rt ι H r := by
  cases r with
  | ok v ph => exact h
  | exc _ _ _ => exact False.elim h
  | bad => exact False.elim h
section
variable {X : Cx} {C : Cfg} {W : WX} {B1 : List Stmt} {b1 : Bk} {A : Expr} {e : Hx} {cat non : List Str} {i : Nat} {x n : Str} {c : Addr} {np rp pos pos' : Pos}
theorem ss_try (hs : X.stack = X.env :: X.outer) (hf : X.env.frame = some X.env.locals) (hN : X.N.Nodup) (hi : X.N[i]? = some n) (hln : X.env.kindOf n = some .local) (hc : Names X x (.ref c)) (tk : L2N.Takes X W)
    (hb : ∀ (W' : WX) (pn : List (Addr × Obj)) (xe : Value → Shared → Prop), L2N.Takes (X.tr pn xe) W' → PassesOwn (model X.prog X.w) X.A X.env xe → SB (X.tr pn xe) C W' B1 b1)
    (hE : ∀ (k : Cau) (oe : Obj) (pn : List (Addr × Obj)), k.i = i → cat.contains k.nm = true → X.mg k.nm = some (.ref k.Cc) → SuX X k oe → HE X k oe pn C A e)
    (hcat : ∀ y C', cat.contains y = true → X.mg y = some (.ref C') → PySem.W.exmOne X.K (.ref C') (.ref c) = some true) (hnon : ∀ y C', non.contains y = true → X.mg y = some (.ref C') → PySem.W.exmOne X.K (.ref C') (.ref c) = some false) :
    SS X C W (.Try B1 [.ExceptHandler (some (.Name x np)) (some n) [.Return (some A) rp] pos'] [] [] pos) (.trya b1 cat non e) := by
  refine (L2N.ps_try_as (tb := fun W' => rdS X.mg W' (evB C b1)) (ts := tsX X C i cat e) hs hf hN hi hln hc tk hb ?_).imp fun D σ H ⟨ι, ρ, ph, h1, h2, h3⟩ => ⟨ι, ρ, ph, h1, h2, ?_⟩
  · intro a oe cls d pn hz hv'
    refine ⟨fun pins s σ H D I h => ?_⟩
    obtain ⟨k, ι, ph, l, rfl, hki, hk, rfl, rfl, hkm, r1, ⟨σ0, hσ⟩, r3, r4, r5⟩ := h
    have hil : i < σ.length := by
      have h1 := I.len
      have h2 := (List.getElem?_eq_some_iff.mp hi).1
      have h3 : (suX X k oe pn).N = X.N := rfl
      rw [h1]
      exact h2
    have hat : σ[i]? = some (some (.ref k.a)) := by
      rw [hσ] at hil ⊢
      rw [List.length_set] at hil
      exact List.getElem?_set_self hil
    exact (pss_one (ps_ret (hE k oe pn hki hk hkm ⟨hz, hv'⟩))).run pins s σ H D I ⟨ι, ph, l, r1, by rw [hki]; exact hat, r1.noxd r3, r3, r4, r5⟩
  · change FinS X.mg W D ι H (caught C cat non e (evB C b1 ρ ph)) at h3
    change FinS X.mg (wAs X.K (.ref c) i (tsX X C i cat e) W D) D ι H (evB C b1 ρ ph)
    cases hr : evB C b1 ρ ph with
    | ok f ph' =>
      rw [hr] at h3
      cases f <;> exact h3
    | bad => rw [hr] at h3; exact h3
    | exc y fs ph' =>
      rw [hr] at h3
      intro ι' H' σ' cls d x1 x2 x3
      simp only [caught] at h3
      split at h3
      · rename_i hy
        obtain ⟨C', dd, l, rfl, rfl, hm, hd, hl⟩ := x3
        refine ⟨true, hcat y C' hy hm, fun _ a na => ?_, fun z => nomatch z⟩
        have h4 := Fin.rt (FinS.base x1 h3)
        exact ⟨⟨y, fs, C', a, dd, i⟩, ι', ph', l, rfl, rfl, hy, rfl, rfl, hm, x2, ⟨σ', rfl⟩, hd, hl, h4⟩
      · split at h3
        · rename_i hy
          have x3' := x3
          obtain ⟨C', dd, l, rfl, rfl, hm, hd, hl⟩ := x3
          exact ⟨false, hnon y C' hy hm, fun z => (nomatch z), fun _ => h3 ι' H' σ' _ _ x1 x2 x3'⟩
        · exact False.elim h3
end
end Pu

set_option Elab.async false
set_option linter.all false
set_option maxRecDepth 100000
/-! Pu25: the checker: does a text stand for these lines? -/
namespace Pu
open PySem PySem.Spec PyProof.Rows L2
/-- a block's names -/
structure Sc where
  N : List Str
  names : List (Str × NameKind)
  fn : Str → Bool
  hot : Bool
/-- the module's names: own defs, numbers, an imported gcd -/
structure GT where
  fns : List (Str × List Str)
  cons : List (Str × Int)
  gcd : Option Str
  hots : List Nat
  excs : List (Str × Str)
  subs : List (Str × Str × Bool)
def GT.hot (G : GT) (i : Nat) : Bool := G.hots.contains i
def isVis : Option NameKind → Bool
  | some .local => true
  | some .cell => true
  | some .free => true
  | _ => false
def isLoc : Option NameKind → Bool
  | some .local => true
  | some .cell => true
  | _ => false
def isLocal : Option NameKind → Bool
  | some .local => true
  | _ => false
def isGl : Option NameKind → Bool
  | some .globalImplicit => true
  | _ => false
def Sc.var (c : Sc) (i : Nat) (x : Str) : Bool := decide (c.N[i]? = some x) && isVis (c.names.lookup x)
def Sc.tgt (c : Sc) (i : Nat) (x : Str) : Bool := decide (c.N[i]? = some x) && isLoc (c.names.lookup x) && (c.fn x || isLocal (c.names.lookup x))
def Sc.gl (c : Sc) (x : Str) : Bool := isGl (c.names.lookup x)
/-- the names of a comprehension's block, as it runs -/
def relN (names sup : List (Str × NameKind)) : List (Str × NameKind) := names.map fun (n, k) => if (k == NameKind.free && ScopeKind.function == .function && sup.lookup n == some .cell) = true then (n, .cell) else (n, k)
def Sc.blk (c : Sc) (scope : Scope) : Sc := ⟨c.N, relN scope.names c.names, fun x => scope.names.lookup x == some .cell, c.hot⟩
def ownOf (c : Sc) (own : List Nat) : List (Str × Nat) := own.map fun i => ((c.N[i]?).getD (Str.ofString ""), i)
def biS : Bi → Str
  | .len => "len" | .tuple => "tuple" | .list => "list" | .sum => "sum" | .abs => "abs" | .int => "int" | .str => "str" | .min => "min" | .max => "max" | .sorted => "sorted" | .isinst => "isinstance" | .dict => "dict" | .gcd => "gcd"
def mtS' : Mt → Str
  | .append => "append" | .extend => "extend" | .pop => "pop" | .insert => "insert" | .index => "index" | .reverse => "reverse" | .get => "get" | .setdefault => "setdefault" | .join => "join"
def mtOk : Mt → Bool
  | .index => false
  | _ => true
/-- what may run while an exception is handled -/
def biHot : Bi → Bool
  | .sum => false
  | .min => false
  | .max => false
  | .sorted => false
  | _ => true
def noSet : Expr → Bool
  | .Set _ _ _ => false
  | _ => true
def opOk : Option Operator → Bool := fun _ => true
def tyNames : List String := ["int", "str", "bool", "tuple", "list", "dict"]
def conOk (c : Sc) (v : PV) (E : Expr) : Bool := match v, E with
  | .int i, .Constant (.int j) _ _ => i == j
  | .bl i, .Constant (.bool j) _ _ => i == j
  | .non, .Constant .none _ _ => true
  | .str x, .Constant (.str y) _ _ => decide (x = y)
  | .ty n, .Name x _ => tyNames.contains n && decide (x = Str.ofString n) && c.gl x
  | _, _ => false
/-- target and value stand on one line, the target a local that the block does not own: the store is folded into the comprehension -/
def folds (scope : Scope) (y : Str) (py epos : Pos) (names : List (Str × NameKind)) : Bool := isLocal (names.lookup y) && (py.line == epos.line) && !(scope.names.any fun (n, k) => n == y && (k == .local || k == .cell))
mutual
def cX (G : GT) : Ex → Sc → Bool → Expr → Bool
  | .var i, c, _, E => match E with
    | .Name x _ => c.var i x
    | _ => false
  | .con v, c, _, E => conOk c v E
  | .gcon x v, c, _, E => match E with
    | .Name y _ => decide (x = y) && c.gl y && (match v with
      | .int n => G.cons.contains (y, n)
      | _ => false)
    | _ => false
  | .gl _, _, _, _ => false
  | .tup es, c, _, E => match E with
    | .Tuple Es _ _ => cXs G es c false Es && plains Es
    | _ => false
  | .lst es, c, _, E => match E with
    | .List Es _ => cXs G es c false Es && plains Es
    | _ => false
  | .bin op a b, c, _, E => match E with
    | .BinOp A op' B _ => decide (op = op') && cX G a c false A && cX G b c false B
    | _ => false
  | .neg a, c, _, E => match E with
    | .UnaryOp .USub A _ => cX G a c false A
    | _ => false
  | .not a, c, t, E => match E with
    | .UnaryOp .Not A _ => cX G a c t A
    | _ => false
  | .and es, c, t, E => match E with
    | .BoolOp .And Es _ => cXs G es c t Es && !Es.isEmpty
    | _ => false
  | .or es, c, t, E => match E with
    | .BoolOp .Or Es _ => cXs G es c t Es && !Es.isEmpty
    | _ => false
  | .ite d a b, c, t, E => match E with
    | .IfExp D A B _ => cX G d c true D && cX G a c t A && cX G b c t B
    | _ => false
  | .cmp op a b, c, _, E => match E with
    | .Compare A [op'] [B] _ => decide (op = op') && plain B && cX G a c false A && cX G b c false B
    | _ => false
  | .cmp2 o1 o2 a b d, c, t, E => match E with
    | .Compare A [p1, p2] [B, D] _ => !t && decide (o1 = p1) && decide (o2 = p2) && plain D && cX G a c false A && cX G b c false B && cX G d c false D
    | _ => false
  | .ix a i, c, _, E => match E with
    | .Subscript A B _ => plain B && cX G a c false A && cX G i c false B
    | _ => false
  | .sl a lo hi, c, _, E => match E with
    | .Subscript A (.Slice l h none _) _ => cX G a c false A && cO G lo c l && cO G hi c h
    | _ => false
  | .rev a, c, _, E => match E with
    | .Subscript A (.Slice none none (some (.UnaryOp .USub (.Constant (.int 1) _ _) _)) _) _ => cX G a c false A
    | _ => false
  | .call0 f, c, _, E => match E with
    | .Call (.Name x _) [] [] _ => !c.hot && !G.hot f && c.gl x && (match G.fns[f]? with
      | some (y, _) => decide (x = y)
      | none => false)
    | _ => false
  | .call f es, c, _, E => match E with
    | .Call (.Name x _) Es [] _ => (G.hot f == c.hot) && c.gl x && (match G.fns[f]? with
      | some (y, _) => decide (x = y)
      | none => false) && cXs G es c false Es && plains Es && !Es.isEmpty
    | _ => false
  | .callk f es ks pm, c, _, E => match E with
    | .Call (.Name x _) Es kws _ => !c.hot && !G.hot f && c.gl x && cXs G es c false Es && plains Es && cXs G ks c false (kwVals kws) && (match kws.mapM (fun k => k.arg) with
      | some names => (match G.fns[f]? with
        | some (y, ps) => decide (x = y) && kwOk ps names Es.length pm
        | none => false)
      | none => false)
    | _ => false
  | .bi b es, c, _, E => match E with
    | .Call (.Name x _) Es [] _ => (!c.hot || biHot b) && c.gl x && (match b with
      | .gcd => decide (G.gcd = some x)
      | b => decide (x = biS b)) && cXs G es c false Es && plains Es && !Es.isEmpty
    | _ => false
  | .mt m o es, c, _, E => match E with
    | .Call (.Attribute O name apos) Es [] cpos => mtOk m && decide (name = mtS' m) && noSup O && (apos.endLine == cpos.line) && cX G o c false O && cXs G es c false Es && plains Es && decide (Es.length < 30)
    | _ => false
  | .lc own tg it ifs e, c, _, E => match E with
    | .ListComp elt [⟨TG, IT, IFS, 0⟩] scope _ => !c.hot && cI G it c TG IT && noSet IT && blkC c.N { kind := .function, names := c.names, isGenerator := false, isCoroutine := false } scope (ownOf c own) && tg.within own && cG G tg (c.blk scope) TG && cTs G ifs (c.blk scope) IFS && cX G e (c.blk scope) false elt
    | _ => false
  | .lc2 own own1 tg it ifs tg1 it1 ifs1 e, c, _, E => match E with
    | .ListComp elt [⟨TG, IT, IFS, 0⟩, ⟨TG1, IT1, IFS1, 0⟩] scope _ => !c.hot && cI G it c TG IT && noSet IT && noSet IT1 && blkC c.N { kind := .function, names := c.names, isGenerator := false, isCoroutine := false } scope (ownOf c own) && tg.within own && tg1.within own1 && (own1.all fun i => own.contains i) &&
        cG G tg (c.blk scope) TG && cTs G ifs (c.blk scope) IFS && cI G it1 (c.blk scope) TG1 IT1 && cG G tg1 (c.blk scope) TG1 && cTs G ifs1 (c.blk scope) IFS1 && cX G e (c.blk scope) false elt
    | _ => false
  | .dcK own tg it ifs k e, c, _, E => match E with
    | .DictComp K V' [⟨TG, IT, IFS, 0⟩] scope _ => !c.hot && cI G it c TG IT && noSet IT && blkC c.N { kind := .function, names := c.names, isGenerator := false, isCoroutine := false } scope (ownOf c own) && tg.within own && cG G tg (c.blk scope) TG && cTs G ifs (c.blk scope) IFS && cX G k (c.blk scope) false K && cX G e (c.blk scope) false V'
    | _ => false
  | .dcT own tg it ifs k e, c, _, E => match E with
    | .DictComp K V' [⟨TG, IT, IFS, 0⟩] scope _ => !c.hot && cI G it c TG IT && noSet IT && blkC c.N { kind := .function, names := c.names, isGenerator := false, isCoroutine := false } scope (ownOf c own) && tg.within own && cG G tg (c.blk scope) TG && cTs G ifs (c.blk scope) IFS && cX G k (c.blk scope) false K && cX G e (c.blk scope) false V'
    | _ => false
  | .dcT2 own own1 tg it ifs tg1 it1 ifs1 k e, c, _, E => match E with
    | .DictComp K V' [⟨TG, IT, IFS, 0⟩, ⟨TG1, IT1, IFS1, 0⟩] scope _ => !c.hot && cI G it c TG IT && noSet IT && noSet IT1 && blkC c.N { kind := .function, names := c.names, isGenerator := false, isCoroutine := false } scope (ownOf c own) && tg.within own && tg1.within own1 && (own1.all fun i => own.contains i) &&
        cG G tg (c.blk scope) TG && cTs G ifs (c.blk scope) IFS && cI G it1 (c.blk scope) TG1 IT1 && cG G tg1 (c.blk scope) TG1 && cTs G ifs1 (c.blk scope) IFS1 && cX G k (c.blk scope) false K && cX G e (c.blk scope) false V'
    | _ => false
  | .dicK kvs, c, _, E => match E with
    | .Dict Ks Vs _ => cKV G kvs c Ks Vs && decide (Ks.length ≤ 15)
    | _ => false
  | .dicT kvs, c, _, E => match E with
    | .Dict Ks Vs _ => cKV G kvs c Ks Vs && decide (Ks.length ≤ 15)
    | _ => false
  | .tr e, c, t, E => !t && cX G e c false E
  | .lk _ e, c, t, E => !t && cX G e c false E
def cXs (G : GT) : Exs → Sc → Bool → List Expr → Bool
  | .nil, _, _, Es => Es.isEmpty
  | .cons e es, c, t, Es => match Es with
    | E :: Es => cX G e c t E && cXs G es c t Es
    | [] => false
/-- a bound of a slice -/
def cO (G : GT) : Exs → Sc → Option Expr → Bool
  | .nil, _, E => E.isNone
  | .cons e es, c, E => match es, E with
    | .nil, some E => cX G e c false E
    | _, _ => false
/-- the tests of a clause -/
def cTs (G : GT) : Exs → Sc → List Expr → Bool
  | .nil, _, Es => Es.isEmpty
  | .cons e es, c, Es => match es, Es with
    | .nil, [E] => cX G e c true E
    | _, _ => false
def cKV (G : GT) : Kvs → Sc → List (Option Expr) → List Expr → Bool
  | .nil, _, Ks, Vs => Ks.isEmpty && Vs.isEmpty
  | .cons k v r, c, Ks, Vs => match Ks, Vs with
    | some K :: Ks, V' :: Vs => cX G k c false K && cX G v c false V' && cKV G r c Ks Vs
    | _, _ => false
def cI (G : GT) : Si → Sc → Expr → Expr → Bool
  | .val e, c, _, IT => cX G e c false IT
  | .rng es, c, _, IT => match IT with
    | .Call (.Name x _) Es [] _ => decide (x = Str.ofString "range") && c.gl x && cXs G es c false Es && plains Es && (Es.length == 1 || Es.length == 2 || Es.length == 3)
    | _ => false
  | .enum e, c, TG, IT => match TG, IT with
    | .Tuple _ _ _, .Call (.Name x _) [E] [] _ => decide (x = Str.ofString "enumerate") && c.gl x && plain E && cX G e c false E
    | _, _ => false
  | .zip _ _, _, _, _ => false
  | .rev e, c, _, IT => match IT with
    | .Call (.Name x _) [E] [] _ => decide (x = Str.ofString "reversed") && c.gl x && plain E && cX G e c false E
    | _ => false
  | .keys e, c, _, IT => cX G e c false IT
  | .items _, _, _, _ => false
  | .vals _, _, _, _ => false
def cG (G : GT) : Tg → Sc → Expr → Bool
  | .name i, c, E => match E with
    | .Name x _ => c.tgt i x
    | _ => false
  | .tup ts, c, E => match E with
    | .Tuple Es _ _ => cGs G ts c Es && plainTs Es
    | _ => false
  | .sub o i, c, E => match E with
    | .Subscript A B _ => plain B && cX G o c false A && cX G i c false B
    | _ => false
def cGs (G : GT) : Tgs → Sc → List Expr → Bool
  | .nil, _, Es => Es.isEmpty
  | .cons t ts, c, Es => match Es with
    | E :: Es => cG G t c E && cGs G ts c Es
    | [] => false
end
/-- a comprehension that is stored as it is made -/
def foldE : Ex → Bool
  | .lc _ _ _ _ _ => true
  | .lc2 _ _ _ _ _ _ _ _ _ => true
  | .dcK _ _ _ _ _ _ => true
  | .dcT _ _ _ _ _ _ => true
  | _ => false
/-- a value on the same line as the name that takes it -/
def foldOk (c : Sc) (x : Str) (py : Pos) (E : Expr) (e : Ex) : Bool := match E with
  | .ListComp _ _ scope pos => !(folds scope x py pos c.names) || foldE e
  | .DictComp _ _ _ scope pos => !(folds scope x py pos c.names) || foldE e
  | .SetComp _ _ _ _ => false
  | _ => true
mutual
/-- what an except suite evaluates; y: the exception's name, cat: the classes that may come -/
def cH (G : GT) (c : Sc) (y : Str) (cat : List Str) : Hx → Expr → Bool
  | .con v, E => match v, E with
    | .int i, .Constant (.int j) _ _ => i == j
    | .bl i, .Constant (.bool j) _ _ => i == j
    | .non, .Constant .none _ _ => true
    | .str x, .Constant (.str z) _ _ => decide (x = z)
    | _, _ => false
  | .fld f, E => match E with
    | .Attribute (.Name z _) g _ => decide (z = y) && decide (g = f) && cat.all fun x => G.excs.contains (x, f)
    | _ => false
  | .isi yes no, E => match E with
    | .Call (.Name x _) [.Name z _, .Name D _] [] _ => decide (x = Str.ofString "isinstance") && c.gl x && decide (z = y) && c.gl D && (cat.all fun x => G.excs.any fun p => decide (p.1 = x)) && (yes.all fun x => G.subs.contains (x, D, true)) && (no.all fun x => G.subs.contains (x, D, false)) && !yes.isEmpty
    | _ => false
  | .tup es, E => match E with
    | .Tuple Es _ _ => cHs G c y cat es Es && plains Es
    | _ => false
  | .and a b, E => match E with
    | .BoolOp .And [A, B] _ => cH G c y cat a A && cH G c y cat b B
    | .BoolOp .And (A :: B :: D :: rest) p => cH G c y cat a A && cH G c y cat b (.BoolOp .And (B :: D :: rest) p)
    | _ => false
  | .call f es, E => match E with
    | .Call (.Name x _) Es [] _ => G.hot f && c.gl x && (match G.fns[f]? with
      | some (z, _) => decide (x = z)
      | none => false) && cHs G c y cat es Es && plains Es && !Es.isEmpty
    | _ => false
def cHs (G : GT) (c : Sc) (y : Str) (cat : List Str) : Hxs → List Expr → Bool
  | .nil, Es => Es.isEmpty
  | .cons e es, Es => match Es with
    | E :: Es => cH G c y cat e E && cHs G c y cat es Es
    | [] => false
end
mutual
def cS (G : GT) (c : Sc) : Sm → Stmt → Bool
  | .asg tg e, S => match S with
    | .Assign [TG] E _ => (match tg, TG with
      | .name i, .Name x py => c.tgt i x && foldOk c x py E e && cX G e c false E
      | .tup ts, .Tuple Es k p => noTup E && cG G (.tup ts) c (.Tuple Es k p) && cX G e c false E
      | .sub o i, .Subscript A B p => noTup E && cG G (.sub o i) c (.Subscript A B p) && cX G e c false E
      | _, _ => false)
    | _ => false
  | .par i j a b, S => match S with
    | .Assign [.Tuple [.Name x px, .Name y py] kt pt] (.Tuple [A, B] k2 pt2) _ => !c.hot && decide (c.N[i]? = some x) && decide (c.N[j]? = some y) && decide (i ≠ j) && isLocal (c.names.lookup x) && isLocal (c.names.lookup y) && plain A && plain B && cX G a c false A && cX G b c false B &&
        (px.line == py.line) && !(x == y) && !([A, B].all (foldedForSure 8)) && !([A, B].all (constantsAlone 8))
    | _ => false
  | .aug i op e, S => match S with
    | .AugAssign (.Name x _) op' E _ => decide (op = op') && c.tgt i x && cX G e c false E
    | _ => false
  | .augS _ _ _ _, _ => false
  | .exp e, S => match S with
    | .Expr E _ => noComp E && cX G e c false E
    | _ => false
  | .ret e, S => match S with
    | .Return (some E) _ => cX G e c false E
    | _ => false
  | .retN, S => match S with
    | .Return none _ => true
    | _ => false
  | .ite t a b, S => match S with
    | .If T A B _ => cX G t c true T && cB G c a A && cB G c b B
    | _ => false
  | .wh t b, S => match S with
    | .While T B [] _ => cX G t c true T && cB G c b B
    | _ => false
  | .fr tg it b, S => match S with
    | .For TG IT B [] _ => !c.hot && cI G it c TG IT && noSet IT && cG G tg c TG && cB G c b B
    | _ => false
  | .brk, S => match S with
    | .Break _ => true
    | _ => false
  | .cnt, S => match S with
    | .Continue _ => true
    | _ => false
  | .pass, S => match S with
    | .Pass _ => true
    | .Expr (.Constant (.str _) _ _) _ => true
    | _ => false
  | .bad, _ => true
  | .rai x fs es, S => match S with
    | .Raise (some (.Call (.Name z _) [A] [] _)) none _ => !c.hot && decide (x = z) && c.gl z && plain A && (match fs, es with
      | [f], .cons a .nil => G.excs.contains (x, f) && cX G a c false A
      | _, _ => false)
    | _ => false
  | .trya b cat non e, S => match S with
    | .Try B [.ExceptHandler (some (.Name x _)) (some n) [.Return (some A) _] _] [] [] _ => !c.hot && isLocal (c.names.lookup n) && c.N.contains n && c.gl x && (cat.all fun y => G.subs.contains (y, x, true)) && (non.all fun y => G.subs.contains (y, x, false)) && !cat.isEmpty && cB G c b B && cH G c n cat e A
    | _ => false
  | .tr s, S => cS G c s S
  | .lk _ s, S => cS G c s S
def cB (G : GT) (c : Sc) : Bk → List Stmt → Bool
  | .nil, Ss => Ss.isEmpty
  | .cons s b, Ss => match Ss with
    | S :: Ss => cS G c s S && cB G c b Ss
    | [] => false
end
end Pu

set_option Elab.async false
set_option linter.all false
set_option maxRecDepth 100000
/-! Pu26: what the checker says holds: names, places. -/
namespace Pu
open PySem PySem.Spec PyProof.Rows L2
/-- a context as the checker sees it -/
structure Sta (X : Cx) (c : Sc) : Prop where
  N : X.N = c.N
  names : X.env.scope.names = c.names
  kind : X.env.scope.kind = .function
  fn : X.fn = c.fn
  calm : X.calm = !c.hot
  hotc : c.hot = true → L2H.HotC X
  units : X.A.units + 65 < cLine
  nd : c.N.Nodup
  dbg : ∀ x ∈ c.N, (x == ("__debug__" : Str)) = false ∧ (x == ("__classdict__" : Str)) = false
/-- an own def, as it stands in the module -/
structure FnAt (X : Cx) (C : Cfg) (i : Nat) (x : Str) (ps : List Str) : Prop where
  ex : ∃ f fd k, FnOk X.prog X.w X.K X.mg X.base (L2N.CX X.prog X.w) k f fd ps (spC X.mg C.call i ps.length) ∧ Room k X.A ∧ X.mg x = some (.ref f) ∧ PySem.W.keepIn X.K (.ref f) = true ∧ PlainDef fd ps
  nd : ps.Nodup
  n : ∀ xs ph, xs.length ≠ ps.length → C.call i xs ph = .bad
  dbg : (x == ("__debug__" : Str)) = false
/-- .. that runs while an exception is handled -/
structure FnAtH (X : Cx) (C : Cfg) (i : Nat) (x : Str) (ps : List Str) : Prop where
  ex : ∃ f fd k, L2H.FnH X.prog X.w X.K X.mg X.base (L2N.CX X.prog X.w) k f fd ps (spC X.mg C.call i ps.length) ∧ L2H.RoomH k X.A ∧ X.mg x = some (.ref f) ∧ PySem.W.keepIn X.K (.ref f) = true ∧ PlainDef fd ps
  nd : ps.Nodup
  n : ∀ xs ph, xs.length ≠ ps.length → C.call i xs ph = .bad
  dbg : (x == ("__debug__" : Str)) = false
/-- an exception class with a field -/
structure ExcK (P : Program) (K : PySem.W.Frag) (mg : Str → Option Value) (x f : Str) : Prop where
  ex : ∃ c fI fd sf w, mg x = some (.ref c) ∧ InitC P K c fI sf w f fd ∧ PySem.W.findIn K (.ref c) "__init__" = some (some (.ref fI)) ∧ PySem.W.typeIn K (.ref fI) = some (.type "function") ∧ Binds K fd [sf, w] [] ∧ XfC K c ∧ ExcC K c
  dbg : (x == ("__debug__" : Str)) = false
structure SubK (K : PySem.W.Frag) (mg : Str → Option Value) (x D : Str) (b : Bool) : Prop where
  ex : ∃ c d, mg x = some (.ref c) ∧ mg D = some (.ref d) ∧ PySem.W.kitOne K (.ref c) (.ref d) = some b ∧ PySem.W.exmOne K (.ref c) (.ref d) = some b
  dbg : (D == ("__debug__" : Str)) = false
structure GX (X : Cx) (C : Cfg) (G : GT) : Prop where
  fn : ∀ i x ps, G.fns[i]? = some (x, ps) → G.hot i = false → X.calm = true → FnAt X C i x ps
  fnh : ∀ i x ps, G.fns[i]? = some (x, ps) → G.hot i = true → FnAtH X C i x ps
  con : ∀ x n, (x, n) ∈ G.cons → (∃ t, X.mg x = some (.int n t)) ∧ (x == ("__debug__" : Str)) = false
  bl : ∀ b, b ≠ .gcd → X.mg (biS b) = none
  ty : ∀ n ∈ tyNames, X.mg (Str.ofString n) = none
  rng : X.mg "range" = none
  enu : X.mg "enumerate" = none
  rvd : X.mg "reversed" = none
  gcd : ∀ x, G.gcd = some x → X.mg x = some (.builtin "math.gcd") ∧ (x == ("__debug__" : Str)) = false
  exc : ∀ x f, (x, f) ∈ G.excs → ExcK X.prog X.K X.mg x f
  sub : ∀ x D b, (x, D, b) ∈ G.subs → SubK X.K X.mg x D b
  sup : X.mg "super" = none ∨ G.excs = []
  dep : X.A.depth + 5 < recursionLimit
section
variable {X : Cx} {C : Cfg} {W : WX} {G : GT} {c : Sc}
theorem Sta.gl (h : Sta X c) {x : Str} (e : c.gl x = true) : Gl X x := by
  show X.env.scope.names.lookup x = some .globalImplicit
  rw [h.names]
  unfold Sc.gl isGl at e
  split at e
  · assumption
  · cases e
theorem isVis_of {o : Option NameKind} (e : isVis o = true) : o = some .local ∨ o = some .cell ∨ o = some .free := by
  unfold isVis at e
  split at e <;> first | simp | cases e
theorem isLoc_of {o : Option NameKind} (e : isLoc o = true) : o = some .local ∨ o = some .cell := by
  unfold isLoc at e
  split at e <;> first | simp | cases e
theorem isLocal_of {o : Option NameKind} (e : isLocal o = true) : o = some .local := by
  unfold isLocal at e
  split at e <;> first | simp | cases e
theorem Sta.var (h : Sta X c) {i : Nat} {x : Str} {pos : Pos} (e : c.var i x = true) : SE X C W (.Name x pos) (.var i) := by
  simp only [Sc.var, Bool.and_eq_true, decide_eq_true_eq] at e
  obtain ⟨d1, d2⟩ := h.dbg x (List.mem_of_getElem? e.1)
  refine s_var (by rw [h.N]; exact e.1) ?_ d1 d2
  show _ ∨ _ ∨ _
  rw [h.names]
  exact isVis_of e.2
theorem Sta.tgt (h : Sta X c) {i : Nat} {x : Str} (e : c.tgt i x = true) : X.N.Nodup ∧ X.N[i]? = some x ∧ Loc X.env.scope x ∧ (X.fn x = true ∨ X.env.scope.names.lookup x = some .local) := by
  simp only [Sc.tgt, Bool.and_eq_true, decide_eq_true_eq, Bool.or_eq_true] at e
  refine ⟨by rw [h.N]; exact h.nd, by rw [h.N]; exact e.1.1, ?_, ?_⟩
  · show _ ∨ _
    rw [h.names]
    exact isLoc_of e.1.2
  · rw [h.names, h.fn]
    exact e.2.imp id isLocal_of
theorem Sta.nodup (h : Sta X c) : X.N.Nodup := by rw [h.N]; exact h.nd
theorem Sta.calm0 (h : Sta X c) (h0 : c.hot = false) : X.calm = true := by rw [h.calm, h0]; rfl
theorem Sta.blk (h : Sta X c) (h0 : c.hot = false) {scope : Scope} (hk : scope.kind = .function) (s : Shared) (H : Hp) (cc : Addr) (cl : List (Str × Addr)) (fp : List Addr) : Sta (blkX X scope s H cc cl fp) (c.blk scope) := by
  refine ⟨h.N, ?_, ?_, rfl, h.calm, fun z => ?_, h.units, h.nd, h.dbg⟩
  · show (relabel scope X.env).names = relN scope.names c.names
    unfold relabel relN
    simp only [h.kind, ← h.names]
    rfl
  · show (relabel scope X.env).kind = .function
    exact hk
  · have z : c.hot = true := z
    rw [h0] at z
    cases z
theorem GX.blk (h : GX X C G) (scope : Scope) (s : Shared) (H : Hp) (cc : Addr) (cl : List (Str × Addr)) (fp : List Addr) : GX (blkX X scope s H cc cl fp) C G :=
  ⟨fun i x ps e z1 z2 => let q := h.fn i x ps e z1 z2; ⟨q.ex, q.nd, q.n, q.dbg⟩, fun i x ps e z1 => let q := h.fnh i x ps e z1; ⟨q.ex, q.nd, q.n, q.dbg⟩, h.con, h.bl, h.ty, h.rng, h.enu, h.rvd, h.gcd, h.exc, h.sub, h.sup, h.dep⟩
theorem GX.tr (h : GX X C G) (pn : List (Addr × Obj)) (xe : Value → Shared → Prop) : GX (X.tr pn xe) C G :=
  ⟨fun i x ps e z1 z2 => let q := h.fn i x ps e z1 z2; ⟨q.ex, q.nd, q.n, q.dbg⟩, fun i x ps e z1 => let q := h.fnh i x ps e z1; ⟨q.ex, q.nd, q.n, q.dbg⟩, h.con, h.bl, h.ty, h.rng, h.enu, h.rvd, h.gcd, h.exc, h.sub, h.sup, h.dep⟩
theorem Sta.tr (h : Sta X c) (h0 : c.hot = false) (pn : List (Addr × Obj)) (xe : Value → Shared → Prop) : Sta (X.tr pn xe) c :=
  ⟨h.N, h.names, h.kind, h.fn, h.calm, (fun z => by rw [h0] at z; cases z), h.units, h.nd, h.dbg⟩
/-- as a value, as a test -/
def OKX (X : Cx) (C : Cfg) (W : WX) (t : Bool) (E : Expr) (e : Ex) : Prop := (t = false → SE X C W E e) ∧ (t = true → ST X C W E e)
def isV : Expr → Bool
  | .UnaryOp .Not _ _ => false
  | .BoolOp _ _ _ => false
  | .IfExp _ _ _ _ => false
  | .Compare _ _ _ _ => false
  | _ => true
theorem isV_true {E : Expr} (h : isV E = true) (env : PySem.Env) (whole : Sem Value) : isTrue E env whole = (do let v ← whole; standAt E.pos; holding [v] (PySem.truthy v)) := by
  cases E <;> first | rfl | (rename_i op _ _; cases op <;> first | rfl | exact nomatch h) | exact nomatch h
theorem OKX.val {t : Bool} {E : Expr} {e : Ex} (hv : isV E = true) (h : SE X C W E e) : OKX X C W t E e := ⟨fun _ => h, fun _ => t_val h fun whole => isV_true hv _ whole⟩
theorem OKX.se {E : Expr} {e : Ex} (h : OKX X C W false E e) : SE X C W E e := h.1 rfl
theorem OKX.st {E : Expr} {e : Ex} (h : OKX X C W true E e) : ST X C W E e := h.2 rfl
def AllX (X : Cx) (C : Cfg) (W : WX) (t : Bool) : Exs → List Expr → Prop
  | .nil, Es => Es = []
  | .cons e es, Es => ∃ E Er, Es = E :: Er ∧ OKX X C W t E e ∧ AllX X C W t es Er
theorem AllX.sa : ∀ {es : Exs} {Es : List Expr}, AllX X C W false es Es → plains Es = true → SA X C W Es es
  | .nil, _, h, _ => by cases h; exact a_nil
  | .cons e es, _, ⟨E, Er, h1, h2, h3⟩, hp => by
    subst h1
    have hp' : plain E = true ∧ plains Er = true := by simpa [plains] using hp
    exact a_cons hp'.1 h2.se (AllX.sa h3 hp'.2)
theorem AllX.len : ∀ {es : Exs} {Es : List Expr} {t : Bool}, AllX X C W t es Es → es.len = Es.length
  | .nil, _, _, h => by cases h; rfl
  | .cons e es, _, _, ⟨E, Er, h1, h2, h3⟩ => by
    subst h1
    simp [Exs.len, AllX.len h3]
theorem AllX.and {pos : Pos} : ∀ {es : Exs} {e : Ex} {E : Expr} {Es : List Expr}, AllX X C W false (.cons e es) (E :: Es) → SE X C W (.BoolOp .And (E :: Es) pos) (.and (.cons e es))
  | .nil, e, E, Es, ⟨_, _, h1, h2, h3⟩ => by cases h1; cases h3; exact s_and1 h2.se
  | .cons e' es, e, E, Es, ⟨_, _, h1, h2, h3⟩ => by
    cases h1
    obtain ⟨E', Er, rfl, h4, h5⟩ := h3
    exact s_and h2.se (AllX.and ⟨E', Er, rfl, h4, h5⟩)
theorem AllX.or {pos : Pos} : ∀ {es : Exs} {e : Ex} {E : Expr} {Es : List Expr}, AllX X C W false (.cons e es) (E :: Es) → SE X C W (.BoolOp .Or (E :: Es) pos) (.or (.cons e es))
  | .nil, e, E, Es, ⟨_, _, h1, h2, h3⟩ => by cases h1; cases h3; exact s_or1 h2.se
  | .cons e' es, e, E, Es, ⟨_, _, h1, h2, h3⟩ => by
    cases h1
    obtain ⟨E', Er, rfl, h4, h5⟩ := h3
    exact s_or h2.se (AllX.or ⟨E', Er, rfl, h4, h5⟩)
theorem AllX.andT {pos : Pos} : ∀ {es : Exs} {e : Ex} {E : Expr} {Es : List Expr}, AllX X C W true (.cons e es) (E :: Es) → SW X C W (.BoolOp .And (E :: Es) pos) (.and (.cons e es))
  | .nil, e, E, Es, ⟨_, _, h1, h2, h3⟩ => by cases h1; cases h3; exact w_and1 h2.st
  | .cons e' es, e, E, Es, ⟨_, _, h1, h2, h3⟩ => by
    cases h1
    obtain ⟨E', Er, rfl, h4, h5⟩ := h3
    exact w_and h2.st (AllX.andT ⟨E', Er, rfl, h4, h5⟩)
theorem AllX.orT {pos : Pos} : ∀ {es : Exs} {e : Ex} {E : Expr} {Es : List Expr}, AllX X C W true (.cons e es) (E :: Es) → SW X C W (.BoolOp .Or (E :: Es) pos) (.or (.cons e es))
  | .nil, e, E, Es, ⟨_, _, h1, h2, h3⟩ => by cases h1; cases h3; exact w_or1 h2.st
  | .cons e' es, e, E, Es, ⟨_, _, h1, h2, h3⟩ => by
    cases h1
    obtain ⟨E', Er, rfl, h4, h5⟩ := h3
    exact w_or h2.st (AllX.orT ⟨E', Er, rfl, h4, h5⟩)
theorem AllX.sk : ∀ {es : Exs} {kws : List Keyword}, AllX X C W false es (kwVals kws) → SK X C W kws es
  | .nil, [], _ => k_nil
  | .nil, _ :: _, h => by cases h
  | .cons e es, [], ⟨_, _, h, _⟩ => by cases h
  | .cons e es, ⟨nm, A, kpos⟩ :: kws, ⟨_, _, h1, h2, h3⟩ => by
    cases h1
    exact k_cons h2.se (AllX.sk h3)
theorem AllX.seNe {t : Bool} {es : Exs} {Es : List Expr} (h : AllX X C W t es Es) (hn : (!Es.isEmpty) = true) : ∃ e er E Er, es = .cons e er ∧ Es = E :: Er := by
  cases es with
  | nil => cases h; cases hn
  | cons e er =>
    obtain ⟨E, Er, h1, _⟩ := h
    exact ⟨e, er, E, Er, rfl, h1⟩
/-! constants -/
theorem con_ok (hs : Sta X c) (hg : GX X C G) {t : Bool} {v : PV} {E : Expr} (h : conOk c v E = true) : OKX X C W t E (.con v) := by
  unfold conOk at h
  split at h
  · cases eq_of_beq h; exact .val rfl s_int
  · cases eq_of_beq h; exact .val rfl s_bool
  · exact .val rfl s_none
  · cases of_decide_eq_true h; exact .val rfl s_str
  · rename_i n x _
    simp only [Bool.and_eq_true, decide_eq_true_eq] at h
    obtain ⟨⟨h1, rfl⟩, h2⟩ := h
    have hm : n ∈ tyNames := by simpa using h1
    have hb : bootBuiltins (Str.ofString n) = some (.type n) ∧ Str.ofString n ≠ "__name__" ∧ (Str.ofString n == ("__debug__" : Str)) = false := by
      revert hm
      have : ∀ n ∈ tyNames, bootBuiltins (Str.ofString n) = some (.type n) ∧ Str.ofString n ≠ "__name__" ∧ (Str.ofString n == ("__debug__" : Str)) = false := by decide +kernel
      exact this n
    exact .val rfl (s_ty (hs.gl h2) (hg.ty n hm) hb.1 hb.2.1 hb.2.2)
  · cases h
/-! methods -/
theorem mt_ok (hu : X.A.units + 65 < cLine) {m : Mt} (h : mtOk m = true) : ∃ id, PlainAttrs (mtT m) ∧ Slot (mtT m) (mtS' m) id ∧ typeOf (.builtin id) = pure (.type "method_descriptor") ∧ MtR X id (rm X.mg m) := by
  cases m with
  | append => exact ⟨_, PySem.F.plainAttrs_list, PySem.F.slot_list_append, PySem.F.type_list_append, mtA⟩
  | extend => exact ⟨_, PySem.F.plainAttrs_list, PySem.F.slot_list_extend, PySem.F.type_list_extend, mtE⟩
  | pop => exact ⟨_, PySem.F.plainAttrs_list, PySem.F.slot_list_pop, PySem.F.type_list_pop, mtP⟩
  | insert => exact ⟨_, PySem.F.plainAttrs_list, PySem.F.slot_list_insert, PySem.F.type_list_insert, mtI⟩
  | reverse => exact ⟨_, PySem.F.plainAttrs_list, PySem.F.slot_list_reverse, PySem.F.type_list_reverse, mtR_⟩
  | get => exact ⟨_, PySem.F.plainAttrs_dict, PySem.F.slot_dict_get, PySem.F.type_dict_get, mtG (by omega)⟩
  | setdefault => exact ⟨_, PySem.F.plainAttrs_dict, PySem.F.slot_dict_setdefault, PySem.F.type_dict_setdefault, mtS⟩
  | index => cases h
  | join => exact ⟨_, PySem.F.plainAttrs_str, PySem.F.slot_str_join, PySem.F.type_str_join, mtJ⟩
end
end Pu

set_option Elab.async false
set_option linter.all false
set_option maxRecDepth 100000
set_option maxHeartbeats 1000000
/-! Pe7: the check of an exception class of the module. -/
namespace Pu
open PySem PySem.Spec PyProof.Rows L2
/-- a class over ValueError, through own classes -/
def clsVE (K : PySem.W.Frag) (c : Addr) : Bool := match K.lookup c with
  | some ⟨.type "type", _, .cls cd, sl⟩ => (match cd.mro, sl.toList with
    | .ref c' :: bm, [_, _, _, _, some (.builtin n), _] => decide (c' = c) && decide (n = "ValueError.__new__") && cd.hasDict && !cd.hasDel && PySem.HandSPX.refsVE bm
    | _, _ => false)
  | _ => false
def emptyA {α : Type} : List α → Bool
  | [] => true
  | _ => false
def isN : Value → Bool
  | .none => true
  | _ => false
def isNo {α : Type} : Option α → Bool
  | none => true
  | _ => false
/-- its __init__ -/
def initOk (P : Program) (K : PySem.W.Frag) (c : Addr) (fd : FuncData) (f : Str) : Bool :=
  match fd.body, fd.params.args, fd.closure, fd.code with
  | .stmts [.Expr (.Call (.Attribute (.Call (.Name s0 _) [] [] _) i0 p2) [.Name w1 _] [] p4) _, .Assign [.Attribute (.Name s1 _) f1 _] (.Name w2 _) _], [a1, a2], [(k0, cc)], .ref cda =>
    decide (s0 = Str.ofString "super") && decide (i0 = Str.ofString "__init__") && decide (w1 = a2.arg) && decide (s1 = a1.arg) && decide (f1 = f) && decide (w2 = a2.arg) && decide (k0 = Str.ofString "__class__") && decide (fd.name = Str.ofString "__init__") &&
    decide (fd.globals = mainGlobals) && decide (fd.builtins = builtinsNs) && isN fd.defaults && isN fd.kwdefaults && (p2.endLine == p4.line) && PySem.W.codeIn K (.ref cda) fd.qualname &&
    (match K.lookup cda with
      | some ⟨_, _, .fields vs, _⟩ => (match (vs[2]? : Option Value) with
        | some (.str file _) => (P.main.file : Str) == file
        | _ => false)
      | _ => false) &&
    (match K.lookup cc with
      | some ⟨_, _, .cell (some (.ref c')), _⟩ => decide (c' = c)
      | _ => false) &&
    emptyA fd.params.posonlyargs && isNo fd.params.vararg && emptyA fd.params.kwonlyargs && isNo fd.params.kwarg &&
    (match fd.scope.kind with | .function => true | _ => false) && !fd.scope.isCoroutine && !fd.scope.isGenerator && (fd.scope.names.all fun y => match y.2 with | .cell => false | _ => true) &&
    isLocal (fd.scope.names.lookup a1.arg) && isLocal (fd.scope.names.lookup a2.arg) && isGl (fd.scope.names.lookup ("super" : Str)) && (match fd.scope.names.lookup ("__class__" : Str) with | some .free => true | _ => false) &&
    !(a1.arg == a2.arg) && !(a1.arg == ("__debug__" : Str)) && !(a2.arg == ("__debug__" : Str))
  | _, _, _, _ => false
/-- what isinstance asks -/
def excB (K : PySem.W.Frag) (D : Addr) : Bool := decide (PySem.W.findIn K (.ref D) "__getattribute__" = some (some (.builtin "BaseException.__getattribute__"))) && decide (PySem.W.findIn K (.ref D) "__getattr__" = some none) && decide (PySem.W.subIn K (.ref D) (.type "BaseException") = some true) && PySem.W.hasDictIn K D &&
  decide (PySem.W.findIn K (.ref D) "__class__" = some (some (.builtin "object.__class__"))) && decide (PySem.W.specialIn K (.builtin "object.__class__") "__get__" = some (some (.builtin "getset_descriptor.__get__"))) && decide (PySem.W.takesIn K (.builtin "object.__class__") = some true) && decide (PySem.W.mroIn K D (.type "object") = some true)
theorem excB_ok {K : PySem.W.Frag} {D : Addr} (h : excB K D = true) : ExcC K D := by
  unfold excB at h
  simp only [Bool.and_eq_true, decide_eq_true_eq] at h
  obtain ⟨⟨⟨⟨⟨⟨⟨h1, h2⟩, h3⟩, h4⟩, h5⟩, h6⟩, h7⟩, h8⟩ := h
  exact ⟨h1, h2, h3, h4, h5, h6, h7, h8⟩
def excOk (P : Program) (K : PySem.W.Frag) (x f : Str) : Bool := match PySem.W.nsIn K mainGlobals x with
  | some (some (.ref c)) => (match PySem.W.findIn K (.ref c) "__init__" with
    | some (some (.ref fI)) => (match K.lookup fI with
      | some ⟨_, _, .func fd, _⟩ => clsVE K c && initOk P K c fd f && decide (PySem.W.findIn K (.ref c) "__setattr__" = some (some (.builtin "object.__setattr__"))) && decide (PySem.W.subIn K (.ref c) (.type "BaseException") = some true) && decide (PySem.W.typeIn K (.ref c) = some (.type "type")) && PySem.W.keepIn K (.ref c) &&
        decide (PySem.W.ks_superIn K c c "__init__" = some (some (.builtin "ValueError.__init__"))) && decide (PySem.W.subIn K (.ref c) (.type "ValueError") = some true) && decide (PySem.W.mroIn K c (.ref c) = some true) && decide (PySem.W.nsIn K cStatics "thirdparty.any" = some none) && !(P.main.scope.names.lookup ("super" : Str)).isSome &&
        decide (PySem.W.findIn K (.ref c) f = some none) && decide (PySem.W.typeIn K (.ref fI) = some (.type "function")) && xfB K c && excB K c && !(x == ("__debug__" : Str))
      | _ => false)
    | _ => false)
  | _ => false
def subOk (K : PySem.W.Frag) (x D : Str) (b : Bool) : Bool := match PySem.W.nsIn K mainGlobals x, PySem.W.nsIn K mainGlobals D with
  | some (some (.ref c)), some (some (.ref d)) => decide (PySem.W.kitOne K (.ref c) (.ref d) = some b) && decide (PySem.W.exmOne K (.ref c) (.ref d) = some b) && !(D == ("__debug__" : Str))
  | _, _ => false
section
variable {P : Program} {K : PySem.W.Frag} {mg : Str → Option Value} {h0 : Heap}
theorem subOk_of (X : K.In h0) (Gn : h0.Ns mainGlobals mg) {x D : Str} {b : Bool} (h : subOk K x D b = true) : SubK K mg x D b := by
  unfold subOk at h
  split at h
  · rename_i c d e1 e2
    simp only [Bool.and_eq_true, decide_eq_true_eq, Bool.not_eq_true'] at h
    exact ⟨⟨c, d, PySem.W.mg_of X Gn e1, PySem.W.mg_of X Gn e2, h.1.1, h.1.2⟩, h.2⟩
  · cases h
theorem clsVE_of {c : Addr} (h : clsVE K c = true) : ∃ nm q N bs bm sn sub ab col dd k0 k1 k2 k3 k5, K.lookup c = some (excClassObj nm q c N bs bm true sn sub ab col dd k0 k1 k2 k3 k5 "ValueError.__new__") ∧ PySem.HandSPX.refsVE bm = true := by
  unfold clsVE at h
  split at h
  · rename_i dd cd sl ho
    split at h
    · rename_i c' bm k0 k1 k2 k3 n k5 hm hs
      simp only [Bool.and_eq_true, decide_eq_true_eq, Bool.not_eq_true'] at h
      obtain ⟨⟨⟨⟨rfl, rfl⟩, h3⟩, h4⟩, h5⟩ := h
      obtain ⟨nm, bs, mro, N, q, hd, sn, sub, ab, col, del⟩ := cd
      simp only at hm h3 h4
      subst hm h3 h4
      have es : sl = #[k0, k1, k2, k3, some (.builtin "ValueError.__new__"), k5] := by
        rw [← hs]
      subst es
      exact ⟨nm, q, N, bs, bm, sn, sub, ab, col, dd, k0, k1, k2, k3, k5, ho, h5⟩
    · cases h
  · cases h
theorem emptyA_of {α : Type} {l : List α} (h : emptyA l = true) : l = [] := by cases l <;> first | rfl | cases h
theorem isNo_of {α : Type} {o : Option α} (h : isNo o = true) : o = none := by cases o <;> first | rfl | cases h
theorem isN_of {v : Value} (h : isN v = true) : v = .none := by cases v <;> first | rfl | cases h
theorem isGl_of {o : Option NameKind} (e : isGl o = true) : o = some .globalImplicit := by
  unfold isGl at e
  split at e
  · rfl
  · cases e
theorem excOk_of (X : K.In h0) (Gn : h0.Ns mainGlobals mg) {x f : Str} (h : excOk P K x f = true) : ExcK P K mg x f := by
  unfold excOk at h
  split at h
  · rename_i c e1
    split at h
    · rename_i fI e2
      split at h
      · rename_i oc od fd sl e3
        simp only [Bool.and_eq_true, decide_eq_true_eq, Bool.not_eq_true'] at h
        obtain ⟨⟨⟨⟨⟨⟨⟨⟨⟨⟨⟨⟨⟨⟨⟨h1, h2⟩, h3⟩, h4⟩, h5⟩, h6⟩, h7⟩, h8⟩, h9⟩, g1⟩, g2⟩, g3⟩, g4⟩, g5⟩, g6⟩, g7⟩ := h
        unfold initOk at h2
        split at h2
        · rename_i s0 p0 p1 i0 p2 w1 p3 p4 p5 s1 p6 f1 p7 w2 p8 p9 a1 a2 k0 cc cda q1 q2 q3 q4
          simp only [Bool.and_eq_true, decide_eq_true_eq, Bool.not_eq_true'] at h2
          obtain ⟨⟨⟨⟨⟨⟨⟨⟨⟨⟨⟨⟨⟨⟨⟨⟨⟨⟨⟨⟨⟨⟨⟨⟨⟨⟨⟨⟨⟨⟨rfl, rfl⟩, rfl⟩, rfl⟩, rfl⟩, rfl⟩, rfl⟩, m1⟩, m2⟩, m3⟩, m4⟩, m5⟩, m6⟩, m7⟩, m8⟩, m9⟩, n1⟩, n2⟩, n3⟩, n4⟩, n5⟩, n6⟩, n7⟩, n8⟩, n9⟩, l1⟩, l2⟩, l3⟩, l4⟩, l5⟩, l6⟩ := h2
          have hk : fd.scope.kind = .function := by
            split at n5
            · assumption
            · cases n5
          have hcell : ∀ y ∈ fd.scope.names, y.2 ≠ .cell := fun y hy z => by
            have := List.all_eq_true.mp n8 y hy
            rw [z] at this
            cases this
          have hfree : fd.scope.names.lookup ("__class__" : Str) = some .free := by
            split at l3
            · assumption
            · cases l3
          have pd : PlainDef fd [a1.arg, a2.arg] := ⟨emptyA_of n1, by rw [q2]; rfl, isNo_of n2, emptyA_of n3, isNo_of n4, isN_of m4⟩
          have nd : [a1.arg, a2.arg].Nodup := by simpa using l4
          have bd := binds_plain (K := K) pd nd
          obtain ⟨ccl, cdd, vs, ccs, file, tf, z1, z2, z3⟩ : ∃ (ccl : Value) (cdd : Option Addr) (vs : Array Value) (ccs : Array (Option Value)) (file : Str) (tf : Tok), K.lookup cda = some ⟨ccl, cdd, .fields vs, ccs⟩ ∧ vs[2]? = some (.str file tf) ∧ ((P.main.file : Str) == file) = true := by
            split at m8
            · rename_i ccl cdd vs ccs e
              split at m8
              · rename_i file tf e'
                exact ⟨ccl, cdd, vs, ccs, file, tf, e, e', m8⟩
              · cases m8
            · cases m8
          obtain ⟨cl, cld, csl, z4⟩ : ∃ (cl : Value) (cld : Option Addr) (csl : Array (Option Value)), K.lookup cc = some ⟨cl, cld, .cell (some (.ref c)), csl⟩ := by
            split at m9
            · rename_i cl cld c' csl e
              cases of_decide_eq_true m9
              exact ⟨cl, cld, csl, e⟩
            · cases m9
          have po := emptyA_of n1
          have b1 := isN_of m4
          have b2 := isN_of m5
          refine ⟨⟨c, fI, fd, a1.arg, a2.arg, PySem.W.mg_of X Gn e1, ⟨⟨clsVE_of h1, h3, h4, h5, h6⟩, ?_, h7, h8, h9, g1, g2, g3, by simpa using l4, l6, l5⟩, e2, g4, bd, xfB_ok g5, excB_ok g6⟩, g7⟩
          obtain ⟨name, qual, params, bodyF, scope, globals, closure, defaults, kwd, doc, pm, an, code, ct, bl⟩ := fd
          simp only at q1 q2 q3 q4 m1 m2 m3 b1 b2 m7 hk n6 n7 hcell l1 l2 hfree po m6
          subst q1 q3 q4 m1 m2 m3 b1 b2
          exact ⟨qual, params, scope, doc, pm, ct, oc, an, od, sl, cda, cc, p0, p1, p2, p3, p4, p5, p6, p7, p8, p9, rfl, e3, m7, ⟨ccl, cdd, vs, ccs, file, tf, z1, z2, z3⟩, ⟨cl, cld, csl, z4⟩, m6, po, by rw [q2]; rfl, hk, n6, n7, hcell, isLocal_of n9, isLocal_of l1, isGl_of l2, hfree⟩
        · cases h2
      · cases h
    · cases h
  · cases h
end
end Pu

set_option Elab.async false
set_option linter.all false
set_option maxRecDepth 100000
set_option maxHeartbeats 1000000
/-! Pu27: what the checker says holds: expressions. -/
namespace Pu
open PySem PySem.Spec PyProof.Rows L2
section
variable {C : Cfg} {G : GT}
theorem bi_ok {X : Cx} (hot : Bool) (hc : hot = false → X.calm = true) (hu : X.A.units + 65 < cLine) {b : Bi} (hh : (!hot || biHot b) = true) (h1 : b ≠ .gcd) :
    ((∃ id, bootBuiltins (biS b) = some (.builtin id) ∧ CallR X (.builtin id) (rs X.mg (biV b))) ∨ ∃ T, bootBuiltins (biS b) = some (.type T) ∧ CallR X (.type T) (rs X.mg (biV b))) ∧ biS b ≠ "__name__" ∧ (biS b == ("__debug__" : Str)) = false := by
  refine ⟨?_, ?_⟩
  · cases b with
    | len => exact .inl ⟨_, by decide +kernel, call_lenV⟩
    | tuple => exact .inr ⟨_, by decide +kernel, call_tupleV⟩
    | list => exact .inr ⟨_, by decide +kernel, call_listV⟩
    | sum => exact .inl ⟨_, by decide +kernel, call_sumV (hc (by cases hot <;> first | rfl | exact nomatch hh))⟩
    | abs => exact .inl ⟨_, by decide +kernel, call_absV⟩
    | int => exact .inr ⟨_, by decide +kernel, call_intV⟩
    | str => exact .inr ⟨_, by decide +kernel, call_strV⟩
    | min => exact .inl ⟨_, by decide +kernel, call_minV (hc (by cases hot <;> first | rfl | exact nomatch hh))⟩
    | max => exact .inl ⟨_, by decide +kernel, call_maxV (hc (by cases hot <;> first | rfl | exact nomatch hh))⟩
    | sorted => exact .inl ⟨_, by decide +kernel, call_sortedV (hc (by cases hot <;> first | rfl | exact nomatch hh))⟩
    | isinst => exact .inl ⟨_, by decide +kernel, call_isiV⟩
    | dict => exact .inr ⟨_, by decide +kernel, call_dictV hu⟩
    | gcd => exact absurd rfl h1
  · cases b <;> decide +kernel
theorem ownOf_map (c : Sc) (own : List Nat) : (ownOf c own).map (·.2) = own := by
  unfold ownOf
  rw [List.map_map]
  exact List.map_id' own
theorem blk_kind {N : List Str} {sc scope : Scope} {own : List (Str × Nat)} (h : blkC N sc scope own = true) : scope.kind = .function := (blkOk_by h).kind
theorem blk_ok {X : Cx} {c : Sc} (hs : Sta X c) {scope : Scope} {own : List Nat} (h : blkC c.N { kind := .function, names := c.names, isGenerator := false, isCoroutine := false } scope (ownOf c own) = true) : BlkOk X.N X.env.scope scope (ownOf c own) := by
  obtain ⟨a, b, d, e, f⟩ := blkOk_by h
  rw [hs.N]
  refine ⟨a, b, d, ?_, f⟩
  rw [hs.names]
  exact e
theorem noSet_fold {IT : Expr} (h : noSet IT = true) (env : PySem.Env) (x : Value) : foldedSetIterable IT env x = pure x := by
  cases IT <;> first | rfl | exact nomatch h
theorem len_three {α : Type} {l : List α} (h : l.length = 3) : ∃ a b c, l = [a, b, c] := by
  match l, h with
  | [a, b, c], _ => exact ⟨a, b, c, rfl⟩
theorem len_two {α : Type} {l : List α} (h : l.length = 2) : ∃ a b, l = [a, b] := by
  match l, h with
  | [a, b], _ => exact ⟨a, b, rfl⟩
theorem kw_names {env : PySem.Env} {pos : Pos} : ∀ {kws : List Keyword} {names : List Str}, kws.mapM (fun k => k.arg) = some names →
    (backToKw pos (keywordEach kws env)).all (·.1.isSome) = true ∧ (backToKw pos (keywordEach kws env)).filterMap (·.1) = names ∧ (backToKw pos (keywordEach kws env)).any (·.1.isNone) = false ∧ kws.length = names.length
  | [], names, e => by
    simp at e
    subst e
    exact ⟨rfl, rfl, rfl, rfl⟩
  | ⟨nm, A, p⟩ :: kws, names, e => by
    simp only [List.mapM_cons, Option.bind_eq_bind, Option.bind_eq_some_iff] at e
    obtain ⟨n, e1, ns, e2, e3⟩ := e
    cases e3
    obtain ⟨q1, q2, q3, q4⟩ := kw_names (env := env) (pos := pos) e2
    simp only [backToKw] at q1 q2 q3 ⊢
    have e1 : nm = some n := e1
    subst e1
    refine ⟨?_, ?_, ?_, by simp [q4]⟩
    · simp only [keywordEach, List.map_cons, List.all_cons, q1]
      rfl
    · simp only [keywordEach, List.map_cons, List.filterMap_cons, q2]
    · simp only [keywordEach, List.map_cons, List.any_cons, q3]
      rfl
mutual
theorem cX_ok : ∀ (e : Ex) (c : Sc) (t : Bool) (E : Expr), cX G e c t E = true → ∀ (X : Cx) (W : WX), Sta X c → GX X C G → L2N.Takes X W → OKX X C W t E e
  | .var i, c, t, E, h, X, W, hs, hg, tk => by
    unfold cX at h
    split at h
    · exact .val rfl (hs.var h)
    · cases h
  | .con v, c, t, E, h, X, W, hs, hg, tk => con_ok hs hg h
  | .gcon x v, c, t, E, h, X, W, hs, hg, tk => by
    unfold cX at h
    split at h
    · simp only [Bool.and_eq_true, decide_eq_true_eq] at h
      obtain ⟨⟨rfl, h1⟩, h2⟩ := h
      split at h2
      · rename_i n
        obtain ⟨⟨tk', hm⟩, hd⟩ := hg.con x n (by simpa using h2)
        exact .val rfl (s_gcon (hs.gl h1) hm hd)
      · cases h2
    · cases h
  | .gl _, c, t, E, h, X, W, hs, hg, tk => by unfold cX at h; cases h
  | .tup es, c, t, E, h, X, W, hs, hg, tk => by
    unfold cX at h
    split at h
    · rw [Bool.and_eq_true] at h
      exact .val rfl (s_tup ((cXs_ok es c false _ h.1 X W hs hg tk).sa h.2))
    · cases h
  | .lst es, c, t, E, h, X, W, hs, hg, tk => by
    unfold cX at h
    split at h
    · rw [Bool.and_eq_true] at h
      exact .val rfl (s_lst ((cXs_ok es c false _ h.1 X W hs hg tk).sa h.2))
    · cases h
  | .bin op a b, c, t, E, h, X, W, hs, hg, tk => by
    unfold cX at h
    split at h
    · simp only [Bool.and_eq_true, decide_eq_true_eq] at h
      obtain ⟨⟨rfl, h1⟩, h2⟩ := h
      exact .val rfl (s_bin (cX_ok a c false _ h1 X W hs hg tk).se (cX_ok b c false _ h2 X W hs hg tk).se)
    · cases h
  | .neg a, c, t, E, h, X, W, hs, hg, tk => by
    unfold cX at h
    split at h
    · exact .val rfl (s_neg (cX_ok a c false _ h X W hs hg tk).se)
    · cases h
  | .not a, c, t, E, h, X, W, hs, hg, tk => by
    unfold cX at h
    split at h
    · exact ⟨fun e => s_not (by subst e; exact (cX_ok a c _ _ h X W hs hg tk).se), fun e => t_not (by subst e; exact (cX_ok a c _ _ h X W hs hg tk).st)⟩
    · cases h
  | .and es, c, t, E, h, X, W, hs, hg, tk => by
    unfold cX at h
    split at h
    · rw [Bool.and_eq_true] at h
      have q := cXs_ok es c t _ h.1 X W hs hg tk
      obtain ⟨e, er, E, Er, rfl, rfl⟩ := q.seNe h.2
      exact ⟨fun e => by subst e; exact q.and, fun e => by subst e; exact q.andT.st⟩
    · cases h
  | .or es, c, t, E, h, X, W, hs, hg, tk => by
    unfold cX at h
    split at h
    · rw [Bool.and_eq_true] at h
      have q := cXs_ok es c t _ h.1 X W hs hg tk
      obtain ⟨e, er, E, Er, rfl, rfl⟩ := q.seNe h.2
      exact ⟨fun e => by subst e; exact q.or, fun e => by subst e; exact q.orT.st⟩
    · cases h
  | .ite d a b, c, t, E, h, X, W, hs, hg, tk => by
    unfold cX at h
    split at h
    · simp only [Bool.and_eq_true] at h
      have q := cX_ok d c true _ h.1.1 X W hs hg tk
      have q1 := cX_ok a c t _ h.1.2 X W hs hg tk
      have q2 := cX_ok b c t _ h.2 X W hs hg tk
      exact ⟨fun e => s_ite q.st (q1.1 e) (q2.1 e), fun e => t_ite q.st (q1.2 e) (q2.2 e)⟩
    · cases h
  | .cmp op a b, c, t, E, h, X, W, hs, hg, tk => by
    unfold cX at h
    split at h
    · simp only [Bool.and_eq_true, decide_eq_true_eq] at h
      obtain ⟨⟨⟨rfl, hp⟩, h1⟩, h2⟩ := h
      have q1 := (cX_ok a c false _ h1 X W hs hg tk).se
      have q2 := (cX_ok b c false _ h2 X W hs hg tk).se
      exact ⟨fun _ => s_cmp hs.units hp q1 q2, fun _ => t_cmp hs.units hp q1 q2⟩
    · cases h
  | .cmp2 o1 o2 a b d, c, t, E, h, X, W, hs, hg, tk => by
    unfold cX at h
    split at h
    · simp only [Bool.and_eq_true, decide_eq_true_eq, Bool.not_eq_true'] at h
      obtain ⟨⟨⟨⟨⟨⟨rfl, rfl⟩, rfl⟩, hp⟩, h1⟩, h2⟩, h3⟩ := h
      exact ⟨fun _ => s_cmp2 hs.units hp (cX_ok a c false _ h1 X W hs hg tk).se (cX_ok b c false _ h2 X W hs hg tk).se (cX_ok d c false _ h3 X W hs hg tk).se, fun e => nomatch e⟩
    · cases h
  | .ix a i, c, t, E, h, X, W, hs, hg, tk => by
    unfold cX at h
    split at h
    · simp only [Bool.and_eq_true] at h
      have hu := hs.units
      exact .val rfl (s_ix (by omega) h.1.1 (cX_ok a c false _ h.1.2 X W hs hg tk).se (cX_ok i c false _ h.2 X W hs hg tk).se)
    · cases h
  | .sl a lo hi, c, t, E, h, X, W, hs, hg, tk => by
    unfold cX at h
    split at h
    · simp only [Bool.and_eq_true] at h
      exact .val rfl (s_sl (cX_ok a c false _ h.1.1 X W hs hg tk).se (cO_ok lo c _ h.1.2 X W hs hg tk) (cO_ok hi c _ h.2 X W hs hg tk))
    · cases h
  | .rev a, c, t, E, h, X, W, hs, hg, tk => by
    unfold cX at h
    split at h
    · exact .val rfl (s_rev (cX_ok a c false _ h X W hs hg tk).se)
    · cases h
  | .call0 f, c, t, E, h, X, W, hs, hg, tk => by
    unfold cX at h
    split at h
    · simp only [Bool.and_eq_true, Bool.not_eq_true'] at h
      obtain ⟨⟨⟨h0, h00⟩, h1⟩, h2⟩ := h
      split at h2
      · rename_i y ps e
        cases of_decide_eq_true h2
        obtain ⟨⟨fa, fd, k, F, hr, hm, hk, hp⟩, nd, hn, hd⟩ := hg.fn f _ ps e h00 (hs.calm0 h0)
        exact .val rfl (s_call0 F hr (hs.gl h1) hm hk (binds_plain hp nd) hn hd)
      · cases h2
    · cases h
  | .call f es, c, t, E, h, X, W, hs, hg, tk => by
    unfold cX at h
    split at h
    · simp only [Bool.and_eq_true] at h
      obtain ⟨⟨⟨⟨⟨h0, h1⟩, h2⟩, h3⟩, h4⟩, h5⟩ := h
      have h0 := eq_of_beq h0
      split at h2
      · rename_i y ps e
        cases of_decide_eq_true h2
        have q := cXs_ok es c false _ h3 X W hs hg tk
        cases hc : c.hot with
        | false =>
          obtain ⟨⟨fa, fd, k, F, hr, hm, hk, hp⟩, nd, hn, hd⟩ := hg.fn f _ ps e (by rw [h0, hc]) (hs.calm0 hc)
          obtain ⟨e, er, E, Er, rfl, rfl⟩ := q.seNe h5
          exact .val rfl (s_call F hr (hs.gl h1) hm hk (binds_plain hp nd) hn tk (q.sa h4) h4 hd)
        | true =>
          obtain ⟨⟨fa, fd, k, F, hr, hm, hk, hp⟩, nd, hn, hd⟩ := hg.fnh f _ ps e (by rw [h0, hc])
          obtain ⟨e, er, E, Er, rfl, rfl⟩ := q.seNe h5
          exact .val rfl (s_callH F hr (hs.hotc hc) (hs.gl h1) hm hk (binds_plain hp nd) hn tk (q.sa h4) h4 hd)
      · cases h2
    · cases h
  | .callk f es ks pm, c, t, E, h, X, W, hs, hg, tk => by
    unfold cX at h
    split at h
    · rename_i x p Es kws pos
      simp only [Bool.and_eq_true, Bool.not_eq_true'] at h
      obtain ⟨⟨⟨⟨⟨⟨h0, h00⟩, h1⟩, h2⟩, h3⟩, h4⟩, h5⟩ := h
      split at h5
      · rename_i names en
        split at h5
        · rename_i y ps e
          simp only [Bool.and_eq_true, decide_eq_true_eq] at h5
          obtain ⟨rfl, hkw⟩ := h5
          obtain ⟨⟨fa, fd, k, F, hr, hm, hk, hp⟩, nd, hn, hd⟩ := hg.fn f _ ps e h00 (hs.calm0 h0)
          have q := cXs_ok es c false _ h2 X W hs hg tk
          have qk := cXs_ok ks c false _ h4 X W hs hg tk
          obtain ⟨n1, n2, n3, n4⟩ := kw_names (env := X.env) (pos := pos) en
          have hpm : pm.length = ps.length := by
            simp only [kwOk, Bool.and_eq_true, decide_eq_true_eq] at hkw
            exact hkw.1.2
          have lk : ∀ {ρ h xs h'}, evs C ks ρ h = .ok xs h' → xs.length = names.length := fun {ρ h xs h'} e => by
            rw [evs_len e, qk.len]
            unfold kwVals
            rw [List.length_map, n4]
          have qs := q.sa h3
          cases es with
          | nil =>
            cases q
            exact .val rfl (s_callk0 F hr (hs.gl h1) hm hk (kwBinds_plain hp hkw) hpm tk qk.sk n1 n2 n3 hd lk)
          | cons e er =>
            have ql := q.len
            obtain ⟨E1, Er, rfl, _, _⟩ := q
            exact .val rfl (s_callk F hr (hs.gl h1) hm hk (kwBinds_plain hp hkw) hpm tk qs qk.sk h3 n1 n2 n3 hd (fun e => by rw [evs_len e, ql]) lk)
        · cases h5
      · cases h5
    · cases h
  | .bi b es, c, t, E, h, X, W, hs, hg, tk => by
    unfold cX at h
    split at h
    · simp only [Bool.and_eq_true] at h
      obtain ⟨⟨⟨⟨⟨h0, h1⟩, h2⟩, h3⟩, h4⟩, h5⟩ := h
      have q := cXs_ok es c false _ h3 X W hs hg tk
      obtain ⟨e, er, E, Er, rfl, rfl⟩ := q.seNe h5
      split at h2
      · obtain ⟨hm, hd⟩ := hg.gcd _ (of_decide_eq_true h2)
        exact .val rfl (s_biI rGcdV (hs.gl h1) hm (q.sa h4) h4 hd)
      · rename_i hn1
        cases of_decide_eq_true h2
        obtain ⟨hb, hn, hd⟩ := bi_ok (X := X) c.hot hs.calm0 hs.units (b := b) h0 hn1
        rcases hb with ⟨id, hv, hr⟩ | ⟨T, hv, hr⟩
        · exact .val rfl (s_bi hr (hs.gl h1) (hg.bl b hn1) hv (q.sa h4) h4 hn hd)
        · exact .val rfl (s_biT hr (hs.gl h1) (hg.bl b hn1) hv (q.sa h4) h4 hn hd)
    · cases h
  | .mt m o es, c, t, E, h, X, W, hs, hg, tk => by
    unfold cX at h
    split at h
    · simp only [Bool.and_eq_true, decide_eq_true_eq] at h
      obtain ⟨⟨⟨⟨⟨⟨⟨h1, rfl⟩, h3⟩, h4⟩, h5⟩, h6⟩, h7⟩, h8⟩ := h
      obtain ⟨id, pa, sl, ty, mr⟩ := mt_ok (X := X) hs.units h1
      have qo := (cX_ok o c false _ h5 X W hs hg tk).se
      have q := cXs_ok es c false _ h6 X W hs hg tk
      cases es with
      | nil =>
        cases q
        exact .val rfl (s_mt0 pa sl ty mr qo h3 h4)
      | cons e er =>
        have qs := q.sa h7
        obtain ⟨E1, Er, rfl, _, _⟩ := q
        exact .val rfl (s_mt pa sl ty mr qo h3 h4 qs h7 h8)
    · cases h
  | .lc own tg it ifs e, c, t, E, h, X, W, hs, hg, tk => by
    unfold cX at h
    split at h
    · simp only [Bool.and_eq_true] at h
      rename_i elt TG IT IFS scope pos
      obtain ⟨⟨⟨⟨⟨⟨⟨h0, h1⟩, h2⟩, h3⟩, h4⟩, h5⟩, h6⟩, h7⟩ := h
      have h0 : c.hot = false := by simpa using h0
      have hk := blk_kind h3
      have q := s_lc (pos := pos) (hs.calm0 h0) hs.nodup (cI_ok it c _ _ h1 X W hs hg tk) (blk_ok hs h3) (by rw [ownOf_map]; exact h4) (fun s H cc cl fp => cG_ok tg _ _ h5 _ (hs.blk h0 hk s H cc cl fp) (hg.blk _ s H cc cl fp))
        (fun s H cc cl fp => cTs_ok ifs _ _ h6 _ W0 (hs.blk h0 hk s H cc cl fp) (hg.blk _ s H cc cl fp) takesW0) (fun s H cc cl fp => (cX_ok e _ false _ h7 _ W0 (hs.blk h0 hk s H cc cl fp) (hg.blk _ s H cc cl fp) takesW0).se) (fun x => noSet_fold h2 _ x)
      rw [ownOf_map] at q
      exact .val rfl q
    · cases h
  | .lc2 own own1 tg it ifs tg1 it1 ifs1 e, c, t, E, h, X, W, hs, hg, tk => by
    unfold cX at h
    split at h
    · simp only [Bool.and_eq_true] at h
      rename_i elt TG IT IFS TG1 IT1 IFS1 scope pos
      obtain ⟨⟨⟨⟨⟨⟨⟨⟨⟨⟨⟨⟨⟨h0, h1⟩, h2⟩, h2'⟩, h3⟩, h4⟩, h4'⟩, h4''⟩, h5⟩, h6⟩, g1⟩, g2⟩, g3⟩, h7⟩ := h
      have h0 : c.hot = false := by simpa using h0
      have hk := blk_kind h3
      have q := s_lc2 (pos := pos) (hs.calm0 h0) hs.nodup (cI_ok it c _ _ h1 X W hs hg tk) (blk_ok hs h3) (own1 := own1) (fun i hi => by rw [ownOf_map]; have := List.all_eq_true.mp h4'' i hi; simpa using this) (by rw [ownOf_map]; exact h4) h4'
        (fun s H cc cl fp => cG_ok tg _ _ h5 _ (hs.blk h0 hk s H cc cl fp) (hg.blk _ s H cc cl fp))
        (fun s H cc cl fp => cTs_ok ifs _ _ h6 _ W0 (hs.blk h0 hk s H cc cl fp) (hg.blk _ s H cc cl fp) takesW0) (fun s H cc cl fp => cI_ok it1 _ _ _ g1 _ W0 (hs.blk h0 hk s H cc cl fp) (hg.blk _ s H cc cl fp) takesW0)
        (fun s H cc cl fp => cG_ok tg1 _ _ g2 _ (hs.blk h0 hk s H cc cl fp) (hg.blk _ s H cc cl fp)) (fun s H cc cl fp => cTs_ok ifs1 _ _ g3 _ W0 (hs.blk h0 hk s H cc cl fp) (hg.blk _ s H cc cl fp) takesW0)
        (fun s H cc cl fp => (cX_ok e _ false _ h7 _ W0 (hs.blk h0 hk s H cc cl fp) (hg.blk _ s H cc cl fp) takesW0).se) (fun env x => noSet_fold h2 env x) (fun env x => noSet_fold h2' env x)
      rw [ownOf_map] at q
      exact .val rfl q
    · cases h
  | .dcK own tg it ifs k e, c, t, E, h, X, W, hs, hg, tk => by
    unfold cX at h
    split at h
    · simp only [Bool.and_eq_true] at h
      rename_i K V' TG IT IFS scope pos
      obtain ⟨⟨⟨⟨⟨⟨⟨⟨h0, h1⟩, h2⟩, h3⟩, h4⟩, h5⟩, h6⟩, h7⟩, h8⟩ := h
      have h0 : c.hot = false := by simpa using h0
      have hk := blk_kind h3
      have q := s_dcK (pos := pos) (hs.calm0 h0) hs.nodup (cI_ok it c _ _ h1 X W hs hg tk) (blk_ok hs h3) (by rw [ownOf_map]; exact h4) (fun s H cc cl fp => cG_ok tg _ _ h5 _ (hs.blk h0 hk s H cc cl fp) (hg.blk _ s H cc cl fp))
        (fun s H cc cl fp => cTs_ok ifs _ _ h6 _ W0 (hs.blk h0 hk s H cc cl fp) (hg.blk _ s H cc cl fp) takesW0) (fun s H cc cl fp => (cX_ok k _ false _ h7 _ W0 (hs.blk h0 hk s H cc cl fp) (hg.blk _ s H cc cl fp) takesW0).se)
        (fun s H cc cl fp => (cX_ok e _ false _ h8 _ W0 (hs.blk h0 hk s H cc cl fp) (hg.blk _ s H cc cl fp) takesW0).se) (fun x => noSet_fold h2 _ x)
      rw [ownOf_map] at q
      exact .val rfl q
    · cases h
  | .dcT own tg it ifs k e, c, t, E, h, X, W, hs, hg, tk => by
    unfold cX at h
    split at h
    · simp only [Bool.and_eq_true] at h
      rename_i K V' TG IT IFS scope pos
      obtain ⟨⟨⟨⟨⟨⟨⟨⟨h0, h1⟩, h2⟩, h3⟩, h4⟩, h5⟩, h6⟩, h7⟩, h8⟩ := h
      have h0 : c.hot = false := by simpa using h0
      have hk := blk_kind h3
      have hu := hs.units
      have q := s_dcT (pos := pos) (by omega) (hs.calm0 h0) hs.nodup (cI_ok it c _ _ h1 X W hs hg tk) (blk_ok hs h3) (by rw [ownOf_map]; exact h4) ⟨fun s H cc cl fp => cG_ok tg _ _ h5 _ (hs.blk h0 hk s H cc cl fp) (hg.blk _ s H cc cl fp),
        fun s H cc cl fp => cTs_ok ifs _ _ h6 _ W0 (hs.blk h0 hk s H cc cl fp) (hg.blk _ s H cc cl fp) takesW0⟩ (fun s H cc cl fp => (cX_ok k _ false _ h7 _ W0 (hs.blk h0 hk s H cc cl fp) (hg.blk _ s H cc cl fp) takesW0).se)
        (fun s H cc cl fp => (cX_ok e _ false _ h8 _ W0 (hs.blk h0 hk s H cc cl fp) (hg.blk _ s H cc cl fp) takesW0).se) (fun x => noSet_fold h2 _ x)
      rw [ownOf_map] at q
      exact .val rfl q
    · cases h
  | .dcT2 own own1 tg it ifs tg1 it1 ifs1 k e, c, t, E, h, X, W, hs, hg, tk => by
    unfold cX at h
    split at h
    · simp only [Bool.and_eq_true] at h
      rename_i K V' TG IT IFS TG1 IT1 IFS1 scope pos
      obtain ⟨⟨⟨⟨⟨⟨⟨⟨⟨⟨⟨⟨⟨⟨h0, h1⟩, h2⟩, h2'⟩, h3⟩, h4⟩, h4'⟩, h4''⟩, h5⟩, h6⟩, g1⟩, g2⟩, g3⟩, h7⟩, h8⟩ := h
      have h0 : c.hot = false := by simpa using h0
      have hk := blk_kind h3
      have hu := hs.units
      have q := s_dcT2 (pos := pos) (by omega) (hs.calm0 h0) hs.nodup (cI_ok it c _ _ h1 X W hs hg tk) (blk_ok hs h3) (own1 := own1) (fun i hi => by rw [ownOf_map]; have := List.all_eq_true.mp h4'' i hi; simpa using this) (by rw [ownOf_map]; exact h4) h4'
        ⟨fun s H cc cl fp => cG_ok tg _ _ h5 _ (hs.blk h0 hk s H cc cl fp) (hg.blk _ s H cc cl fp), fun s H cc cl fp => cTs_ok ifs _ _ h6 _ W0 (hs.blk h0 hk s H cc cl fp) (hg.blk _ s H cc cl fp) takesW0⟩
        (fun s H cc cl fp => cI_ok it1 _ _ _ g1 _ W0 (hs.blk h0 hk s H cc cl fp) (hg.blk _ s H cc cl fp) takesW0)
        ⟨fun s H cc cl fp => cG_ok tg1 _ _ g2 _ (hs.blk h0 hk s H cc cl fp) (hg.blk _ s H cc cl fp), fun s H cc cl fp => cTs_ok ifs1 _ _ g3 _ W0 (hs.blk h0 hk s H cc cl fp) (hg.blk _ s H cc cl fp) takesW0⟩
        (fun s H cc cl fp => (cX_ok k _ false _ h7 _ W0 (hs.blk h0 hk s H cc cl fp) (hg.blk _ s H cc cl fp) takesW0).se) (fun s H cc cl fp => (cX_ok e _ false _ h8 _ W0 (hs.blk h0 hk s H cc cl fp) (hg.blk _ s H cc cl fp) takesW0).se)
        (fun env x => noSet_fold h2 env x) (fun env x => noSet_fold h2' env x)
      rw [ownOf_map] at q
      exact .val rfl q
    · cases h
  | .dicK kvs, c, t, E, h, X, W, hs, hg, tk => by
    unfold cX at h
    split at h
    · rw [Bool.and_eq_true] at h
      obtain ⟨q1, q2, q3, q4⟩ := cKV_ok kvs c _ _ h.1 X W hs hg tk
      have h15 := of_decide_eq_true h.2
      cases kvs with
      | nil =>
        unfold cKV at h
        simp only [Bool.and_eq_true, List.isEmpty_iff] at h
        obtain ⟨⟨rfl, rfl⟩, _⟩ := h
        exact .val rfl s_dnewK
      | cons k v r =>
        have hu := hs.units
        exact .val rfl (s_dicK (by omega) (q1 _) q2 q3 (fun e => by rw [e] at q4; simp [Kvs.len] at q4) h15 (by omega))
    · cases h
  | .dicT kvs, c, t, E, h, X, W, hs, hg, tk => by
    unfold cX at h
    split at h
    · rw [Bool.and_eq_true] at h
      obtain ⟨q1, q2, q3, q4⟩ := cKV_ok kvs c _ _ h.1 X W hs hg tk
      have h15 := of_decide_eq_true h.2
      cases kvs with
      | nil =>
        unfold cKV at h
        simp only [Bool.and_eq_true, List.isEmpty_iff] at h
        obtain ⟨⟨rfl, rfl⟩, _⟩ := h
        exact .val rfl s_dnewT
      | cons k v r =>
        have hu := hs.units
        exact .val rfl (s_dicT (by omega) (q1 _) q2 q3 (fun e => by rw [e] at q4; simp [Kvs.len] at q4) h15 (by omega))
    · cases h
  | .tr e, c, t, E, h, X, W, hs, hg, tk => by
    unfold cX at h
    simp only [Bool.and_eq_true, Bool.not_eq_true'] at h
    obtain ⟨rfl, h⟩ := h
    exact ⟨fun _ => s_tr (cX_ok e c false _ h X W hs hg tk).se, fun e => nomatch e⟩
  | .lk i e, c, t, E, h, X, W, hs, hg, tk => by
    unfold cX at h
    simp only [Bool.and_eq_true, Bool.not_eq_true'] at h
    obtain ⟨rfl, h⟩ := h
    exact ⟨fun _ => s_lk tk fun W' tk' => (cX_ok e c false _ h X W' hs hg tk').se, fun e => nomatch e⟩
theorem cXs_ok : ∀ (es : Exs) (c : Sc) (t : Bool) (Es : List Expr), cXs G es c t Es = true → ∀ (X : Cx) (W : WX), Sta X c → GX X C G → L2N.Takes X W → AllX X C W t es Es
  | .nil, c, t, Es, h, X, W, hs, hg, tk => by
    unfold cXs at h
    simpa [AllX] using h
  | .cons e es, c, t, Es, h, X, W, hs, hg, tk => by
    unfold cXs at h
    split at h
    · rw [Bool.and_eq_true] at h
      exact ⟨_, _, rfl, cX_ok e c t _ h.1 X W hs hg tk, cXs_ok es c t _ h.2 X W hs hg tk⟩
    · cases h
theorem cO_ok : ∀ (es : Exs) (c : Sc) (E : Option Expr), cO G es c E = true → ∀ (X : Cx) (W : WX), Sta X c → GX X C G → L2N.Takes X W → SO X C W E es
  | .nil, c, E, h, X, W, hs, hg, tk => by
    unfold cO at h
    cases E with
    | none => exact o_none
    | some _ => cases h
  | .cons e es, c, E, h, X, W, hs, hg, tk => by
    unfold cO at h
    split at h
    · exact o_some (cX_ok e c false _ h X W hs hg tk).se
    · cases h
theorem cTs_ok : ∀ (es : Exs) (c : Sc) (Es : List Expr), cTs G es c Es = true → ∀ (X : Cx) (W : WX), Sta X c → GX X C G → L2N.Takes X W → STs X C W Es es
  | .nil, c, Es, h, X, W, hs, hg, tk => by
    unfold cTs at h
    obtain rfl : Es = [] := by simpa using h
    exact ts_nil
  | .cons e es, c, Es, h, X, W, hs, hg, tk => by
    unfold cTs at h
    split at h
    · exact ts_one (cX_ok e c true _ h X W hs hg tk).st
    · cases h
theorem cKV_ok : ∀ (kvs : Kvs) (c : Sc) (Ks : List (Option Expr)) (Vs : List Expr), cKV G kvs c Ks Vs = true → ∀ (X : Cx) (W : WX), Sta X c → GX X C G → L2N.Takes X W → (∀ pos, SKV X C W pos Ks Vs kvs) ∧ Ks.all (·.isSome) = true ∧ Ks.length = Vs.length ∧ kvs.len = Ks.length
  | .nil, c, Ks, Vs, h, X, W, hs, hg, tk => by
    unfold cKV at h
    simp only [Bool.and_eq_true, List.isEmpty_iff] at h
    obtain ⟨rfl, rfl⟩ := h
    exact ⟨fun _ => kv_nil, rfl, rfl, rfl⟩
  | .cons k v r, c, Ks, Vs, h, X, W, hs, hg, tk => by
    unfold cKV at h
    split at h
    · simp only [Bool.and_eq_true] at h
      obtain ⟨q1, q2, q3, q4⟩ := cKV_ok r c _ _ h.2 X W hs hg tk
      exact ⟨fun p => kv_cons (cX_ok k c false _ h.1.1 X W hs hg tk).se (cX_ok v c false _ h.1.2 X W hs hg tk).se (q1 p), by simpa using q2, by simp [q3], by simp [Kvs.len, q4]⟩
    · cases h
theorem cI_ok : ∀ (it : Si) (c : Sc) (TG IT : Expr), cI G it c TG IT = true → ∀ (X : Cx) (W : WX), Sta X c → GX X C G → L2N.Takes X W → SI X C W TG IT it
  | .val e, c, TG, IT, h, X, W, hs, hg, tk => i_val (cX_ok e c false _ (by unfold cI at h; exact h) X W hs hg tk).se
  | .rng es, c, TG, IT, h, X, W, hs, hg, tk => by
    unfold cI at h
    split at h
    · simp only [Bool.and_eq_true, decide_eq_true_eq, Bool.or_eq_true] at h
      obtain ⟨⟨⟨⟨rfl, h1⟩, h2⟩, h3⟩, h4⟩ := h
      have q := cXs_ok es c false _ h2 X W hs hg tk
      have qs := q.sa h3
      rcases h4 with (h4 | h4) | h4
      · have hl := eq_of_beq h4
        obtain ⟨A, rfl⟩ := List.length_eq_one_iff.mp hl
        obtain ⟨e, er, E, Er, rfl, e2⟩ := q.seNe rfl
        cases e2
        obtain ⟨_, _, e3, _, q2⟩ := q
        cases e3
        cases er with
        | nil => exact i_rng1 (hs.gl h1) hg.rng (by simpa [plains] using h3) qs
        | cons _ _ => obtain ⟨_, _, e4, _⟩ := q2; cases e4
      · have hl := eq_of_beq h4
        obtain ⟨A, B, rfl⟩ := len_two hl
        obtain ⟨e, er, E, Er, rfl, e2⟩ := q.seNe rfl
        cases e2
        obtain ⟨_, _, e3, _, q2⟩ := q
        cases e3
        cases er with
        | nil => cases q2
        | cons e2 er =>
          obtain ⟨_, _, e4, _, q3⟩ := q2
          cases e4
          have hp : plain A = true ∧ plain B = true := by simpa [plains] using h3
          cases er with
          | nil => exact i_rng2 (hs.gl h1) hg.rng hp.1 hp.2 qs
          | cons _ _ => obtain ⟨_, _, e5, _⟩ := q3; cases e5
      · have hl := eq_of_beq h4
        obtain ⟨A, B, D, rfl⟩ := len_three hl
        obtain ⟨e, er, E, Er, rfl, e2⟩ := q.seNe rfl
        cases e2
        obtain ⟨_, _, e3, _, q2⟩ := q
        cases e3
        cases er with
        | nil => cases q2
        | cons e2 er =>
          obtain ⟨_, _, e4, _, q3⟩ := q2
          cases e4
          have hp : plain A = true ∧ plain B = true ∧ plain D = true := by simpa [plains] using h3
          cases er with
          | nil => cases q3
          | cons e3 er =>
            obtain ⟨_, _, e6, _, q4⟩ := q3
            cases e6
            cases er with
            | nil => exact i_rng3 (hs.gl h1) hg.rng hp.1 hp.2.1 hp.2.2 qs
            | cons _ _ => obtain ⟨_, _, e7, _⟩ := q4; cases e7
    · cases h
  | .enum e, c, TG, IT, h, X, W, hs, hg, tk => by
    unfold cI at h
    split at h
    · simp only [Bool.and_eq_true, decide_eq_true_eq] at h
      obtain ⟨⟨⟨rfl, h1⟩, h2⟩, h3⟩ := h
      exact i_enum (hs.gl h1) hg.enu h2 (cX_ok e c false _ h3 X W hs hg tk).se
    · cases h
  | .zip _ _, c, TG, IT, h, X, W, hs, hg, tk => by unfold cI at h; cases h
  | .rev e, c, TG, IT, h, X, W, hs, hg, tk => by
    unfold cI at h
    split at h
    · simp only [Bool.and_eq_true, decide_eq_true_eq] at h
      obtain ⟨⟨⟨rfl, h1⟩, h2⟩, h3⟩ := h
      exact i_rev (hs.gl h1) hg.rvd h2 (cX_ok e c false _ h3 X W hs hg tk).se
    · cases h
  | .keys e, c, TG, IT, h, X, W, hs, hg, tk => i_keys (cX_ok e c false _ (by unfold cI at h; exact h) X W hs hg tk).se
  | .items _, c, TG, IT, h, X, W, hs, hg, tk => by unfold cI at h; cases h
  | .vals _, c, TG, IT, h, X, W, hs, hg, tk => by unfold cI at h; cases h
theorem cG_ok : ∀ (tg : Tg) (c : Sc) (E : Expr), cG G tg c E = true → ∀ (X : Cx), Sta X c → GX X C G → SG X C E tg
  | .name i, c, E, h, X, hs, hg => by
    unfold cG at h
    split at h
    · obtain ⟨h1, h2, h3, h4⟩ := hs.tgt h
      exact g_name h1 h2 h3 h4
    · cases h
  | .tup ts, c, E, h, X, hs, hg => by
    unfold cG at h
    split at h
    · rw [Bool.and_eq_true] at h
      obtain ⟨q1, q2⟩ := cGs_ok ts c _ h.1 h.2 X hs hg
      cases hc : c.hot with
      | false => exact g_tup (hs.calm0 hc) h.2 q2 q1
      | true => exact g_tupH (hs.hotc hc) h.2 q2 q1
    · cases h
  | .sub o i, c, E, h, X, hs, hg => by
    unfold cG at h
    split at h
    · rename_i A B pos
      simp only [Bool.and_eq_true] at h
      have hu := hs.units
      refine g_sub (set_of (set_dict (by omega))) (cX_ok o c false _ h.1.2 X W0 hs hg takesW0).se (cX_ok i c false _ h.2 X W0 hs hg takesW0).se fun v => ?_
      have hp := h.1.1
      cases B <;> first | rfl | exact nomatch hp
    · cases h
theorem cGs_ok : ∀ (tg : Tgs) (c : Sc) (Es : List Expr), cGs G tg c Es = true → plainTs Es = true → ∀ (X : Cx), Sta X c → GX X C G → SGs X C Es tg ∧ Es.length = tg.len
  | .nil, c, Es, h, hp, X, hs, hg => by
    unfold cGs at h
    obtain rfl : Es = [] := by simpa using h
    exact ⟨gs_nil, rfl⟩
  | .cons t ts, c, Es, h, hp, X, hs, hg => by
    unfold cGs at h
    split at h
    · rename_i E Es
      rw [Bool.and_eq_true] at h
      have hp' : plainT E = true ∧ plainTs Es = true := by simpa [plainTs] using hp
      obtain ⟨q1, q2⟩ := cGs_ok ts c _ h.2 hp'.2 X hs hg
      exact ⟨gs_cons' hp'.1 (cG_ok t c _ h.1 X hs hg) q1, by simp [Tgs.len, q2]⟩
    · cases h
end
end
end Pu

set_option Elab.async false
set_option linter.all false
set_option maxRecDepth 100000
set_option maxHeartbeats 1000000
/-! Pu28: what the checker says holds: statements, defs, the module. -/
namespace Pu
open PySem PySem.Spec PyProof.Rows L2
section
variable {C : Cfg} {G : GT}
theorem Sta.block {X : Cx} {c : Sc} (hs : Sta X c) : X.env.blockKind = .function ∧ ∀ t, X.env.kindOf t = c.names.lookup t := by
  refine ⟨?_, fun t => ?_⟩
  · unfold PySem.Env.blockKind
    rw [hs.kind]
    rfl
  · show X.env.scope.names.lookup t = _
    rw [hs.names]
theorem swaps_lc {X : Cx} {c : Sc} (hs : Sta X c) {elt : Expr} {gs : List Comprehension} {scope : Scope} {epos py : Pos} {y : Str} {l : Nat} : swapsWith (.ListComp elt gs scope epos) (some (.Name y py)) l X.env = pure (folds scope y py epos c.names) := by
  obtain ⟨hb, hk⟩ := hs.block
  unfold swapsWith
  simp only
  congr 1
  unfold folds isLocal
  rw [hb, hk]
  cases c.names.lookup y with
  | none => rfl
  | some k => cases k <;> rfl
theorem swaps_dc {X : Cx} {c : Sc} (hs : Sta X c) {kx vx : Expr} {gs : List Comprehension} {scope : Scope} {epos py : Pos} {y : Str} {l : Nat} : swapsWith (.DictComp kx vx gs scope epos) (some (.Name y py)) l X.env = pure (folds scope y py epos c.names) := by
  obtain ⟨hb, hk⟩ := hs.block
  unfold swapsWith
  simp only
  congr 1
  unfold folds isLocal
  rw [hb, hk]
  cases c.names.lookup y with
  | none => rfl
  | some k => cases k <;> rfl
theorem folds_local {X : Cx} {c : Sc} (hs : Sta X c) {scope : Scope} {py epos : Pos} {y : Str} (h : folds scope y py epos c.names = true) : X.env.scope.names.lookup y = some .local := by
  unfold folds at h
  simp only [Bool.and_eq_true] at h
  rw [hs.names]
  exact isLocal_of h.1.1
def star1 : Expr → Bool
  | .Starred _ _ => true
  | _ => false
theorem star1_of {E : Expr} (h : plain E = true) : star1 E = false := by cases E <;> first | rfl | exact nomatch h
theorem noStar2 {A B : Expr} (pa : plain A = true) (pb : plain B = true) : ([A, B].any star1) = false := by
  rw [List.any_cons, List.any_cons, star1_of pa, star1_of pb]
  rfl
theorem swapped_two {X : Cx} {c : Sc} (hs : Sta X c) {x y : Str} {px py pt pt2 : Pos} {kt k2 : Nat} {A B : Expr} (hx : isLocal (c.names.lookup x) = true) (hy : isLocal (c.names.lookup y) = true) (pa : plain A = true) (pb : plain B = true) (hl : (px.line == py.line) = true) (hne : (x == y) = false)
    (hf : ([A, B].all (foldedForSure 8)) = false) (hca : ([A, B].all (constantsAlone 8)) = false) : swappedStores [.Tuple [.Name x px, .Name y py] kt pt] (.Tuple [A, B] k2 pt2) X.env = pure (some [x, y]) := by
  obtain ⟨hb, hk⟩ := hs.block
  have hl' : py.line = px.line := (eq_of_beq hl).symm
  have hne' : x ≠ y := by simpa using hne
  have h1 := isLocal_of hx
  have h2 := isLocal_of hy
  have hv := noStar2 pa pb
  have he : ([x, y] : List Str).eraseDups.length = 2 := by
    simp [List.eraseDups_cons, hne', Ne.symm hne']
  unfold swappedStores
  show (if _ then _ else _) = _
  rw [if_neg (by rw [hb]; show ¬ false = true; decide)]
  show (if ([A, B].any star1) = true then _ else _) = _
  rw [if_neg (by rw [hv]; decide)]
  simp only [List.filterMap_cons, List.filterMap_nil, hk, h1, h2, hl', List.head?_cons, Option.map_some, Option.getD_some, Expr.pos, beq_self_eq_true, Bool.and_self, if_true, he, hf, hca]
  rfl
theorem asg_fold {X : Cx} {W : WX} {c : Sc} (hs : Sta X c) (hg : GX X C G) (tk : L2N.Takes X W) {i : Nat} {x : Str} {py spos : Pos} {e : Ex} {E : Expr} (ht : c.tgt i x = true) (hf : foldOk c x py E e = true) (he : cX G e c false E = true) : SS X C W (.Assign [.Name x py] E spos) (.asg (.name i) e) := by
  obtain ⟨t1, t2, t3, t4⟩ := hs.tgt ht
  have q := (cX_ok e c false _ he X W hs hg tk).se
  have hu := hs.units
  unfold foldOk at hf
  split at hf
  · rename_i elt gs scope pos
    cases hfold : folds scope x py pos c.names with
    | false => exact ss_setF t1 t2 t3 (by rw [swaps_lc hs, hfold]) q t4
    | true =>
      rw [hfold] at hf
      have hsw : swapsWith (.ListComp elt gs scope pos) (some (.Name x py)) spos.line X.env = pure true := by rw [swaps_lc hs, hfold]
      have hl := folds_local hs hfold
      cases e <;> first | exact absurd hf Bool.false_ne_true | skip
      · rename_i own tg it ifs e
        unfold cX at he
        split at he
        · rename_i elt' TG IT IFS scope' pos' hE
          cases hE
          simp only [Bool.and_eq_true] at he
          obtain ⟨⟨⟨⟨⟨⟨⟨h0, h1⟩, h2⟩, h3⟩, h4⟩, h5⟩, h6⟩, h7⟩ := he
          have h0 : c.hot = false := by simpa using h0
          have hk := blk_kind h3
          have q := ss_setLc (hs.calm0 h0) t1 t2 hl hsw (cI_ok it c _ _ h1 X W hs hg tk) (blk_ok hs h3) (by rw [ownOf_map]; exact h4) (fun s H cc cl fp => cG_ok tg _ _ h5 _ (hs.blk h0 hk s H cc cl fp) (hg.blk _ s H cc cl fp))
            (fun s H cc cl fp => cTs_ok ifs _ _ h6 _ W0 (hs.blk h0 hk s H cc cl fp) (hg.blk _ s H cc cl fp) takesW0) (fun s H cc cl fp => (cX_ok e _ false _ h7 _ W0 (hs.blk h0 hk s H cc cl fp) (hg.blk _ s H cc cl fp) takesW0).se) (fun x => noSet_fold h2 _ x)
          rw [ownOf_map] at q
          exact q
        · cases he
      · rename_i own own1 tg it ifs tg1 it1 ifs1 e
        unfold cX at he
        split at he
        · rename_i elt' TG IT IFS TG1 IT1 IFS1 scope' pos' hE
          cases hE
          simp only [Bool.and_eq_true] at he
          obtain ⟨⟨⟨⟨⟨⟨⟨⟨⟨⟨⟨⟨⟨h0, h1⟩, h2⟩, h2'⟩, h3⟩, h4⟩, h4'⟩, h4''⟩, h5⟩, h6⟩, g1⟩, g2⟩, g3⟩, h7⟩ := he
          have h0 : c.hot = false := by simpa using h0
          have hk := blk_kind h3
          have q := ss_setLc2 (hs.calm0 h0) t1 t2 hl hsw (cI_ok it c _ _ h1 X W hs hg tk) (blk_ok hs h3) (own1 := own1) (fun i hi => by rw [ownOf_map]; have := List.all_eq_true.mp h4'' i hi; simpa using this) (by rw [ownOf_map]; exact h4) h4'
            (fun s H cc cl fp => cG_ok tg _ _ h5 _ (hs.blk h0 hk s H cc cl fp) (hg.blk _ s H cc cl fp))
            (fun s H cc cl fp => cTs_ok ifs _ _ h6 _ W0 (hs.blk h0 hk s H cc cl fp) (hg.blk _ s H cc cl fp) takesW0) (fun s H cc cl fp => cI_ok it1 _ _ _ g1 _ W0 (hs.blk h0 hk s H cc cl fp) (hg.blk _ s H cc cl fp) takesW0)
            (fun s H cc cl fp => cG_ok tg1 _ _ g2 _ (hs.blk h0 hk s H cc cl fp) (hg.blk _ s H cc cl fp)) (fun s H cc cl fp => cTs_ok ifs1 _ _ g3 _ W0 (hs.blk h0 hk s H cc cl fp) (hg.blk _ s H cc cl fp) takesW0)
            (fun s H cc cl fp => (cX_ok e _ false _ h7 _ W0 (hs.blk h0 hk s H cc cl fp) (hg.blk _ s H cc cl fp) takesW0).se) (fun env x => noSet_fold h2 env x) (fun env x => noSet_fold h2' env x)
          rw [ownOf_map] at q
          exact q
        · cases he
      · unfold cX at he
        split at he
        · rename_i hE; cases hE
        · cases he
      · unfold cX at he
        split at he
        · rename_i hE; cases hE
        · cases he
  · rename_i K V' gs scope pos
    cases hfold : folds scope x py pos c.names with
    | false => exact ss_setF t1 t2 t3 (by rw [swaps_dc hs, hfold]) q t4
    | true =>
      rw [hfold] at hf
      have hsw : swapsWith (.DictComp K V' gs scope pos) (some (.Name x py)) spos.line X.env = pure true := by rw [swaps_dc hs, hfold]
      have hl := folds_local hs hfold
      cases e <;> first | exact absurd hf Bool.false_ne_true | skip
      · unfold cX at he
        split at he
        · rename_i hE; cases hE
        · cases he
      · unfold cX at he
        split at he
        · rename_i hE; cases hE
        · cases he
      · rename_i own tg it ifs k e
        unfold cX at he
        split at he
        · rename_i K' V2 TG IT IFS scope' pos' hE
          cases hE
          simp only [Bool.and_eq_true] at he
          obtain ⟨⟨⟨⟨⟨⟨⟨⟨h0, h1⟩, h2⟩, h3⟩, h4⟩, h5⟩, h6⟩, h7⟩, h8⟩ := he
          have h0 : c.hot = false := by simpa using h0
          have hk := blk_kind h3
          have q := ss_setDcK (by omega) (hs.calm0 h0) t1 t2 hl hsw (cI_ok it c _ _ h1 X W hs hg tk) (blk_ok hs h3) (by rw [ownOf_map]; exact h4) ⟨fun s H cc cl fp => cG_ok tg _ _ h5 _ (hs.blk h0 hk s H cc cl fp) (hg.blk _ s H cc cl fp),
            fun s H cc cl fp => cTs_ok ifs _ _ h6 _ W0 (hs.blk h0 hk s H cc cl fp) (hg.blk _ s H cc cl fp) takesW0⟩ (fun s H cc cl fp => (cX_ok k _ false _ h7 _ W0 (hs.blk h0 hk s H cc cl fp) (hg.blk _ s H cc cl fp) takesW0).se)
            (fun s H cc cl fp => (cX_ok e _ false _ h8 _ W0 (hs.blk h0 hk s H cc cl fp) (hg.blk _ s H cc cl fp) takesW0).se) (fun x => noSet_fold h2 _ x)
          rw [ownOf_map] at q
          exact q
        · cases he
      · rename_i own tg it ifs k e
        unfold cX at he
        split at he
        · rename_i K' V2 TG IT IFS scope' pos' hE
          cases hE
          simp only [Bool.and_eq_true] at he
          obtain ⟨⟨⟨⟨⟨⟨⟨⟨h0, h1⟩, h2⟩, h3⟩, h4⟩, h5⟩, h6⟩, h7⟩, h8⟩ := he
          have h0 : c.hot = false := by simpa using h0
          have hk := blk_kind h3
          have q := ss_setDcT (by omega) (hs.calm0 h0) t1 t2 hl hsw (cI_ok it c _ _ h1 X W hs hg tk) (blk_ok hs h3) (by rw [ownOf_map]; exact h4) ⟨fun s H cc cl fp => cG_ok tg _ _ h5 _ (hs.blk h0 hk s H cc cl fp) (hg.blk _ s H cc cl fp),
            fun s H cc cl fp => cTs_ok ifs _ _ h6 _ W0 (hs.blk h0 hk s H cc cl fp) (hg.blk _ s H cc cl fp) takesW0⟩ (fun s H cc cl fp => (cX_ok k _ false _ h7 _ W0 (hs.blk h0 hk s H cc cl fp) (hg.blk _ s H cc cl fp) takesW0).se)
            (fun s H cc cl fp => (cX_ok e _ false _ h8 _ W0 (hs.blk h0 hk s H cc cl fp) (hg.blk _ s H cc cl fp) takesW0).se) (fun x => noSet_fold h2 _ x)
          rw [ownOf_map] at q
          exact q
        · cases he
  · cases hf
  · rename_i h1 h2 h3
    refine ss_set t1 t2 t3 ?_ q t4
    cases E <;> first | rfl | exact absurd rfl (h1 _ _ _ _) | exact absurd rfl (h2 _ _ _ _ _) | exact absurd rfl (h3 _ _ _ _)
/-- a def's own frame -/
def FrX (X : Cx) : Prop := X.stack = X.env :: X.outer ∧ X.env.frame = some X.env.locals
def HAll (X : Cx) (k : Cau) (oe : Obj) (pn : List (Addr × Obj)) : Hxs → List Expr → Prop
  | .nil, Es => Es = []
  | .cons e es, Es => ∃ E Er, Es = E :: Er ∧ HE X k oe pn C E e ∧ HAll X k oe pn es Er
theorem HAll.ha {X : Cx} {k : Cau} {oe : Obj} {pn : List (Addr × Obj)} : ∀ {es : Hxs} {Es : List Expr}, HAll (C := C) X k oe pn es Es → plains Es = true → HA X k oe pn C Es es
  | .nil, _, h, _ => by cases h; exact ha_nil
  | .cons e es, _, ⟨E, Er, h1, h2, h3⟩, hp => by
    subst h1
    have hp' : plain E = true ∧ plains Er = true := by simpa [plains] using hp
    exact ha_cons hp'.1 h2 (HAll.ha h3 hp'.2)
mutual
theorem cH_ok : ∀ (e : Hx) (c : Sc) (y : Str) (cat : List Str) (E : Expr), cH G c y cat e E = true → ∀ (X : Cx), Sta X c → GX X C G → ∀ (k : Cau) (oe : Obj) (pn : List (Addr × Obj)), c.N[k.i]? = some y → isLocal (c.names.lookup y) = true → cat.contains k.nm = true → X.mg k.nm = some (.ref k.Cc) → SuX X k oe → HE X k oe pn C E e
  | .con v, c, y, cat, E, h, X, hs, hg, k, oe, pn, hi, hl, hk, hm, su => by
    unfold cH at h
    split at h
    · cases eq_of_beq h; exact hx_int
    · cases eq_of_beq h; exact hx_bool
    · exact hx_none
    · cases of_decide_eq_true h; exact hx_str
    · cases h
  | .fld f, c, y, cat, E, h, X, hs, hg, k, oe, pn, hi, hl, hk, hm, su => by
    unfold cH at h
    split at h
    · simp only [Bool.and_eq_true, decide_eq_true_eq] at h
      obtain ⟨⟨rfl, rfl⟩, h3⟩ := h
      have hx := List.all_eq_true.mp h3 k.nm (by simpa using hk)
      obtain ⟨⟨c', fI, fd, sf, w, m1, I0, iC, tI, bd, xf, ec⟩, _⟩ := hg.exc _ _ (by simpa using hx)
      rw [hm] at m1
      cases m1
      obtain ⟨d1, d2⟩ := hs.dbg _ (List.mem_of_getElem? hi)
      exact hx_fld su xf I0.fld (by rw [hs.N]; exact hi) (.inl (by rw [hs.names]; exact isLocal_of hl)) d1 d2
    · cases h
  | .isi yes no, c, y, cat, E, h, X, hs, hg, k, oe, pn, hi, hl, hk, hm, su => by
    unfold cH at h
    split at h
    · simp only [Bool.and_eq_true, decide_eq_true_eq, Bool.not_eq_true'] at h
      obtain ⟨⟨⟨⟨⟨⟨⟨rfl, h1⟩, rfl⟩, h2⟩, h3⟩, h4⟩, h5⟩, h6⟩ := h
      have hx := List.all_eq_true.mp h3 k.nm (by simpa using hk)
      obtain ⟨p, hp, e1⟩ := List.any_eq_true.mp hx
      have e1 := of_decide_eq_true e1
      obtain ⟨⟨c', fI, fd, sf, w, m1, I0, iC, tI, bd, xf, ec⟩, _⟩ := hg.exc p.1 p.2 hp
      rw [e1, hm] at m1
      cases m1
      obtain ⟨d1, d2⟩ := hs.dbg _ (List.mem_of_getElem? hi)
      obtain ⟨z, hz⟩ : ∃ z, z ∈ yes := by
        cases yes with
        | nil => cases h6
        | cons z _ => exact ⟨z, List.mem_cons_self⟩
      obtain ⟨⟨_, Dd, _, mD, _, _⟩, dD⟩ := hg.sub _ _ _ (by simpa using List.all_eq_true.mp h4 z hz)
      have fact : ∀ {l : List Str} {b : Bool}, (l.all fun x => G.subs.contains (x, _, b)) = true → l.contains k.nm = true → PySem.W.kitOne X.K (.ref k.Cc) (.ref Dd) = some b := fun {l b} ha hc => by
        obtain ⟨⟨c1, D1, q1, q2, q3, _⟩, _⟩ := hg.sub _ _ _ (by simpa using List.all_eq_true.mp ha k.nm (by simpa using hc))
        rw [hm] at q1
        cases q1
        rw [mD] at q2
        cases q2
        exact q3
      exact hx_isi su ec (hs.gl h1) rfl (hg.bl .isinst (by decide)) (by rw [hs.N]; exact hi) (.inl (by rw [hs.names]; exact isLocal_of hl)) d1 d2 (hs.gl h2) mD dD (fact h4) (fact h5)
    · cases h
  | .tup es, c, y, cat, E, h, X, hs, hg, k, oe, pn, hi, hl, hk, hm, su => by
    unfold cH at h
    split at h
    · rw [Bool.and_eq_true] at h
      exact hx_tup (HAll.ha (cHs_ok es c y cat _ h.1 X hs hg k oe pn hi hl hk hm su) h.2)
    · cases h
  | .and a b, c, y, cat, E, h, X, hs, hg, k, oe, pn, hi, hl, hk, hm, su => by
    unfold cH at h
    split at h
    · rw [Bool.and_eq_true] at h
      exact hx_and1 (cH_ok a c y cat _ h.1 X hs hg k oe pn hi hl hk hm su) (cH_ok b c y cat _ h.2 X hs hg k oe pn hi hl hk hm su)
    · rw [Bool.and_eq_true] at h
      exact hx_and (cH_ok a c y cat _ h.1 X hs hg k oe pn hi hl hk hm su) (cH_ok b c y cat _ h.2 X hs hg k oe pn hi hl hk hm su)
    · cases h
  | .call f es, c, y, cat, E, h, X, hs, hg, k, oe, pn, hi, hl, hk, hm, su => by
    unfold cH at h
    split at h
    · simp only [Bool.and_eq_true] at h
      obtain ⟨⟨⟨⟨⟨h0, h1⟩, h2⟩, h3⟩, h4⟩, h5⟩ := h
      split at h2
      · rename_i z ps e
        cases of_decide_eq_true h2
        obtain ⟨⟨fa, fd, j, F, hr, hm', hk', hp⟩, nd, hn, hd⟩ := hg.fnh f _ ps e h0
        have q := cHs_ok es c y cat _ h3 X hs hg k oe pn hi hl hk hm su
        have q' := HAll.ha q h4
        cases es with
        | nil =>
          cases q
          cases h5
        | cons e er =>
          obtain ⟨E1, Er, rfl, _, _⟩ := q
          exact hx_call su F hr (hs.gl h1) hm' hk' (binds_plain hp nd) hn q' h4 hd
      · cases h2
    · cases h
theorem cHs_ok : ∀ (es : Hxs) (c : Sc) (y : Str) (cat : List Str) (Es : List Expr), cHs G c y cat es Es = true → ∀ (X : Cx), Sta X c → GX X C G → ∀ (k : Cau) (oe : Obj) (pn : List (Addr × Obj)), c.N[k.i]? = some y → isLocal (c.names.lookup y) = true → cat.contains k.nm = true → X.mg k.nm = some (.ref k.Cc) → SuX X k oe → HAll (C := C) X k oe pn es Es
  | .nil, c, y, cat, Es, h, X, hs, hg, k, oe, pn, hi, hl, hk, hm, su => by
    unfold cHs at h
    simpa [HAll] using h
  | .cons e es, c, y, cat, Es, h, X, hs, hg, k, oe, pn, hi, hl, hk, hm, su => by
    unfold cHs at h
    split at h
    · rw [Bool.and_eq_true] at h
      exact ⟨_, _, rfl, cH_ok e c y cat _ h.1 X hs hg k oe pn hi hl hk hm su, cHs_ok es c y cat _ h.2 X hs hg k oe pn hi hl hk hm su⟩
    · cases h
end
mutual
theorem cS_ok : ∀ (s : Sm) (c : Sc) (S : Stmt), cS G c s S = true → ∀ (X : Cx) (W : WX), Sta X c → GX X C G → PassesOwn (model X.prog X.w) X.A X.env X.xe → FrX X → L2N.Takes X W → SS X C W S s
  | .asg tg e, c, S, h, X, W, hs, hg, hp, fr, tk => by
    unfold cS at h
    split at h
    · split at h
      · simp only [Bool.and_eq_true] at h
        exact asg_fold hs hg tk h.1.1 h.1.2 h.2
      · simp only [Bool.and_eq_true] at h
        exact ss_asg rfl h.1.1 rfl (cX_ok e c false _ h.2 X W hs hg tk).se (cG_ok _ c _ h.1.2 X hs hg)
      · simp only [Bool.and_eq_true] at h
        exact ss_asg rfl h.1.1 rfl (cX_ok e c false _ h.2 X W hs hg tk).se (cG_ok _ c _ h.1.2 X hs hg)
      · cases h
    · cases h
  | .par i j a b, c, S, h, X, W, hs, hg, hp, fr, tk => by
    unfold cS at h
    split at h
    · simp only [Bool.and_eq_true, decide_eq_true_eq, Bool.not_eq_true'] at h
      obtain ⟨⟨⟨⟨⟨⟨⟨⟨⟨⟨⟨⟨⟨h0, h1⟩, h2⟩, h3⟩, h4⟩, h5⟩, h6⟩, h7⟩, h8⟩, h9⟩, g1⟩, g2⟩, g3⟩, g4⟩ := h
      exact ss_par (hs.calm0 h0) hs.nodup (by rw [hs.N]; exact h1) (by rw [hs.N]; exact h2) h3 (by rw [hs.names]; exact isLocal_of h4) (by rw [hs.names]; exact isLocal_of h5) h6 h7
        (cX_ok a c false _ h8 X W hs hg tk).se (cX_ok b c false _ h9 X W hs hg tk).se (swapped_two hs h4 h5 h6 h7 g1 g2 g3 g4)
    · cases h
  | .aug i op e, c, S, h, X, W, hs, hg, hp, fr, tk => by
    unfold cS at h
    split at h
    · simp only [Bool.and_eq_true, decide_eq_true_eq] at h
      obtain ⟨⟨rfl, h1⟩, h2⟩ := h
      obtain ⟨t1, t2, t3, t4⟩ := hs.tgt h1
      exact ss_aug t1 t2 t3 (cX_ok e c false _ h2 X W hs hg tk).se t4
    · cases h
  | .augS _ _ _ _, c, S, h, X, W, hs, hg, hp, fr, tk => by unfold cS at h; cases h
  | .exp e, c, S, h, X, W, hs, hg, hp, fr, tk => by
    unfold cS at h
    split at h
    · rw [Bool.and_eq_true] at h
      exact ss_exp h.1 (cX_ok e c false _ h.2 X W hs hg tk).se
    · cases h
  | .ret e, c, S, h, X, W, hs, hg, hp, fr, tk => by
    unfold cS at h
    split at h
    · exact ss_ret (cX_ok e c false _ h X W hs hg tk).se
    · cases h
  | .retN, c, S, h, X, W, hs, hg, hp, fr, tk => by
    unfold cS at h
    split at h
    · exact ss_retN
    · cases h
  | .ite t a b, c, S, h, X, W, hs, hg, hp, fr, tk => by
    unfold cS at h
    split at h
    · simp only [Bool.and_eq_true] at h
      exact ss_ite (cX_ok t c true _ h.1.1 X W hs hg tk).st (cB_ok a c _ h.1.2 X W hs hg hp fr tk) (cB_ok b c _ h.2 X W hs hg hp fr tk)
    · cases h
  | .wh t b, c, S, h, X, W, hs, hg, hp, fr, tk => by
    unfold cS at h
    split at h
    · simp only [Bool.and_eq_true] at h
      exact ss_wh hp (cX_ok t c true _ h.1 X W hs hg tk).st (cB_ok b c _ h.2 X W hs hg hp fr tk)
    · cases h
  | .fr tg it b, c, S, h, X, W, hs, hg, hp, fr, tk => by
    unfold cS at h
    split at h
    · simp only [Bool.and_eq_true] at h
      obtain ⟨⟨⟨⟨h0, h1⟩, h2⟩, h3⟩, h4⟩ := h
      exact ss_fr hp (hs.calm0 (by simpa using h0)) (cI_ok it c _ _ h1 X W hs hg tk) (cG_ok tg c _ h3 X hs hg) (cB_ok b c _ h4 X W hs hg hp fr tk) (fun x => noSet_fold h2 _ x)
    · cases h
  | .brk, c, S, h, X, W, hs, hg, hp, fr, tk => by
    unfold cS at h
    split at h
    · exact ss_brk
    · cases h
  | .cnt, c, S, h, X, W, hs, hg, hp, fr, tk => by
    unfold cS at h
    split at h
    · exact ss_cnt
    · cases h
  | .pass, c, S, h, X, W, hs, hg, hp, fr, tk => by
    unfold cS at h
    split at h
    · exact ss_pass
    · exact ss_doc
    · cases h
  | .bad, c, S, h, X, W, hs, hg, hp, fr, tk => ⟨fun pins s σ H D I ⟨ι, ρ, ph, h1, h2, h3⟩ => False.elim h3⟩
  | .rai x fs es, c, S, h, X, W, hs, hg, hp, fr, tk => by
    unfold cS at h
    split at h
    · simp only [Bool.and_eq_true, Bool.not_eq_true', decide_eq_true_eq] at h
      obtain ⟨⟨⟨⟨h0, hz⟩, h1⟩, h2⟩, h3⟩ := h
      split at h3
      · rename_i f a
        rw [Bool.and_eq_true] at h3
        have hm : (x, f) ∈ G.excs := by simpa using h3.1
        subst hz
        obtain ⟨⟨c', fI, fd, sf, w, m1, I0, iC, tI, bd, _, _⟩, d⟩ := hg.exc _ f hm
        exact ss_rai (hs.calm0 h0) tk I0 iC tI (hg.sup.resolve_right fun z => by rw [z] at hm; cases hm) bd hg.dep (hs.gl h1) m1 h2 (cX_ok a c false _ h3.2 X W hs hg tk).se d
      · cases h3
    · cases h
  | .trya b cat non e, c, S, h, X, W, hs, hg, hp, fr, tk => by
    unfold cS at h
    split at h
    · rename_i B x np n A rp pos' pos
      simp only [Bool.and_eq_true, Bool.not_eq_true'] at h
      obtain ⟨⟨⟨⟨⟨⟨⟨⟨h0, h1⟩, h2⟩, h3⟩, h4⟩, h5⟩, h6⟩, h7⟩, h8⟩ := h
      obtain ⟨i, hi, ei⟩ := List.mem_iff_getElem.mp (show n ∈ c.N by simpa using h2)
      have hi' : c.N[i]? = some n := by rw [List.getElem?_eq_getElem hi, ei]
      obtain ⟨z, hz⟩ : ∃ z, z ∈ cat := by
        cases cat with
        | nil => cases h6
        | cons z _ => exact ⟨z, List.mem_cons_self⟩
      obtain ⟨⟨_, Dd, _, mD, _, _⟩, dD⟩ := hg.sub _ _ _ (by simpa using List.all_eq_true.mp h4 z hz)
      have fact : ∀ {l : List Str} {bb : Bool}, (l.all fun y => G.subs.contains (y, x, bb)) = true → ∀ y C', l.contains y = true → X.mg y = some (.ref C') → PySem.W.exmOne X.K (.ref C') (.ref Dd) = some bb := fun {l bb} ha y C' hc hm => by
        obtain ⟨⟨c1, D1, q1, q2, _, q3⟩, _⟩ := hg.sub _ _ _ (by simpa using List.all_eq_true.mp ha y (by simpa using hc))
        rw [hm] at q1
        cases q1
        rw [mD] at q2
        cases q2
        exact q3
      exact ss_try fr.1 fr.2 hs.nodup (by rw [hs.N]; exact hi') (by rw [hs.block.2]; exact isLocal_of h1) ⟨hs.gl h3, dD, .inl mD⟩ tk (fun W' pn xe tk' hp' => cB_ok b c _ h7 (X.tr pn xe) W' (hs.tr h0 pn xe) (hg.tr pn xe) hp' fr tk')
        (fun k oe pn q1 q2 q3 su => cH_ok e c n cat A h8 X hs hg k oe pn (by rw [q1]; exact hi') h1 q2 q3 su) (fact h4) (fact h5)
    · cases h
  | .tr s, c, S, h, X, W, hs, hg, hp, fr, tk => ss_tr (cS_ok s c S (by unfold cS at h; exact h) X W hs hg hp fr tk)
  | .lk i s, c, S, h, X, W, hs, hg, hp, fr, tk => ss_lk tk fun W' tk' => cS_ok s c S (by unfold cS at h; exact h) X W' hs hg hp fr tk'
theorem cB_ok : ∀ (b : Bk) (c : Sc) (Ss : List Stmt), cB G c b Ss = true → ∀ (X : Cx) (W : WX), Sta X c → GX X C G → PassesOwn (model X.prog X.w) X.A X.env X.xe → FrX X → L2N.Takes X W → SB X C W Ss b
  | .nil, c, Ss, h, X, W, hs, hg, hp, fr, tk => by
    unfold cB at h
    obtain rfl : Ss = [] := by simpa using h
    exact sb_nil
  | .cons s b, c, Ss, h, X, W, hs, hg, hp, fr, tk => by
    unfold cB at h
    split at h
    · rw [Bool.and_eq_true] at h
      exact sb_cons (cS_ok s c _ h.1 X W hs hg hp fr tk) (cB_ok b c _ h.2 X W hs hg hp fr tk)
    · cases h
end
end
end Pu

set_option Elab.async false
set_option linter.all false
set_option maxRecDepth 100000
set_option maxHeartbeats 1000000
/-! Pu29: the module: all defs at once. -/
namespace Pu
open PySem PySem.Spec PyProof.Rows L2
/-- a def of the module: its name, its parameters, its slots' names, its lines -/
structure DS where
  name : Str
  ps : List Str
  N : List Str
  fd : FD
/-- what else the module holds: the defs that run while an exception is handled, exception classes with a field, who is whose subclass -/
structure MX where
  hots : List Nat := []
  excs : List (Str × Str) := []
  subs : List (Str × Str × Bool) := []
def gtOf (ds : List DS) (cons : List (Str × Int)) (gcd : Option Str) (mx : MX) : GT := ⟨ds.map fun d => (d.name, d.ps), cons, gcd, mx.hots, mx.excs, mx.subs⟩
def isNone' : Value → Bool
  | .none => true
  | _ => false
def emptyL {α : Type} : List α → Bool
  | [] => true
  | _ => false
def noOpt {α : Type} : Option α → Bool
  | none => true
  | _ => false
/-- a def with plain parameters, no closure -/
def plainFd (fd : FuncData) (ps : List Str) : Bool :=
  emptyL fd.params.posonlyargs && decide (fd.params.args.map (·.arg) = ps) && noOpt fd.params.vararg && emptyL fd.params.kwonlyargs && noOpt fd.params.kwarg && isNone' fd.defaults && emptyL fd.closure && decide (fd.globals = mainGlobals) && decide (fd.builtins = builtinsNs)
def scopeOk (N ps : List Str) (sc : Scope) : Bool :=
  (match sc.kind with | .function => true | _ => false) && !sc.isCoroutine && !sc.isGenerator && decide N.Nodup && decide (N.take ps.length = ps) && (ps.all fun x => isLoc (sc.names.lookup x)) && (sc.names.all fun y => match y.2 with | .free => false | _ => true)
def dbgOk (N : List Str) : Bool := N.all fun x => !(x == ("__debug__" : Str)) && !(x == ("__classdict__" : Str))
def defOk (K : PySem.W.Frag) (G : GT) (hot : Bool) (d : DS) : Bool := match PySem.W.nsIn K mainGlobals d.name with
  | some (some (.ref f)) => (match K.lookup f with
    | some ⟨_, _, .func fd, _⟩ => (match fd.body with
      | .stmts body => plainFd fd d.ps && PySem.W.codeIn K fd.code fd.qualname && scopeOk d.N d.ps fd.scope && dbgOk d.N && decide (d.fd.np = d.ps.length) && decide (d.fd.ns = d.N.length) && decide d.ps.Nodup && !(d.name == ("__debug__" : Str)) && cB G ⟨d.N, fd.scope.names, fun _ => true, hot⟩ d.fd.body body
      | _ => false)
    | _ => false)
  | _ => false
def absent (K : PySem.W.Frag) (x : Str) : Bool := match PySem.W.nsIn K mainGlobals x with
  | some none => true
  | _ => false
def biAll : List Bi := [.len, .tuple, .list, .sum, .abs, .int, .str, .min, .max, .sorted, .isinst, .dict]
def isGcd : Value → Bool
  | .builtin id => decide (id = "math.gcd")
  | _ => false
def defsOk (K : PySem.W.Frag) (G : GT) : Nat → List DS → Bool
  | _, [] => true
  | i, d :: r => defOk K G (G.hot i) d && defsOk K G (i + 1) r
theorem defsOk_at {K : PySem.W.Frag} {G : GT} : ∀ {ds : List DS} {j i : Nat} {d : DS}, defsOk K G j ds = true → ds[i]? = some d → defOk K G (G.hot (j + i)) d = true
  | [], _, _, _, _, e => by simp at e
  | d :: r, j, 0, _, h, e => by
    simp only [defsOk, Bool.and_eq_true] at h
    simp at e
    subst e
    exact h.1
  | d :: r, j, i + 1, _, h, e => by
    simp only [defsOk, Bool.and_eq_true] at h
    have := defsOk_at (i := i) h.2 (by simpa using e)
    rw [show j + (i + 1) = j + 1 + i by omega]
    exact this
/-- .. and of the exceptions -/
def excsOk (P : Program) (K : PySem.W.Frag) (mx : MX) : Bool := (mx.excs.all fun p => excOk P K p.1 p.2) && (mx.subs.all fun p => subOk K p.1 p.2.1 p.2.2) && (emptyA mx.excs || absent K "super")
def modOk (K : PySem.W.Frag) (ds : List DS) (cons : List (Str × Int)) (gcd : Option Str) (mx : MX := {}) : Bool :=
  defsOk K (gtOf ds cons gcd mx) 0 ds && (biAll.all fun b => absent K (biS b)) && (tyNames.all fun n => absent K (Str.ofString n)) && absent K "range" && absent K "enumerate" && absent K "reversed" &&
  (cons.all fun p => (match PySem.W.nsIn K mainGlobals p.1 with
    | some (some (.int n _)) => decide (n = p.2)
    | _ => false) && !(p.1 == ("__debug__" : Str))) &&
  (match gcd with
    | some x => (match PySem.W.nsIn K mainGlobals x with
      | some (some v) => isGcd v
      | _ => false) && !(x == ("__debug__" : Str))
    | none => true)
theorem emptyL_of {α : Type} {l : List α} (h : emptyL l = true) : l = [] := by cases l <;> first | rfl | cases h
theorem noOpt_of {α : Type} {o : Option α} (h : noOpt o = true) : o = none := by cases o <;> first | rfl | cases h
theorem isNone'_of {v : Value} (h : isNone' v = true) : v = .none := by cases v <;> first | rfl | cases h
theorem isGcd_of {v : Value} (h : isGcd v = true) : v = .builtin "math.gcd" := by
  cases v <;> first | cases h | skip
  rw [of_decide_eq_true h]
theorem absent_of {K : PySem.W.Frag} {h : Heap} {mg : Str → Option Value} (X : K.In h) (Gl : h.Ns mainGlobals mg) {x : Str} (e : absent K x = true) : mg x = none := by
  unfold absent at e
  split at e
  · rename_i q
    exact PySem.W.mg_none_of X Gl q
  · cases e
theorem scopeOk_of {N ps : List Str} {sc : Scope} (h : scopeOk N ps sc = true) : FnScope N ps sc := by
  unfold scopeOk at h
  simp only [Bool.and_eq_true, Bool.not_eq_true', decide_eq_true_eq, List.all_eq_true] at h
  obtain ⟨⟨⟨⟨⟨⟨h1, h2⟩, h3⟩, h4⟩, h5⟩, h6⟩, h7⟩ := h
  refine ⟨?_, h2, h3, h4, h5, fun x hx => isLoc_of (h6 x hx), fun y hy e => ?_⟩
  · split at h1
    · assumption
    · cases h1
  · have := h7 y hy
    rw [e] at this
    cases this
section
variable {P : Program} {w : World} {K : PySem.W.Frag} {mg : Str → Option Value} {base h0 : Heap} {ds : List DS} {cons : List (Str × Int)} {gcd : Option Str} {mx : MX}
/-- what the module's check tells of a def -/
theorem def_at (X : K.In h0) (Gn : h0.Ns mainGlobals mg) {G : GT} {hot : Bool} {d : DS} (e : defOk K G hot d = true) : ∃ f fd oc od sl body, mg d.name = some (.ref f) ∧ K.lookup f = some ⟨oc, od, .func fd, sl⟩ ∧ fd.body = .stmts body ∧
    (plainFd fd d.ps && PySem.W.codeIn K fd.code fd.qualname && scopeOk d.N d.ps fd.scope && dbgOk d.N && decide (d.fd.np = d.ps.length) && decide (d.fd.ns = d.N.length) && decide d.ps.Nodup && !(d.name == ("__debug__" : Str)) && cB G ⟨d.N, fd.scope.names, fun _ => true, hot⟩ d.fd.body body) = true := by
  unfold defOk at e
  split at e
  · rename_i f e1
    split at e
    · rename_i oc od fd sl e2
      split at e
      · rename_i body e3
        exact ⟨f, fd, oc, od, sl, body, PySem.W.mg_of X Gn e1, e2, e3, e⟩
      · cases e
    · cases e
  · cases e
/-- what each def keeps -/
def Keeps (P : Program) (w : World) (K : PySem.W.Frag) (mg : Str → Option Value) (base : Heap) (hot : Bool) (k : Nat) (f : Addr) (fd : FuncData) (ps : List Str) (sp : Sp) : Prop :=
  (hot = false → FnOk P w K mg base (L2N.CX P w) k f fd ps sp) ∧ (hot = true → L2H.FnH P w K mg base (L2N.CX P w) k f fd ps sp)
/-- the defs keep what the evaluator says, k calls deep -/
theorem mod_fns (X : K.In h0) (Gn : h0.Ns mainGlobals mg) (ok : modOk K ds cons gcd mx = true) (okx : excsOk P K mx = true) (fuel : Nat) : ∀ (k i : Nat) (d : DS), ds[i]? = some d →
    ∃ f fd, Keeps P w K mg base ((gtOf ds cons gcd mx).hot i) k f fd d.ps (spC mg (callN (ds.map (·.fd)) fuel k) i d.ps.length) ∧ mg d.name = some (.ref f) ∧ PySem.W.keepIn K (.ref f) = true ∧ PlainDef fd d.ps ∧ d.ps.Nodup ∧ (d.name == ("__debug__" : Str)) = false ∧ d.fd.np = d.ps.length ∧ ∃ oc od sl, K.lookup f = some ⟨oc, od, .func fd, sl⟩ := by
  have ok' := ok
  unfold modOk at ok'
  simp only [Bool.and_eq_true] at ok'
  obtain ⟨⟨⟨⟨⟨⟨⟨o1, o2⟩, o3⟩, o4⟩, o5⟩, o6⟩, o7⟩, o8⟩ := ok'
  unfold excsOk at okx
  simp only [Bool.and_eq_true, Bool.or_eq_true] at okx
  obtain ⟨⟨y1, y2⟩, y3⟩ := okx
  have all : ∀ (i : Nat) (d : DS), ds[i]? = some d → defOk K (gtOf ds cons gcd mx) ((gtOf ds cons gcd mx).hot i) d = true := fun i d e => by
    have := defsOk_at o1 e
    rw [Nat.zero_add] at this
    exact this
  intro k
  induction k with
  | zero =>
    intro i d hd
    obtain ⟨f, fd, oc, od, sl, body, e1, e2, e3, e⟩ := def_at X Gn (all i d hd)
    simp only [Bool.and_eq_true, decide_eq_true_eq, Bool.not_eq_true'] at e
    obtain ⟨⟨⟨⟨⟨⟨⟨⟨p1, p2⟩, p3⟩, p4⟩, p5⟩, p6⟩, p7⟩, p8⟩, p9⟩ := e
    refine ⟨f, fd, ⟨fun _ => ⟨fun vs H Q E q => q.1, fun A outer s H args us vs Q E hr he hb hv hs => ?_⟩, fun _ => ⟨fun vs H Q E q => q.1, fun A outer s H args us vs Q E p hr hh hp he hb hv hs => ?_⟩⟩, e1, by unfold PySem.W.keepIn; simp only [e2], ?_, p7, p8, p5, oc, od, sl, e2⟩
    · obtain ⟨_, ι, ph, xs, _, _, q⟩ := hs
      exact False.elim q
    · obtain ⟨_, ι, ph, xs, _, _, q⟩ := hs
      exact False.elim q
    · unfold plainFd at p1
      simp only [Bool.and_eq_true, decide_eq_true_eq] at p1
      obtain ⟨⟨⟨⟨⟨⟨⟨⟨a1, a2⟩, a3⟩, a4⟩, a5⟩, a6⟩, a7⟩, a8⟩, a9⟩ := p1
      exact ⟨emptyL_of a1, a2, noOpt_of a3, emptyL_of a4, noOpt_of a5, isNone'_of a6⟩
  | succ k ih =>
    intro i d hd
    obtain ⟨f, fd, oc, od, sl, body, e1, e2, e3, e⟩ := def_at X Gn (all i d hd)
    simp only [Bool.and_eq_true, decide_eq_true_eq, Bool.not_eq_true'] at e
    obtain ⟨⟨⟨⟨⟨⟨⟨⟨p1, p2⟩, p3⟩, p4⟩, p5⟩, p6⟩, p7⟩, p8⟩, p9⟩ := e
    have S := scopeOk_of p3
    unfold plainFd at p1
    simp only [Bool.and_eq_true, decide_eq_true_eq] at p1
    obtain ⟨⟨⟨⟨⟨⟨⟨⟨a1, a2⟩, a3⟩, a4⟩, a5⟩, a6⟩, a7⟩, a8⟩, a9⟩ := p1
    refine ⟨f, fd, ?_, e1, by unfold PySem.W.keepIn; simp only [e2], ⟨emptyL_of a1, a2, noOpt_of a3, emptyL_of a4, noOpt_of a5, isNone'_of a6⟩, p7, p8, p5, oc, od, sl, e2⟩
    have b6 := isNone'_of a6
    have b7 := emptyL_of a7
    clear a6 a7
    obtain ⟨name, qual, params, bodyF, scope, globals, closure, defaults, kwd, doc, pm, an, code, ct, bl⟩ := fd
    simp only at e3 b6 b7 a8 a9 p2 p9 S
    subst e3 b6 b7 a8 a9
    have names : ∀ x ∈ d.N, (x == ("__debug__" : Str)) = false ∧ (x == ("__classdict__" : Str)) = false := fun x hx => by
      have := List.all_eq_true.mp p4 x hx
      simp only [Bool.and_eq_true, Bool.not_eq_true'] at this
      exact this
    have noCall : ∀ (j : Nat) (d' : DS), ds[j]? = some d' → d'.fd.np = d'.ps.length → ∀ (xs : List PV) (ph : PH), xs.length ≠ d'.ps.length → callN (ds.map (·.fd)) fuel k j xs ph = .bad := fun j d' hq m6 xs ph hne => by
      cases k with
      | zero => rfl
      | succ k =>
        show (match (ds.map (·.fd))[j]? with
          | some d => if xs.length = d.np then ends ph (evB ⟨callN (ds.map (·.fd)) fuel k, fuel⟩ d.body (frame d xs) ph) else Res.bad
          | none => Res.bad) = Res.bad
        rw [List.getElem?_map, hq]
        exact if_neg (by rw [m6]; exact hne)
    have defs : ∀ (j : Nat) (x : Str) (ps : List Str), (gtOf ds cons gcd mx).fns[j]? = some (x, ps) → ∃ d' : DS, ds[j]? = some d' ∧ x = d'.name ∧ ps = d'.ps := fun j x ps hj => by
      unfold gtOf at hj
      simp only [List.getElem?_map] at hj
      cases hq : ds[j]? with
      | none => rw [hq] at hj; cases hj
      | some d' =>
        rw [hq] at hj
        cases hj
        exact ⟨d', rfl, rfl, rfl⟩
    -- what the module holds, as each body sees it
    have gx : ∀ {XX : Cx}, XX.prog = P → XX.w = w → XX.K = K → XX.mg = mg → XX.base = base → (XX.calm = true → Room k XX.A) → L2H.RoomH k XX.A → GX XX ⟨callN (ds.map (·.fd)) fuel k, fuel⟩ (gtOf ds cons gcd mx) := fun {XX} g1 g2 g3 g4 g5 g6 g7 => by
      subst g1 g2 g3 g4 g5
      refine ⟨?_, ?_, ?_, ?_, ?_, ?_, ?_, ?_, ?_, ?_, ?_, ?_, ?_⟩
      · intro j x ps hj h0 hcm
        obtain ⟨d', hq, rfl, rfl⟩ := defs j x ps hj
        obtain ⟨f', fd', F, m1, m2, m3, m4, m5, m6, _⟩ := ih j d' hq
        exact ⟨⟨f', fd', k, F.1 h0, g6 hcm, m1, m2, m3⟩, m4, noCall j d' hq m6, m5⟩
      · intro j x ps hj h0
        obtain ⟨d', hq, rfl, rfl⟩ := defs j x ps hj
        obtain ⟨f', fd', F, m1, m2, m3, m4, m5, m6, _⟩ := ih j d' hq
        exact ⟨⟨f', fd', k, F.2 h0, g7, m1, m2, m3⟩, m4, noCall j d' hq m6, m5⟩
      · intro x n hx
        have := List.all_eq_true.mp o7 (x, n) hx
        simp only [Bool.and_eq_true, Bool.not_eq_true'] at this
        obtain ⟨t1, t2⟩ := this
        refine ⟨?_, t2⟩
        split at t1
        · rename_i m t et
          cases of_decide_eq_true t1
          exact ⟨t, PySem.W.mg_of X Gn et⟩
        · cases t1
      · intro b hb
        refine absent_of X Gn (List.all_eq_true.mp o2 b ?_)
        cases b <;> first | exact absurd rfl hb | simp [biAll]
      · intro n hn
        exact absent_of X Gn (List.all_eq_true.mp o3 n hn)
      · exact absent_of X Gn o4
      · exact absent_of X Gn o5
      · exact absent_of X Gn o6
      · intro x hx
        have hx : gcd = some x := hx
        rw [hx] at o8
        simp only [Bool.and_eq_true, Bool.not_eq_true'] at o8
        obtain ⟨t1, t2⟩ := o8
        refine ⟨?_, t2⟩
        split at t1
        · rename_i v ev
          exact (PySem.W.mg_of X Gn ev).trans (by rw [isGcd_of t1])
        · cases t1
      · intro x f hx
        exact excOk_of X Gn (List.all_eq_true.mp y1 (x, f) hx)
      · intro x D b hx
        exact subOk_of X Gn (List.all_eq_true.mp y2 (x, D, b) hx)
      · rcases y3 with z | z
        · exact .inr (emptyA_of z)
        · exact .inl (absent_of X Gn z)
      · have := g7.dp
        omega
    refine ⟨fun hot0 => ?_, fun hot1 => ?_⟩
    · refine fn_of (cdv := code) e2 p2 S (fun vs H Q E q => q.1) fun A outer s H vs Q E hr hsp => ?_
      refine body_ok (Γ := ds.map (·.fd)) (d := d.fd) (fuel := fuel) (k := k) (i := i) (by rw [List.getElem?_map, hd]; rfl) p5 p6.symm ?_ hsp
      refine cB_ok (G := gtOf ds cons gcd mx) d.fd.body ⟨d.N, scope.names, fun _ => true, _⟩ body p9 _ _ ⟨rfl, rfl, S.kind, rfl, by rw [hot0]; rfl, (fun z => by rw [hot0] at z; cases z), ?_, S.nd, names⟩ (gx rfl rfl rfl rfl rfl (fun _ => hr) (L2H.roomH_of hr)) (passes_of rfl) ⟨rfl, rfl⟩ (L2N.takes_of rfl rfl rfl rfl)
      have := hr.un
      show (A.deeper _).units + 65 < cLine
      omega
    · refine L2H.fn_ofH (cdv := code) e2 p2 S (fun vs H Q E q => q.1) fun A outer s H vs Q E p hot hr hsp => ?_
      refine body_okH (Γ := ds.map (·.fd)) (d := d.fd) (fuel := fuel) (k := k) (i := i) (by rw [List.getElem?_map, hd]; rfl) p5 p6.symm ?_ hsp
      refine cB_ok (G := gtOf ds cons gcd mx) d.fd.body ⟨d.N, scope.names, fun _ => true, _⟩ body p9 _ _ ⟨rfl, rfl, S.kind, rfl, by rw [hot1]; rfl, (fun _ => ⟨p, hot, List.mem_cons_self⟩), ?_, S.nd, names⟩ (gx rfl rfl rfl rfl rfl (fun z => nomatch z) hr) (passes_of rfl) ⟨rfl, rfl⟩ (L2N.takes_of rfl rfl rfl rfl)
      have := hr.un
      show (A.deeper _).units + 65 < cLine
      omega
end
/-- no list stands in the written part -/
def noList (K : PySem.W.Frag) : Bool := K.all fun p => match p.2.cls with
  | .type n => !decide (n = "list")
  | _ => true
theorem noList_of {K : PySem.W.Frag} (h : noList K = true) {a : Addr} {o : Obj} (e : K.lookup a = some o) : o.cls ≠ .type "list" := by
  have : ∀ {K : PySem.W.Frag}, noList K = true → K.lookup a = some o → o.cls ≠ .type "list" := by
    intro K
    induction K with
    | nil => intro _ e; simp at e
    | cons p r ih =>
      intro h e
      unfold noList at h
      rw [List.all_cons, Bool.and_eq_true] at h
      rw [List.lookup_cons] at e
      split at e
      · cases e
        intro q
        have h1 := h.1
        rw [q] at h1
        simp at h1
      · exact ih h.2 e
  exact this h e
/-- what the law is to do -/
def spLaw (K : PySem.W.Frag) : Sp := fun vs H Q _ => ∃ (a : Addr) (ns : List Int), vs = [.ref a] ∧ ns.length ≤ 63 ∧ Only H ∧ SqL K H a (ns.map V.int) ∧ ∀ H', Q (.bl true) H'
theorem law_ok {P : Program} {w : World} {K : PySem.W.Frag} {mg : Str → Option Value} {h0 : Heap} {ds : List DS} {cons : List (Str × Int)} {gcd : Option Str} {mx : MX} (X : K.In h0) (Gn : h0.Ns mainGlobals mg) (ok : modOk K ds cons gcd mx = true) (nl : noList K = true) {fuel k i : Nat} {d : DS} (hd : ds[i]? = some d) {x : Str} (hps : d.ps = [x])
    (pure : ∀ ns : List Int, ns.length ≤ 63 → ∃ h', callN (ds.map (·.fd)) fuel k i [.ref 0] [.fz ns] = .ok (.bl true) h') {fa : Addr} (hfa : mg d.name = some (.ref fa)) (okx : excsOk P K mx = true := by rfl) (hi : (gtOf ds cons gcd mx).hot i = false := by rfl) :
    ∃ fd, (∀ (s : Shared) (u : Value), BindsTo s fd ⟨[u], []⟩ [(x, u)]) ∧ ∀ base : Heap, FnOk P w K mg base (L2N.CX P w) k fa fd [x] (spLaw K) := by
  obtain ⟨f, fd, _, m1, m2, m3, m4, _, _, oc, od, sl, lk⟩ := mod_fns (P := P) (w := w) (base := h0) X Gn ok okx fuel k i d hd
  rw [hfa] at m1
  cases m1
  rw [hps] at m3 m4
  refine ⟨fd, fun s u => ?_, fun base => ?_⟩
  · have b := bind_plain m3 (us := [u]) (kw := []) (sl := [(x, u)]) (fun _ h => (nomatch h)) (by simp) rfl (fun n hn => by
      have : n = x := by simpa using hn
      simp [this, List.lookup_cons])
    refine BindsTo.of_eq (b.trans ?_)
    simp [List.lookup_cons]
  · obtain ⟨f', fd', F, n1, _, _, _, _, _, oc', od', sl', lk'⟩ := mod_fns (P := P) (w := w) (base := base) X Gn ok okx fuel k i d hd
    rw [hfa] at n1
    cases n1
    rw [lk] at lk'
    cases lk'
    rw [hps] at F
    refine (F.1 hi).imp fun vs H Q E q => ?_
    obtain ⟨a, ns, rfl, hl, hO, hS, hQ⟩ := q
    have hR : Rd H a (.lst (ns.map V.int)) := by
      rcases hS with h | ⟨o, its, n, e1, e2, _⟩
      · exact h
      · exact absurd e2 (noList_of nl e1)
    obtain ⟨h', he⟩ := pure ns hl
    have hz : ns.length ≤ sizeLine := by rw [sizeLine_eq]; omega
    rcases hR with hR | ⟨o, hR⟩
    · rcases hO a with h | ⟨_, _, h⟩
      · rw [hR] at h; cases h
      · rw [hR] at h; cases h
    · refine ⟨rfl, [a], [.fz ns], [.ref 0], ⟨rfl, by simp, fun n b u e1 e2 => ?_⟩, ⟨.ref a, [], rfl, ⟨a, rfl, rfl⟩, rfl⟩, ?_⟩
      · cases n with
        | zero =>
          simp at e1 e2
          subst e1 e2
          exact ⟨o, hR, hz⟩
        | succ n => simp at e1
      · rw [he]
        intro ι' H' b _ _ rb
        cases rb
        exact hQ H'
end Pu

set_option Elab.async false
set_option linter.all false
set_option maxRecDepth 100000
/-! the lines of k00 (printed by ir.py) -/
namespace K00
open PySem PySem.Spec Pu
def i_make_direction : Nat := 0
def i_steps_of : Nat := 1
def i_turned_directions : Nat := 2
def i_shift_sides : Nat := 3
def i_shifts_of : Nat := 4
def i_is_box_told : Nat := 5
def i_directions_within : Nat := 6
def i_turn_of : Nat := 7
def i_comes_ahead : Nat := 8
def i_slope_order : Nat := 9
def i_told_boxes : Nat := 10
def i_all_turns : Nat := 11
def i__law_source : Nat := 12
def i__law_take : Nat := 13
def i__law_of : Nat := 14
def i__law_same : Nat := 15
def i__law_gcd : Nat := 16
def i__law_directions : Nat := 17
def i__law_lot : Nat := 18
def i__law_direction : Nat := 19
def i__law_integer : Nat := 20
def i__law_refused : Nat := 21
def i__law_made : Nat := 22
def i__law_ahead : Nat := 23
def i__law_sloped : Nat := 24
def i__law_boxes : Nat := 25
def i__law_asked : Nat := 26
def i_law : Nat := 27
def i_hot__law_same : Nat := 28
def b_hot__law_same : Bk := (.cons (.asg (.name 2) (.lst (.cons (.tup (.cons (.var 0) (.cons (.var 1) .nil))) .nil))) (.cons (.wh (.cmp .Gt (.bi .len (.cons (.var 2) .nil)) (.con (.int 0))) (.cons (.asg (.tup (.cons (.name 3) (.cons (.name 4) .nil))) (.mt .pop (.var 2) .nil)) (.cons (.ite (.bi .isinst (.cons (.var 4) (.cons (.con (.ty "tuple")) .nil))) (.cons (.ite (.or (.cons (.not (.bi .isinst (.cons (.var 3) (.cons (.con (.ty "tuple")) .nil)))) (.cons (.cmp .NotEq (.bi .len (.cons (.var 3) .nil)) (.bi .len (.cons (.var 4) .nil))) .nil))) (.cons (.ret (.con (.bl false))) .nil) .nil) (.cons .bad .nil)) (.cons (.ite (.cmp .Is (.var 4) (.con .non)) (.cons (.ite (.cmp .IsNot (.var 3) (.con .non)) (.cons (.ret (.con (.bl false))) .nil) .nil) .nil) (.cons (.ite (.bi .isinst (.cons (.var 4) (.cons (.con (.ty "str")) .nil))) (.cons (.ite (.or (.cons (.not (.bi .isinst (.cons (.var 3) (.cons (.con (.ty "str")) .nil)))) (.cons (.cmp .NotEq (.var 3) (.var 4)) .nil))) (.cons (.ret (.con (.bl false))) .nil) .nil) .nil) (.cons (.ite (.or (.cons (.bi .isinst (.cons (.var 4) (.cons (.con (.ty "bool")) .nil))) (.cons (.bi .isinst (.cons (.var 3) (.cons (.con (.ty "bool")) .nil))) .nil))) (.cons (.ite (.or (.cons (.not (.bi .isinst (.cons (.var 3) (.cons (.con (.ty "bool")) .nil)))) (.cons (.not (.bi .isinst (.cons (.var 4) (.cons (.con (.ty "bool")) .nil)))) (.cons (.cmp .NotEq (.var 3) (.var 4)) .nil)))) (.cons (.ret (.con (.bl false))) .nil) .nil) .nil) (.cons (.ite (.or (.cons (.not (.bi .isinst (.cons (.var 3) (.cons (.con (.ty "int")) .nil)))) (.cons (.cmp .NotEq (.var 3) (.var 4)) .nil))) (.cons (.ret (.con (.bl false))) .nil) .nil) .nil)) .nil)) .nil)) .nil)) .nil))) (.cons (.ret (.con (.bl true))) .nil)))
def f_hot__law_same : FD := ⟨2, 6, b_hot__law_same⟩
def b_make_direction : Bk := (.cons (.asg (.name 2) (.bi .gcd (.cons (.var 0) (.cons (.var 1) .nil)))) (.cons (.ite (.cmp .Eq (.var 2) (.con (.int 0))) (.cons (.rai "BadStep" ["word"] (.cons (.con (.str "number")) .nil)) .nil) .nil) (.cons (.par 3 4 (.bin .FloorDiv (.var 0) (.var 2)) (.bin .FloorDiv (.var 1) (.var 2))) (.cons (.ite (.or (.cons (.cmp .Lt (.var 3) (.con (.int 0))) (.cons (.and (.cons (.cmp .Eq (.var 3) (.con (.int 0))) (.cons (.cmp .Lt (.var 4) (.con (.int 0))) .nil))) .nil))) (.cons (.ret (.tup (.cons (.neg (.var 3)) (.cons (.neg (.var 4)) .nil)))) .nil) .nil) (.cons (.ret (.tup (.cons (.var 3) (.cons (.var 4) .nil)))) .nil)))))
def f_make_direction : FD := ⟨2, 5, b_make_direction⟩
def b_steps_of : Bk := (.cons (.ret (.tup (.cons (.tr (.bi .sum (.cons (.lc [1, 2] (.tup (.cons (.name 1) (.cons (.name 2) .nil))) (.val (.var 0)) .nil (.var 1)) .nil))) (.cons (.tr (.bi .sum (.cons (.lc [1, 2] (.tup (.cons (.name 1) (.cons (.name 2) .nil))) (.val (.var 0)) .nil (.bi .abs (.cons (.var 2) .nil))) .nil))) .nil)))) .nil)
def f_steps_of : FD := ⟨1, 3, b_steps_of⟩
def b_turned_directions : Bk := (.cons (.ret (.tr (.bi .tuple (.cons (.lc [1, 2] (.tup (.cons (.name 1) (.cons (.name 2) .nil))) (.val (.var 0)) .nil (.call i_make_direction (.cons (.neg (.var 2)) (.cons (.var 1) .nil)))) .nil)))) .nil)
def f_turned_directions : FD := ⟨1, 3, b_turned_directions⟩
def b_shift_sides : Bk := (.cons (.asg (.tup (.cons (.name 2) (.cons (.name 3) .nil))) (.call i_steps_of (.cons (.var 1) .nil))) (.cons (.ite (.or (.cons (.cmp .GtE (.var 2) (.ix (.var 0) (.con (.int 0)))) (.cons (.cmp .GtE (.var 3) (.ix (.var 0) (.con (.int 1)))) .nil))) (.cons (.ret (.tup (.cons (.con (.int 0)) (.cons (.con (.int 0)) .nil)))) .nil) .nil) (.cons (.ret (.tup (.cons (.bin .Sub (.ix (.var 0) (.con (.int 0))) (.var 2)) (.cons (.bin .Sub (.ix (.var 0) (.con (.int 1))) (.var 3)) .nil)))) .nil)))
def f_shift_sides : FD := ⟨2, 4, b_shift_sides⟩
def b_shifts_of : Bk := (.cons (.asg (.tup (.cons (.name 2) (.cons (.name 3) .nil))) (.call i_shift_sides (.cons (.var 0) (.cons (.var 1) .nil)))) (.cons (.ret (.tr (.bi .tuple (.cons (.lc2 [4, 5] [5] (.name 4) (.rng (.cons (.var 2) .nil)) .nil (.name 5) (.rng (.cons (.var 3) .nil)) .nil (.tup (.cons (.var 4) (.cons (.var 5) .nil)))) .nil)))) .nil))
def f_shifts_of : FD := ⟨2, 6, b_shifts_of⟩
def b_is_box_told : Bk := (.cons (.ret (.not (.call i_shifts_of (.cons (.var 0) (.cons (.var 1) .nil))))) .nil)
def f_is_box_told : FD := ⟨2, 2, b_is_box_told⟩
def b_directions_within : Bk := (.cons (.asg (.name 1) (.lst (.cons (.tup (.cons (.con (.int 0)) (.cons (.con (.int 1)) .nil))) .nil))) (.cons (.fr (.name 2) (.rng (.cons (.con (.int 1)) (.cons (.bin .Add (.var 0) (.con (.int 1))) .nil))) (.cons (.exp (.mt .extend (.var 1) (.cons (.lc [3] (.name 3) (.rng (.cons (.neg (.var 0)) (.cons (.bin .Add (.var 0) (.con (.int 1))) .nil))) (.cons (.cmp .Eq (.bi .gcd (.cons (.var 2) (.cons (.var 3) .nil))) (.con (.int 1))) .nil) (.tup (.cons (.var 2) (.cons (.var 3) .nil)))) .nil))) .nil)) (.cons (.ret (.tr (.bi .tuple (.cons (.bi .sorted (.cons (.var 1) .nil)) .nil)))) .nil)))
def f_directions_within : FD := ⟨1, 4, b_directions_within⟩
def b_turn_of : Bk := (.cons (.ret (.bin .Sub (.bin .Mult (.ix (.var 0) (.con (.int 0))) (.ix (.var 1) (.con (.int 1)))) (.bin .Mult (.ix (.var 0) (.con (.int 1))) (.ix (.var 1) (.con (.int 0)))))) .nil)
def f_turn_of : FD := ⟨2, 2, b_turn_of⟩
def b_comes_ahead : Bk := (.cons (.par 2 3 (.cmp .Lt (.ix (.var 0) (.con (.int 1))) (.con (.int 0))) (.cmp .Lt (.ix (.var 1) (.con (.int 1))) (.con (.int 0)))) (.cons (.ite (.cmp .NotEq (.var 2) (.var 3)) (.cons (.ret (.var 3)) .nil) .nil) (.cons (.ret (.cmp .Gt (.call i_turn_of (.cons (.var 0) (.cons (.var 1) .nil))) (.con (.int 0)))) .nil)))
def f_comes_ahead : FD := ⟨2, 4, b_comes_ahead⟩
def b_slope_order : Bk := (.cons (.asg (.name 1) (.lst .nil)) (.cons (.fr (.name 2) (.val (.var 0)) (.cons (.asg (.name 3) (.con (.int 0))) (.cons (.wh (.and (.cons (.cmp .Lt (.var 3) (.bi .len (.cons (.var 1) .nil))) (.cons (.call i_comes_ahead (.cons (.ix (.var 1) (.var 3)) (.cons (.var 2) .nil))) .nil))) (.cons (.aug 3 .Add (.con (.int 1))) .nil)) (.cons (.exp (.mt .insert (.var 1) (.cons (.var 3) (.cons (.var 2) .nil)))) .nil)))) (.cons (.ret (.bi .tuple (.cons (.var 1) .nil))) .nil)))
def f_slope_order : FD := ⟨1, 4, b_slope_order⟩
def b_told_boxes : Bk := (.cons (.asg (.name 2) (.lst .nil)) (.cons (.fr (.name 3) (.rng (.cons (.con (.int 1)) (.cons (.bin .Add (.var 1) (.con (.int 1))) .nil))) (.cons (.fr (.name 4) (.rng (.cons (.con (.int 1)) (.cons (.bin .Add (.var 1) (.con (.int 1))) .nil))) (.cons (.ite (.and (.cons (.cmp .LtE (.bin .Mult (.var 3) (.var 4)) (.gcon "CELLS_MOST" (.int (42)))) (.cons (.call i_is_box_told (.cons (.tup (.cons (.var 3) (.cons (.var 4) .nil))) (.cons (.var 0) .nil))) .nil))) (.cons (.exp (.mt .append (.var 2) (.cons (.tup (.cons (.var 3) (.cons (.var 4) .nil))) .nil))) .nil) .nil) .nil)) .nil)) (.cons (.ret (.bi .tuple (.cons (.var 2) .nil))) .nil)))
def f_told_boxes : FD := ⟨2, 5, b_told_boxes⟩
def b_all_turns : Bk := (.cons (.ret (.tr (.bi .tuple (.cons (.lc [1] (.name 1) (.val (.var 0)) .nil (.tr (.bi .tuple (.cons (.lc [2] (.name 2) (.val (.var 0)) .nil (.call i_turn_of (.cons (.var 1) (.cons (.var 2) .nil)))) .nil)))) .nil)))) .nil)
def f_all_turns : FD := ⟨1, 3, b_all_turns⟩
def b__law_source : Bk := (.cons (.asg (.name 1) (.lst (.cons (.con (.int 73009)) .nil))) (.cons (.fr (.name 2) (.val (.sl (.var 0) .nil (.cons (.con (.int 63)) .nil))) (.cons (.asg (.name 3) (.bin .Mod (.bi .abs (.cons (.bi .int (.cons (.var 2) .nil)) .nil)) (.bin .LShift (.con (.int 1)) (.con (.int 2000))))) (.cons (.asg (.sub (.var 1) (.con (.int 0))) (.bin .Mod (.bi .int (.cons (.bin .Add (.bin .Add (.bin .Mult (.ix (.var 1) (.con (.int 0))) (.con (.int 48271))) (.bin .Mod (.var 3) (.con (.int 999983)))) (.con (.int 1))) .nil)) (.con (.int 2147483647)))) (.cons (.ite (.cmp .GtE (.var 3) (.bin .Pow (.con (.int 10)) (.con (.int 18)))) (.cons (.exp (.mt .append (.var 1) (.cons (.var 3) .nil))) .nil) .nil) .nil)))) (.cons (.ret (.var 1)) .nil)))
def f__law_source : FD := ⟨1, 4, b__law_source⟩
def b__law_take : Bk := (.cons (.ite (.cmp .Gt (.bi .len (.cons (.var 0) .nil)) (.con (.int 1))) (.cons (.asg (.name 2) (.bi .int (.cons (.mt .pop (.var 0) .nil) .nil))) (.cons (.ite (.cmp .GtE (.var 2) (.var 1)) (.cons (.exp (.mt .append (.var 0) (.cons (.bin .FloorDiv (.var 2) (.var 1)) .nil))) .nil) .nil) (.cons (.ret (.bin .Mod (.var 2) (.var 1))) .nil))) .nil) (.cons (.asg (.sub (.var 0) (.con (.int 0))) (.bin .Mod (.bi .int (.cons (.bin .Add (.bin .Mult (.ix (.var 0) (.con (.int 0))) (.con (.int 39373))) (.con (.int 73013))) .nil)) (.con (.int 2147483647)))) (.cons (.ret (.bin .Mod (.bi .int (.cons (.bin .FloorDiv (.ix (.var 0) (.con (.int 0))) (.con (.int 83))) .nil)) (.var 1))) .nil)))
def f__law_take : FD := ⟨2, 3, b__law_take⟩
def b__law_of : Bk := (.cons (.ret (.ix (.var 1) (.call i__law_take (.cons (.var 0) (.cons (.bi .len (.cons (.var 1) .nil)) .nil))))) .nil)
def f__law_of : FD := ⟨2, 2, b__law_of⟩
def b__law_same : Bk := (.cons (.asg (.name 2) (.lst (.cons (.tup (.cons (.var 0) (.cons (.var 1) .nil))) .nil))) (.cons (.wh (.cmp .Gt (.bi .len (.cons (.var 2) .nil)) (.con (.int 0))) (.cons (.asg (.tup (.cons (.name 3) (.cons (.name 4) .nil))) (.mt .pop (.var 2) .nil)) (.cons (.ite (.bi .isinst (.cons (.var 4) (.cons (.con (.ty "tuple")) .nil))) (.cons (.ite (.or (.cons (.not (.bi .isinst (.cons (.var 3) (.cons (.con (.ty "tuple")) .nil)))) (.cons (.cmp .NotEq (.bi .len (.cons (.var 3) .nil)) (.bi .len (.cons (.var 4) .nil))) .nil))) (.cons (.ret (.con (.bl false))) .nil) .nil) (.cons (.exp (.mt .extend (.var 2) (.cons (.lc [5] (.name 5) (.rng (.cons (.bi .len (.cons (.var 4) .nil)) .nil)) .nil (.tup (.cons (.ix (.var 3) (.var 5)) (.cons (.ix (.var 4) (.var 5)) .nil)))) .nil))) .nil)) (.cons (.ite (.cmp .Is (.var 4) (.con .non)) (.cons (.ite (.cmp .IsNot (.var 3) (.con .non)) (.cons (.ret (.con (.bl false))) .nil) .nil) .nil) (.cons (.ite (.bi .isinst (.cons (.var 4) (.cons (.con (.ty "str")) .nil))) (.cons (.ite (.or (.cons (.not (.bi .isinst (.cons (.var 3) (.cons (.con (.ty "str")) .nil)))) (.cons (.cmp .NotEq (.var 3) (.var 4)) .nil))) (.cons (.ret (.con (.bl false))) .nil) .nil) .nil) (.cons (.ite (.or (.cons (.bi .isinst (.cons (.var 4) (.cons (.con (.ty "bool")) .nil))) (.cons (.bi .isinst (.cons (.var 3) (.cons (.con (.ty "bool")) .nil))) .nil))) (.cons (.ite (.or (.cons (.not (.bi .isinst (.cons (.var 3) (.cons (.con (.ty "bool")) .nil)))) (.cons (.not (.bi .isinst (.cons (.var 4) (.cons (.con (.ty "bool")) .nil)))) (.cons (.cmp .NotEq (.var 3) (.var 4)) .nil)))) (.cons (.ret (.con (.bl false))) .nil) .nil) .nil) (.cons (.ite (.or (.cons (.not (.bi .isinst (.cons (.var 3) (.cons (.con (.ty "int")) .nil)))) (.cons (.cmp .NotEq (.var 3) (.var 4)) .nil))) (.cons (.ret (.con (.bl false))) .nil) .nil) .nil)) .nil)) .nil)) .nil)) .nil))) (.cons (.ret (.con (.bl true))) .nil)))
def f__law_same : FD := ⟨2, 6, b__law_same⟩
def b__law_gcd : Bk := (.cons (.wh (.cmp .NotEq (.var 1) (.con (.int 0))) (.cons (.par 0 1 (.var 1) (.bin .Mod (.bi .int (.cons (.var 0) .nil)) (.var 1))) .nil)) (.cons (.ret (.bi .abs (.cons (.var 0) .nil))) .nil))
def f__law_gcd : FD := ⟨2, 2, b__law_gcd⟩
def b__law_directions : Bk := (.cons (.asg (.name 1) (.lst .nil)) (.cons (.fr (.name 2) (.rng (.cons (.bin .Add (.var 0) (.con (.int 1))) .nil)) (.cons (.exp (.mt .extend (.var 1) (.cons (.lc [3] (.name 3) (.rng (.cons (.neg (.var 0)) (.cons (.bin .Add (.var 0) (.con (.int 1))) .nil))) (.cons (.and (.cons (.cmp .Eq (.call i__law_gcd (.cons (.var 2) (.cons (.var 3) .nil))) (.con (.int 1))) (.cons (.or (.cons (.cmp .Gt (.var 2) (.con (.int 0))) (.cons (.cmp .Gt (.var 3) (.con (.int 0))) .nil))) .nil))) .nil) (.tup (.cons (.var 2) (.cons (.var 3) .nil)))) .nil))) .nil)) (.cons (.ret (.var 1)) .nil)))
def f__law_directions : FD := ⟨1, 4, b__law_directions⟩
def b__law_lot : Bk := (.cons (.asg (.name 2) (.ix (.tup (.cons (.con (.int 1)) (.cons (.con (.int 2)) (.cons (.con (.int 4)) (.cons (.con (.int 4)) .nil))))) (.call i__law_take (.cons (.var 0) (.cons (.con (.int 4)) .nil))))) (.cons (.asg (.name 3) (.call i__law_directions (.cons (.var 2) .nil))) (.cons (.ite (.cmp .Eq (.call i__law_take (.cons (.var 0) (.cons (.con (.int 5)) .nil))) (.con (.int 0))) (.cons (.asg (.name 3) (.lst (.cons (.tup (.cons (.con (.int 1)) (.cons (.con (.int 0)) .nil))) (.cons (.tup (.cons (.con (.int 0)) (.cons (.con (.int 1)) .nil))) .nil)))) .nil) .nil) (.cons (.asg (.name 4) (.lst .nil)) (.cons (.fr (.name 5) (.rng (.cons (.bin .Add (.con (.int 1)) (.call i__law_take (.cons (.var 0) (.cons (.var 1) .nil)))) .nil)) (.cons (.ite (.cmp .Gt (.bi .len (.cons (.var 3) .nil)) (.con (.int 0))) (.cons (.exp (.mt .append (.var 4) (.cons (.mt .pop (.var 3) (.cons (.call i__law_take (.cons (.var 0) (.cons (.bi .len (.cons (.var 3) .nil)) .nil))) .nil)) .nil))) .nil) .nil) .nil)) (.cons (.ret (.bi .tuple (.cons (.var 4) .nil))) .nil))))))
def f__law_lot : FD := ⟨2, 6, b__law_lot⟩
def b__law_direction : Bk := (.cons (.asg (.name 2) (.call i__law_gcd (.cons (.var 0) (.cons (.var 1) .nil)))) (.cons (.ite (.or (.cons (.cmp .Lt (.var 0) (.con (.int 0))) (.cons (.and (.cons (.cmp .Eq (.var 0) (.con (.int 0))) (.cons (.cmp .Lt (.var 1) (.con (.int 0))) .nil))) .nil))) (.cons (.asg (.name 2) (.bin .Sub (.con (.int 0)) (.var 2))) .nil) .nil) (.cons (.ret (.tup (.cons (.bin .FloorDiv (.var 0) (.var 2)) (.cons (.bin .FloorDiv (.var 1) (.var 2)) .nil)))) .nil)))
def f__law_direction : FD := ⟨2, 3, b__law_direction⟩
def b__law_integer : Bk := (.cons (.asg (.name 1) (.ix (.tup (.cons (.con (.int 3)) (.cons (.con (.int 9)) (.cons (.con (.int 100)) (.cons (.bin .Pow (.con (.int 10)) (.con (.int 9))) .nil))))) (.call i__law_take (.cons (.var 0) (.cons (.con (.int 4)) .nil))))) (.cons (.asg (.name 2) (.call i__law_take (.cons (.var 0) (.cons (.bin .Add (.var 1) (.con (.int 1))) .nil)))) (.cons (.ret (.ite (.cmp .Eq (.call i__law_take (.cons (.var 0) (.cons (.con (.int 2)) .nil))) (.con (.int 0))) (.var 2) (.bin .Sub (.con (.int 0)) (.var 2)))) .nil)))
def f__law_integer : FD := ⟨1, 3, b__law_integer⟩
def b__law_refused : Bk := (.cons (.trya (.cons (.exp (.call i_make_direction (.cons (.con (.int 0)) (.cons (.con (.int 0)) .nil)))) .nil) ["BadStep"] [] (.and (.isi ["BadStep"] []) (.call i_hot__law_same (.cons (.fld "word") (.cons (.con (.str "number")) .nil))))) (.cons (.ret (.con (.bl false))) .nil))
def f__law_refused : FD := ⟨0, 1, b__law_refused⟩
def b__law_made : Bk := (.cons (.fr (.name 1) (.rng (.cons (.con (.int 6)) .nil)) (.cons (.par 5 6 (.call i__law_integer (.cons (.var 0) .nil)) (.call i__law_integer (.cons (.var 0) .nil))) (.cons (.ite (.cmp .Eq (.var 1) (.con (.int 0))) (.cons (.asg (.name 5) (.con (.int 0))) .nil) .nil) (.cons (.ite (.cmp .Eq (.var 1) (.con (.int 1))) (.cons (.asg (.name 6) (.con (.int 0))) .nil) .nil) (.cons (.ite (.cmp .Eq (.var 1) (.con (.int 2))) (.cons (.asg (.name 3) (.bin .Add (.con (.int 1)) (.call i__law_take (.cons (.var 0) (.cons (.con (.int 1000)) .nil))))) (.cons (.par 5 6 (.bin .Mult (.var 5) (.var 3)) (.bin .Mult (.var 6) (.var 3))) .nil)) .nil) (.cons (.ite (.and (.cons (.cmp .NotEq (.tup (.cons (.var 5) (.cons (.var 6) .nil))) (.tup (.cons (.con (.int 0)) (.cons (.con (.int 0)) .nil)))) (.cons (.not (.call i__law_same (.cons (.call i_make_direction (.cons (.var 5) (.cons (.var 6) .nil))) (.cons (.call i__law_direction (.cons (.var 5) (.cons (.var 6) .nil))) .nil)))) .nil))) (.cons (.ret (.con (.bl false))) .nil) .nil) .nil)))))) (.cons (.asg (.name 2) (.tr (.call i__law_of (.cons (.var 0) (.cons (.call i__law_directions (.cons (.con (.int 4)) .nil)) .nil))))) (.cons (.asg (.name 3) (.bin .Add (.con (.int 1)) (.call i__law_take (.cons (.var 0) (.cons (.bin .Pow (.con (.int 10)) (.con (.int 6))) .nil))))) (.cons (.asg (.name 4) (.tup (.cons (.call i_make_direction (.cons (.bin .Mult (.ix (.var 2) (.con (.int 0))) (.var 3)) (.cons (.bin .Mult (.ix (.var 2) (.con (.int 1))) (.var 3)) .nil))) (.cons (.callk i_make_direction .nil (.cons (.bin .Sub (.con (.int 0)) (.bin .Mult (.ix (.var 2) (.con (.int 0))) (.var 3))) (.cons (.bin .Sub (.con (.int 0)) (.bin .Mult (.ix (.var 2) (.con (.int 1))) (.var 3))) .nil)) [0, 1]) .nil)))) (.cons (.ret (.and (.cons (.call i__law_same (.cons (.var 4) (.cons (.tup (.cons (.var 2) (.cons (.var 2) .nil))) .nil))) (.cons (.call0 i__law_refused) .nil)))) .nil)))))
def f__law_made : FD := ⟨1, 7, b__law_made⟩
def b__law_ahead : Bk := (.cons (.asg (.name 2) (.lst .nil)) (.cons (.fr (.tup (.cons (.name 3) (.cons (.name 4) .nil))) (.val (.tup (.cons (.var 0) (.cons (.var 1) .nil)))) (.cons (.exp (.mt .append (.var 2) (.cons (.ite (.cmp .Eq (.var 4) (.con (.int 0))) (.con (.int 0)) (.ite (.cmp .Eq (.var 3) (.con (.int 0))) (.con (.int 2)) (.ite (.cmp .Gt (.var 4) (.con (.int 0))) (.con (.int 1)) (.con (.int 3))))) .nil))) .nil)) (.cons (.ite (.cmp .NotEq (.ix (.var 2) (.con (.int 0))) (.ix (.var 2) (.con (.int 1)))) (.cons (.ret (.cmp .Lt (.ix (.var 2) (.con (.int 0))) (.ix (.var 2) (.con (.int 1))))) .nil) .nil) (.cons (.ret (.cmp .Lt (.bin .Mult (.ix (.var 0) (.con (.int 1))) (.ix (.var 1) (.con (.int 0)))) (.bin .Mult (.ix (.var 1) (.con (.int 1))) (.ix (.var 0) (.con (.int 0)))))) .nil))))
def f__law_ahead : FD := ⟨2, 5, b__law_ahead⟩
def b__law_sloped : Bk := (.cons (.asg (.name 1) (.lst .nil)) (.cons (.fr (.name 2) (.val (.var 0)) (.cons (.asg (.name 3) (.tr (.bi .len (.cons (.lc [4] (.name 4) (.val (.var 1)) (.cons (.call i__law_ahead (.cons (.var 4) (.cons (.var 2) .nil))) .nil) (.var 4)) .nil)))) (.cons (.exp (.mt .insert (.var 1) (.cons (.var 3) (.cons (.var 2) .nil)))) .nil))) (.cons (.ret (.bi .tuple (.cons (.var 1) .nil))) .nil)))
def f__law_sloped : FD := ⟨1, 5, b__law_sloped⟩
def b__law_boxes : Bk := (.cons (.asg (.name 2) (.tr (.bi .sum (.cons (.lc [6, 7] (.tup (.cons (.name 6) (.cons (.name 7) .nil))) (.val (.var 0)) .nil (.var 6)) .nil)))) (.cons (.asg (.name 3) (.tr (.bi .sum (.cons (.lc [6, 7] (.tup (.cons (.name 6) (.cons (.name 7) .nil))) (.val (.var 0)) .nil (.bi .abs (.cons (.var 7) .nil))) .nil)))) (.cons (.asg (.name 4) (.lst .nil)) (.cons (.fr (.name 5) (.rng (.cons (.con (.int 1)) (.cons (.bin .Add (.var 1) (.con (.int 1))) .nil))) (.cons (.exp (.mt .extend (.var 4) (.cons (.lc [8] (.name 8) (.rng (.cons (.con (.int 1)) (.cons (.bin .Add (.var 1) (.con (.int 1))) .nil))) (.cons (.and (.cons (.cmp .LtE (.bin .Mult (.var 5) (.var 8)) (.con (.int 42))) (.cons (.or (.cons (.cmp .GtE (.var 2) (.var 5)) (.cons (.cmp .GtE (.var 3) (.var 8)) .nil))) .nil))) .nil) (.tup (.cons (.var 5) (.cons (.var 8) .nil)))) .nil))) .nil)) (.cons (.ret (.bi .tuple (.cons (.var 4) .nil))) .nil)))))
def f__law_boxes : FD := ⟨2, 9, b__law_boxes⟩
def b__law_asked : Bk := (.cons (.asg (.name 2) (.tr (.bi .tuple (.cons (.lc [8, 9] (.tup (.cons (.name 8) (.cons (.name 9) .nil))) (.val (.var 1)) .nil (.call i__law_direction (.cons (.bin .Sub (.con (.int 0)) (.var 9)) (.cons (.var 8) .nil)))) .nil)))) (.cons (.asg (.name 3) (.tup (.cons (.tr (.bi .sum (.cons (.lc [8, 9] (.tup (.cons (.name 8) (.cons (.name 9) .nil))) (.val (.var 1)) .nil (.var 8)) .nil))) (.cons (.tr (.bi .sum (.cons (.lc [8, 9] (.tup (.cons (.name 8) (.cons (.name 9) .nil))) (.val (.var 1)) .nil (.bi .abs (.cons (.var 9) .nil))) .nil))) .nil)))) (.cons (.ite (.or (.cons (.not (.call i__law_same (.cons (.call i_steps_of (.cons (.var 1) .nil)) (.cons (.var 3) .nil)))) (.cons (.not (.call i__law_same (.cons (.call i_turned_directions (.cons (.var 1) .nil)) (.cons (.var 2) .nil)))) .nil))) (.cons (.ret (.con (.bl false))) .nil) .nil) (.cons (.ite (.or (.cons (.not (.call i__law_same (.cons (.call i_turned_directions (.cons (.var 2) .nil)) (.cons (.var 1) .nil)))) (.cons (.not (.call i__law_same (.cons (.call i_slope_order (.cons (.var 1) .nil)) (.cons (.call i__law_sloped (.cons (.var 1) .nil)) .nil)))) .nil))) (.cons (.ret (.con (.bl false))) .nil) .nil) (.cons (.asg (.name 4) (.tr (.bi .tuple (.cons (.lc [8, 9] (.tup (.cons (.name 8) (.cons (.name 9) .nil))) (.val (.var 1)) .nil (.tr (.bi .tuple (.cons (.lc [10, 11] (.tup (.cons (.name 10) (.cons (.name 11) .nil))) (.val (.var 1)) .nil (.bin .Sub (.bin .Mult (.var 8) (.var 11)) (.bin .Mult (.var 9) (.var 10)))) .nil)))) .nil)))) (.cons (.ite (.not (.call i__law_same (.cons (.call i_all_turns (.cons (.var 1) .nil)) (.cons (.var 4) .nil)))) (.cons (.ret (.con (.bl false))) .nil) .nil) (.cons (.par 6 7 (.call i__law_of (.cons (.var 0) (.cons (.var 1) .nil))) (.tr (.call i__law_of (.cons (.var 0) (.cons (.call i__law_directions (.cons (.con (.int 4)) .nil)) .nil))))) (.cons (.ite (.not (.call i__law_same (.cons (.call i_turn_of (.cons (.var 6) (.cons (.var 7) .nil))) (.cons (.bin .Sub (.bin .Mult (.ix (.var 6) (.con (.int 0))) (.ix (.var 7) (.con (.int 1)))) (.bin .Mult (.ix (.var 6) (.con (.int 1))) (.ix (.var 7) (.con (.int 0))))) .nil)))) (.cons (.ret (.con (.bl false))) .nil) .nil) (.cons (.asg (.name 5) (.bin .Add (.con (.int 1)) (.call i__law_take (.cons (.var 0) (.cons (.con (.int 8)) .nil))))) (.cons (.ret (.call i__law_same (.cons (.call i_told_boxes (.cons (.var 1) (.cons (.var 5) .nil))) (.cons (.call i__law_boxes (.cons (.var 1) (.cons (.var 5) .nil))) .nil)))) .nil))))))))))
def f__law_asked : FD := ⟨2, 12, b__law_asked⟩
def b_law : Bk := (.cons (.asg (.name 1) (.call i__law_source (.cons (.var 0) .nil))) (.cons (.ite (.not (.call i__law_made (.cons (.var 1) .nil))) (.cons (.ret (.con (.bl false))) .nil) .nil) (.cons (.fr (.name 2) (.rng (.cons (.con (.int 4)) .nil)) (.cons (.ite (.not (.call i__law_asked (.cons (.var 1) (.cons (.call i__law_lot (.cons (.var 1) (.cons (.con (.int 4)) .nil))) .nil)))) (.cons (.ret (.con (.bl false))) .nil) .nil) .nil)) (.cons (.asg (.name 3) (.bin .Add (.con (.int 1)) (.call i__law_take (.cons (.var 1) (.cons (.con (.int 4)) .nil))))) (.cons (.ite (.or (.cons (.not (.call i__law_same (.cons (.call i_directions_within (.cons (.var 3) .nil)) (.cons (.tr (.bi .tuple (.cons (.call i__law_directions (.cons (.var 3) .nil)) .nil))) .nil)))) (.cons (.cmp .NotEq (.bi .len (.cons (.call i_directions_within (.cons (.con (.int 2)) .nil)) .nil)) (.con (.int 8))) .nil))) (.cons (.ret (.con (.bl false))) .nil) .nil) (.cons (.asg (.name 4) (.tup (.cons (.tup (.cons (.con (.int 1)) (.cons (.neg (.con (.int 1))) .nil))) (.cons (.tup (.cons (.con (.int 2)) (.cons (.neg (.con (.int 1))) .nil))) (.cons (.tup (.cons (.con (.int 0)) (.cons (.con (.int 1)) .nil))) (.cons (.tup (.cons (.con (.int 1)) (.cons (.con (.int 4)) .nil))) .nil)))))) (.cons (.ite (.or (.cons (.not (.call i__law_asked (.cons (.var 1) (.cons (.var 4) .nil)))) (.cons (.not (.call i__law_same (.cons (.callk i_slope_order .nil (.cons (.var 4) .nil) [0]) (.cons (.tup (.cons (.tup (.cons (.con (.int 1)) (.cons (.con (.int 4)) .nil))) (.cons (.tup (.cons (.con (.int 0)) (.cons (.con (.int 1)) .nil))) (.cons (.tup (.cons (.con (.int 1)) (.cons (.neg (.con (.int 1))) .nil))) (.cons (.tup (.cons (.con (.int 2)) (.cons (.neg (.con (.int 1))) .nil))) .nil))))) .nil)))) .nil))) (.cons (.ret (.con (.bl false))) .nil) .nil) (.cons (.ret (.and (.cons (.call i__law_same (.cons (.callk i_told_boxes .nil (.cons (.con (.int 2)) (.cons (.tup (.cons (.tup (.cons (.con (.int 1)) (.cons (.con (.int 0)) .nil))) .nil)) .nil)) [1, 0]) (.cons (.tup (.cons (.tup (.cons (.con (.int 1)) (.cons (.con (.int 1)) .nil))) (.cons (.tup (.cons (.con (.int 1)) (.cons (.con (.int 2)) .nil))) .nil))) .nil))) (.cons (.call i__law_same (.cons (.callk i_turn_of .nil (.cons (.tup (.cons (.con (.int 1)) (.cons (.neg (.con (.int 1))) .nil))) (.cons (.tup (.cons (.con (.int 1)) (.cons (.con (.int 1)) .nil))) .nil)) [1, 0]) (.cons (.neg (.con (.int 2))) .nil))) .nil)))) .nil))))))))
def f_law : FD := ⟨1, 5, b_law⟩
def ds : List DS := [
  ⟨"make_direction", ["a", "b"], ["a", "b", "common", "first", "second"], f_make_direction⟩,
  ⟨"steps_of", ["directions"], ["directions", "a", "b"], f_steps_of⟩,
  ⟨"turned_directions", ["directions"], ["directions", "a", "b"], f_turned_directions⟩,
  ⟨"shift_sides", ["box", "directions"], ["box", "directions", "across", "up"], f_shift_sides⟩,
  ⟨"shifts_of", ["box", "directions"], ["box", "directions", "across", "up", "first", "second"], f_shifts_of⟩,
  ⟨"is_box_told", ["box", "directions"], ["box", "directions"], f_is_box_told⟩,
  ⟨"directions_within", ["span"], ["span", "found", "a", "b"], f_directions_within⟩,
  ⟨"turn_of", ["one", "other"], ["one", "other"], f_turn_of⟩,
  ⟨"comes_ahead", ["one", "other"], ["one", "other", "first", "second"], f_comes_ahead⟩,
  ⟨"slope_order", ["directions"], ["directions", "found", "direction", "at"], f_slope_order⟩,
  ⟨"told_boxes", ["directions", "most"], ["directions", "most", "found", "across", "up"], f_told_boxes⟩,
  ⟨"all_turns", ["directions"], ["directions", "one", "other"], f_all_turns⟩,
  ⟨"_law_source", ["script"], ["script", "source", "cell", "size"], f__law_source⟩,
  ⟨"_law_take", ["source", "many"], ["source", "many", "size"], f__law_take⟩,
  ⟨"_law_of", ["source", "things"], ["source", "things"], f__law_of⟩,
  ⟨"_law_same", ["told", "due"], ["told", "due", "rest", "one", "other", "at"], f__law_same⟩,
  ⟨"_law_gcd", ["one", "other"], ["one", "other"], f__law_gcd⟩,
  ⟨"_law_directions", ["span"], ["span", "told", "a", "b"], f__law_directions⟩,
  ⟨"_law_lot", ["source", "most"], ["source", "most", "span", "left", "told", "lap"], f__law_lot⟩,
  ⟨"_law_direction", ["a", "b"], ["a", "b", "common"], f__law_direction⟩,
  ⟨"_law_integer", ["source"], ["source", "size", "number"], f__law_integer⟩,
  ⟨"_law_refused", [], ["error"], f__law_refused⟩,
  ⟨"_law_made", ["source"], ["source", "lap", "direction", "times", "told", "a", "b"], f__law_made⟩,
  ⟨"_law_ahead", ["one", "other"], ["one", "other", "ranks", "a", "b"], f__law_ahead⟩,
  ⟨"_law_sloped", ["directions"], ["directions", "told", "direction", "at", "one"], f__law_sloped⟩,
  ⟨"_law_boxes", ["directions", "most"], ["directions", "most", "wide", "high", "told", "m", "a", "b", "n"], f__law_boxes⟩,
  ⟨"_law_asked", ["source", "directions"], ["source", "directions", "turned", "steps", "turns", "most", "one", "other", "a", "b", "c", "d"], f__law_asked⟩,
  ⟨"law", ["script"], ["script", "source", "lap", "span", "lot"], f_law⟩,
  ⟨"_law_same", ["told", "due"], ["told", "due", "rest", "one", "other", "at"], f_hot__law_same⟩]
def mx : MX := { hots := [28], excs := [("BadStep", "word")], subs := [("BadStep", "BadStep", true), ("BadStep", "CallError", true)] }
def cons : List (Str × Int) := [("CELLS_MOST", 42)]
def gcdN : Option Str := (some "gcd")
abbrev cN := callN (ds.map (·.fd)) 1000
end K00

set_option Elab.async false
set_option linter.all false
set_option maxRecDepth 100000
/-! Pm1: the evaluator's steps as equations; loops by lists. -/
namespace Pu
open PySem PySem.Spec PyProof.Rows L2
theorem call_of {Γ : List FD} {F k i : Nat} {d : FD} {vs : List PV} {h : PH} (hd : Γ[i]? = some d) (hl : vs.length = d.np) : callN Γ F (k + 1) i vs h = ends h (evB ⟨callN Γ F k, F⟩ d.body (frame d vs) h) := by
  show (match Γ[i]? with
    | some d => if vs.length = d.np then ends h (evB ⟨callN Γ F k, F⟩ d.body (frame d vs) h) else Res.bad
    | none => Res.bad) = _
  rw [hd]
  exact if_pos hl
theorem okOld_same (n : Nat) : ∀ (h0 g : PH), okOld n h0 (h0 ++ g) = true
  | [], _ => rfl
  | o :: r, g => by simp [okOld, okOld_same n r g]
@[simp] theorem trimH_app (b : Bool) (h g : PH) : trimH b h (h ++ g) = if b = true then h else h ++ g := by
  unfold trimH
  rw [okOld_same]
  cases b <;> simp
@[simp] theorem trimH_same (b : Bool) (h : PH) : trimH b h h = h := by
  have := trimH_app b h []
  simp at this
  exact this
theorem log2_lt {n a : Nat} (ha : 0 < a) (h : n < 2 ^ a) : n.log2 < a := by
  by_cases h0 : n = 0
  · subst h0
    simpa using ha
  · exact (Nat.log2_lt h0).mpr h
/-- small numbers -/
def Sm400 (i : Int) : Prop := i.natAbs < 2 ^ 400
theorem mulOk_s {i j : Int} (hi : Sm400 i) (hj : Sm400 j) : mulOk i j = true := by
  have h1 := log2_lt (by decide) hi
  have h2 := log2_lt (by decide) hj
  unfold mulOk
  exact decide_eq_true (by omega)
theorem sm_le {i : Int} (h1 : -1000000000000 ≤ i) (h2 : i ≤ 1000000000000) : Sm400 i := by
  have : i.natAbs ≤ 1000000000000 := by omega
  have h : (1000000000000 : Nat) < 2 ^ 400 := by decide +kernel
  exact Nat.lt_of_le_of_lt this h
theorem atI_of {α : Type} {xs : List α} {i : Int} {j : Nat} (e : i = j) : atI xs i = xs[j]? := by
  subst e
  unfold atI ixN
  by_cases h : (j : Int) < xs.length
  · simp [h]
  · rw [if_pos (by omega), if_neg h]
    rw [List.getElem?_eq_none (by omega)]
    rfl
@[simp] theorem atI_0 {α : Type} (x : α) (xs : List α) : atI (x :: xs) 0 = some x := atI_of (j := 0) rfl
@[simp] theorem atI_1 {α : Type} (x y : α) (xs : List α) : atI (x :: y :: xs) 1 = some y := atI_of (j := 1) rfl
@[simp] theorem atI_2 {α : Type} (x y z : α) (xs : List α) : atI (x :: y :: z :: xs) 2 = some z := atI_of (j := 2) rfl
section
variable (C : Cfg) (ρ : Env) (h : PH)
@[simp] theorem ev_var (i : Nat) : ev C (.var i) ρ h = opt (look ρ i) h := id rfl
@[simp] theorem ev_con (v : PV) : ev C (.con v) ρ h = .ok v h := id rfl
@[simp] theorem ev_gcon (x : Str) (v : PV) : ev C (.gcon x v) ρ h = .ok v h := id rfl
@[simp] theorem ev_tup (es : Exs) : ev C (.tup es) ρ h = (evs C es ρ h).bind fun xs h => guardR (decide (xs.length ≤ sizeLine)) (.ok (.tup xs) h) := id rfl
@[simp] theorem ev_lst (es : Exs) : ev C (.lst es) ρ h = (evs C es ρ h).bind fun xs h => guardR (decide (xs.length ≤ sizeLine)) (new (.lst xs) h) := id rfl
@[simp] theorem ev_bin (op : Operator) (a b : Ex) : ev C (.bin op a b) ρ h = (ev C a ρ h).bind fun x h => (ev C b ρ h).bind fun y h => noX (binop op x y h) := id rfl
@[simp] theorem ev_neg (a : Ex) : ev C (.neg a) ρ h = (ev C a ρ h).bind fun x h => noX (negV x h) := id rfl
@[simp] theorem ev_not (a : Ex) : ev C (.not a) ρ h = (ev C a ρ h).bind fun x h => (truthy x h).bind fun b h => .ok (.bl (!b)) h := id rfl
@[simp] theorem ev_and1 (a : Ex) : ev C (.and (.cons a .nil)) ρ h = (ev C a ρ h).bind fun x h => .ok x h := id rfl
@[simp] theorem ev_and2 (a b : Ex) (es : Exs) : ev C (.and (.cons a (.cons b es))) ρ h = (ev C a ρ h).bind fun x h => (truthy x h).bind fun t h => if t = true then ev C (.and (.cons b es)) ρ h else .ok x h := id rfl
@[simp] theorem ev_or1 (a : Ex) : ev C (.or (.cons a .nil)) ρ h = (ev C a ρ h).bind fun x h => .ok x h := id rfl
@[simp] theorem ev_or2 (a b : Ex) (es : Exs) : ev C (.or (.cons a (.cons b es))) ρ h = (ev C a ρ h).bind fun x h => (truthy x h).bind fun t h => if t = true then .ok x h else ev C (.or (.cons b es)) ρ h := id rfl
@[simp] theorem ev_ite (c a b : Ex) : ev C (.ite c a b) ρ h = (ev C c ρ h).bind fun x h => (truthy x h).bind fun t h => if t = true then ev C a ρ h else ev C b ρ h := id rfl
@[simp] theorem ev_cmp (op : CmpOp) (a b : Ex) : ev C (.cmp op a b) ρ h = (ev C a ρ h).bind fun x h => (ev C b ρ h).bind fun y h => noX (cmpop op x y h) := id rfl
@[simp] theorem ev_ix (a i : Ex) : ev C (.ix a i) ρ h = (ev C a ρ h).bind fun x h => (ev C i ρ h).bind fun y h => noX (ixV x y h) := id rfl
@[simp] theorem ev_sl (a : Ex) (lo hi : Exs) : ev C (.sl a lo hi) ρ h = (ev C a ρ h).bind fun x h => (evs C lo ρ h).bind fun l h => (noX (bnd l h)).bind fun l h => (evs C hi ρ h).bind fun u h => (noX (bnd u h)).bind fun u h => noX (slV x l u h) := id rfl
@[simp] theorem ev_call0 (f : Nat) : ev C (.call0 f) ρ h = noX (C.call f [] h) := id rfl
@[simp] theorem ev_call (f : Nat) (es : Exs) : ev C (.call f es) ρ h = (evs C es ρ h).bind fun xs h => C.call f xs h := id rfl
@[simp] theorem ev_callk (f : Nat) (es ks : Exs) (p : List Nat) : ev C (.callk f es ks p) ρ h = (evs C es ρ h).bind fun xs h => (evs C ks ρ h).bind fun ys h => (opt (p.mapM fun i => (xs ++ ys)[i]?) h).bind fun zs h => C.call f zs h := id rfl
@[simp] theorem ev_bi (b : Bi) (es : Exs) : ev C (.bi b es) ρ h = (evs C es ρ h).bind fun xs h => noX (biV b xs h) := id rfl
@[simp] theorem ev_mt (m : Mt) (o : Ex) (es : Exs) : ev C (.mt m o es) ρ h = (ev C o ρ h).bind fun x h => guardR (mtTy m x h) ((evs C es ρ h).bind fun xs h => noX (mtV m x xs h)) := id rfl
@[simp] theorem ev_tr (e : Ex) : ev C (.tr e) ρ h = (ev C e ρ h).bind fun v h' => .ok v (trimH (v.lo h.length) h h') := id rfl
@[simp] theorem ev_lk (i : Nat) (e : Ex) : ev C (.lk i e) ρ h = (match lockAt (look ρ i) h with
    | some (n, o, o') => onH (fun h => h.set n o) (ev C e ρ (h.set n o'))
    | none => .bad) := id rfl
@[simp] theorem ev_dicK (kvs : Kvs) : ev C (.dicK kvs) ρ h = (evKV C kvs ρ h).bind fun p h => (opt (dispK p.1 p.2 []) h).bind fun kvs h => new (.dk kvs) h := id rfl
@[simp] theorem ev_dicT (kvs : Kvs) : ev C (.dicT kvs) ρ h = (evKV C kvs ρ h).bind fun p h => (opt (dispT p.1 p.2 []) h).bind fun kvs h => new (.dt kvs) h := id rfl
@[simp] theorem evs_nil : evs C .nil ρ h = .ok [] h := id rfl
@[simp] theorem evs_cons (e : Ex) (es : Exs) : evs C (.cons e es) ρ h = (ev C e ρ h).bind fun x h => (evs C es ρ h).bind fun xs h => .ok (x :: xs) h := id rfl
@[simp] theorem evKV_nil : evKV C .nil ρ h = .ok ([], []) h := id rfl
@[simp] theorem evKV_cons (k v : Ex) (r : Kvs) : evKV C (.cons k v r) ρ h = (ev C k ρ h).bind fun x h => (ev C v ρ h).bind fun y h => (evKV C r ρ h).bind fun p h => .ok (x :: p.1, y :: p.2) h := id rfl
@[simp] theorem evTs_nil : evTs C .nil ρ h = .ok true h := id rfl
@[simp] theorem evTs_one (e : Ex) : evTs C (.cons e .nil) ρ h = (ev C e ρ h).bind fun x h => truthy x h := id rfl
@[simp] theorem evIt_val (e : Ex) : evIt C (.val e) ρ h = (ev C e ρ h).bind fun v h => noX (walkV v h) := id rfl
@[simp] theorem evIt_rng (es : Exs) : evIt C (.rng es) ρ h = (evs C es ρ h).bind fun vs h => noX (rngV vs h) := id rfl
@[simp] theorem evIt_enum (e : Ex) : evIt C (.enum e) ρ h = (ev C e ρ h).bind fun v h => (noX (walkV v h)).bind fun s h => .ok (pairs (nums s.1.length) s.1, s.2) h := id rfl
@[simp] theorem evIt_keys (e : Ex) : evIt C (.keys e) ρ h = (ev C e ρ h).bind fun v h => noX (keysV v h) := id rfl
@[simp] theorem asg_name (i : Nat) (v : PV) : asg C (.name i) v ρ h = .ok (ρ.set i (some v)) h := id rfl
@[simp] theorem asg_tup (ts : Tgs) (xs : List PV) : asg C (.tup ts) (.tup xs) ρ h = asgs C ts xs ρ h := id rfl
@[simp] theorem asg_sub (o i : Ex) (v : PV) : asg C (.sub o i) v ρ h = (ev C o ρ h).bind fun x h => (ev C i ρ h).bind fun y h => (noX (setV x y v h)).bind fun _ h => .ok ρ h := id rfl
@[simp] theorem asgs_nil : asgs C .nil [] ρ h = .ok ρ h := id rfl
@[simp] theorem asgs_cons (t : Tg) (ts : Tgs) (v : PV) (vs : List PV) : asgs C (.cons t ts) (v :: vs) ρ h = (asg C t v ρ h).bind fun ρ h => asgs C ts vs ρ h := id rfl
@[simp] theorem evT_eq (e : Ex) : evT C e ρ h = (ev C e ρ h).bind fun x h => truthy x h := id rfl
@[simp] theorem evS_asg (tg : Tg) (e : Ex) : evS C (.asg tg e) ρ h = (ev C e ρ h).bind fun v h => (noX (asg C tg v ρ h)).bind fun ρ h => .ok (.nx ρ) h := id rfl
@[simp] theorem evS_par (i j : Nat) (a b : Ex) : evS C (.par i j a b) ρ h = (ev C a ρ h).bind fun x h => (ev C b ρ h).bind fun y h => .ok (.nx ((ρ.set i (some x)).set j (some y))) h := id rfl
@[simp] theorem evS_aug (i : Nat) (op : Operator) (e : Ex) : evS C (.aug i op e) ρ h = (opt (look ρ i) h).bind fun x h => (ev C e ρ h).bind fun y h => (noX (iop op x y h)).bind fun z h => .ok (.nx (ρ.set i (some z))) h := id rfl
@[simp] theorem evS_exp (e : Ex) : evS C (.exp e) ρ h = (ev C e ρ h).bind fun _ h => .ok (.nx ρ) h := id rfl
@[simp] theorem evS_ret (e : Ex) : evS C (.ret e) ρ h = (ev C e ρ h).bind fun v h => .ok (.rt v) h := id rfl
@[simp] theorem evS_retN : evS C .retN ρ h = .ok (.rt .non) h := id rfl
@[simp] theorem evS_ite (c : Ex) (a b : Bk) : evS C (.ite c a b) ρ h = (evT C c ρ h).bind fun t h => if t = true then evB C a ρ h else evB C b ρ h := id rfl
@[simp] theorem evS_wh (c : Ex) (b : Bk) : evS C (.wh c b) ρ h = whL (evT C c) (evB C b) C.fuel ρ h := id rfl
@[simp] theorem evS_fr (tg : Tg) (it : Si) (b : Bk) : evS C (.fr tg it b) ρ h = (evIt C it ρ h).bind fun s h => forL (fun x ρ h => (noX (asg C tg x ρ h)).bind fun ρ h => evB C b ρ h) s.2 s.1 ρ h := id rfl
@[simp] theorem evS_brk : evS C .brk ρ h = .ok (.bk ρ) h := id rfl
@[simp] theorem evS_cnt : evS C .cnt ρ h = .ok (.ct ρ) h := id rfl
@[simp] theorem evS_pass : evS C .pass ρ h = .ok (.nx ρ) h := id rfl
@[simp] theorem evS_lk (i : Nat) (s : Sm) : evS C (.lk i s) ρ h = (match lockAt (look ρ i) h with
    | some (n, o, o') => onH (fun h => h.set n o) (evS C s ρ (h.set n o'))
    | none => .bad) := id rfl
@[simp] theorem evB_nil : evB C .nil ρ h = .ok (.nx ρ) h := id rfl
@[simp] theorem evB_cons (s : Sm) (b : Bk) : evB C (.cons s b) ρ h = (evS C s ρ h).bind fun f h => match f with
    | .nx ρ => evB C b ρ h
    | .bk ρ => .ok (.bk ρ) h
    | .ct ρ => .ok (.ct ρ) h
    | .rt v => .ok (.rt v) h := id rfl
end
@[simp] theorem look_0 (x : Option PV) (r : Env) : look (x :: r) 0 = x := id rfl
@[simp] theorem look_s (x : Option PV) (r : Env) (n : Nat) : look (x :: r) (n + 1) = look r n := id rfl
@[simp] theorem opt_none {α : Type} (h : PH) : (opt none h : Res α) = .bad := id rfl
@[simp] theorem add_int (i j : Int) (h : PH) : binop .Add (.int i) (.int j) h = .ok (.int (i + j)) h := id rfl
@[simp] theorem sub_int (i j : Int) (h : PH) : binop .Sub (.int i) (.int j) h = .ok (.int (i - j)) h := id rfl
theorem mul_int {i j : Int} (e : mulOk i j = true) (h : PH) : binop .Mult (.int i) (.int j) h = .ok (.int (i * j)) h := by
  show guardR (mulOk i j) _ = _
  rw [e]
  rfl
@[simp] theorem neg_int (i : Int) (h : PH) : negV (.int i) h = .ok (.int (-i)) h := id rfl
@[simp] theorem ix_tup (xs : List PV) (i : Int) (h : PH) : ixV (.tup xs) (.int i) h = opt (atI xs i) h := id rfl
@[simp] theorem tru_bl (b : Bool) (h : PH) : truthy (.bl b) h = .ok b h := id rfl
@[simp] theorem tru_int (i : Int) (h : PH) : truthy (.int i) h = .ok (i != 0) h := id rfl
@[simp] theorem ends_rt (h h' : PH) (v : PV) : ends h (.ok (.rt v) h') = .ok v (trimH (v.lo h.length) h h') := id rfl
@[simp] theorem ends_nx (h h' : PH) (ρ : Env) : ends h (.ok (.nx ρ) h') = .ok .non (trimH true h h') := id rfl
@[simp] theorem cmp_lt (i j : Int) (h : PH) : cmpop .Lt (.int i) (.int j) h = .ok (.bl (decide (i < j))) h := id rfl
@[simp] theorem cmp_le (i j : Int) (h : PH) : cmpop .LtE (.int i) (.int j) h = .ok (.bl (decide (i ≤ j))) h := id rfl
@[simp] theorem cmp_gt (i j : Int) (h : PH) : cmpop .Gt (.int i) (.int j) h = .ok (.bl (decide (j < i))) h := id rfl
@[simp] theorem cmp_ge (i j : Int) (h : PH) : cmpop .GtE (.int i) (.int j) h = .ok (.bl (decide (j ≤ i))) h := id rfl
@[simp] theorem cmp_eqI (i j : Int) (h : PH) : cmpop .Eq (.int i) (.int j) h = .ok (.bl (i == j)) h := id rfl
@[simp] theorem cmp_neI (i j : Int) (h : PH) : cmpop .NotEq (.int i) (.int j) h = .ok (.bl (!(i == j))) h := id rfl
@[simp] theorem lo_int (n : Nat) (i : Int) : PV.lo n (.int i) = true := id rfl
@[simp] theorem lo_bl (n : Nat) (i : Bool) : PV.lo n (.bl i) = true := id rfl
@[simp] theorem lo_non (n : Nat) : PV.lo n .non = true := id rfl
@[simp] theorem lo_tup (n : Nat) (xs : List PV) : PV.lo n (.tup xs) = PV.los n xs := id rfl
@[simp] theorem los_nil (n : Nat) : PV.los n [] = true := id rfl
@[simp] theorem los_cons (n : Nat) (x : PV) (xs : List PV) : PV.los n (x :: xs) = (PV.lo n x && PV.los n xs) := id rfl
@[simp] theorem lo_pr (n : Nat) (p : Int × Int) : PV.lo n (ofPr p) = true := id rfl
theorem los_map {α : Type} {n : Nat} {f : α → PV} : ∀ {xs : List α}, (∀ x ∈ xs, PV.lo n (f x) = true) → PV.los n (xs.map f) = true
  | [], _ => rfl
  | x :: xs, h => by
    rw [List.map_cons, los_cons, h x List.mem_cons_self, los_map fun y hy => h y (List.mem_cons_of_mem _ hy)]
    rfl
@[simp] theorem gd_nil (h : PH) : gdOk [] h = true := id rfl
theorem gd_one {n : Nat} {o : PO} {h : PH} (e : h[n]? = some o) : gdOk [(n, o)] h = true := by simp [gdOk, e]
theorem sz_of {n : Nat} (h : n ≤ 1000000) : n ≤ sizeLine := by rw [sizeLine_eq]; omega
theorem sz_dec {n : Nat} (h : n ≤ 1000000) : decide (n ≤ sizeLine) = true := decide_eq_true (sz_of h)
@[simp] theorem sz_2 : decide (2 ≤ sizeLine) = true := by decide +kernel
@[simp] theorem sz_1 : decide (1 ≤ sizeLine) = true := by decide +kernel
@[simp] theorem sz_0 : decide (0 ≤ sizeLine) = true := by decide +kernel
@[simp] theorem sz_3 : decide (3 ≤ sizeLine) = true := by decide +kernel
@[simp] theorem sz_5 : decide (5 ≤ sizeLine) = true := by decide +kernel
@[simp] theorem sz_6 : decide (6 ≤ sizeLine) = true := by decide +kernel
/-! ### comprehensions -/
theorem lcL_filter {α : Type} {β : Type} {step : PV → β → PH → Res β} {g : Gd} {h : PH} (enc : α → PV) (u : α → β → β) (hg : gdOk g h = true) : ∀ (xs : List α) (acc : β), (∀ x ∈ xs, ∀ acc, step (enc x) acc h = .ok (u x acc) h) → lcL step g (xs.map enc) acc h = .ok (xs.foldl (fun a x => u x a) acc) h
  | [], acc, _ => by simp [lcL, hg]
  | x :: xs, acc, hs => by
    rw [List.map_cons]
    unfold lcL
    rw [hg, guardR_true, hs x List.mem_cons_self acc, Res.bind_ok]
    exact lcL_filter enc u hg xs _ fun y hy => hs y (List.mem_cons_of_mem _ hy)
/-- one clause: f of the items that pass p; lists never grow too long -/
theorem lcL_lst {α : Type} {step : PV → List PV → PH → Res (List PV)} {g : Gd} {h : PH} (enc : α → PV) (f : α → PV) (p : α → Bool) (hg : gdOk g h = true) : ∀ (xs : List α) (acc : List PV), acc.length + xs.length ≤ sizeLine →
    (∀ x ∈ xs, ∀ acc : List PV, acc.length < sizeLine → step (enc x) acc h = .ok (if p x = true then acc ++ [f x] else acc) h) → lcL step g (xs.map enc) acc h = .ok (acc ++ (xs.filter p).map f) h
  | [], acc, _, _ => by simp [lcL, hg]
  | x :: xs, acc, hl, hs => by
    rw [List.map_cons]
    unfold lcL
    rw [List.length_cons] at hl
    rw [hg, guardR_true, hs x List.mem_cons_self acc (by omega), Res.bind_ok]
    cases hp : p x with
    | true =>
      rw [if_pos rfl, lcL_lst enc f p hg xs _ (by simp; omega) fun y hy => hs y (List.mem_cons_of_mem _ hy), List.filter_cons, if_pos hp]
      simp
    | false =>
      rw [if_neg (by decide), lcL_lst enc f p hg xs _ (by omega) fun y hy => hs y (List.mem_cons_of_mem _ hy), List.filter_cons, if_neg (by rw [hp]; decide)]
section
variable {C : Cfg} {ρ : Env} {h : PH}
theorem push_ok {acc : List PV} {v : PV} (e : acc.length < sizeLine) : pushR v acc h = .ok (acc ++ [v]) h := by
  unfold pushR
  rw [decide_eq_true e]
  rfl
theorem ev_lc_of {α : Type} {own : List Nat} {tg : Tg} {it : Si} {ifs : Exs} {e : Ex} {g : Gd} {h1 : PH} (enc : α → PV) (f : α → PV) (p : α → Bool) (xs : List α) (hit : evIt C it ρ h = .ok (xs.map enc, g) h1) (hg : gdOk g h1 = true) (hl : xs.length ≤ sizeLine)
    (hs : ∀ x ∈ xs, ∃ ρ1, asg C tg (enc x) (wipeE ρ own) h1 = .ok ρ1 h1 ∧ evTs C ifs ρ1 h1 = .ok (p x) h1 ∧ (p x = true → ev C e ρ1 h1 = .ok (f x) h1)) :
    ev C (.lc own tg it ifs e) ρ h = .ok (.ref h1.length) (h1 ++ [.lst ((xs.filter p).map f)]) := by
  show (evIt C it ρ h).bind _ = _
  rw [hit, Res.bind_ok]
  show (noX (lcL _ g (xs.map enc) [] h1)).bind _ = _
  rw [lcL_lst enc f p hg xs [] (by simpa using hl) fun x hx acc ha => ?_]
  · simp [new]
  · obtain ⟨ρ1, q1, q2, q3⟩ := hs x hx
    show (asg C tg (enc x) (wipeE ρ own) h1).bind _ = _
    rw [q1, Res.bind_ok, q2, Res.bind_ok]
    cases hp : p x with
    | false => rfl
    | true =>
      rw [if_pos rfl, q3 hp, Res.bind_ok, push_ok ha, if_pos rfl]
theorem filter_true {α : Type} (xs : List α) : xs.filter (fun _ => true) = xs := by simp
/-- one clause without tests -/
theorem ev_lc_map {α : Type} {own : List Nat} {tg : Tg} {it : Si} {e : Ex} {g : Gd} {h1 : PH} (enc : α → PV) (f : α → PV) (xs : List α) (hit : evIt C it ρ h = .ok (xs.map enc, g) h1) (hg : gdOk g h1 = true) (hl : xs.length ≤ sizeLine)
    (hs : ∀ x ∈ xs, ∃ ρ1, asg C tg (enc x) (wipeE ρ own) h1 = .ok ρ1 h1 ∧ ev C e ρ1 h1 = .ok (f x) h1) : ev C (.lc own tg it .nil e) ρ h = .ok (.ref h1.length) (h1 ++ [.lst (xs.map f)]) := by
  have := ev_lc_of (ifs := .nil) enc f (fun _ => true) xs hit hg hl fun x hx => let ⟨ρ1, q1, q2⟩ := hs x hx; ⟨ρ1, q1, evTs_nil _ _ _, fun _ => q2⟩
  rw [filter_true] at this
  exact this
theorem lcL_flat {α : Type} {step : PV → List PV → PH → Res (List PV)} {g : Gd} {h : PH} (enc : α → PV) (F : α → List PV) (hg : gdOk g h = true) : ∀ (xs : List α) (acc : List PV), acc.length + (xs.flatMap F).length ≤ sizeLine →
    (∀ x ∈ xs, ∀ acc : List PV, acc.length + (F x).length ≤ sizeLine → step (enc x) acc h = .ok (acc ++ F x) h) → lcL step g (xs.map enc) acc h = .ok (acc ++ xs.flatMap F) h
  | [], acc, _, _ => by simp [lcL, hg]
  | x :: xs, acc, hl, hs => by
    rw [List.map_cons]
    unfold lcL
    rw [List.flatMap_cons, List.length_append] at hl
    rw [hg, guardR_true, hs x List.mem_cons_self acc (by omega), Res.bind_ok, lcL_flat enc F hg xs _ (by rw [List.length_append]; omega) fun y hy => hs y (List.mem_cons_of_mem _ hy), List.flatMap_cons, List.append_assoc]
/-- two clauses without tests -/
theorem ev_lc2_map {α β : Type} {own own1 : List Nat} {tg tg1 : Tg} {it it1 : Si} {e : Ex} {g : Gd} (enc : α → PV) (enc1 : β → PV) (ys : α → List β) (f : α → β → PV) (xs : List α) (hit : evIt C it ρ h = .ok (xs.map enc, g) h) (hg : gdOk g h = true) (hl : (xs.flatMap fun x => (ys x).map (f x)).length ≤ sizeLine)
    (hs : ∀ x ∈ xs, ∃ ρ1 g1, asg C tg (enc x) (wipeE ρ own) h = .ok ρ1 h ∧ evIt C it1 ρ1 h = .ok ((ys x).map enc1, g1) h ∧ gdOk g1 h = true ∧ ∀ y ∈ ys x, ∃ ρ2, asg C tg1 (enc1 y) (wipeE ρ1 own1) h = .ok ρ2 h ∧ ev C e ρ2 h = .ok (f x y) h) :
    ev C (.lc2 own own1 tg it .nil tg1 it1 .nil e) ρ h = .ok (.ref h.length) (h ++ [.lst (xs.flatMap fun x => (ys x).map (f x))]) := by
  show (evIt C it ρ h).bind _ = _
  rw [hit, Res.bind_ok]
  show (noX (lcL _ g (xs.map enc) [] h)).bind _ = _
  rw [lcL_flat enc (fun x => (ys x).map (f x)) hg xs [] (by simpa using hl) fun x hx acc ha => ?_]
  · simp [new]
  · obtain ⟨ρ1, g1, h1, h2, h3, h4⟩ := hs x hx
    show (asg C tg (enc x) (wipeE ρ own) h).bind _ = _
    rw [h1, Res.bind_ok, evTs_nil, Res.bind_ok, if_pos rfl, h2, Res.bind_ok]
    show lcL _ g1 ((ys x).map enc1) acc h = _
    rw [lcL_lst enc1 (f x) (fun _ => true) h3 (ys x) acc (by simpa using ha) fun y hy acc ha => ?_]
    · rw [filter_true]
    · obtain ⟨ρ2, q1, q2⟩ := h4 y hy
      show (asg C tg1 (enc1 y) (wipeE ρ1 own1) h).bind _ = _
      rw [q1, Res.bind_ok, evTs_nil, Res.bind_ok, if_pos rfl, q2, Res.bind_ok, push_ok ha, if_pos rfl]
end
/-! small displays -/
section
variable (C : Cfg) (ρ : Env) (h : PH)
theorem s1' : decide (0 + 1 ≤ sizeLine) = true := sz_1
theorem s2' : decide (0 + 1 + 1 ≤ sizeLine) = true := sz_2
theorem s3' : decide (0 + 1 + 1 + 1 ≤ sizeLine) = true := sz_3
theorem ev_tup1 (a : Ex) : ev C (.tup (.cons a .nil)) ρ h = (ev C a ρ h).bind fun x h => .ok (.tup [x]) h := by
  simp only [ev_tup, evs_cons, evs_nil, Res.bind_assoc, Res.bind_ok, List.length_cons, List.length_nil, s1', guardR_true]
theorem ev_tup2 (a b : Ex) : ev C (.tup (.cons a (.cons b .nil))) ρ h = (ev C a ρ h).bind fun x h => (ev C b ρ h).bind fun y h => .ok (.tup [x, y]) h := by
  simp only [ev_tup, evs_cons, evs_nil, Res.bind_assoc, Res.bind_ok, List.length_cons, List.length_nil, s2', guardR_true]
theorem ev_tup3 (a b c : Ex) : ev C (.tup (.cons a (.cons b (.cons c .nil)))) ρ h = (ev C a ρ h).bind fun x h => (ev C b ρ h).bind fun y h => (ev C c ρ h).bind fun z h => .ok (.tup [x, y, z]) h := by
  simp only [ev_tup, evs_cons, evs_nil, Res.bind_assoc, Res.bind_ok, List.length_cons, List.length_nil, s3', guardR_true]
theorem ev_lst0 : ev C (.lst .nil) ρ h = new (.lst []) h := by
  simp only [ev_lst, evs_nil, Res.bind_ok, List.length_nil, sz_0, guardR_true]
theorem ev_lst1 (a : Ex) : ev C (.lst (.cons a .nil)) ρ h = (ev C a ρ h).bind fun x h => new (.lst [x]) h := by
  simp only [ev_lst, evs_cons, evs_nil, Res.bind_assoc, Res.bind_ok, List.length_cons, List.length_nil, s1', guardR_true]
theorem new_eq (o : PO) : new o h = .ok (.ref h.length) (h ++ [o]) := id rfl
end
theorem forL_nil {step : PV → Env → PH → Res Fl} {g : Gd} {ρ : Env} {h : PH} (hg : gdOk g h = true) : forL step g [] ρ h = .ok (.nx ρ) h := by
  unfold forL
  rw [hg, guardR_true]
theorem forL_nx {step : PV → Env → PH → Res Fl} {g : Gd} {x : PV} {xs : List PV} {ρ ρ' : Env} {h h' : PH} (hg : gdOk g h = true) (e : step x ρ h = .ok (.nx ρ') h') : forL step g (x :: xs) ρ h = forL step g xs ρ' h' := by
  conv => lhs; unfold forL
  rw [hg, guardR_true, e, Res.bind_ok]
theorem forL_rt {step : PV → Env → PH → Res Fl} {g : Gd} {x : PV} {xs : List PV} {ρ : Env} {h h' : PH} {v : PV} (hg : gdOk g h = true) (e : step x ρ h = .ok (.rt v) h') : forL step g (x :: xs) ρ h = .ok (.rt v) h' := by
  conv => lhs; unfold forL
  rw [hg, guardR_true, e, Res.bind_ok]
section
variable {C : Cfg} {s : Sm} {b : Bk} {ρ ρ' : Env} {h h' : PH}
theorem evB_nx (e : evS C s ρ h = .ok (.nx ρ') h') : evB C (.cons s b) ρ h = evB C b ρ' h' := by rw [evB_cons, e, Res.bind_ok]
theorem evB_rt {v : PV} (e : evS C s ρ h = .ok (.rt v) h') : evB C (.cons s b) ρ h = .ok (.rt v) h' := by rw [evB_cons, e, Res.bind_ok]
theorem evS_fr_of {tg : Tg} {it : Si} {xs : List PV} {g : Gd} (hit : evIt C it ρ h = .ok (xs, g) h') : evS C (.fr tg it b) ρ h = forL (fun x ρ h => (noX (asg C tg x ρ h)).bind fun ρ h => evB C b ρ h) g xs ρ h' := by rw [evS_fr, hit, Res.bind_ok]
theorem evS_ite_t {c : Ex} {a : Bk} (e : evT C c ρ h = .ok true h') : evS C (.ite c a b) ρ h = evB C a ρ h' := by rw [evS_ite, e, Res.bind_ok, if_pos rfl]
theorem evS_ite_f {c : Ex} {a : Bk} (e : evT C c ρ h = .ok false h') : evS C (.ite c a b) ρ h = evB C b ρ h' := by rw [evS_ite, e, Res.bind_ok, if_neg (by decide)]
end
end Pu

set_option Elab.async false
set_option linter.all false
set_option maxRecDepth 100000
/-! Pm2: cells, dicts of numbers by cells. -/
namespace Pu
open PySem PySem.Spec PyProof.Rows L2
abbrev Cell := Int × Int
def pBox (m n : Nat) : PV := .tup [.int m, .int n]
def pCells (l : List Cell) : PV := .tup (l.map ofPr)
def cells (m n : Nat) : List Cell := (List.range m).flatMap fun (x : Nat) => (List.range n).map fun (y : Nat) => ((x : Int), (y : Int))
theorem cells_len (m n : Nat) : (cells m n).length = m * n := by
  unfold cells
  induction m with
  | zero => simp
  | succ m ih => rw [List.range_succ, List.flatMap_append, List.length_append, ih]; simp [Nat.succ_mul]
theorem mem_cells {m n : Nat} {c : Cell} : c ∈ cells m n ↔ 0 ≤ c.1 ∧ c.1 < m ∧ 0 ≤ c.2 ∧ c.2 < n := by
  unfold cells
  simp only [List.mem_flatMap, List.mem_range, List.mem_map]
  constructor
  · rintro ⟨x, hx, y, hy, rfl⟩
    simp; omega
  · intro h
    refine ⟨c.1.toNat, by omega, c.2.toNat, by omega, ?_⟩
    exact Prod.ext (by simp; omega) (by simp; omega)
theorem cells_nodup (m n : Nat) : (cells m n).Nodup := by
  unfold cells
  rw [List.Nodup, List.pairwise_flatMap]
  refine ⟨fun x hx => ?_, ?_⟩
  · rw [List.pairwise_map]
    refine List.Pairwise.imp ?_ (List.nodup_range (n := n))
    intro a b hab e
    have := congrArg Prod.snd e
    simp at this
    exact hab (by omega)
  · refine List.Pairwise.imp ?_ (List.nodup_range (n := m))
    intro a b hab c h1 d h2 e
    subst e
    simp only [List.mem_map, List.mem_range] at h1 h2
    obtain ⟨y, _, rfl⟩ := h1
    obtain ⟨z, _, e⟩ := h2
    have := congrArg Prod.fst e
    simp at this
    exact hab (by omega)
/-! dicts with cells as keys, numbers as values -/
abbrev Dt := List (Cell × Int)
def kOf (c : Cell) : List Key := [.inl c.1, .inl c.2]
def eDt (l : Dt) : List (List Key × PV) := l.map fun p => (kOf p.1, .int p.2)
def dget (l : Dt) (c : Cell) : Option Int := (l.find? fun p => decide (p.1 = c)).map (·.2)
def dval (l : Dt) (c : Cell) : Int := (dget l c).getD 0
def dput (l : Dt) (c : Cell) (v : Int) : Dt := if (l.any fun p => decide (p.1 = c)) = true then l.map (fun p => if p.1 = c then (p.1, v) else p) else l ++ [(c, v)]
theorem kOf_inj {c d : Cell} : kOf c = kOf d ↔ c = d := by
  constructor
  · intro h
    simp [kOf] at h
    exact Prod.ext h.1 h.2
  · rintro rfl; rfl
@[simp] theorem keys_pr (c : Cell) : keys? [.int c.1, .int c.2] = some (kOf c) := id rfl
theorem keys_int (x y : Int) : keys? [.int x, .int y] = some (kOf (x, y)) := rfl
theorem aget_e (l : Dt) (c : Cell) : aget (eDt l) (kOf c) = (dget l c).map .int := by
  unfold aget eDt dget
  induction l with
  | nil => rfl
  | cons p l ih =>
    rw [List.map_cons, List.find?_cons, List.find?_cons]
    simp only [kOf_inj]
    by_cases h : p.1 = c
    · simp [h]
    · simp only [h, decide_false]
      exact ih
theorem ahas_e (l : Dt) (c : Cell) : ahas (eDt l) (kOf c) = l.any fun p => decide (p.1 = c) := by
  unfold ahas eDt
  rw [List.any_map]
  congr 1
  funext p
  simp [kOf_inj]
theorem aput_e (l : Dt) (c : Cell) (v : Int) : aput (eDt l) (kOf c) (.int v) = eDt (dput l c v) := by
  unfold aput dput
  rw [ahas_e]
  split
  · unfold eDt
    rw [List.map_map, List.map_map]
    refine List.map_congr_left fun p _ => ?_
    simp only [Function.comp, kOf_inj]
    by_cases h : p.1 = c
    · simp [h]
    · simp [h]
  · simp [eDt]
theorem eDt_len (l : Dt) : (eDt l).length = l.length := by simp [eDt]
theorem dput_len (l : Dt) (c : Cell) (v : Int) : (dput l c v).length ≤ l.length + 1 := by
  unfold dput
  split <;> simp
theorem dget_put (l : Dt) (c d : Cell) (v : Int) : dget (dput l c v) d = if d = c then some v else dget l d := by
  unfold dget dput
  by_cases h : (l.any fun p => decide (p.1 = c)) = true
  · rw [if_pos h]
    induction l with
    | nil => simp at h
    | cons p l ih =>
      rw [List.map_cons]
      by_cases hp : p.1 = c
      · rw [if_pos hp, List.find?_cons]
        by_cases hd : d = c
        · simp [hd, hp]
        · have hne : ¬ p.1 = d := fun e => hd (by rw [← e, hp])
          rw [if_neg hd]
          simp only [hne, decide_false]
          rw [List.find?_cons]
          simp only [hne, decide_false]
          -- the rest: equal for d
          have : ∀ l : Dt, ((l.map fun p => if p.1 = c then (p.1, v) else p).find? fun p => decide (p.1 = d)) = l.find? fun p => decide (p.1 = d) := by
            intro l
            induction l with
            | nil => rfl
            | cons q l ih2 =>
              rw [List.map_cons, List.find?_cons, List.find?_cons, ih2]
              by_cases hq : q.1 = c
              · have hqd : ¬ q.1 = d := fun e => hd (by rw [← e, hq])
                simp [hq, hqd, hd, Ne.symm hd]
              · simp [hq]
          rw [this]
      · rw [if_neg hp, List.find?_cons, List.find?_cons]
        have h' : (l.any fun p => decide (p.1 = c)) = true := by
          rw [List.any_cons] at h
          simpa [hp] using h
        by_cases hd : p.1 = d
        · have : ¬ d = c := fun e => hp (by rw [hd, e])
          simp [hd, this]
        · simp only [hd, decide_false]
          exact ih h'
  · rw [if_neg h]
    rw [List.find?_append]
    by_cases hd : d = c
    · subst hd
      have : (l.find? fun p => decide (p.1 = d)) = none := by
        rw [List.find?_eq_none]
        intro p hp hq
        exact h (List.any_eq_true.mpr ⟨p, hp, hq⟩)
      simp [this]
    · rw [if_neg hd]
      have : ¬ c = d := fun e => hd e.symm
      cases hf : l.find? fun p => decide (p.1 = d) with
      | some q => simp
      | none => simp [this]
theorem dval_put (l : Dt) (c d : Cell) (v : Int) : dval (dput l c v) d = if d = c then v else dval l d := by
  unfold dval
  rw [dget_put]
  split <;> rfl
theorem dput_keys (l : Dt) (c : Cell) (v : Int) : (dput l c v).map (·.1) = if c ∈ l.map (·.1) then l.map (·.1) else l.map (·.1) ++ [c] := by
  unfold dput
  have e : ((l.any fun p => decide (p.1 = c)) = true) ↔ c ∈ l.map (·.1) := by
    simp [List.any_eq_true]
  by_cases h : c ∈ l.map (·.1)
  · rw [if_pos (e.mpr h), if_pos h, List.map_map]
    refine List.map_congr_left fun p _ => ?_
    simp only [Function.comp]
    split <;> rfl
  · rw [if_neg (fun q => h (e.mp q)), if_neg h]
    simp
theorem dput_nodup {l : Dt} (h : (l.map (·.1)).Nodup) (c : Cell) (v : Int) : ((dput l c v).map (·.1)).Nodup := by
  rw [dput_keys]
  split
  · exact h
  · rename_i hc
    rw [List.nodup_append]
    exact ⟨h, by simp, fun a ha b hb => by simp at hb; rintro rfl; exact hc (hb ▸ ha)⟩
theorem dget_none {l : Dt} {c : Cell} (h : c ∉ l.map (·.1)) : dget l c = none := by
  unfold dget
  have : (l.find? fun p => decide (p.1 = c)) = none := by
    rw [List.find?_eq_none]
    intro p hp hq
    exact h (List.mem_map.mpr ⟨p, hp, by simpa using hq⟩)
  rw [this]; rfl
theorem dget_some {l : Dt} {c : Cell} (h : c ∈ l.map (·.1)) : dget l c = some (dval l c) := by
  obtain ⟨p, hp, rfl⟩ := List.mem_map.mp h
  unfold dval dget
  cases hf : l.find? fun q => decide (q.1 = p.1) with
  | some q => simp
  | none =>
    rw [List.find?_eq_none] at hf
    exact absurd (hf p hp) (by simp)
theorem dval_mem {l : Dt} (nd : (l.map (·.1)).Nodup) {p : Cell × Int} (h : p ∈ l) : dval l p.1 = p.2 := by
  induction l with
  | nil => simp at h
  | cons q l ih =>
    rw [List.map_cons, List.nodup_cons] at nd
    unfold dval dget
    rw [List.find?_cons]
    rcases List.mem_cons.mp h with rfl | h
    · simp
    · have hne : ¬ q.1 = p.1 := fun e => nd.1 (by rw [e]; exact List.mem_map.mpr ⟨p, h, rfl⟩)
      simp only [hne, decide_false]
      exact ih nd.2 h
/-! steps by such dicts -/
@[simp] theorem get_dt {h : PH} {n : Nat} {l : Dt} (e : h[n]? = some (.dt (eDt l))) (x y d : Int) : mtV .get (.ref n) [.tup [.int x, .int y], .int d] h = .ok (.int ((dget l (x, y)).getD d)) h := by
  simp only [mtV, e, keys_int, opt_some, Res.bind_ok, aget_e]
  cases dget l (x, y) <;> rfl
theorem ix_dt {h : PH} {n : Nat} {l : Dt} (e : h[n]? = some (.dt (eDt l))) {c : Cell} (hc : c ∈ l.map (·.1)) : ixV (.ref n) (.tup [.int c.1, .int c.2]) h = .ok (.int (dval l c)) h := by
  simp only [ixV, e, keys_pr, Option.bind_some, aget_e, dget_some hc]
  rfl
theorem set_dt {h : PH} {n : Nat} {l : Dt} (e : h[n]? = some (.dt (eDt l))) (hl : l.length < sizeLine) (x y v : Int) : setV (.ref n) (.tup [.int x, .int y]) (.int v) h = .ok () (h.set n (.dt (eDt (dput l (x, y) v)))) := by
  simp only [setV, e, keys_int, eDt_len]
  rw [decide_eq_true hl, aput_e]
  rfl
@[simp] theorem mtTy_dt {h : PH} {n : Nat} {l : Dt} (e : h[n]? = some (.dt (eDt l))) : mtTy .get (.ref n) h = true := by simp [mtTy, e]
theorem dput_new {l : Dt} {c : Cell} (h : c ∉ l.map (·.1)) (v : Int) : dput l c v = l ++ [(c, v)] := by
  unfold dput
  rw [if_neg]
  intro q
  obtain ⟨p, hp, e⟩ := List.any_eq_true.mp q
  exact h (List.mem_map.mpr ⟨p, hp, by simpa using e⟩)
def dputs (ps : List (Cell × Int)) (l : Dt) : Dt := ps.foldl (fun l p => dput l p.1 p.2) l
theorem dputs_new : ∀ {ps : List (Cell × Int)} {l : Dt}, ((l ++ ps).map (·.1)).Nodup → dputs ps l = l ++ ps
  | [], l, _ => by simp [dputs]
  | p :: ps, l, h => by
    have hn : p.1 ∉ l.map (·.1) := by
      rw [List.map_append, List.nodup_append] at h
      intro hm
      exact h.2.2 _ hm _ (by simp) rfl
    show dputs ps (dput l p.1 p.2) = _
    rw [dput_new hn, dputs_new (by simpa using h)]
    simp
theorem dputs_len (ps : List (Cell × Int)) (l : Dt) : (dputs ps l).length ≤ l.length + ps.length := by
  induction ps generalizing l with
  | nil => simp [dputs]
  | cons p ps ih =>
    have h1 := ih (dput l p.1 p.2)
    have h2 := dput_len l p.1 p.2
    show (dputs ps (dput l p.1 p.2)).length ≤ _
    rw [List.length_cons]
    omega
theorem putT_ok {h : PH} {acc : Dt} (x y v : Int) (hl : acc.length < sizeLine) : putTR (.tup [.int x, .int y]) (.int v) (eDt acc) h = .ok (eDt (dput acc (x, y) v)) h := by
  have e : keys? [PV.int x, PV.int y] = some (kOf (x, y)) := rfl
  simp only [putTR, e]
  rw [eDt_len, decide_eq_true hl, aput_e]
  exact guardR_true _
theorem flat_one {α β : Type} (f : α → β) : ∀ xs : List α, (xs.flatMap fun x => [f x]) = xs.map f
  | [] => rfl
  | x :: xs => by simp [flat_one f xs]
/-- a dict comprehension's loop -/
theorem lcL_dt {α : Type} {step : PV → List (List Key × PV) → PH → Res (List (List Key × PV))} {g : Gd} {h : PH} (enc : α → PV) (F : α → List (Cell × Int)) (hg : gdOk g h = true) : ∀ (xs : List α) (acc : Dt), acc.length + (xs.flatMap F).length ≤ sizeLine →
    (∀ x ∈ xs, ∀ acc : Dt, acc.length + (F x).length ≤ sizeLine → step (enc x) (eDt acc) h = .ok (eDt (dputs (F x) acc)) h) → lcL step g (xs.map enc) (eDt acc) h = .ok (eDt (dputs (xs.flatMap F) acc)) h
  | [], acc, _, _ => by
    show guardR (gdOk g h) _ = _
    rw [hg]
    exact guardR_true _
  | x :: xs, acc, hl, hs => by
    rw [List.map_cons]
    unfold lcL
    rw [List.flatMap_cons, List.length_append] at hl
    have hd := dputs_len (F x) acc
    rw [hg, guardR_true, hs x List.mem_cons_self acc (by omega), Res.bind_ok, lcL_dt enc F hg xs _ (by omega) fun y hy => hs y (List.mem_cons_of_mem _ hy), List.flatMap_cons]
    unfold dputs
    rw [List.foldl_append]
section
variable {C : Cfg} {ρ : Env} {h : PH}
/-- {k: v for ..} by one clause -/
theorem ev_dcT_map {α : Type} {own : List Nat} {tg : Tg} {it : Si} {k e : Ex} {g : Gd} (enc : α → PV) (f : α → Cell × Int) (xs : List α) (hit : evIt C it ρ h = .ok (xs.map enc, g) h) (hg : gdOk g h = true) (hl : xs.length ≤ sizeLine)
    (hs : ∀ x ∈ xs, ∃ ρ1, asg C tg (enc x) (wipeE ρ own) h = .ok ρ1 h ∧ ev C k ρ1 h = .ok (ofPr (f x).1) h ∧ ev C e ρ1 h = .ok (.int (f x).2) h) : ev C (.dcT own tg it .nil k e) ρ h = .ok (.ref h.length) (h ++ [.dt (eDt (dputs (xs.map f) []))]) := by
  show (evIt C it ρ h).bind _ = _
  rw [hit, Res.bind_ok]
  show (noX (lcL _ g (xs.map enc) (eDt []) h)).bind _ = _
  have hf : (xs.flatMap fun x => [f x]) = xs.map f := flat_one f xs
  rw [lcL_dt enc (fun x => [f x]) hg xs [] (by rw [hf]; simpa using hl) fun x hx acc ha => ?_, hf]
  · rw [noX_ok, Res.bind_ok]
    exact id rfl
  · obtain ⟨ρ1, h1, h2, h3⟩ := hs x hx
    show (asg C tg (enc x) (wipeE ρ own) h).bind _ = _
    rw [h1, Res.bind_ok, evTs_nil, Res.bind_ok, if_pos rfl, h2, Res.bind_ok, h3, Res.bind_ok]
    exact putT_ok _ _ _ (by simp at ha; omega)
/-- .. by two -/
theorem ev_dcT2_map {α β : Type} {own own1 : List Nat} {tg tg1 : Tg} {it it1 : Si} {k e : Ex} {g : Gd} (enc : α → PV) (enc1 : β → PV) (ys : α → List β) (f : α → β → Cell × Int) (xs : List α) (hit : evIt C it ρ h = .ok (xs.map enc, g) h) (hg : gdOk g h = true) (hl : (xs.flatMap fun x => (ys x).map (f x)).length ≤ sizeLine)
    (hs : ∀ x ∈ xs, ∃ ρ1 g1, asg C tg (enc x) (wipeE ρ own) h = .ok ρ1 h ∧ evIt C it1 ρ1 h = .ok ((ys x).map enc1, g1) h ∧ gdOk g1 h = true ∧ ∀ y ∈ ys x, ∃ ρ2, asg C tg1 (enc1 y) (wipeE ρ1 own1) h = .ok ρ2 h ∧ ev C k ρ2 h = .ok (ofPr (f x y).1) h ∧ ev C e ρ2 h = .ok (.int (f x y).2) h) :
    ev C (.dcT2 own own1 tg it .nil tg1 it1 .nil k e) ρ h = .ok (.ref h.length) (h ++ [.dt (eDt (dputs (xs.flatMap fun x => (ys x).map (f x)) []))]) := by
  show (evIt C it ρ h).bind _ = _
  rw [hit, Res.bind_ok]
  show (noX (lcL _ g (xs.map enc) (eDt []) h)).bind _ = _
  rw [lcL_dt enc (fun x => (ys x).map (f x)) hg xs [] (by simpa using hl) fun x hx acc ha => ?_]
  · rw [noX_ok, Res.bind_ok]
    exact id rfl
  · obtain ⟨ρ1, g1, h1, h2, h3, h4⟩ := hs x hx
    show (asg C tg (enc x) (wipeE ρ own) h).bind _ = _
    rw [h1, Res.bind_ok, evTs_nil, Res.bind_ok, if_pos rfl, h2, Res.bind_ok]
    show lcL _ g1 ((ys x).map enc1) (eDt acc) h = _
    have hf : ((ys x).flatMap fun y => [f x y]) = (ys x).map (f x) := flat_one (f x) (ys x)
    rw [lcL_dt enc1 (fun y => [f x y]) h3 (ys x) acc (by rw [hf]; exact ha) fun y hy acc ha => ?_, hf]
    obtain ⟨ρ2, q1, q2, q3⟩ := h4 y hy
    show (asg C tg1 (enc1 y) (wipeE ρ1 own1) h).bind _ = _
    rw [q1, Res.bind_ok, evTs_nil, Res.bind_ok, if_pos rfl, q2, Res.bind_ok, q3, Res.bind_ok]
    exact putT_ok _ _ _ (by simp at ha; omega)
end
theorem pairs_nums (n : Nat) (f : Nat → PV) : pairs (nums ((List.range n).map f).length) ((List.range n).map f) = (List.range n).map fun (i : Nat) => .tup [.int (i : Int), f i] := by
  unfold pairs nums
  rw [List.length_map, List.length_range]
  refine List.ext_getElem? fun i => ?_
  rw [List.getElem?_zipWith, List.getElem?_map, List.getElem?_map, List.getElem?_map]
  by_cases h : i < n
  · simp [h]
  · simp [h]
/-- rows of numbers -/
def pTable (f : Cell → Int) (m n : Nat) : PV := .tup ((List.range n).map fun (u : Nat) => .tup ((List.range m).map fun (a : Nat) => .int (f ((a : Int), (u : Int)))))
def tabD (f : Cell → Int) (m n : Nat) : Dt := (List.range n).flatMap fun (u : Nat) => (List.range m).map fun (a : Nat) => (((a : Int), (u : Int)), f ((a : Int), (u : Int)))
theorem tabD_len (f : Cell → Int) (m n : Nat) : (tabD f m n).length = m * n := by
  unfold tabD
  induction n with
  | zero => simp
  | succ n ih => rw [List.range_succ, List.flatMap_append, List.length_append, ih]; simp [Nat.mul_succ]
theorem tabD_nodup (f : Cell → Int) (m n : Nat) : ((tabD f m n).map (·.1)).Nodup := by
  unfold tabD
  rw [List.map_flatMap, List.Nodup, List.pairwise_flatMap]
  refine ⟨fun x hx => ?_, ?_⟩
  · rw [List.map_map, List.pairwise_map]
    refine List.Pairwise.imp ?_ (List.nodup_range (n := m))
    intro a b hab e
    have := congrArg Prod.fst e
    simp at this
    exact hab (by omega)
  · refine List.Pairwise.imp ?_ (List.nodup_range (n := n))
    intro a b hab c h1 d h2 e
    subst e
    simp only [List.mem_map, List.mem_range] at h1 h2
    obtain ⟨p, ⟨y, _, rfl⟩, rfl⟩ := h1
    obtain ⟨q, ⟨z, _, rfl⟩, e⟩ := h2
    have := congrArg Prod.snd e
    simp at this
    exact hab (by omega)
theorem tabD_mem (f : Cell → Int) {m n : Nat} {c : Cell} (h : c ∈ cells m n) : (c, f c) ∈ tabD f m n := by
  rw [mem_cells] at h
  unfold tabD
  simp only [List.mem_flatMap, List.mem_range, List.mem_map]
  have e : (((c.1.toNat : Nat) : Int), ((c.2.toNat : Nat) : Int)) = c := Prod.ext (by simp; omega) (by simp; omega)
  exact ⟨c.2.toNat, by omega, c.1.toNat, by omega, by rw [e]⟩
theorem tabD_val (f : Cell → Int) {m n : Nat} {c : Cell} (h : c ∈ cells m n) : dval (tabD f m n) c = f c := dval_mem (tabD_nodup f m n) (tabD_mem f h)
theorem tabD_key (f : Cell → Int) {m n : Nat} {c : Cell} (h : c ∈ cells m n) : c ∈ (tabD f m n).map (·.1) := List.mem_map.mpr ⟨_, tabD_mem f h, rfl⟩
end Pu

set_option Elab.async false
set_option linter.all false
set_option maxRecDepth 100000
/-! Pm3: more steps -/
namespace Pu
open PySem PySem.Spec
theorem mod_any {i j : Int} (hj : j ≠ 0) (h : PH) : binop .Mod (.int i) (.int j) h = .ok (.int (i.fmod j)) h := by
  have e : binop .Mod (.int i) (.int j) h = guardR (decide (j ≠ 0)) (.ok (.int (if 0 < j then i % j else i.fmod j)) h) := id rfl
  rw [e, decide_eq_true hj, guardR_true, fmod_if]
theorem fdiv_any {i j : Int} (hj : j ≠ 0) (hb : j.natAbs < 2 ^ 60) (h : PH) : binop .FloorDiv (.int i) (.int j) h = .ok (.int (i.fdiv j)) h := by
  have e : binop .FloorDiv (.int i) (.int j) h = guardR (decide (j ≠ 0 ∧ j.natAbs.log2 < 9000)) (.ok (.int (if 0 < j then i / j else i.fdiv j)) h) := id rfl
  have hl : j.natAbs.log2 < 9000 := Nat.lt_of_lt_of_le ((Nat.log2_lt (by omega)).mpr hb) (by omega)
  rw [e, decide_eq_true ⟨hj, hl⟩, guardR_true, fdiv_if]
theorem mod_int {i j : Int} (hj : 0 < j) (h : PH) : binop .Mod (.int i) (.int j) h = .ok (.int (i % j)) h := by
  rw [mod_any (by omega), Int.fmod_eq_emod_of_nonneg i (by omega)]
theorem fdiv_int {i j : Int} (hj : 0 < j) (hb : j ≤ 1000000000000) (h : PH) : binop .FloorDiv (.int i) (.int j) h = .ok (.int (i / j)) h := by
  have hb2 : j.natAbs < 2 ^ 60 := by omega
  rw [fdiv_any (by omega) hb2, Int.fdiv_eq_ediv_of_nonneg i (by omega)]
theorem trimH_len {h h' : PH} (e : h'.length = h.length) (b : Bool) : trimH b h h' = h' := by
  unfold trimH
  split
  · rw [← e, List.take_length]
  · rfl
theorem len_lst {h : PH} {n : Nat} {xs : List PV} (e : h[n]? = some (.lst xs)) : biV .len [.ref n] h = .ok (.int xs.length) h := by simp only [biV, e]
theorem ix_lst {h : PH} {n : Nat} {xs : List PV} (e : h[n]? = some (.lst xs)) (i : Int) : ixV (.ref n) (.int i) h = opt (L2.atI xs i) h := by simp only [ixV, e]
theorem pop_lst {h : PH} {n : Nat} {xs : List PV} {x : PV} (e : h[n]? = some (.lst (xs ++ [x]))) : mtV .pop (.ref n) [] h = .ok x (h.set n (.lst xs)) := by
  have e1 : (xs ++ [x])[(xs ++ [x]).length - 1]? = some x := by simp
  have e2 : (xs ++ [x]).dropLast = xs := by simp
  simp only [mtV, e, e1, e2]
theorem mtTy_pop {h : PH} {n : Nat} {xs : List PV} (e : h[n]? = some (.lst xs)) : mtTy .pop (.ref n) h = true := by simp only [mtTy, e]
theorem mtTy_append {h : PH} {n : Nat} {xs : List PV} (e : h[n]? = some (.lst xs)) : mtTy .append (.ref n) h = true := by simp only [mtTy, e]
theorem append_lst {h : PH} {n : Nat} {xs : List PV} (e : h[n]? = some (.lst xs)) (hl : xs.length ≤ 1000000) (x : PV) : mtV .append (.ref n) [x] h = .ok .non (h.set n (.lst (xs ++ [x]))) := by
  simp only [mtV, e]
  rw [decide_eq_true (show xs.length < sizeLine by rw [sizeLine_eq]; omega), guardR_true]
theorem set_lst {h : PH} {n : Nat} {xs : List PV} {j : Nat} (e : h[n]? = some (.lst xs)) (hj : j < xs.length) (v : PV) : setV (.ref n) (.int j) v h = .ok () (h.set n (.lst (xs.set j v))) := by
  have hx : L2.ixN xs.length (j : Int) = some j := by
    unfold L2.ixN
    simp [hj]
  simp only [setV, e, hx]
@[simp] theorem int_int (i : Int) (h : PH) : biV .int [.int i] h = .ok (.int i) h := id rfl
@[simp] theorem int_bl (b : Bool) (h : PH) : biV .int [.bl b] h = .ok (.int (if b = true then 1 else 0)) h := id rfl
@[simp] theorem abs_int (i : Int) (h : PH) : biV .abs [.int i] h = .ok (.int (if i < 0 then -i else i)) h := id rfl
theorem getset_ne {h : PH} {i j : Nat} (hij : i ≠ j) (o : PO) : (h.set j o)[i]? = h[i]? := List.getElem?_set_ne (Ne.symm hij)
theorem getset_eq {h : PH} {j : Nat} {o o' : PO} (e : h[j]? = some o') : (h.set j o)[j]? = some o := by
  have := (List.getElem?_eq_some_iff.mp e).1
  simp [this]
/-- a for whose turns all go on, by a relation along the todo list -/
theorem addLL {h : PH} {a b : Nat} {xs ys : List PV} (e1 : h[a]? = some (.lst xs)) (e2 : h[b]? = some (.lst ys)) (hl : xs.length + ys.length ≤ 1000000) : binop .Add (.ref a) (.ref b) h = .ok (.ref h.length) (h ++ [.lst (xs ++ ys)]) := by
  have : binop .Add (.ref a) (.ref b) h = guardR (decide (xs.length + ys.length ≤ sizeLine)) (new (.lst (xs ++ ys)) h) := by
    simp only [binop, addV, e1, e2]
  rw [this, sz_dec hl, guardR_true, new_eq]
theorem gd_of {n : Nat} {o : PO} {h : PH} (e : h[n]? = some o) : gdOk [(n, o)] h = true := gd_one e
end Pu

set_option Elab.async false
set_option linter.all false
set_option maxRecDepth 100000
/-! N00a: k00: ground; steps_of, shift_sides, shifts_of, is_box_told -/
namespace Pu
open PySem PySem.Spec
theorem allInt_map (ns : List Int) : allInt (ns.map .int) = some ns := by
  induction ns with
  | nil => rfl
  | cons n ns ih => simp [allInt, ih]
theorem allPr_map (ps : List Cell) : allPr (ps.map ofPr) = some ps := by
  induction ps with
  | nil => rfl
  | cons p ps ih => simp [allPr, prOf, ofPr, ih]
theorem getH_app (h g : PH) (i : Nat) : (h ++ g)[h.length + i]? = g[i]? := by
  rw [List.getElem?_append_right (by omega)]
  congr 1
  omega
theorem setH_app (h g : PH) (i : Nat) (o : PO) : (h ++ g).set (h.length + i) o = h ++ g.set i o := by
  rw [List.set_append_right _ _ (by omega)]
  congr 2
  omega
theorem getH_0 (h g : PH) (o : PO) : (h ++ o :: g)[h.length]? = some o := by
  have := getH_app h (o :: g) 0
  simpa using this
theorem setH_0 (h g : PH) (o o' : PO) : (h ++ o :: g).set h.length o' = h ++ o' :: g := by
  have := setH_app h (o :: g) 0 o'
  simpa using this
theorem up_app' {H : PH} {a : Nat} {o : PO} (e : H[a]? = some o) (g : PH) : (H ++ g)[a]? = some o := by
  rw [List.getElem?_append_left (List.getElem?_eq_some_iff.mp e).1]
  exact e
def sA (l : List Cell) : Int := (l.map (·.1)).sum
def absI (i : Int) : Int := if i < 0 then -i else i
def sB (l : List Cell) : Int := (l.map fun d => absI d.2).sum
theorem sA_nn {l : List Cell} (hd : ∀ d ∈ l, 0 ≤ d.1) : 0 ≤ sA l := by
  induction l with
  | nil => simp [sA]
  | cons d l ih =>
    have h1 := ih fun e he => hd e (List.mem_cons_of_mem _ he)
    have h2 := hd d List.mem_cons_self
    simp only [sA, List.map_cons, List.sum_cons] at h1 ⊢
    omega
theorem absI_nn (i : Int) : 0 ≤ absI i := by unfold absI; split <;> omega
theorem sB_nn (l : List Cell) : 0 ≤ sB l := by
  induction l with
  | nil => simp [sB]
  | cons d l ih =>
    have h2 := absI_nn d.2
    simp only [sB, List.map_cons, List.sum_cons] at ih ⊢
    omega
def shX (m : Nat) (n : Nat) (l : List Cell) : Nat := if (m : Int) ≤ sA l ∨ (n : Int) ≤ sB l then 0 else ((m : Int) - sA l).toNat
def shY (m : Nat) (n : Nat) (l : List Cell) : Nat := if (m : Int) ≤ sA l ∨ (n : Int) ≤ sB l then 0 else ((n : Int) - sB l).toNat
theorem ends_exc (h h' : PH) (c : Str) (fs : List (Str × PV)) : ends h (.exc c fs h') = .exc c fs h' := rfl
end Pu
namespace K00
open PySem PySem.Spec Pu
abbrev Ck (k : Nat) : Cfg := ⟨callN (ds.map (·.fd)) 1000 k, 1000⟩
theorem rng_nat {n : Nat} (hn : n ≤ 1000000) (h : PH) : rngV [.int (n : Int)] h = .ok ((List.range n).map (fun (k : Nat) => .int (k : Int)), []) h := by
  have hs := sz_of hn
  have e : decide (-(2 ^ 62) ≤ (n : Int) ∧ (n : Int) < 2 ^ 62 ∧ (n : Int).toNat ≤ sizeLine) = true := decide_eq_true ⟨by omega, by omega, by rw [Int.toNat_natCast]; exact hs⟩
  show guardR (decide _) _ = _
  rw [e]
  rfl
section
variable (C : Cfg) (h : PH)
theorem tuple_lst (vs : List PV) : biV .tuple [.ref h.length] (h ++ [.lst vs]) = .ok (.tup vs) (h ++ [.lst vs]) := by
  simp [biV, lstOf]
theorem los_pr (n : Nat) (l : List Cell) : PV.los n (l.map ofPr) = true := los_map fun _ _ => rfl
theorem cells_pv (m n : Nat) : ((List.range m).flatMap fun (x : Nat) => (List.range n).map fun (y : Nat) => ofPr ((x : Int), (y : Int))) = (cells m n).map ofPr := by
  unfold cells
  rw [List.map_flatMap]
  congr 1
  funext x
  rw [List.map_map]
  rfl
end
theorem box_0 {m n : Nat} (h : PH) : ixV (pBox m n) (.int 0) h = .ok (.int m) h := id rfl
theorem box_1 {m n : Nat} (h : PH) : ixV (pBox m n) (.int 1) h = .ok (.int n) h := by
  unfold pBox
  rw [Pu.ix_tup, atI_1, opt_some]
section
variable (C : Cfg) (h : PH)
theorem walk_tup (xs : List PV) : walkV (.tup xs) h = .ok (xs, []) h := id rfl
end
structure Lot (l : List Cell) : Prop where
  len : l.length ≤ 4
  ok : ∀ d ∈ l, d ≠ (0, 0) ∧ 0 ≤ d.1
section
variable (C : Cfg) (h : PH)
theorem sum_lst (h : PH) (ns : List Int) : biV .sum [.ref h.length] (h ++ [.lst (ns.map .int)]) = .ok (.int ns.sum) (h ++ [.lst (ns.map .int)]) := by
  simp only [biV, getH_0, allInt_map, opt_some, Res.bind_ok]
theorem walk_pr (l : List Cell) (h : PH) : walkV (pCells l) h = .ok (l.map ofPr, []) h := id rfl
theorem y_steps_of {l : List Cell} (hl : l.length ≤ 1000) : evB C b_steps_of [some (pCells l), none, none] h = .ok (.rt (ofPr (sA l, sB l))) h := by
  have it : evIt C (.val (.var 0)) [some (pCells l), none, none] h = .ok (l.map ofPr, []) h := by
    simp only [evIt_val, ev_var, look_0, opt_some, Res.bind_ok, walk_pr, noX_ok]
  have tg : ∀ d : Cell, asg C (.tup (.cons (.name 1) (.cons (.name 2) .nil))) (ofPr d) (wipeE [some (pCells l), none, none] [1, 2]) h = .ok [some (pCells l), some (.int d.1), some (.int d.2)] h := fun d => by simp [ofPr, wipeE]
  have e1 := ev_lc_map (C := C) (ρ := [some (pCells l), none, none]) (h := h) (own := [1, 2]) (e := .var 1) ofPr (fun d => .int d.1) l it rfl (sz_of (by omega)) (fun d _ => ⟨_, tg d, by simp only [ev_var, look_0, look_s, opt_some]⟩)
  have e2 := ev_lc_map (C := C) (ρ := [some (pCells l), none, none]) (h := h) (own := [1, 2]) (e := .bi .abs (.cons (.var 2) .nil)) ofPr (fun d => .int (absI d.2)) l it rfl (sz_of (by omega)) (fun d _ => ⟨_, tg d, by
    simp only [ev_bi, evs_cons, evs_nil, ev_var, look_0, look_s, opt_some, Res.bind_ok]
    exact id rfl⟩)
  have m1 : (l.map fun d => PV.int d.1) = (l.map (·.1)).map .int := by rw [List.map_map]; rfl
  have m2 : (l.map fun d => PV.int (absI d.2)) = (l.map fun d => absI d.2).map .int := by rw [List.map_map]; rfl
  rw [m1] at e1
  rw [m2] at e2
  unfold b_steps_of
  refine evB_rt ?_
  simp only [evS_ret, ev_tup2, ev_tr, ev_bi, evs_cons, evs_nil, e1, e2, Res.bind_ok, sum_lst, noX_ok, lo_int, trimH_app, if_true]
  exact id rfl
end
theorem c_steps_of {k : Nat} (hk : 1 ≤ k) (h : PH) {l : List Cell} (hl : l.length ≤ 1000) : cN k i_steps_of [pCells l] h = .ok (ofPr (sA l, sB l)) h := by
  obtain ⟨k, rfl⟩ : ∃ j, k = j + 1 := ⟨k - 1, by omega⟩
  rw [cN, call_of (d := f_steps_of) rfl rfl]
  show ends h (evB _ b_steps_of [some (pCells l), none, none] h) = _
  rw [y_steps_of _ h hl]
  simp only [ends_rt, trimH_same]
section
variable (C : Cfg) (h : PH)
theorem y_shift_sides {m n : Nat} {l : List Cell} (H : Lot l) (hs : ∀ g, C.call i_steps_of [pCells l] g = .ok (ofPr (sA l, sB l)) g) : evB C b_shift_sides [some (pBox m n), some (pCells l), none, none] h = .ok (.rt (.tup [.int (shX m n l), .int (shY m n l)])) h := by
  have s1 : evS C (.asg (.tup (.cons (.name 2) (.cons (.name 3) .nil))) (.call i_steps_of (.cons (.var 1) .nil))) [some (pBox m n), some (pCells l), none, none] h = .ok (.nx [some (pBox m n), some (pCells l), some (.int (sA l)), some (.int (sB l))]) h := by
    simp [hs, ofPr]
  have t : ev C (.or (.cons (.cmp .GtE (.var 2) (.ix (.var 0) (.con (.int 0)))) (.cons (.cmp .GtE (.var 3) (.ix (.var 0) (.con (.int 1)))) .nil))) [some (pBox m n), some (pCells l), some (.int (sA l)), some (.int (sB l))] h = .ok (.bl (decide ((m : Int) ≤ sA l ∨ (n : Int) ≤ sB l))) h := by
    simp only [ev_or2, ev_or1, ev_cmp, ev_ix, ev_var, look_0, look_s, opt_some, Res.bind_ok, ev_con, box_0, box_1, noX_ok, cmp_ge, tru_bl]
    by_cases k : (m : Int) ≤ sA l
    · simp [k]
    · simp [k]
  unfold b_shift_sides
  rw [evB_nx s1]
  by_cases k : (m : Int) ≤ sA l ∨ (n : Int) ≤ sB l
  · refine evB_rt ?_
    rw [evS_ite_t (h' := h) (by simp only [evT_eq, t, Res.bind_ok, tru_bl, decide_eq_true k])]
    refine evB_rt ?_
    simp only [evS_ret, ev_tup2, ev_con, Res.bind_ok, shX, shY, if_pos k]
    exact id rfl
  · rw [evB_nx (ρ' := [some (pBox m n), some (pCells l), some (.int (sA l)), some (.int (sB l))]) (h' := h) (by rw [evS_ite_f (h' := h) (by simp only [evT_eq, t, Res.bind_ok, tru_bl, decide_eq_false k]), evB_nil])]
    refine evB_rt ?_
    have e1 : (((m : Int) - sA l).toNat : Int) = m - sA l := by omega
    have e2 : (((n : Int) - sB l).toNat : Int) = n - sB l := by omega
    simp only [evS_ret, ev_tup2, ev_bin, ev_ix, ev_var, look_0, look_s, opt_some, ev_con, Res.bind_ok, box_0, box_1, noX_ok, sub_int, shX, shY, if_neg k, e1, e2]
theorem sh_le (m n : Nat) (l : List Cell) (hd : ∀ d ∈ l, 0 ≤ d.1) : shX m n l ≤ m ∧ shY m n l ≤ n := by
  have := sA_nn hd
  have := sB_nn l
  unfold shX shY
  split <;> omega
theorem y_shifts_of {m n : Nat} {l : List Cell} (H : Lot l) (hm : m ≤ 1000) (hn : n ≤ 1000) (hs : ∀ g, C.call i_shift_sides [pBox m n, pCells l] g = .ok (.tup [.int (shX m n l), .int (shY m n l)]) g) :
    evB C b_shifts_of [some (pBox m n), some (pCells l), none, none, none, none] h = .ok (.rt (pCells (cells (shX m n l) (shY m n l)))) h := by
  obtain ⟨k1, k2⟩ := sh_le m n l fun d hd => (H.ok d hd).2
  generalize shX m n l = X at *
  generalize shY m n l = Y at *
  have hxy : X * Y ≤ 1000000 := by have := Nat.mul_le_mul (show X ≤ 1000 by omega) (show Y ≤ 1000 by omega); omega
  have s1 : evS C (.asg (.tup (.cons (.name 2) (.cons (.name 3) .nil))) (.call i_shift_sides (.cons (.var 0) (.cons (.var 1) .nil)))) [some (pBox m n), some (pCells l), none, none, none, none] h = .ok (.nx [some (pBox m n), some (pCells l), some (.int X), some (.int Y), none, none]) h := by
    simp [hs]
  have e := ev_lc2_map (C := C) (ρ := [some (pBox m n), some (pCells l), some (.int X), some (.int Y), none, none]) (h := h) (own := [4, 5]) (own1 := [5]) (tg := .name 4) (tg1 := .name 5) (it := .rng (.cons (.var 2) .nil)) (it1 := .rng (.cons (.var 3) .nil)) (e := .tup (.cons (.var 4) (.cons (.var 5) .nil)))
    (g := []) (fun (x : Nat) => .int (x : Int)) (fun (y : Nat) => .int (y : Int)) (fun _ => List.range Y) (fun x y => ofPr ((x : Int), (y : Int))) (List.range X) (by simp [rng_nat (show X ≤ 1000000 by omega)]) rfl (by rw [cells_pv, List.length_map, cells_len]; exact sz_of hxy) (fun x _ => by
      refine ⟨[some (pBox m n), some (pCells l), some (.int X), some (.int Y), some (.int x), none], [], by simp [wipeE], by simp [rng_nat (show Y ≤ 1000000 by omega)], rfl, fun y _ => ⟨[some (pBox m n), some (pCells l), some (.int X), some (.int Y), some (.int x), some (.int y)], by simp [wipeE], by simp [ofPr]⟩⟩)
  rw [cells_pv] at e
  unfold b_shifts_of
  rw [evB_nx s1]
  refine evB_rt ?_
  simp only [evS_ret, ev_tr, ev_bi, evs_cons, evs_nil, e, Res.bind_ok, tuple_lst, noX_ok, lo_tup, los_pr, trimH_app, if_true]
  exact id rfl
end
theorem c_shift_sides {k : Nat} (hk : 2 ≤ k) (h : PH) {m n : Nat} {l : List Cell} (H : Lot l) : cN k i_shift_sides [pBox m n, pCells l] h = .ok (.tup [.int (shX m n l), .int (shY m n l)]) h := by
  obtain ⟨k, rfl⟩ : ∃ j, k = j + 1 := ⟨k - 1, by omega⟩
  rw [cN, call_of (d := f_shift_sides) rfl rfl]
  show ends h (evB _ b_shift_sides [some (pBox m n), some (pCells l), none, none] h) = _
  rw [y_shift_sides (Ck k) h H fun g => c_steps_of (by omega) g (by have := H.len; omega)]
  simp only [ends_rt, trimH_same]
theorem c_shifts_of {k : Nat} (hk : 3 ≤ k) (h : PH) {m n : Nat} {l : List Cell} (H : Lot l) (hm : m ≤ 1000) (hn : n ≤ 1000) : cN k i_shifts_of [pBox m n, pCells l] h = .ok (pCells (cells (shX m n l) (shY m n l))) h := by
  obtain ⟨k, rfl⟩ : ∃ j, k = j + 1 := ⟨k - 1, by omega⟩
  rw [cN, call_of (d := f_shifts_of) rfl rfl]
  show ends h (evB _ b_shifts_of [some (pBox m n), some (pCells l), none, none, none, none] h) = _
  rw [y_shifts_of (Ck k) h H hm hn fun g => c_shift_sides (by omega) g H]
  simp only [ends_rt, trimH_same]
section
variable (C : Cfg) (h : PH)
theorem y_box_told {m n : Nat} {l : List Cell} (hsh : C.call i_shifts_of [pBox m n, pCells l] h = .ok (pCells (cells (shX m n l) (shY m n l))) h) :
    evB C b_is_box_told [some (pBox m n), some (pCells l)] h = .ok (.rt (.bl (cells (shX m n l) (shY m n l)).isEmpty)) h := by
  unfold b_is_box_told
  refine evB_rt ?_
  have t : truthy (pCells (cells (shX m n l) (shY m n l))) h = .ok (!(cells (shX m n l) (shY m n l)).isEmpty) h := by
    have : truthy (pCells (cells (shX m n l) (shY m n l))) h = .ok (!((cells (shX m n l) (shY m n l)).map ofPr).isEmpty) h := id rfl
    rw [this]
    simp
  simp only [evS_ret, ev_not, ev_call, evs_cons, evs_nil, ev_var, look_0, look_s, opt_some, Res.bind_ok, hsh, t, Bool.not_not]
end
theorem c_box_told {k : Nat} (hk : 4 ≤ k) (h : PH) {m n : Nat} {l : List Cell} (H : Lot l) (hm : m ≤ 1000) (hn : n ≤ 1000) : cN k i_is_box_told [pBox m n, pCells l] h = .ok (.bl (cells (shX m n l) (shY m n l)).isEmpty) h := by
  obtain ⟨k, rfl⟩ : ∃ j, k = j + 1 := ⟨k - 1, by omega⟩
  rw [cN, call_of (d := f_is_box_told) rfl rfl]
  show ends h (evB (Ck k) b_is_box_told [some (pBox m n), some (pCells l)] h) = _
  rw [y_box_told (Ck k) h (c_shifts_of (by omega) h H hm hn)]
  simp only [ends_rt, trimH_same]
end K00

set_option Elab.async false
set_option linter.all false
set_option maxRecDepth 100000
/-! N00b: k00: the source -/
namespace K00
open PySem PySem.Spec Pu
/-- the source stands in the heap at i -/
def Ch (h : PH) (i : Nat) : Prop := ∃ (c : Int) (ks : List Int), h[i]? = some (.lst (.int c :: ks.map .int)) ∧ 0 ≤ c ∧ c < 2147483647 ∧ ks.length ≤ 1000
/-- what a take leaves -/
structure Chn (h h' : PH) (i : Nat) : Prop where
  len : h'.length = h.length
  same : ∀ a, a ≠ i → h'[a]? = h[a]?
  ok : Ch h' i
/-- a heap behind: the source may have changed, the rest of the old one not -/
structure Ext (h h' : PH) (i : Nat) : Prop where
  len : h.length ≤ h'.length
  same : ∀ a, a < h.length → a ≠ i → h'[a]? = h[a]?
  ok : Ch h' i
theorem Ch.lt {h : PH} {i : Nat} (H : Ch h i) : i < h.length := by
  obtain ⟨c, ks, hi, _⟩ := H
  exact (List.getElem?_eq_some_iff.mp hi).1
theorem Ch.app {h : PH} {i : Nat} (H : Ch h i) (g : PH) : Ch (h ++ g) i := by
  have k1 := H.lt
  obtain ⟨c, ks, hi, b⟩ := H
  exact ⟨c, ks, by rw [List.getElem?_append_left k1]; exact hi, b⟩
theorem Ch.set {h : PH} {i a : Nat} (H : Ch h i) (h1 : a ≠ i) (o : PO) : Ch (h.set a o) i := by
  obtain ⟨c, ks, hi, b⟩ := H
  exact ⟨c, ks, by rw [getset_ne (Ne.symm h1)]; exact hi, b⟩
theorem Ext.rfl' {h : PH} {i : Nat} (H : Ch h i) : Ext h h i := ⟨Nat.le_refl _, fun _ _ _ => rfl, H⟩
theorem Ext.app {h : PH} {i : Nat} (H : Ch h i) (g : PH) : Ext h (h ++ g) i := ⟨by simp, fun a ha _ => List.getElem?_append_left ha, H.app g⟩
theorem Ext.of {h h' : PH} {i : Nat} (H : Chn h h' i) : Ext h h' i := ⟨by rw [H.len]; omega, fun a _ h1 => H.same a h1, H.ok⟩
theorem Ext.trans {h h' h'' : PH} {i : Nat} (H : Ext h h' i) (K : Ext h' h'' i) : Ext h h'' i := ⟨Nat.le_trans H.len K.len, fun a h0 h1 => (K.same a (Nat.lt_of_lt_of_le h0 H.len) h1).trans (H.same a h0 h1), K.ok⟩
theorem Ext.set {h h' : PH} {i a : Nat} (H : Ext h h' i) (h0 : h.length ≤ a) (h1 : a ≠ i) (o : PO) : Ext h (h'.set a o) i := ⟨by simp; exact H.len, fun b hb k1 => by rw [getset_ne (by omega)]; exact H.same b hb k1, H.ok.set h1 o⟩
theorem Ext.trim {h h' : PH} {i : Nat} (H : Ext h h' i) (hi : i < h.length) (b : Bool) : Ext h (trimH b h h') i := by
  unfold trimH
  split
  · obtain ⟨c, ks, e1, e3⟩ := H.ok
    exact ⟨by rw [List.length_take]; have := H.len; omega, fun a ha h1 => by rw [List.getElem?_take_of_lt ha]; exact H.same a ha h1, c, ks, by rw [List.getElem?_take_of_lt hi]; exact e1, e3⟩
  · exact H
theorem pop_ix {h : PH} {n k : Nat} {xs : List PV} (e : h[n]? = some (.lst xs)) (hk : k < xs.length) (hb : xs.length ≤ 1000) : mtV .pop (.ref n) [.int (k : Int)] h = .ok xs[k] (h.set n (.lst (xs.eraseIdx k))) := by
  have e1 : seqIndex? (k : Int) xs.length = some k := by
    have hn : ¬ (k : Int) < 0 := by omega
    unfold seqIndex?
    simp [hk, hn]
  simp only [mtV, e, e1, List.getElem?_eq_getElem hk]
  rw [decide_eq_true (show -(2 ^ 63) ≤ (k : Int) ∧ (k : Int) < 2 ^ 63 by omega), guardR_true]
theorem pow18 (h : PH) : binop .Pow (.int 10) (.int 18) h = .ok (.int 1000000000000000000) h := by
  have e : binop .Pow (.int 10) (.int 18) h = guardR (decide (0 ≤ (18 : Int) ∧ (18 : Int) ≤ 1000000 ∧ (10 : Int).natAbs < 2 ^ 64)) (.ok (.int ((10 : Int) ^ (18 : Int).toNat)) h) := id rfl
  rw [e, show decide (0 ≤ (18 : Int) ∧ (18 : Int) ≤ 1000000 ∧ (10 : Int).natAbs < 2 ^ 64) = true by decide +kernel, guardR_true, show (10 : Int) ^ (18 : Int).toNat = 1000000000000000000 by decide +kernel]
theorem pow9 (h : PH) : binop .Pow (.int 10) (.int 9) h = .ok (.int 1000000000) h := by
  have e : binop .Pow (.int 10) (.int 9) h = guardR (decide (0 ≤ (9 : Int) ∧ (9 : Int) ≤ 1000000 ∧ (10 : Int).natAbs < 2 ^ 64)) (.ok (.int ((10 : Int) ^ (9 : Int).toNat)) h) := id rfl
  rw [e, show decide (0 ≤ (9 : Int) ∧ (9 : Int) ≤ 1000000 ∧ (10 : Int).natAbs < 2 ^ 64) = true by decide +kernel, guardR_true, show (10 : Int) ^ (9 : Int).toNat = 1000000000 by decide +kernel]
theorem pow6 (h : PH) : binop .Pow (.int 10) (.int 6) h = .ok (.int 1000000) h := by
  have e : binop .Pow (.int 10) (.int 6) h = guardR (decide (0 ≤ (6 : Int) ∧ (6 : Int) ≤ 1000000 ∧ (10 : Int).natAbs < 2 ^ 64)) (.ok (.int ((10 : Int) ^ (6 : Int).toNat)) h) := id rfl
  rw [e, show decide (0 ≤ (6 : Int) ∧ (6 : Int) ≤ 1000000 ∧ (10 : Int).natAbs < 2 ^ 64) = true by decide +kernel, guardR_true, show (10 : Int) ^ (6 : Int).toNat = 1000000 by decide +kernel]
theorem shl2000 (h : PH) : ∃ Z : Int, 0 < Z ∧ ∀ h, binop .LShift (.int 1) (.int 2000) h = .ok (.int Z) h := by
  refine ⟨1 * 2 ^ (2000 : Int).toNat, by have := Int.pow_pos (n := 2) (m := (2000 : Int).toNat) (by omega); omega, fun h => ?_⟩
  have e : binop .LShift (.int 1) (.int 2000) h = guardR (decide (0 ≤ (2000 : Int) ∧ (2000 : Int) ≤ 1000000 ∧ (1 : Int).natAbs < 2 ^ 64)) (.ok (.int ((1 : Int) * 2 ^ (2000 : Int).toNat)) h) := id rfl
  rw [e, show decide (0 ≤ (2000 : Int) ∧ (2000 : Int) ≤ 1000000 ∧ (1 : Int).natAbs < 2 ^ 64) = true by decide +kernel, guardR_true]
def TakeC (C : Cfg) : Prop := ∀ (h : PH) (i : Nat) (many : Int), Ch h i → 0 < many → many ≤ 10000000000 → ∃ r h', C.call i__law_take [.ref i, .int many] h = .ok (.int r) h' ∧ 0 ≤ r ∧ r < many ∧ Chn h h' i
section
variable (C : Cfg)
theorem y_take {h : PH} {i : Nat} {many : Int} (H : Ch h i) (hm : 0 < many) (hb : many ≤ 10000000000) : ∃ r h', evB C b__law_take [some (.ref i), some (.int many), none] h = .ok (.rt (.int r)) h' ∧ 0 ≤ r ∧ r < many ∧ Chn h h' i := by
  obtain ⟨c, ks, hi, hc0, hc1, hk⟩ := H
  have i0 : ixV (.ref i) (.int 0) h = .ok (.int c) h := by rw [ix_lst hi, atI_0, opt_some]
  have hl := len_lst hi
  rw [List.length_cons, List.length_map] at hl
  have t : evT C (.cmp .Gt (.bi .len (.cons (.var 0) .nil)) (.con (.int 1))) [some (.ref i), some (.int many), none] h = .ok (decide ((1 : Int) < (ks.length + 1 : Nat))) h := by
    simp only [evS_asg, evS_ret, evS_exp, evS_par, evT_eq, ev_var, ev_con, ev_gcon, ev_bin, ev_neg, ev_not, ev_bi, ev_ix, ev_call, ev_cmp, evs_cons, evs_nil, ev_tup1, ev_tup2, ev_tup3, ev_lst0, ev_lst1, new_eq, look_0, look_s, opt_some, Res.bind_ok, noX_ok, asg_name, asg_tup, asgs_cons, asgs_nil, List.set_cons_succ, List.set_cons_zero, tru_bl, cmp_lt, cmp_le, cmp_gt, cmp_ge, cmp_eqI, cmp_neI, add_int, sub_int, neg_int, int_int, guardR_true, hl]
  have hr1 := fun x => Int.emod_lt_of_pos x hm
  have hr0 := fun x => Int.emod_nonneg x (show many ≠ 0 by omega)
  rcases List.eq_nil_or_concat ks with rfl | ⟨pre, x, rfl⟩
  · have t' : evT C (.cmp .Gt (.bi .len (.cons (.var 0) .nil)) (.con (.int 1))) [some (.ref i), some (.int many), none] h = .ok false h := t
    have hcm : mulOk c 39373 = true := mulOk_s (sm_le (by omega) (by omega)) (sm_le (by omega) (by omega))
    have q0 : 0 ≤ (c * 39373 + 73013) % 2147483647 := Int.emod_nonneg _ (by omega)
    have q1 : (c * 39373 + 73013) % 2147483647 < 2147483647 := Int.emod_lt_of_pos _ (by omega)
    generalize hx : (c * 39373 + 73013) % 2147483647 = x at q0 q1
    have hs : setV (.ref i) (.int 0) (.int x) h = .ok () (h.set i (.lst [.int x])) := set_lst (j := 0) hi (by simp) _
    have gi : (h.set i (.lst [.int x]))[i]? = some (.lst [.int x]) := getset_eq hi
    have j0 : ixV (.ref i) (.int 0) (h.set i (.lst [.int x])) = .ok (.int x) (h.set i (.lst [.int x])) := by rw [ix_lst gi, atI_0, opt_some]
    refine ⟨x / 83 % many, h.set i (.lst [.int x]), ?_, hr0 _, hr1 _, by simp, fun a h1 => getset_ne h1 _, ?_⟩
    · unfold b__law_take
      rw [evB_nx (ρ' := [some (.ref i), some (.int many), none]) (h' := h) (by rw [evS_ite_f t', evB_nil])]
      rw [evB_nx (ρ' := [some (.ref i), some (.int many), none]) (h' := h.set i (.lst [.int x])) (by
        simp only [evS_asg, evS_ret, evS_exp, evS_par, evT_eq, ev_var, ev_con, ev_gcon, ev_bin, ev_neg, ev_not, ev_bi, ev_ix, ev_call, ev_cmp, evs_cons, evs_nil, ev_tup1, ev_tup2, ev_tup3, ev_lst0, ev_lst1, new_eq, look_0, look_s, opt_some, Res.bind_ok, noX_ok, asg_name, asg_tup, asgs_cons, asgs_nil, List.set_cons_succ, List.set_cons_zero, tru_bl, cmp_lt, cmp_le, cmp_gt, cmp_ge, cmp_eqI, cmp_neI, add_int, sub_int, neg_int, int_int, guardR_true, i0, mul_int hcm, mod_int (show (0 : Int) < 2147483647 by omega), hx, asg_sub, hs])]
      refine evB_rt ?_
      simp only [evS_asg, evS_ret, evS_exp, evS_par, evT_eq, ev_var, ev_con, ev_gcon, ev_bin, ev_neg, ev_not, ev_bi, ev_ix, ev_call, ev_cmp, evs_cons, evs_nil, ev_tup1, ev_tup2, ev_tup3, ev_lst0, ev_lst1, new_eq, look_0, look_s, opt_some, Res.bind_ok, noX_ok, asg_name, asg_tup, asgs_cons, asgs_nil, List.set_cons_succ, List.set_cons_zero, tru_bl, cmp_lt, cmp_le, cmp_gt, cmp_ge, cmp_eqI, cmp_neI, add_int, sub_int, neg_int, int_int, guardR_true, j0, fdiv_int (show (0 : Int) < 83 by omega) (by omega), mod_int hm]
    · exact ⟨x, [], gi, q0, by omega, by simp⟩
  · rw [List.concat_eq_append] at *
    rw [List.length_append] at hk
    have t' : evT C (.cmp .Gt (.bi .len (.cons (.var 0) .nil)) (.con (.int 1))) [some (.ref i), some (.int many), none] h = .ok true h := by
      rw [t]
      congr 1
      exact decide_eq_true (by simp; omega)
    have hi' : h[i]? = some (.lst ((.int c :: pre.map .int) ++ [.int x])) := by rw [hi]; simp
    have gi : ∀ o, (h.set i o)[i]? = some o := fun o => getset_eq hi
    have s1 : evS C (.asg (.name 2) (.bi .int (.cons (.mt .pop (.var 0) .nil) .nil))) [some (.ref i), some (.int many), none] h = .ok (.nx [some (.ref i), some (.int many), some (.int x)]) (h.set i (.lst (.int c :: pre.map .int))) := by
      simp only [evS_asg, evS_ret, evS_exp, evS_par, evT_eq, ev_var, ev_con, ev_gcon, ev_bin, ev_neg, ev_not, ev_bi, ev_ix, ev_call, ev_cmp, evs_cons, evs_nil, ev_tup1, ev_tup2, ev_tup3, ev_lst0, ev_lst1, new_eq, look_0, look_s, opt_some, Res.bind_ok, noX_ok, asg_name, asg_tup, asgs_cons, asgs_nil, List.set_cons_succ, List.set_cons_zero, tru_bl, cmp_lt, cmp_le, cmp_gt, cmp_ge, cmp_eqI, cmp_neI, add_int, sub_int, neg_int, int_int, guardR_true, ev_mt, mtTy_pop hi', pop_lst hi']
    have fin : ∀ (xs : List Int), xs.length ≤ 1000 → Chn h (h.set i (.lst (.int c :: xs.map .int))) i := fun xs hxs => ⟨by simp, fun a h1 => getset_ne h1 _, ⟨c, xs, gi _, hc0, hc1, hxs⟩⟩
    have t2 : ∀ g, evT C (.cmp .GtE (.var 2) (.var 1)) [some (.ref i), some (.int many), some (.int x)] g = .ok (decide (many ≤ x)) g := fun g => by
      simp only [evS_asg, evS_ret, evS_exp, evS_par, evT_eq, ev_var, ev_con, ev_gcon, ev_bin, ev_neg, ev_not, ev_bi, ev_ix, ev_call, ev_cmp, evs_cons, evs_nil, ev_tup1, ev_tup2, ev_tup3, ev_lst0, ev_lst1, new_eq, look_0, look_s, opt_some, Res.bind_ok, noX_ok, asg_name, asg_tup, asgs_cons, asgs_nil, List.set_cons_succ, List.set_cons_zero, tru_bl, cmp_lt, cmp_le, cmp_gt, cmp_ge, cmp_eqI, cmp_neI, add_int, sub_int, neg_int, int_int, guardR_true]
    have rest : ∀ g, evS C (.ret (.bin .Mod (.var 2) (.var 1))) [some (.ref i), some (.int many), some (.int x)] g = .ok (.rt (.int (x % many))) g := fun g => by
      simp only [evS_asg, evS_ret, evS_exp, evS_par, evT_eq, ev_var, ev_con, ev_gcon, ev_bin, ev_neg, ev_not, ev_bi, ev_ix, ev_call, ev_cmp, evs_cons, evs_nil, ev_tup1, ev_tup2, ev_tup3, ev_lst0, ev_lst1, new_eq, look_0, look_s, opt_some, Res.bind_ok, noX_ok, asg_name, asg_tup, asgs_cons, asgs_nil, List.set_cons_succ, List.set_cons_zero, tru_bl, cmp_lt, cmp_le, cmp_gt, cmp_ge, cmp_eqI, cmp_neI, add_int, sub_int, neg_int, int_int, guardR_true, mod_int hm]
    cases ht : decide (many ≤ x) with
    | false =>
      refine ⟨x % many, h.set i (.lst (.int c :: pre.map .int)), ?_, hr0 _, hr1 _, fin pre (by simp at hk; omega)⟩
      unfold b__law_take
      refine evB_rt ?_
      rw [evS_ite_t t', evB_nx s1, evB_nx (ρ' := [some (.ref i), some (.int many), some (.int x)]) (h' := h.set i (.lst (.int c :: pre.map .int))) (by rw [evS_ite_f (by rw [t2, ht]), evB_nil])]
      exact evB_rt (rest _)
    | true =>
      refine ⟨x % many, h.set i (.lst (.int c :: (pre ++ [x / many]).map .int)), ?_, hr0 _, hr1 _, fin _ (by simp at hk ⊢; omega)⟩
      have ap := append_lst (gi (.lst (.int c :: pre.map .int))) (by simp at hk ⊢; omega) (.int (x / many))
      rw [List.set_set] at ap
      have em : PV.int c :: (pre ++ [x / many]).map PV.int = PV.int c :: pre.map .int ++ [.int (x / many)] := by simp
      rw [em]
      unfold b__law_take
      refine evB_rt ?_
      rw [evS_ite_t t', evB_nx s1, evB_nx (ρ' := [some (.ref i), some (.int many), some (.int x)]) (h' := h.set i (.lst (.int c :: pre.map .int ++ [.int (x / many)]))) (by
        rw [evS_ite_t (by rw [t2, ht])]
        refine (evB_nx ?_).trans (evB_nil _ _ _)
        simp only [evS_asg, evS_ret, evS_exp, evS_par, evT_eq, ev_var, ev_con, ev_gcon, ev_bin, ev_neg, ev_not, ev_bi, ev_ix, ev_call, ev_cmp, evs_cons, evs_nil, ev_tup1, ev_tup2, ev_tup3, ev_lst0, ev_lst1, new_eq, look_0, look_s, opt_some, Res.bind_ok, noX_ok, asg_name, asg_tup, asgs_cons, asgs_nil, List.set_cons_succ, List.set_cons_zero, tru_bl, cmp_lt, cmp_le, cmp_gt, cmp_ge, cmp_eqI, cmp_neI, add_int, sub_int, neg_int, int_int, guardR_true, ev_mt, mtTy_append (gi _), fdiv_int hm (show many ≤ 1000000000000 by omega), ap])]
      exact evB_rt (rest _)
end
theorem c_take {k : Nat} (hk : 1 ≤ k) : TakeC (Ck k) := fun h i many H hm hb => by
  obtain ⟨k, rfl⟩ : ∃ j, k = j + 1 := ⟨k - 1, by omega⟩
  obtain ⟨r, h', e, r0, r1, c⟩ := y_take (Ck k) H hm hb
  refine ⟨r, h', ?_, r0, r1, c⟩
  show callN (ds.map (·.fd)) 1000 (k + 1) i__law_take [.ref i, .int many] h = _
  rw [call_of (d := f__law_take) rfl rfl]
  show ends h (evB (Ck k) b__law_take [some (.ref i), some (.int many), none] h) = _
  rw [e]
  simp only [ends_rt, trimH_len c.len]
end K00

set_option Elab.async false
set_option linter.all false
set_option maxRecDepth 100000
/-! N00c: k00: _law_source, _law_of, _law_gcd, _law_integer -/
namespace K00
open PySem PySem.Spec Pu
theorem whL_t {cond : Pu.Env → PH → Res Bool} {body : Pu.Env → PH → Res Fl} {n : Nat} {ρ ρ1 : Pu.Env} {h h1 h2 : PH} (e1 : cond ρ h = .ok true h1) (e2 : body ρ h1 = .ok (.nx ρ1) h2) : whL cond body (n + 1) ρ h = whL cond body n ρ1 h2 := by
  conv => lhs; unfold whL
  rw [e1, Res.bind_ok, if_pos rfl, e2, Res.bind_ok]
theorem whL_f {cond : Pu.Env → PH → Res Bool} {body : Pu.Env → PH → Res Fl} {n : Nat} {ρ : Pu.Env} {h h1 : PH} (e1 : cond ρ h = .ok false h1) : whL cond body (n + 1) ρ h = .ok (.nx ρ) h1 := by
  conv => lhs; unfold whL
  rw [e1, Res.bind_ok, if_neg (by decide)]
theorem len_tup (xs : List PV) (h : PH) : biV .len [.tup xs] h = .ok (.int (xs.length : Int)) h := id rfl
/-! _law_source -/
abbrev eSz : Ex := .bin .Mod (.bi .abs (.cons (.bi .int (.cons (.var 2) .nil)) .nil)) (.bin .LShift (.con (.int 1)) (.con (.int 2000)))
abbrev eSt : Ex := .bin .Mod (.bi .int (.cons (.bin .Add (.bin .Add (.bin .Mult (.ix (.var 1) (.con (.int 0))) (.con (.int 48271))) (.bin .Mod (.var 3) (.con (.int 999983)))) (.con (.int 1))) .nil)) (.con (.int 2147483647))
abbrev sAp : Sm := .ite (.cmp .GtE (.var 3) (.bin .Pow (.con (.int 10)) (.con (.int 18)))) (.cons (.exp (.mt .append (.var 1) (.cons (.var 3) .nil))) .nil) .nil
abbrev bSo : Bk := .cons (.asg (.name 3) eSz) (.cons (.asg (.sub (.var 1) (.con (.int 0))) eSt) (.cons sAp .nil))
section
variable (C : Cfg)
theorem so_turn {ns xs : List Int} {c x : Int} {ks : List Int} {w2 w3 : Option PV} (hc0 : 0 ≤ c) (hc1 : c < 2147483647) (hl : ks.length ≤ 900) :
    ∃ (c' : Int) (ks' : List Int) (z : Int), (noX (asg C (.name 2) (.int x) [some (.ref 0), some (.ref 1), w2, w3] [.fz ns, .lst (.int c :: ks.map .int), .lst (xs.map .int)])).bind (fun ρ h => evB C bSo ρ h) = .ok (.nx [some (.ref 0), some (.ref 1), some (.int x), some (.int z)]) [.fz ns, .lst (.int c' :: ks'.map .int), .lst (xs.map .int)] ∧ 0 ≤ c' ∧ c' < 2147483647 ∧ ks'.length ≤ ks.length + 1 := by
  obtain ⟨Z, hZ, eZ⟩ := shl2000 []
  have hz0 : 0 ≤ (if x < 0 then -x else x) % Z := Int.emod_nonneg _ (by omega)
  have s1 : ∀ g, evS C (.asg (.name 3) eSz) [some (.ref 0), some (.ref 1), some (.int x), w3] g = .ok (.nx [some (.ref 0), some (.ref 1), some (.int x), some (.int ((if x < 0 then -x else x) % Z))]) g := fun g => by
    simp only [evS_asg, evS_ret, evS_exp, evS_par, evT_eq, ev_var, ev_con, ev_gcon, ev_bin, ev_neg, ev_not, ev_bi, ev_ix, ev_call, ev_cmp, evs_cons, evs_nil, ev_tup1, ev_tup2, ev_tup3, ev_lst0, ev_lst1, new_eq, look_0, look_s, opt_some, Res.bind_ok, noX_ok, asg_name, asg_tup, asgs_cons, asgs_nil, List.set_cons_succ, List.set_cons_zero, tru_bl, cmp_lt, cmp_le, cmp_gt, cmp_ge, cmp_eqI, cmp_neI, add_int, sub_int, neg_int, int_int, guardR_true, abs_int, eZ, mod_int hZ]
  generalize hz : (if x < 0 then -x else x) % Z = z at hz0 s1
  have m1 : mulOk c 48271 = true := mulOk_s (sm_le (by omega) (by omega)) (sm_le (by omega) (by omega))
  have hc0' : 0 ≤ (c * 48271 + z % 999983 + 1) % 2147483647 := Int.emod_nonneg _ (by omega)
  have hc1' : (c * 48271 + z % 999983 + 1) % 2147483647 < 2147483647 := Int.emod_lt_of_pos _ (by omega)
  generalize hc' : (c * 48271 + z % 999983 + 1) % 2147483647 = c' at hc0' hc1'
  have h1 : ([.fz ns, .lst (.int c :: ks.map .int), .lst (xs.map .int)] : PH)[1]? = some (.lst (.int c :: ks.map .int)) := rfl
  have hs : setV (.ref 1) (.int 0) (.int c') [.fz ns, .lst (.int c :: ks.map .int), .lst (xs.map .int)] = .ok () [.fz ns, .lst (.int c' :: ks.map .int), .lst (xs.map .int)] := set_lst (j := 0) h1 (by simp) _
  have i0 : ixV (.ref 1) (.int 0) [.fz ns, .lst (.int c :: ks.map .int), .lst (xs.map .int)] = .ok (.int c) [.fz ns, .lst (.int c :: ks.map .int), .lst (xs.map .int)] := by rw [ix_lst h1, atI_0, opt_some]
  have s2 : evS C (.asg (.sub (.var 1) (.con (.int 0))) eSt) [some (.ref 0), some (.ref 1), some (.int x), some (.int z)] [.fz ns, .lst (.int c :: ks.map .int), .lst (xs.map .int)] = .ok (.nx [some (.ref 0), some (.ref 1), some (.int x), some (.int z)]) [.fz ns, .lst (.int c' :: ks.map .int), .lst (xs.map .int)] := by
    simp only [evS_asg, evS_ret, evS_exp, evS_par, evT_eq, ev_var, ev_con, ev_gcon, ev_bin, ev_neg, ev_not, ev_bi, ev_ix, ev_call, ev_cmp, evs_cons, evs_nil, ev_tup1, ev_tup2, ev_tup3, ev_lst0, ev_lst1, new_eq, look_0, look_s, opt_some, Res.bind_ok, noX_ok, asg_name, asg_tup, asgs_cons, asgs_nil, List.set_cons_succ, List.set_cons_zero, tru_bl, cmp_lt, cmp_le, cmp_gt, cmp_ge, cmp_eqI, cmp_neI, add_int, sub_int, neg_int, int_int, guardR_true, i0, mul_int m1, mod_int (show (0 : Int) < 999983 by omega), mod_int (show (0 : Int) < 2147483647 by omega), hc', asg_sub, hs]
  have t : ∀ g, evT C (.cmp .GtE (.var 3) (.bin .Pow (.con (.int 10)) (.con (.int 18)))) [some (.ref 0), some (.ref 1), some (.int x), some (.int z)] g = .ok (decide (1000000000000000000 ≤ z)) g := fun g => by
    simp only [evS_asg, evS_ret, evS_exp, evS_par, evT_eq, ev_var, ev_con, ev_gcon, ev_bin, ev_neg, ev_not, ev_bi, ev_ix, ev_call, ev_cmp, evs_cons, evs_nil, ev_tup1, ev_tup2, ev_tup3, ev_lst0, ev_lst1, new_eq, look_0, look_s, opt_some, Res.bind_ok, noX_ok, asg_name, asg_tup, asgs_cons, asgs_nil, List.set_cons_succ, List.set_cons_zero, tru_bl, cmp_lt, cmp_le, cmp_gt, cmp_ge, cmp_eqI, cmp_neI, add_int, sub_int, neg_int, int_int, guardR_true, pow18]
  have s0 : ∀ g, noX (asg C (.name 2) (.int x) [some (.ref 0), some (.ref 1), w2, w3] g) = .ok [some (.ref 0), some (.ref 1), some (.int x), w3] g := fun g => by simp only [evS_asg, evS_ret, evS_exp, evS_par, evT_eq, ev_var, ev_con, ev_gcon, ev_bin, ev_neg, ev_not, ev_bi, ev_ix, ev_call, ev_cmp, evs_cons, evs_nil, ev_tup1, ev_tup2, ev_tup3, ev_lst0, ev_lst1, new_eq, look_0, look_s, opt_some, Res.bind_ok, noX_ok, asg_name, asg_tup, asgs_cons, asgs_nil, List.set_cons_succ, List.set_cons_zero, tru_bl, cmp_lt, cmp_le, cmp_gt, cmp_ge, cmp_eqI, cmp_neI, add_int, sub_int, neg_int, int_int, guardR_true]
  by_cases hbig : 1000000000000000000 ≤ z
  · have h1' : ([.fz ns, .lst (.int c' :: ks.map .int), .lst (xs.map .int)] : PH)[1]? = some (.lst (.int c' :: ks.map .int)) := rfl
    have ap := append_lst h1' (by simp; omega) (.int z)
    have es : ([.fz ns, .lst (.int c' :: ks.map .int), .lst (xs.map .int)] : PH).set 1 (.lst ((.int c' :: ks.map .int) ++ [.int z])) = [.fz ns, .lst (.int c' :: (ks ++ [z]).map .int), .lst (xs.map .int)] := by simp
    rw [es] at ap
    refine ⟨c', ks ++ [z], z, ?_, hc0', hc1', by simp⟩
    rw [s0, Res.bind_ok, evB_nx (s1 _), evB_nx s2]
    refine (evB_nx ?_).trans (evB_nil _ _ _)
    rw [evS_ite_t (by rw [t, decide_eq_true hbig])]
    refine (evB_nx ?_).trans (evB_nil _ _ _)
    simp only [evS_asg, evS_ret, evS_exp, evS_par, evT_eq, ev_var, ev_con, ev_gcon, ev_bin, ev_neg, ev_not, ev_bi, ev_ix, ev_call, ev_cmp, evs_cons, evs_nil, ev_tup1, ev_tup2, ev_tup3, ev_lst0, ev_lst1, new_eq, look_0, look_s, opt_some, Res.bind_ok, noX_ok, asg_name, asg_tup, asgs_cons, asgs_nil, List.set_cons_succ, List.set_cons_zero, tru_bl, cmp_lt, cmp_le, cmp_gt, cmp_ge, cmp_eqI, cmp_neI, add_int, sub_int, neg_int, int_int, guardR_true, ev_mt, mtTy_append h1', ap]
  · refine ⟨c', ks, z, ?_, hc0', hc1', by omega⟩
    rw [s0, Res.bind_ok, evB_nx (s1 _), evB_nx s2, evB_nx (by rw [evS_ite_f (by rw [t, decide_eq_false hbig]), evB_nil]), evB_nil]
theorem so_loop {ns xs : List Int} : ∀ (ys : List Int) (c : Int) (ks : List Int) (w2 w3 : Option PV), 0 ≤ c → c < 2147483647 → ks.length + ys.length ≤ 900 →
    ∃ (c' : Int) (ks' : List Int) (v2 v3 : Option PV), forL (fun x ρ h => (noX (asg C (.name 2) x ρ h)).bind fun ρ h => evB C bSo ρ h) [(2, .lst (xs.map .int))] (ys.map .int) [some (.ref 0), some (.ref 1), w2, w3] [.fz ns, .lst (.int c :: ks.map .int), .lst (xs.map .int)] = .ok (.nx [some (.ref 0), some (.ref 1), v2, v3]) [.fz ns, .lst (.int c' :: ks'.map .int), .lst (xs.map .int)] ∧ 0 ≤ c' ∧ c' < 2147483647 ∧ ks'.length ≤ ks.length + ys.length
  | [], c, ks, w2, w3, h0, h1, hl => ⟨c, ks, w2, w3, forL_nil (gd_one rfl), h0, h1, by omega⟩
  | y :: ys, c, ks, w2, w3, h0, h1, hl => by
    rw [List.length_cons] at hl
    obtain ⟨c1, ks1, z, e1, p0, p1, hl1⟩ := so_turn C (ns := ns) (xs := xs) (x := y) (ks := ks) (w2 := w2) (w3 := w3) h0 h1 (by omega)
    obtain ⟨c2, ks2, v2, v3, e2, r0, r1, hl2⟩ := so_loop ys c1 ks1 (some (.int y)) (some (.int z)) p0 p1 (by omega)
    refine ⟨c2, ks2, v2, v3, ?_, r0, r1, by rw [List.length_cons]; omega⟩
    rw [List.map_cons]
    exact (forL_nx (gd_one rfl) e1).trans e2
theorem cut63 (ns : List Int) : (cutP ns none (some 63)).length ≤ 63 := by
  unfold cutP
  rw [List.length_take]
  have := HT.sIx_nat ns.length ns.length 63
  have e : HT.sIx ns.length ns.length (some (63 : Int)) = min 63 ns.length := this
  rw [e]
  omega
theorem y_source {ns : List Int} : ∃ g, evB C b__law_source [some (.ref 0), none, none, none] [.fz ns] = .ok (.rt (.ref 1)) g ∧ Ch g 1 := by
  have hc := cut63 ns
  obtain ⟨c', ks', v2, v3, e, h0, h1, hl⟩ := so_loop C (ns := ns) (xs := cutP ns none (some 63)) (cutP ns none (some 63)) 73009 [] none none (by omega) (by omega) (by simp; omega)
  refine ⟨[.fz ns, .lst (.int c' :: ks'.map .int), .lst ((cutP ns none (some 63)).map .int)], ?_, c', ks', rfl, h0, h1, by simp at hl; omega⟩
  have s1 : evS C (.asg (.name 1) (.lst (.cons (.con (.int 73009)) .nil))) [some (.ref 0), none, none, none] [.fz ns] = .ok (.nx [some (.ref 0), some (.ref 1), none, none]) [.fz ns, .lst (.int 73009 :: ([] : List Int).map .int)] := by
    simp only [evS_asg, evS_ret, evS_exp, evS_par, evT_eq, ev_var, ev_con, ev_gcon, ev_bin, ev_neg, ev_not, ev_bi, ev_ix, ev_call, ev_cmp, evs_cons, evs_nil, ev_tup1, ev_tup2, ev_tup3, ev_lst0, ev_lst1, new_eq, look_0, look_s, opt_some, Res.bind_ok, noX_ok, asg_name, asg_tup, asgs_cons, asgs_nil, List.set_cons_succ, List.set_cons_zero, tru_bl, cmp_lt, cmp_le, cmp_gt, cmp_ge, cmp_eqI, cmp_neI, add_int, sub_int, neg_int, int_int, guardR_true]
    exact id rfl
  have it : evIt C (.val (.sl (.var 0) .nil (.cons (.con (.int 63)) .nil))) [some (.ref 0), some (.ref 1), none, none] [.fz ns, .lst (.int 73009 :: ([] : List Int).map .int)] = .ok ((cutP ns none (some 63)).map .int, [(2, .lst ((cutP ns none (some 63)).map .int))]) [.fz ns, .lst (.int 73009 :: ([] : List Int).map .int), .lst ((cutP ns none (some 63)).map .int)] := by
    simp only [evS_asg, evS_ret, evS_exp, evS_par, evT_eq, ev_var, ev_con, ev_gcon, ev_bin, ev_neg, ev_not, ev_bi, ev_ix, ev_call, ev_cmp, evs_cons, evs_nil, ev_tup1, ev_tup2, ev_tup3, ev_lst0, ev_lst1, new_eq, look_0, look_s, opt_some, Res.bind_ok, noX_ok, asg_name, asg_tup, asgs_cons, asgs_nil, List.set_cons_succ, List.set_cons_zero, tru_bl, cmp_lt, cmp_le, cmp_gt, cmp_ge, cmp_eqI, cmp_neI, add_int, sub_int, neg_int, int_int, guardR_true, evIt_val, ev_sl]
    exact id rfl
  unfold b__law_source
  rw [evB_nx s1, evB_nx ((evS_fr_of it).trans e)]
  refine evB_rt ?_
  simp only [evS_asg, evS_ret, evS_exp, evS_par, evT_eq, ev_var, ev_con, ev_gcon, ev_bin, ev_neg, ev_not, ev_bi, ev_ix, ev_call, ev_cmp, evs_cons, evs_nil, ev_tup1, ev_tup2, ev_tup3, ev_lst0, ev_lst1, new_eq, look_0, look_s, opt_some, Res.bind_ok, noX_ok, asg_name, asg_tup, asgs_cons, asgs_nil, List.set_cons_succ, List.set_cons_zero, tru_bl, cmp_lt, cmp_le, cmp_gt, cmp_ge, cmp_eqI, cmp_neI, add_int, sub_int, neg_int, int_int, guardR_true]
end
theorem c_source {k : Nat} (hk : 1 ≤ k) (ns : List Int) : ∃ g i, cN k i__law_source [.ref 0] [.fz ns] = .ok (.ref i) g ∧ Ch g i := by
  obtain ⟨k, rfl⟩ : ∃ j, k = j + 1 := ⟨k - 1, by omega⟩
  obtain ⟨g, e, c⟩ := y_source (Ck k) (ns := ns)
  refine ⟨g, 1, ?_, c⟩
  rw [cN, call_of (d := f__law_source) rfl rfl]
  show ends [.fz ns] (evB (Ck k) b__law_source [some (.ref 0), none, none, none] [.fz ns]) = _
  rw [e]
  show Res.ok (PV.ref 1) (trimH (PV.lo 1 (.ref 1)) [.fz ns] g) = _
  have lo : PV.lo 1 (.ref 1) = false := by
    show decide (1 < 1) = false
    exact decide_eq_false (by omega)
  rw [lo]
  exact id rfl
/-! _law_of -/
theorem ofL {C : Cfg} (T : TakeC C) {h : PH} {i j : Nat} {xs : List PV} (H : Ch h i) (hj : h[j]? = some (.lst xs)) (hij : j ≠ i) (h0 : 0 < xs.length) (h1 : xs.length ≤ 1000) : ∃ x ∈ xs, ∃ h', evB C b__law_of [some (.ref i), some (.ref j)] h = .ok (.rt x) h' ∧ Chn h h' i := by
  obtain ⟨r, h', e, r0, r1, K⟩ := T h i xs.length H (by omega) (by omega)
  obtain ⟨r, rfl⟩ := Int.eq_ofNat_of_zero_le r0
  have hj' : h'[j]? = some (.lst xs) := by rw [K.same j hij]; exact hj
  refine ⟨xs[r]'(by omega), List.getElem_mem _, h', ?_, K⟩
  unfold b__law_of
  refine evB_rt ?_
  simp only [evS_asg, evS_ret, evS_exp, evS_par, evT_eq, ev_var, ev_con, ev_gcon, ev_bin, ev_neg, ev_not, ev_bi, ev_ix, ev_call, ev_cmp, evs_cons, evs_nil, ev_tup1, ev_tup2, ev_tup3, ev_lst0, ev_lst1, new_eq, look_0, look_s, opt_some, Res.bind_ok, noX_ok, asg_name, asg_tup, asgs_cons, asgs_nil, List.set_cons_succ, List.set_cons_zero, tru_bl, cmp_lt, cmp_le, cmp_gt, cmp_ge, cmp_eqI, cmp_neI, add_int, sub_int, neg_int, int_int, guardR_true, len_lst hj, e, ix_lst hj', atI_of (j := r) rfl, List.getElem?_eq_getElem (show r < xs.length by omega)]
theorem ofT {C : Cfg} (T : TakeC C) {h : PH} {i : Nat} {xs : List PV} (H : Ch h i) (h0 : 0 < xs.length) (h1 : xs.length ≤ 1000) : ∃ x ∈ xs, ∃ h', evB C b__law_of [some (.ref i), some (.tup xs)] h = .ok (.rt x) h' ∧ Chn h h' i := by
  obtain ⟨r, h', e, r0, r1, K⟩ := T h i xs.length H (by omega) (by omega)
  obtain ⟨r, rfl⟩ := Int.eq_ofNat_of_zero_le r0
  refine ⟨xs[r]'(by omega), List.getElem_mem _, h', ?_, K⟩
  unfold b__law_of
  refine evB_rt ?_
  simp only [evS_asg, evS_ret, evS_exp, evS_par, evT_eq, ev_var, ev_con, ev_gcon, ev_bin, ev_neg, ev_not, ev_bi, ev_ix, ev_call, ev_cmp, evs_cons, evs_nil, ev_tup1, ev_tup2, ev_tup3, ev_lst0, ev_lst1, new_eq, look_0, look_s, opt_some, Res.bind_ok, noX_ok, asg_name, asg_tup, asgs_cons, asgs_nil, List.set_cons_succ, List.set_cons_zero, tru_bl, cmp_lt, cmp_le, cmp_gt, cmp_ge, cmp_eqI, cmp_neI, add_int, sub_int, neg_int, int_int, guardR_true, len_tup, e, Pu.ix_tup, atI_of (j := r) rfl, List.getElem?_eq_getElem (show r < xs.length by omega)]
theorem c_ofL {k : Nat} (hk : 2 ≤ k) {h : PH} {i j : Nat} {xs : List PV} (H : Ch h i) (hj : h[j]? = some (.lst xs)) (hij : j ≠ i) (h0 : 0 < xs.length) (h1 : xs.length ≤ 1000) : ∃ x ∈ xs, ∃ h', cN k i__law_of [.ref i, .ref j] h = .ok x h' ∧ Chn h h' i := by
  obtain ⟨k, rfl⟩ : ∃ j, k = j + 1 := ⟨k - 1, by omega⟩
  obtain ⟨x, hx, h', e, K⟩ := ofL (c_take (show 1 ≤ k by omega)) H hj hij h0 h1
  refine ⟨x, hx, h', ?_, K⟩
  rw [cN, call_of (d := f__law_of) rfl rfl]
  show ends h (evB (Ck k) b__law_of [some (.ref i), some (.ref j)] h) = _
  rw [e]
  simp only [ends_rt, trimH_len K.len]
theorem c_ofT {k : Nat} (hk : 2 ≤ k) {h : PH} {i : Nat} {xs : List PV} (H : Ch h i) (h0 : 0 < xs.length) (h1 : xs.length ≤ 1000) : ∃ x ∈ xs, ∃ h', cN k i__law_of [.ref i, .tup xs] h = .ok x h' ∧ Chn h h' i := by
  obtain ⟨k, rfl⟩ : ∃ j, k = j + 1 := ⟨k - 1, by omega⟩
  obtain ⟨x, hx, h', e, K⟩ := ofT (c_take (show 1 ≤ k by omega)) H h0 h1
  refine ⟨x, hx, h', ?_, K⟩
  rw [cN, call_of (d := f__law_of) rfl rfl]
  show ends h (evB (Ck k) b__law_of [some (.ref i), some (.tup xs)] h) = _
  rw [e]
  simp only [ends_rt, trimH_len K.len]
/-! _law_gcd -/
def sg (s : Bool) (a : Nat) : Int := if s = true then (a : Int) else -(a : Int)
theorem sg_mod (s : Bool) (a b : Nat) : (sg s a).fmod (sg s b) = sg s (a % b) := by
  have e : (a : Int).fmod (b : Int) = ((a % b : Nat) : Int) := by
    rw [Int.fmod_eq_emod_of_nonneg _ (by omega)]
    rfl
  cases s with
  | true => exact e
  | false =>
    show (-(a : Int)).fmod (-(b : Int)) = -((a % b : Nat) : Int)
    rw [Int.neg_fmod_neg, e]
theorem sg_0 (s : Bool) (a : Nat) : sg s a = 0 ↔ a = 0 := by
  unfold sg
  split <;> omega
theorem sg_abs (s : Bool) (a : Nat) : (if sg s a < 0 then -(sg s a) else sg s a) = (a : Int) := by
  unfold sg
  cases s
  · simp only [Bool.false_eq_true, if_false]
    split <;> omega
  · simp only [if_true]
    split <;> omega
abbrev cGc : Ex := .cmp .NotEq (.var 1) (.con (.int 0))
abbrev bGc : Bk := .cons (.par 0 1 (.var 1) (.bin .Mod (.bi .int (.cons (.var 0) .nil)) (.var 1))) .nil
section
variable (C : Cfg) (h : PH)
theorem gc_turn (x y : Int) (hy : y ≠ 0) : evT C cGc [some (.int x), some (.int y)] h = .ok true h ∧ evB C bGc [some (.int x), some (.int y)] h = .ok (.nx [some (.int y), some (.int (x.fmod y))]) h := by
  constructor
  · simp only [evS_asg, evS_ret, evS_exp, evS_par, evT_eq, ev_var, ev_con, ev_gcon, ev_bin, ev_neg, ev_not, ev_bi, ev_ix, ev_call, ev_cmp, evs_cons, evs_nil, ev_tup1, ev_tup2, ev_tup3, ev_lst0, ev_lst1, new_eq, look_0, look_s, opt_some, Res.bind_ok, noX_ok, asg_name, asg_tup, asgs_cons, asgs_nil, List.set_cons_succ, List.set_cons_zero, tru_bl, cmp_lt, cmp_le, cmp_gt, cmp_ge, cmp_eqI, cmp_neI, add_int, sub_int, neg_int, int_int, guardR_true]
    rw [beq_eq_false_iff_ne.mpr hy]
    rfl
  · refine (evB_nx ?_).trans (evB_nil _ _ _)
    simp only [evS_asg, evS_ret, evS_exp, evS_par, evT_eq, ev_var, ev_con, ev_gcon, ev_bin, ev_neg, ev_not, ev_bi, ev_ix, ev_call, ev_cmp, evs_cons, evs_nil, ev_tup1, ev_tup2, ev_tup3, ev_lst0, ev_lst1, new_eq, look_0, look_s, opt_some, Res.bind_ok, noX_ok, asg_name, asg_tup, asgs_cons, asgs_nil, List.set_cons_succ, List.set_cons_zero, tru_bl, cmp_lt, cmp_le, cmp_gt, cmp_ge, cmp_eqI, cmp_neI, add_int, sub_int, neg_int, int_int, guardR_true, mod_any hy]
theorem gc_end (x : Int) : evT C cGc [some (.int x), some (.int 0)] h = .ok false h := by
  simp only [evS_asg, evS_ret, evS_exp, evS_par, evT_eq, ev_var, ev_con, ev_gcon, ev_bin, ev_neg, ev_not, ev_bi, ev_ix, ev_call, ev_cmp, evs_cons, evs_nil, ev_tup1, ev_tup2, ev_tup3, ev_lst0, ev_lst1, new_eq, look_0, look_s, opt_some, Res.bind_ok, noX_ok, asg_name, asg_tup, asgs_cons, asgs_nil, List.set_cons_succ, List.set_cons_zero, tru_bl, cmp_lt, cmp_le, cmp_gt, cmp_ge, cmp_eqI, cmp_neI, add_int, sub_int, neg_int, int_int, guardR_true]
  rfl
theorem gc_loop (s : Bool) : ∀ (n a b fuel : Nat), b < 2 ^ n → 2 * n + 1 ≤ fuel → ∃ w, whL (evT C cGc) (evB C bGc) fuel [some (.int (sg s a)), some (.int (sg s b))] h = .ok (.nx [some (.int (sg s (Nat.gcd a b))), w]) h
  | n, a, 0, fuel, _, hf => by
    obtain ⟨f, rfl⟩ : ∃ f, fuel = f + 1 := ⟨fuel - 1, by omega⟩
    refine ⟨some (.int (sg s 0)), ?_⟩
    have e := gc_end C h (sg s a)
    have z : sg s 0 = 0 := (sg_0 s 0).mpr rfl
    rw [z, Nat.gcd_zero_right]
    exact whL_f e
  | 0, a, b + 1, fuel, hb, _ => absurd hb (by simp)
  | n + 1, a, b + 1, fuel, hb, hf => by
    obtain ⟨f, rfl⟩ : ∃ f, fuel = f + 1 := ⟨fuel - 1, by omega⟩
    obtain ⟨e1, e2⟩ := gc_turn C h (sg s a) (sg s (b + 1)) (fun e => by have := (sg_0 s _).mp e; omega)
    rw [sg_mod] at e2
    have hr := Nat.mod_lt a (show 0 < b + 1 by omega)
    have hg : Nat.gcd a (b + 1) = Nat.gcd (b + 1) (a % (b + 1)) := by rw [Nat.gcd_comm a, Nat.gcd_rec (b + 1) a, Nat.gcd_comm]
    rw [hg]
    generalize a % (b + 1) = r at *
    generalize b + 1 = b at *
    by_cases hn : r < 2 ^ n
    · obtain ⟨w, e⟩ := gc_loop s n b r f hn (by omega)
      exact ⟨w, (whL_t e1 e2).trans e⟩
    · have hp : 0 < 2 ^ n := Nat.pow_pos (by omega)
      obtain ⟨f, rfl⟩ : ∃ g, f = g + 1 := ⟨f - 1, by omega⟩
      obtain ⟨e3, e4⟩ := gc_turn C h (sg s b) (sg s r) (fun e => by have := (sg_0 s _).mp e; omega)
      rw [sg_mod] at e4
      have hb2 : b % r < 2 ^ n := by
        have h1 : b % r = b - r := by
          rw [Nat.mod_eq_sub_mod (by omega), Nat.mod_eq_of_lt (by rw [Nat.pow_succ] at hb; omega)]
        rw [Nat.pow_succ] at hb
        omega
      obtain ⟨w, e⟩ := gc_loop s n r (b % r) f hb2 (by omega)
      have hg2 : Nat.gcd b r = Nat.gcd r (b % r) := by rw [Nat.gcd_comm b, Nat.gcd_rec r b, Nat.gcd_comm]
      rw [hg2]
      exact ⟨w, (whL_t e1 e2).trans ((whL_t e3 e4).trans e)⟩
theorem y_gcd (hfu : 1000 ≤ C.fuel) {x y : Int} (hy : y.natAbs < 2 ^ 60) : evB C b__law_gcd [some (.int x), some (.int y)] h = .ok (.rt (.int (Int.gcd x y))) h := by
  unfold b__law_gcd
  by_cases h0 : y = 0
  · subst h0
    obtain ⟨f, hf⟩ : ∃ f, C.fuel = f + 1 := ⟨C.fuel - 1, by omega⟩
    rw [evB_nx (show evS C (.wh cGc bGc) [some (.int x), some (.int 0)] h = .ok (.nx [some (.int x), some (.int 0)]) h by rw [evS_wh, hf]; exact whL_f (gc_end C h x))]
    refine evB_rt ?_
    simp only [evS_asg, evS_ret, evS_exp, evS_par, evT_eq, ev_var, ev_con, ev_gcon, ev_bin, ev_neg, ev_not, ev_bi, ev_ix, ev_call, ev_cmp, evs_cons, evs_nil, ev_tup1, ev_tup2, ev_tup3, ev_lst0, ev_lst1, new_eq, look_0, look_s, opt_some, Res.bind_ok, noX_ok, asg_name, asg_tup, asgs_cons, asgs_nil, List.set_cons_succ, List.set_cons_zero, tru_bl, cmp_lt, cmp_le, cmp_gt, cmp_ge, cmp_eqI, cmp_neI, add_int, sub_int, neg_int, int_int, guardR_true, abs_int]
    rw [Int.gcd_zero_right]
    congr 3
    split <;> omega
  · obtain ⟨f, hf⟩ : ∃ f, C.fuel = f + 1 := ⟨C.fuel - 1, by omega⟩
    obtain ⟨e1, e2⟩ := gc_turn C h x y h0
    have hg : Int.gcd x y = Int.gcd y (x.fmod y) := by
      rw [Int.fmod_def, Int.gcd_sub_mul_left_right, Int.gcd_comm]
    have hs : ∃ s r, y = sg s y.natAbs ∧ x.fmod y = sg s r ∧ r < y.natAbs := by
      by_cases hp : 0 < y
      · have k0 := Int.fmod_nonneg_of_pos x hp
        have k1 := Int.fmod_lt_of_pos x hp
        exact ⟨true, (x.fmod y).toNat, by unfold sg; rw [if_pos rfl]; omega, by unfold sg; rw [if_pos rfl]; omega, by omega⟩
      · have hm : 0 < -y := by omega
        have k0 := Int.fmod_nonneg_of_pos (-x) hm
        have k1 := Int.fmod_lt_of_pos (-x) hm
        have ke := Int.neg_fmod_neg x y
        exact ⟨false, ((-x).fmod (-y)).toNat, by unfold sg; rw [if_neg (by decide)]; omega, by unfold sg; rw [if_neg (by decide)]; omega, by omega⟩
    obtain ⟨s, r, ey, er, hr⟩ := hs
    obtain ⟨w, e⟩ := gc_loop C h s 60 y.natAbs r f (by omega) (by omega)
    rw [← ey, ← er] at e
    have hgn : Int.gcd x y = Nat.gcd y.natAbs r := by
      rw [hg, er]
      unfold Int.gcd
      congr 1
      unfold sg
      split <;> omega
    rw [evB_nx (show evS C (.wh cGc bGc) [some (.int x), some (.int y)] h = _ by rw [evS_wh, hf]; exact (whL_t e1 e2).trans e)]
    refine evB_rt ?_
    simp only [evS_asg, evS_ret, evS_exp, evS_par, evT_eq, ev_var, ev_con, ev_gcon, ev_bin, ev_neg, ev_not, ev_bi, ev_ix, ev_call, ev_cmp, evs_cons, evs_nil, ev_tup1, ev_tup2, ev_tup3, ev_lst0, ev_lst1, new_eq, look_0, look_s, opt_some, Res.bind_ok, noX_ok, asg_name, asg_tup, asgs_cons, asgs_nil, List.set_cons_succ, List.set_cons_zero, tru_bl, cmp_lt, cmp_le, cmp_gt, cmp_ge, cmp_eqI, cmp_neI, add_int, sub_int, neg_int, int_int, guardR_true, abs_int, sg_abs]
    rw [hgn]
end
theorem c_gcd {k : Nat} (hk : 1 ≤ k) (h : PH) {x y : Int} (hy : y.natAbs < 2 ^ 60) : cN k i__law_gcd [.int x, .int y] h = .ok (.int (Int.gcd x y)) h := by
  obtain ⟨k, rfl⟩ : ∃ j, k = j + 1 := ⟨k - 1, by omega⟩
  rw [cN, call_of (d := f__law_gcd) rfl rfl]
  show ends h (evB (Ck k) b__law_gcd [some (.int x), some (.int y)] h) = _
  rw [y_gcd (Ck k) h (show 1000 ≤ 1000 by omega) hy]
  simp only [ends_rt, trimH_same]
end K00

set_option Elab.async false
set_option linter.all false
set_option maxRecDepth 100000
/-! N00d: k00: directions out of numbers; _law_same -/
namespace K00
open PySem PySem.Spec Pu
/-- the direction of a pair -/
def mkD (a b : Int) : Cell := if a / Int.gcd a b < 0 ∨ (a / Int.gcd a b = 0 ∧ b / Int.gcd a b < 0) then (-(a / Int.gcd a b), -(b / Int.gcd a b)) else (a / Int.gcd a b, b / Int.gcd a b)
theorem gcd_pos {a b : Int} (h : a ≠ 0 ∨ b ≠ 0) : 0 < Int.gcd a b := by
  rw [Nat.pos_iff_ne_zero]
  intro e
  rw [Int.gcd_eq_zero_iff] at e
  omega
theorem gcd_lt {a b : Int} (h : a ≠ 0 ∨ b ≠ 0) (ha : a.natAbs < 2 ^ 60) (hb : b.natAbs < 2 ^ 60) : Int.gcd a b < 2 ^ 60 := by
  rcases h with h | h
  · exact Nat.lt_of_le_of_lt (Nat.le_of_dvd (by omega) (Nat.gcd_dvd_left _ _)) ha
  · exact Nat.lt_of_le_of_lt (Nat.le_of_dvd (by omega) (Nat.gcd_dvd_right _ _)) hb
theorem dvd1 (a b : Int) : ((Int.gcd a b : Nat) : Int) ∣ a := Int.gcd_dvd_left ..
theorem dvd2 (a b : Int) : ((Int.gcd a b : Nat) : Int) ∣ b := Int.gcd_dvd_right ..
theorem sgn_div {g a : Int} (hg : 0 < g) (hd : g ∣ a) : (a < 0 ↔ a / g < 0) ∧ (a = 0 ↔ a / g = 0) := by
  obtain ⟨p, rfl⟩ := hd
  rw [Int.mul_ediv_cancel_left _ (by omega)]
  rcases Int.lt_trichotomy p 0 with h | h | h
  · have := Int.mul_neg_of_pos_of_neg hg h
    omega
  · subst h
    simp
  · have := Int.mul_pos hg h
    omega
theorem gcd_bi (a b : Int) (h : PH) : biV .gcd [.int a, .int b] h = .ok (.int (Int.gcd a b)) h := id rfl
abbrev tOr (i j : Nat) : Ex := .or (.cons (.cmp .Lt (.var i) (.con (.int 0))) (.cons (.and (.cons (.cmp .Eq (.var i) (.con (.int 0))) (.cons (.cmp .Lt (.var j) (.con (.int 0))) .nil))) .nil))
theorem or_ev (C : Cfg) (h : PH) {i j : Nat} {ρ : Pu.Env} {p q : Int} (e1 : look ρ i = some (.int p)) (e2 : look ρ j = some (.int q)) : evT C (tOr i j) ρ h = .ok (decide (p < 0 ∨ (p = 0 ∧ q < 0))) h := by
  simp only [evS_asg, evS_ret, evS_exp, evS_par, evT_eq, ev_var, ev_con, ev_gcon, ev_bin, ev_neg, ev_not, ev_bi, ev_ix, ev_call, ev_cmp, evs_cons, evs_nil, ev_tup1, ev_tup2, ev_tup3, ev_lst0, ev_lst1, new_eq, look_0, look_s, opt_some, Res.bind_ok, noX_ok, asg_name, asg_tup, asgs_cons, asgs_nil, List.set_cons_succ, List.set_cons_zero, tru_bl, cmp_lt, cmp_le, cmp_gt, cmp_ge, cmp_eqI, cmp_neI, add_int, sub_int, neg_int, int_int, guardR_true, ev_or2, ev_or1, ev_and2, ev_and1, e1, e2]
  by_cases k : p < 0
  · simp [k]
  · by_cases k2 : p = 0
    · subst k2
      simp
    · simp [k, k2]
section
variable (C : Cfg) (h : PH)
theorem y_make {a b : Int} (hz : a ≠ 0 ∨ b ≠ 0) (ha : a.natAbs < 2 ^ 60) (hb : b.natAbs < 2 ^ 60) : evB C b_make_direction [some (.int a), some (.int b), none, none, none] h = .ok (.rt (ofPr (mkD a b))) h := by
  have g0 := gcd_pos hz
  have g1 := gcd_lt hz ha hb
  have d1 := Int.fdiv_eq_ediv_of_nonneg a (b := (Int.gcd a b : Nat)) (by omega)
  have d2 := Int.fdiv_eq_ediv_of_nonneg b (b := (Int.gcd a b : Nat)) (by omega)
  have f1 := fun i => fdiv_any (i := i) (j := ((Int.gcd a b : Nat) : Int)) (by omega) (by omega)
  unfold mkD
  have hp : (((Int.gcd a b : Nat) : Int) == 0) = false := beq_eq_false_iff_ne.mpr (by omega)
  have t1 : ∀ ρ : Pu.Env, look ρ 2 = some (.int (Int.gcd a b)) → evT C (.cmp .Eq (.var 2) (.con (.int 0))) ρ h = .ok false h := fun ρ e => by simp only [evS_asg, evS_ret, evS_exp, evS_par, evT_eq, ev_var, ev_con, ev_gcon, ev_bin, ev_neg, ev_not, ev_bi, ev_ix, ev_call, ev_cmp, evs_cons, evs_nil, ev_tup1, ev_tup2, ev_tup3, ev_lst0, ev_lst1, new_eq, look_0, look_s, opt_some, Res.bind_ok, noX_ok, asg_name, asg_tup, asgs_cons, asgs_nil, List.set_cons_succ, List.set_cons_zero, tru_bl, cmp_lt, cmp_le, cmp_gt, cmp_ge, cmp_eqI, cmp_neI, add_int, sub_int, neg_int, int_int, guardR_true, e, hp]
  unfold b_make_direction
  rw [evB_nx (ρ' := [some (.int a), some (.int b), some (.int (Int.gcd a b)), none, none]) (h' := h) (by simp only [evS_asg, evS_ret, evS_exp, evS_par, evT_eq, ev_var, ev_con, ev_gcon, ev_bin, ev_neg, ev_not, ev_bi, ev_ix, ev_call, ev_cmp, evs_cons, evs_nil, ev_tup1, ev_tup2, ev_tup3, ev_lst0, ev_lst1, new_eq, look_0, look_s, opt_some, Res.bind_ok, noX_ok, asg_name, asg_tup, asgs_cons, asgs_nil, List.set_cons_succ, List.set_cons_zero, tru_bl, cmp_lt, cmp_le, cmp_gt, cmp_ge, cmp_eqI, cmp_neI, add_int, sub_int, neg_int, int_int, guardR_true, gcd_bi])]
  rw [evB_nx (ρ' := [some (.int a), some (.int b), some (.int (Int.gcd a b)), none, none]) (h' := h) (by rw [evS_ite_f (t1 _ rfl), evB_nil])]
  rw [evB_nx (ρ' := [some (.int a), some (.int b), some (.int (Int.gcd a b)), some (.int (a / Int.gcd a b)), some (.int (b / Int.gcd a b))]) (h' := h) (by simp only [evS_asg, evS_ret, evS_exp, evS_par, evT_eq, ev_var, ev_con, ev_gcon, ev_bin, ev_neg, ev_not, ev_bi, ev_ix, ev_call, ev_cmp, evs_cons, evs_nil, ev_tup1, ev_tup2, ev_tup3, ev_lst0, ev_lst1, new_eq, look_0, look_s, opt_some, Res.bind_ok, noX_ok, asg_name, asg_tup, asgs_cons, asgs_nil, List.set_cons_succ, List.set_cons_zero, tru_bl, cmp_lt, cmp_le, cmp_gt, cmp_ge, cmp_eqI, cmp_neI, add_int, sub_int, neg_int, int_int, guardR_true, f1, d1, d2])]
  have t := or_ev C h (i := 3) (j := 4) (ρ := [some (.int a), some (.int b), some (.int (Int.gcd a b)), some (.int (a / Int.gcd a b)), some (.int (b / Int.gcd a b))]) rfl rfl
  by_cases k : a / Int.gcd a b < 0 ∨ (a / Int.gcd a b = 0 ∧ b / Int.gcd a b < 0)
  · rw [decide_eq_true k] at t
    rw [if_pos k]
    refine evB_rt ?_
    rw [evS_ite_t t]
    refine evB_rt ?_
    simp only [evS_asg, evS_ret, evS_exp, evS_par, evT_eq, ev_var, ev_con, ev_gcon, ev_bin, ev_neg, ev_not, ev_bi, ev_ix, ev_call, ev_cmp, evs_cons, evs_nil, ev_tup1, ev_tup2, ev_tup3, ev_lst0, ev_lst1, new_eq, look_0, look_s, opt_some, Res.bind_ok, noX_ok, asg_name, asg_tup, asgs_cons, asgs_nil, List.set_cons_succ, List.set_cons_zero, tru_bl, cmp_lt, cmp_le, cmp_gt, cmp_ge, cmp_eqI, cmp_neI, add_int, sub_int, neg_int, int_int, guardR_true]
    exact id rfl
  · rw [decide_eq_false k] at t
    rw [if_neg k]
    rw [evB_nx (by rw [evS_ite_f t, evB_nil])]
    refine evB_rt ?_
    simp only [evS_asg, evS_ret, evS_exp, evS_par, evT_eq, ev_var, ev_con, ev_gcon, ev_bin, ev_neg, ev_not, ev_bi, ev_ix, ev_call, ev_cmp, evs_cons, evs_nil, ev_tup1, ev_tup2, ev_tup3, ev_lst0, ev_lst1, new_eq, look_0, look_s, opt_some, Res.bind_ok, noX_ok, asg_name, asg_tup, asgs_cons, asgs_nil, List.set_cons_succ, List.set_cons_zero, tru_bl, cmp_lt, cmp_le, cmp_gt, cmp_ge, cmp_eqI, cmp_neI, add_int, sub_int, neg_int, int_int, guardR_true]
    exact id rfl
theorem y_make0 : evB C b_make_direction [some (.int 0), some (.int 0), none, none, none] h = .exc "BadStep" [("word", .str "number")] h := by
  have t1 : evT C (.cmp .Eq (.var 2) (.con (.int 0))) [some (.int 0), some (.int 0), some (.int 0), none, none] h = .ok true h := by
    simp only [evS_asg, evS_ret, evS_exp, evS_par, evT_eq, ev_var, ev_con, ev_gcon, ev_bin, ev_neg, ev_not, ev_bi, ev_ix, ev_call, ev_cmp, evs_cons, evs_nil, ev_tup1, ev_tup2, ev_tup3, ev_lst0, ev_lst1, new_eq, look_0, look_s, opt_some, Res.bind_ok, noX_ok, asg_name, asg_tup, asgs_cons, asgs_nil, List.set_cons_succ, List.set_cons_zero, tru_bl, cmp_lt, cmp_le, cmp_gt, cmp_ge, cmp_eqI, cmp_neI, add_int, sub_int, neg_int, int_int, guardR_true]
    rfl
  unfold b_make_direction
  rw [evB_nx (ρ' := [some (.int 0), some (.int 0), some (.int 0), none, none]) (h' := h) (by simp only [evS_asg, evS_ret, evS_exp, evS_par, evT_eq, ev_var, ev_con, ev_gcon, ev_bin, ev_neg, ev_not, ev_bi, ev_ix, ev_call, ev_cmp, evs_cons, evs_nil, ev_tup1, ev_tup2, ev_tup3, ev_lst0, ev_lst1, new_eq, look_0, look_s, opt_some, Res.bind_ok, noX_ok, asg_name, asg_tup, asgs_cons, asgs_nil, List.set_cons_succ, List.set_cons_zero, tru_bl, cmp_lt, cmp_le, cmp_gt, cmp_ge, cmp_eqI, cmp_neI, add_int, sub_int, neg_int, int_int, guardR_true, gcd_bi]; exact id rfl)]
  have e : evS C (.ite (.cmp .Eq (.var 2) (.con (.int 0))) (.cons (.rai "BadStep" ["word"] (.cons (.con (.str "number")) .nil)) .nil) .nil) [some (.int 0), some (.int 0), some (.int 0), none, none] h = .exc "BadStep" [("word", .str "number")] h := by
    rw [evS_ite_t t1]
    exact id rfl
  rw [evB_cons, e]
  exact id rfl
theorem y_dir {a b : Int} (hz : a ≠ 0 ∨ b ≠ 0) (ha : a.natAbs < 2 ^ 60) (hb : b.natAbs < 2 ^ 60) (hg : C.call i__law_gcd [.int a, .int b] h = .ok (.int (Int.gcd a b)) h) : evB C b__law_direction [some (.int a), some (.int b), none] h = .ok (.rt (ofPr (mkD a b))) h := by
  have g0 := gcd_pos hz
  have g1 := gcd_lt hz ha hb
  have d1 := Int.fdiv_eq_ediv_of_nonneg a (b := (Int.gcd a b : Nat)) (by omega)
  have d2 := Int.fdiv_eq_ediv_of_nonneg b (b := (Int.gcd a b : Nat)) (by omega)
  have f1 := fun i => fdiv_any (i := i) (j := ((Int.gcd a b : Nat) : Int)) (by omega) (by omega)
  have f2 := fun i => fdiv_any (i := i) (j := (0 - ((Int.gcd a b : Nat) : Int))) (by omega) (by omega)
  have n1 : a.fdiv (0 - ((Int.gcd a b : Nat) : Int)) = -(a / Int.gcd a b) := by
    rw [Int.zero_sub, Int.fdiv_neg (by omega), if_pos (dvd1 a b), d1]
  have n2 : b.fdiv (0 - ((Int.gcd a b : Nat) : Int)) = -(b / Int.gcd a b) := by
    rw [Int.zero_sub, Int.fdiv_neg (by omega), if_pos (dvd2 a b), d2]
  have s1 := sgn_div (show (0 : Int) < (Int.gcd a b : Nat) by omega) (dvd1 a b)
  have s2 := sgn_div (show (0 : Int) < (Int.gcd a b : Nat) by omega) (dvd2 a b)
  have hc : (a < 0 ∨ (a = 0 ∧ b < 0)) ↔ (a / Int.gcd a b < 0 ∨ (a / Int.gcd a b = 0 ∧ b / Int.gcd a b < 0)) := by rw [s1.1, s1.2, s2.1]
  unfold mkD
  unfold b__law_direction
  rw [evB_nx (ρ' := [some (.int a), some (.int b), some (.int (Int.gcd a b))]) (h' := h) (by simp only [evS_asg, evS_ret, evS_exp, evS_par, evT_eq, ev_var, ev_con, ev_gcon, ev_bin, ev_neg, ev_not, ev_bi, ev_ix, ev_call, ev_cmp, evs_cons, evs_nil, ev_tup1, ev_tup2, ev_tup3, ev_lst0, ev_lst1, new_eq, look_0, look_s, opt_some, Res.bind_ok, noX_ok, asg_name, asg_tup, asgs_cons, asgs_nil, List.set_cons_succ, List.set_cons_zero, tru_bl, cmp_lt, cmp_le, cmp_gt, cmp_ge, cmp_eqI, cmp_neI, add_int, sub_int, neg_int, int_int, guardR_true, hg])]
  have t := or_ev C h (i := 0) (j := 1) (ρ := [some (.int a), some (.int b), some (.int (Int.gcd a b))]) rfl rfl
  by_cases k : a < 0 ∨ (a = 0 ∧ b < 0)
  · rw [decide_eq_true k] at t
    rw [if_pos (hc.mp k)]
    rw [evB_nx (ρ' := [some (.int a), some (.int b), some (.int (0 - Int.gcd a b))]) (h' := h) (by
      rw [evS_ite_t t]
      refine (evB_nx ?_).trans (evB_nil _ _ _)
      simp only [evS_asg, evS_ret, evS_exp, evS_par, evT_eq, ev_var, ev_con, ev_gcon, ev_bin, ev_neg, ev_not, ev_bi, ev_ix, ev_call, ev_cmp, evs_cons, evs_nil, ev_tup1, ev_tup2, ev_tup3, ev_lst0, ev_lst1, new_eq, look_0, look_s, opt_some, Res.bind_ok, noX_ok, asg_name, asg_tup, asgs_cons, asgs_nil, List.set_cons_succ, List.set_cons_zero, tru_bl, cmp_lt, cmp_le, cmp_gt, cmp_ge, cmp_eqI, cmp_neI, add_int, sub_int, neg_int, int_int, guardR_true])]
    refine evB_rt ?_
    simp only [evS_asg, evS_ret, evS_exp, evS_par, evT_eq, ev_var, ev_con, ev_gcon, ev_bin, ev_neg, ev_not, ev_bi, ev_ix, ev_call, ev_cmp, evs_cons, evs_nil, ev_tup1, ev_tup2, ev_tup3, ev_lst0, ev_lst1, new_eq, look_0, look_s, opt_some, Res.bind_ok, noX_ok, asg_name, asg_tup, asgs_cons, asgs_nil, List.set_cons_succ, List.set_cons_zero, tru_bl, cmp_lt, cmp_le, cmp_gt, cmp_ge, cmp_eqI, cmp_neI, add_int, sub_int, neg_int, int_int, guardR_true, f2, n1, n2]
    exact id rfl
  · rw [decide_eq_false k] at t
    rw [if_neg (fun q => k (hc.mpr q))]
    rw [evB_nx (by rw [evS_ite_f t, evB_nil])]
    refine evB_rt ?_
    simp only [evS_asg, evS_ret, evS_exp, evS_par, evT_eq, ev_var, ev_con, ev_gcon, ev_bin, ev_neg, ev_not, ev_bi, ev_ix, ev_call, ev_cmp, evs_cons, evs_nil, ev_tup1, ev_tup2, ev_tup3, ev_lst0, ev_lst1, new_eq, look_0, look_s, opt_some, Res.bind_ok, noX_ok, asg_name, asg_tup, asgs_cons, asgs_nil, List.set_cons_succ, List.set_cons_zero, tru_bl, cmp_lt, cmp_le, cmp_gt, cmp_ge, cmp_eqI, cmp_neI, add_int, sub_int, neg_int, int_int, guardR_true, f1, d1, d2]
    exact id rfl
end
theorem c_make {k : Nat} (hk : 1 ≤ k) (h : PH) {a b : Int} (hz : a ≠ 0 ∨ b ≠ 0) (ha : a.natAbs < 2 ^ 60) (hb : b.natAbs < 2 ^ 60) : cN k i_make_direction [.int a, .int b] h = .ok (ofPr (mkD a b)) h := by
  obtain ⟨k, rfl⟩ : ∃ j, k = j + 1 := ⟨k - 1, by omega⟩
  rw [cN, call_of (d := f_make_direction) rfl rfl]
  show ends h (evB (Ck k) b_make_direction [some (.int a), some (.int b), none, none, none] h) = _
  rw [y_make (Ck k) h hz ha hb]
  simp only [ends_rt, trimH_same]
theorem c_make0 {k : Nat} (hk : 1 ≤ k) (h : PH) : cN k i_make_direction [.int 0, .int 0] h = .exc "BadStep" [("word", .str "number")] h := by
  obtain ⟨k, rfl⟩ : ∃ j, k = j + 1 := ⟨k - 1, by omega⟩
  rw [cN, call_of (d := f_make_direction) rfl rfl]
  show ends h (evB (Ck k) b_make_direction [some (.int 0), some (.int 0), none, none, none] h) = _
  rw [y_make0 (Ck k) h]
  exact id rfl
theorem c_dir {k : Nat} (hk : 2 ≤ k) (h : PH) {a b : Int} (hz : a ≠ 0 ∨ b ≠ 0) (ha : a.natAbs < 2 ^ 60) (hb : b.natAbs < 2 ^ 60) : cN k i__law_direction [.int a, .int b] h = .ok (ofPr (mkD a b)) h := by
  obtain ⟨k, rfl⟩ : ∃ j, k = j + 1 := ⟨k - 1, by omega⟩
  rw [cN, call_of (d := f__law_direction) rfl rfl]
  show ends h (evB (Ck k) b__law_direction [some (.int a), some (.int b), none] h) = _
  rw [y_dir (Ck k) h hz ha hb (c_gcd (by omega) h hb)]
  simp only [ends_rt, trimH_same]
/-- a direction as it is told -/
def Nrm (d : Cell) : Prop := Int.gcd d.1 d.2 = 1 ∧ (0 < d.1 ∨ (d.1 = 0 ∧ 0 < d.2))
theorem mkD_scale {d : Cell} (H : Nrm d) {t : Int} (ht : t ≠ 0) : mkD (d.1 * t) (d.2 * t) = d := by
  obtain ⟨h1, h2⟩ := H
  have hg : Int.gcd (d.1 * t) (d.2 * t) = t.natAbs := by rw [Int.gcd_mul_right, h1, Nat.one_mul]
  unfold mkD
  rw [hg]
  by_cases hp : 0 < t
  · have e : ((t.natAbs : Nat) : Int) = t := by omega
    rw [e, Int.mul_ediv_cancel _ ht, Int.mul_ediv_cancel _ ht, if_neg (by omega)]
  · have e : ((t.natAbs : Nat) : Int) = -t := by omega
    have e1 : d.1 * t = (-d.1) * (-t) := by rw [Int.neg_mul_neg]
    have e2 : d.2 * t = (-d.2) * (-t) := by rw [Int.neg_mul_neg]
    rw [e, e1, e2, Int.mul_ediv_cancel _ (by omega), Int.mul_ediv_cancel _ (by omega), if_pos (by omega), Int.neg_neg, Int.neg_neg]
/-! _law_same -/
mutual
def szV : PV → Nat
  | .tup xs => szL xs + 1
  | _ => 1
def szL : List PV → Nat
  | [] => 0
  | x :: xs => szV x + szL xs
end
theorem szL_app : ∀ (a b : List PV), szL (a ++ b) = szL a + szL b
  | [], b => by simp [szL]
  | x :: a, b => by
    show szV x + szL (a ++ b) = szV x + szL a + szL b
    rw [szL_app a b]
    omega
theorem szV_pos (v : PV) : 1 ≤ szV v := by
  cases v <;> simp [szV]
theorem szL_len : ∀ (a : List PV), a.length ≤ szL a
  | [] => Nat.le_refl _
  | x :: a => by
    have := szL_len a
    have := szV_pos x
    show a.length + 1 ≤ szV x + szL a
    omega
/-- ints and tuples of such -/
def Iok : Nat → PV → Prop
  | 0, v => ∃ i, v = .int i
  | k + 1, v => (∃ i, v = .int i) ∨ ∃ xs, v = .tup xs ∧ ∀ x ∈ xs, Iok k x
theorem Iok.sh {k : Nat} {v : PV} (h : Iok k v) : (∃ i, v = .int i) ∨ ∃ xs, v = .tup xs ∧ ∀ x ∈ xs, ∃ j, Iok j x := by
  cases k with
  | zero => exact .inl h
  | succ k =>
    rcases h with h | ⟨xs, e, h⟩
    · exact .inl h
    · exact .inr ⟨xs, e, fun x hx => ⟨k, h x hx⟩⟩
def dup (v : PV) : PV := .tup [v, v]
theorem is_tt (xs : List PV) (h : PH) : biV .isinst [.tup xs, .ty "tuple"] h = .ok (.bl true) h := id rfl
theorem is_it (i : Int) (h : PH) : biV .isinst [.int i, .ty "tuple"] h = .ok (.bl false) h := id rfl
theorem is_st (x : Str) (h : PH) : biV .isinst [.str x, .ty "tuple"] h = .ok (.bl false) h := id rfl
theorem is_ss (x : Str) (h : PH) : biV .isinst [.str x, .ty "str"] h = .ok (.bl true) h := id rfl
theorem is_is (i : Int) (h : PH) : biV .isinst [.int i, .ty "str"] h = .ok (.bl false) h := id rfl
theorem is_ib (i : Int) (h : PH) : biV .isinst [.int i, .ty "bool"] h = .ok (.bl false) h := id rfl
theorem is_ii (i : Int) (h : PH) : biV .isinst [.int i, .ty "int"] h = .ok (.bl true) h := id rfl
theorem is_in (i : Int) (h : PH) : cmpop .Is (.int i) .non h = .ok (.bl false) h := by
  have e : cmpop .Is (.int i) .non h = .ok (.bl (decide (PV.int i = .non))) h := id rfl
  rw [e, decide_eq_false (by intro q; cases q)]
theorem is_sn (x : Str) (h : PH) : cmpop .Is (.str x) .non h = .ok (.bl false) h := by
  have e : cmpop .Is (.str x) .non h = .ok (.bl (decide (PV.str x = .non))) h := id rfl
  rw [e, decide_eq_false (by intro q; cases q)]
theorem ext_lst {h : PH} {a b : Nat} {xs ys : List PV} (e1 : h[a]? = some (.lst xs)) (e2 : h[b]? = some (.lst ys)) (hl : xs.length + ys.length ≤ 1000000) : mtV .extend (.ref a) [.ref b] h = .ok .non (h.set a (.lst (xs ++ ys))) := by
  simp only [mtV, e1, e2]
  rw [sz_dec hl, guardR_true]
theorem mtTy_extend {h : PH} {n : Nat} {xs : List PV} (e : h[n]? = some (.lst xs)) : mtTy .extend (.ref n) h = true := by simp only [mtTy, e]
theorem map_range_get {α β : Type} (xs : List α) (f : α → β) (d : α) : (List.range xs.length).map (fun p => f (xs.getD p d)) = xs.map f := by
  refine List.ext_getElem? fun i => ?_
  rw [List.getElem?_map, List.getElem?_map]
  by_cases hi : i < xs.length
  · simp [hi, List.getElem?_eq_getElem hi]
  · simp [hi, List.getElem?_eq_none (Nat.le_of_not_lt hi)]
abbrev cIs : Ex := .cmp .Gt (.bi .len (.cons (.var 2) .nil)) (.con (.int 0))
abbrev bIs : Bk := (.cons (.asg (.tup (.cons (.name 3) (.cons (.name 4) .nil))) (.mt .pop (.var 2) .nil)) (.cons (.ite (.bi .isinst (.cons (.var 4) (.cons (.con (.ty "tuple")) .nil))) (.cons (.ite (.or (.cons (.not (.bi .isinst (.cons (.var 3) (.cons (.con (.ty "tuple")) .nil)))) (.cons (.cmp .NotEq (.bi .len (.cons (.var 3) .nil)) (.bi .len (.cons (.var 4) .nil))) .nil))) (.cons (.ret (.con (.bl false))) .nil) .nil) (.cons (.exp (.mt .extend (.var 2) (.cons (.lc [5] (.name 5) (.rng (.cons (.bi .len (.cons (.var 4) .nil)) .nil)) .nil (.tup (.cons (.ix (.var 3) (.var 5)) (.cons (.ix (.var 4) (.var 5)) .nil)))) .nil))) .nil)) (.cons (.ite (.cmp .Is (.var 4) (.con .non)) (.cons (.ite (.cmp .IsNot (.var 3) (.con .non)) (.cons (.ret (.con (.bl false))) .nil) .nil) .nil) (.cons (.ite (.bi .isinst (.cons (.var 4) (.cons (.con (.ty "str")) .nil))) (.cons (.ite (.or (.cons (.not (.bi .isinst (.cons (.var 3) (.cons (.con (.ty "str")) .nil)))) (.cons (.cmp .NotEq (.var 3) (.var 4)) .nil))) (.cons (.ret (.con (.bl false))) .nil) .nil) .nil) (.cons (.ite (.or (.cons (.bi .isinst (.cons (.var 4) (.cons (.con (.ty "bool")) .nil))) (.cons (.bi .isinst (.cons (.var 3) (.cons (.con (.ty "bool")) .nil))) .nil))) (.cons (.ite (.or (.cons (.not (.bi .isinst (.cons (.var 3) (.cons (.con (.ty "bool")) .nil)))) (.cons (.not (.bi .isinst (.cons (.var 4) (.cons (.con (.ty "bool")) .nil)))) (.cons (.cmp .NotEq (.var 3) (.var 4)) .nil)))) (.cons (.ret (.con (.bl false))) .nil) .nil) .nil) (.cons (.ite (.or (.cons (.not (.bi .isinst (.cons (.var 3) (.cons (.con (.ty "int")) .nil)))) (.cons (.cmp .NotEq (.var 3) (.var 4)) .nil))) (.cons (.ret (.con (.bl false))) .nil) .nil) .nil)) .nil)) .nil)) .nil)) .nil))
section
variable (C : Cfg) (h : PH)
theorem is_loop {A B : PV} : ∀ (fuel : Nat) (st : List PV) (g : PH) (w3 w4 w5 : Option PV), szL st < fuel → szL st ≤ 1000 → (∀ x ∈ st, ∃ k, Iok k x) → ∃ (g' : PH) (v3 v4 v5 : Option PV),
    whL (evT C cIs) (evB C bIs) fuel [some A, some B, some (.ref h.length), w3, w4, w5] (h ++ .lst (st.map dup) :: g) = .ok (.nx [some A, some B, some (.ref h.length), v3, v4, v5]) (h ++ g')
  | 0, st, g, w3, w4, w5, hf, _, _ => absurd hf (by omega)
  | fuel + 1, st, g, w3, w4, w5, hf, hb, hk => by
    have hS := getH_0 h g (.lst (st.map dup))
    have hl := len_lst hS
    rw [List.length_map] at hl
    have t : evT C cIs [some A, some B, some (.ref h.length), w3, w4, w5] (h ++ .lst (st.map dup) :: g) = .ok (decide ((0 : Int) < st.length)) (h ++ .lst (st.map dup) :: g) := by
      simp only [evT_eq, ev_cmp, ev_bi, evs_cons, evs_nil, ev_var, look_0, look_s, opt_some, Res.bind_ok, ev_con, hl, noX_ok, cmp_gt, tru_bl]
    rcases List.eq_nil_or_concat st with rfl | ⟨pre, v, rfl⟩
    · exact ⟨_, w3, w4, w5, whL_f t⟩
    · rw [List.concat_eq_append] at *
      rw [show decide ((0 : Int) < ((pre ++ [v]).length : Nat)) = true from decide_eq_true (by simp)] at t
      rw [szL_app] at hf hb
      have hv1 : szL [v] = szV v := by simp [szL]
      rw [hv1] at hf hb
      have hpre : ∀ x ∈ pre, ∃ k, Iok k x := fun x hx => hk x (List.mem_append_left _ hx)
      have hlp := szL_len pre
      have hS' : (h ++ .lst ((pre ++ [v]).map dup) :: g)[h.length]? = some (.lst (pre.map dup ++ [dup v])) := by rw [hS]; simp
      have e1 := pop_lst hS'
      rw [setH_0] at e1
      have s1 : evS C (.asg (.tup (.cons (.name 3) (.cons (.name 4) .nil))) (.mt .pop (.var 2) .nil)) [some A, some B, some (.ref h.length), w3, w4, w5] (h ++ .lst ((pre ++ [v]).map dup) :: g) = .ok (.nx [some A, some B, some (.ref h.length), some v, some v, w5]) (h ++ .lst (pre.map dup) :: g) := by
        simp only [evS_asg, ev_mt, ev_var, look_0, look_s, opt_some, Res.bind_ok, mtTy_pop hS', guardR_true, evs_nil, e1, noX_ok, dup, asg_tup, asgs_cons, asgs_nil, asg_name, List.set_cons_succ, List.set_cons_zero]
      obtain ⟨k, hkv⟩ := hk v (by simp)
      rcases hkv.sh with ⟨i, rfl⟩ | ⟨xs, rfl, hx⟩
      · obtain ⟨g', v3, v4, v5, e⟩ := is_loop (A := A) (B := B) fuel pre g (some (.int i)) (some (.int i)) w5 (by have := szV_pos (.int i); omega) (by omega) hpre
        refine ⟨g', v3, v4, v5, ?_⟩
        rw [whL_t t (ρ1 := [some A, some B, some (.ref h.length), some (.int i), some (.int i), w5]) (h2 := h ++ .lst (pre.map dup) :: g)]
        · exact e
        · rw [evB_nx s1]
          refine (evB_nx ?_).trans (evB_nil _ _ _)
          rw [evS_ite_f (h' := h ++ .lst (pre.map dup) :: g) (by simp only [evS_asg, evS_ret, evS_exp, evS_par, evT_eq, ev_var, ev_con, ev_gcon, ev_bin, ev_neg, ev_not, ev_bi, ev_ix, ev_call, ev_cmp, evs_cons, evs_nil, ev_tup1, ev_tup2, ev_tup3, ev_lst0, ev_lst1, new_eq, look_0, look_s, opt_some, Res.bind_ok, noX_ok, asg_name, asg_tup, asgs_cons, asgs_nil, List.set_cons_succ, List.set_cons_zero, tru_bl, cmp_lt, cmp_le, cmp_gt, cmp_ge, cmp_eqI, cmp_neI, add_int, sub_int, neg_int, int_int, guardR_true, is_it])]
          refine (evB_nx ?_).trans (evB_nil _ _ _)
          rw [evS_ite_f (h' := h ++ .lst (pre.map dup) :: g) (by simp only [evS_asg, evS_ret, evS_exp, evS_par, evT_eq, ev_var, ev_con, ev_gcon, ev_bin, ev_neg, ev_not, ev_bi, ev_ix, ev_call, ev_cmp, evs_cons, evs_nil, ev_tup1, ev_tup2, ev_tup3, ev_lst0, ev_lst1, new_eq, look_0, look_s, opt_some, Res.bind_ok, noX_ok, asg_name, asg_tup, asgs_cons, asgs_nil, List.set_cons_succ, List.set_cons_zero, tru_bl, cmp_lt, cmp_le, cmp_gt, cmp_ge, cmp_eqI, cmp_neI, add_int, sub_int, neg_int, int_int, guardR_true, is_in])]
          refine (evB_nx ?_).trans (evB_nil _ _ _)
          rw [evS_ite_f (h' := h ++ .lst (pre.map dup) :: g) (by simp only [evS_asg, evS_ret, evS_exp, evS_par, evT_eq, ev_var, ev_con, ev_gcon, ev_bin, ev_neg, ev_not, ev_bi, ev_ix, ev_call, ev_cmp, evs_cons, evs_nil, ev_tup1, ev_tup2, ev_tup3, ev_lst0, ev_lst1, new_eq, look_0, look_s, opt_some, Res.bind_ok, noX_ok, asg_name, asg_tup, asgs_cons, asgs_nil, List.set_cons_succ, List.set_cons_zero, tru_bl, cmp_lt, cmp_le, cmp_gt, cmp_ge, cmp_eqI, cmp_neI, add_int, sub_int, neg_int, int_int, guardR_true, is_is])]
          refine (evB_nx ?_).trans (evB_nil _ _ _)
          rw [evS_ite_f (h' := h ++ .lst (pre.map dup) :: g) (by
            simp only [evS_asg, evS_ret, evS_exp, evS_par, evT_eq, ev_var, ev_con, ev_gcon, ev_bin, ev_neg, ev_not, ev_bi, ev_ix, ev_call, ev_cmp, evs_cons, evs_nil, ev_tup1, ev_tup2, ev_tup3, ev_lst0, ev_lst1, new_eq, look_0, look_s, opt_some, Res.bind_ok, noX_ok, asg_name, asg_tup, asgs_cons, asgs_nil, List.set_cons_succ, List.set_cons_zero, tru_bl, cmp_lt, cmp_le, cmp_gt, cmp_ge, cmp_eqI, cmp_neI, add_int, sub_int, neg_int, int_int, guardR_true, ev_or2, ev_or1, is_ib]
            exact id rfl)]
          refine (evB_nx ?_).trans (evB_nil _ _ _)
          rw [evS_ite_f (h' := h ++ .lst (pre.map dup) :: g) (by
            simp only [evS_asg, evS_ret, evS_exp, evS_par, evT_eq, ev_var, ev_con, ev_gcon, ev_bin, ev_neg, ev_not, ev_bi, ev_ix, ev_call, ev_cmp, evs_cons, evs_nil, ev_tup1, ev_tup2, ev_tup3, ev_lst0, ev_lst1, new_eq, look_0, look_s, opt_some, Res.bind_ok, noX_ok, asg_name, asg_tup, asgs_cons, asgs_nil, List.set_cons_succ, List.set_cons_zero, tru_bl, cmp_lt, cmp_le, cmp_gt, cmp_ge, cmp_eqI, cmp_neI, add_int, sub_int, neg_int, int_int, guardR_true, ev_or2, ev_or1, is_ii, Bool.not_true, beq_self_eq_true]
            exact id rfl), evB_nil]
      · have hvx : szV (.tup xs) = szL xs + 1 := rfl
        rw [hvx] at hf hb
        have hlx := szL_len xs
        have hsz : szL (pre ++ xs) = szL pre + szL xs := szL_app _ _
        obtain ⟨g', v3, v4, v5, e⟩ := is_loop (A := A) (B := B) fuel (pre ++ xs) (g ++ [.lst (xs.map dup)]) (some (.tup xs)) (some (.tup xs)) w5 (by omega) (by omega) (fun x hx' => by
          rcases List.mem_append.mp hx' with q | q
          · exact hpre x q
          · exact hx x q)
        refine ⟨g', v3, v4, v5, ?_⟩
        have hG : (h ++ PO.lst (pre.map dup) :: g)[h.length]? = some (.lst (pre.map dup)) := getH_0 h g _
        have hset : (h ++ PO.lst (pre.map dup) :: g ++ [PO.lst (xs.map dup)]).set h.length (.lst (pre.map dup ++ xs.map dup)) = h ++ .lst ((pre ++ xs).map dup) :: (g ++ [.lst (xs.map dup)]) := by
          rw [List.map_append]
          have := setH_0 h (g ++ [PO.lst (xs.map dup)]) (.lst (pre.map dup)) (.lst (pre.map dup ++ xs.map dup))
          simpa using this
        generalize hGe : h ++ PO.lst (pre.map dup) :: g = G at *
        have elc := ev_lc_map (C := C) (ρ := [some A, some B, some (.ref h.length), some (.tup xs), some (.tup xs), w5]) (h := G) (h1 := G) (own := [5]) (tg := .name 5) (it := .rng (.cons (.bi .len (.cons (.var 4) .nil)) .nil)) (e := .tup (.cons (.ix (.var 3) (.var 5)) (.cons (.ix (.var 4) (.var 5)) .nil))) (g := [])
          (fun (k : Nat) => .int (k : Int)) (fun k => dup (xs.getD k .non)) (List.range xs.length) (by
            simp only [evIt_rng, evs_cons, evs_nil, ev_bi, ev_var, look_0, look_s, opt_some, Res.bind_ok, len_tup, noX_ok, rng_nat (show xs.length ≤ 1000000 by omega)]) rfl (by rw [List.length_range]; exact sz_of (by omega)) (fun k hk => by
            have hk' := List.mem_range.mp hk
            have ix : ixV (.tup xs) (.int (k : Int)) G = .ok (xs.getD k .non) G := by
              rw [Pu.ix_tup, atI_of (j := k) rfl, List.getElem?_eq_getElem hk']
              simp [hk', List.getElem?_eq_getElem hk']
            refine ⟨[some A, some B, some (.ref h.length), some (.tup xs), some (.tup xs), some (.int k)], by simp [wipeE], ?_⟩
            simp only [ev_tup2, ev_ix, ev_var, look_0, look_s, opt_some, Res.bind_ok, ix, noX_ok]
            exact id rfl)
        rw [map_range_get xs dup .non] at elc
        have ex := ext_lst (up_app' hG [PO.lst (xs.map dup)]) (getH_0 G [] (.lst (xs.map dup))) (by simp; omega)
        rw [hset] at ex
        rw [whL_t t (ρ1 := [some A, some B, some (.ref h.length), some (.tup xs), some (.tup xs), w5]) (h2 := h ++ .lst ((pre ++ xs).map dup) :: (g ++ [.lst (xs.map dup)]))]
        · exact e
        · rw [evB_nx s1]
          refine (evB_nx ?_).trans (evB_nil _ _ _)
          rw [evS_ite_t (h' := G) (by simp only [evT_eq, ev_bi, evs_cons, evs_nil, ev_var, look_0, look_s, opt_some, Res.bind_ok, ev_con, is_tt, noX_ok, tru_bl])]
          rw [evB_nx (ρ' := [some A, some B, some (.ref h.length), some (.tup xs), some (.tup xs), w5]) (h' := G) (by
            rw [evS_ite_f (h' := G) (by
              simp only [evT_eq, ev_or2, ev_or1, ev_not, ev_cmp, ev_bi, evs_cons, evs_nil, ev_var, look_0, look_s, opt_some, Res.bind_ok, ev_con, is_tt, len_tup, cmp_neI, noX_ok, tru_bl, Bool.not_true, beq_self_eq_true]
              exact id rfl), evB_nil])]
          refine (evB_nx ?_).trans (evB_nil _ _ _)
          simp only [evS_exp, ev_mt, ev_var, look_0, look_s, opt_some, Res.bind_ok, mtTy_extend hG, guardR_true, evs_cons, evs_nil, elc, ex, noX_ok]
theorem y_same (hfu : 1000 ≤ C.fuel) {v : PV} (hk : ∃ k, Iok k v) (hs : szV v ≤ 900) : ∃ g, evB C b__law_same [some v, some v, none, none, none, none] h = .ok (.rt (.bl true)) (h ++ g) := by
  have hv1 : szL [v] = szV v := by simp [szL]
  obtain ⟨g', v3, v4, v5, e⟩ := is_loop C h (A := v) (B := v) C.fuel [v] [] none none none (by omega) (by omega) (fun x hx => by
    rw [List.mem_singleton] at hx
    rw [hx]; exact hk)
  refine ⟨g', ?_⟩
  unfold b__law_same
  rw [evB_nx (ρ' := [some v, some v, some (.ref h.length), none, none, none]) (h' := h ++ [.lst ([v].map dup)]) (by
    simp only [evS_asg, evS_ret, evS_exp, evS_par, evT_eq, ev_var, ev_con, ev_gcon, ev_bin, ev_neg, ev_not, ev_bi, ev_ix, ev_call, ev_cmp, evs_cons, evs_nil, ev_tup1, ev_tup2, ev_tup3, ev_lst0, ev_lst1, new_eq, look_0, look_s, opt_some, Res.bind_ok, noX_ok, asg_name, asg_tup, asgs_cons, asgs_nil, List.set_cons_succ, List.set_cons_zero, tru_bl, cmp_lt, cmp_le, cmp_gt, cmp_ge, cmp_eqI, cmp_neI, add_int, sub_int, neg_int, int_int, guardR_true]
    exact id rfl)]
  rw [evB_nx ((evS_wh _ _ _ _ _).trans e)]
  refine evB_rt ?_
  simp only [evS_asg, evS_ret, evS_exp, evS_par, evT_eq, ev_var, ev_con, ev_gcon, ev_bin, ev_neg, ev_not, ev_bi, ev_ix, ev_call, ev_cmp, evs_cons, evs_nil, ev_tup1, ev_tup2, ev_tup3, ev_lst0, ev_lst1, new_eq, look_0, look_s, opt_some, Res.bind_ok, noX_ok, asg_name, asg_tup, asgs_cons, asgs_nil, List.set_cons_succ, List.set_cons_zero, tru_bl, cmp_lt, cmp_le, cmp_gt, cmp_ge, cmp_eqI, cmp_neI, add_int, sub_int, neg_int, int_int, guardR_true]
end
theorem c_same {k : Nat} (hk : 1 ≤ k) (h : PH) {v : PV} (hv : ∃ k, Iok k v) (hs : szV v ≤ 900) : cN k i__law_same [v, v] h = .ok (.bl true) h := by
  obtain ⟨k, rfl⟩ : ∃ j, k = j + 1 := ⟨k - 1, by omega⟩
  obtain ⟨g, e⟩ := y_same (Ck k) h (show 1000 ≤ 1000 by omega) hv hs
  rw [cN, call_of (d := f__law_same) rfl rfl]
  show ends h (evB (Ck k) b__law_same [some v, some v, none, none, none, none] h) = _
  rw [e]
  simp only [ends_rt, lo_bl, trimH_app, if_true]
end K00

set_option Elab.async false
set_option linter.all false
set_option maxRecDepth 100000
/-! N00e: k00: _law_refused, turned_directions, _law_directions, _law_integer, _law_lot -/
namespace K00
open PySem PySem.Spec Pu
/-- what the first calls are worth -/
structure L1 (C : Cfg) : Prop where
  fuel : 1000 ≤ C.fuel
  take : TakeC C
  gcd : ∀ (g : PH) (x y : Int), y.natAbs < 2 ^ 60 → C.call i__law_gcd [.int x, .int y] g = .ok (.int (Int.gcd x y)) g
  make : ∀ (g : PH) (a b : Int), (a ≠ 0 ∨ b ≠ 0) → a.natAbs < 2 ^ 60 → b.natAbs < 2 ^ 60 → C.call i_make_direction [.int a, .int b] g = .ok (ofPr (mkD a b)) g
  make0 : ∀ (g : PH), C.call i_make_direction [.int 0, .int 0] g = .exc "BadStep" [("word", .str "number")] g
  dir : ∀ (g : PH) (a b : Int), (a ≠ 0 ∨ b ≠ 0) → a.natAbs < 2 ^ 60 → b.natAbs < 2 ^ 60 → C.call i__law_direction [.int a, .int b] g = .ok (ofPr (mkD a b)) g
  same : ∀ (g : PH) (v : PV), (∃ k, Iok k v) → szV v ≤ 900 → C.call i__law_same [v, v] g = .ok (.bl true) g
  hot : ∀ (g : PH), C.call i_hot__law_same [.str "number", .str "number"] g = .ok (.bl true) g
  ofL : ∀ (h : PH) (i j : Nat) (xs : List PV), Ch h i → h[j]? = some (.lst xs) → j ≠ i → 0 < xs.length → xs.length ≤ 1000 → ∃ x ∈ xs, ∃ h', C.call i__law_of [.ref i, .ref j] h = .ok x h' ∧ Chn h h' i
  ofT : ∀ (h : PH) (i : Nat) (xs : List PV), Ch h i → 0 < xs.length → xs.length ≤ 1000 → ∃ x ∈ xs, ∃ h', C.call i__law_of [.ref i, .tup xs] h = .ok x h' ∧ Chn h h' i
theorem nn_ev (C : Cfg) (h : PH) : cmpop .NotEq (.str "number") (.str "number") h = .ok (.bl false) h := by
  have e : cmpop .NotEq (.str "number") (.str "number") h = (notR (guardR (fine (.str "number") && fine (.str "number")) (.ok (PV.eqv (.str "number") (.str "number")) h))).map .bl := id rfl
  rw [e, show (fine (.str "number") && fine (.str "number")) = true by decide +kernel, show PV.eqv (.str "number") (.str "number") = true by decide +kernel]
  exact id rfl
theorem y_hot (C : Cfg) (hfu : 1000 ≤ C.fuel) (h : PH) : evB C b_hot__law_same [some (.str "number"), some (.str "number"), none, none, none, none] h = .ok (.rt (.bl true)) (h ++ [.lst []]) := by
  obtain ⟨f, hf⟩ : ∃ f, C.fuel = f + 1 + 1 := ⟨C.fuel - 2, by omega⟩
  have hS := getH_0 h [] (.lst [.tup [.str "number", .str "number"]])
  have hS0 := getH_0 h [] (.lst [])
  have e1 := pop_lst (xs := []) hS
  rw [setH_0] at e1
  have t : ∀ w3 w4, evT C cIs [some (.str "number"), some (.str "number"), some (.ref h.length), w3, w4, none] (h ++ [.lst [.tup [.str "number", .str "number"]]]) = .ok true (h ++ [.lst [.tup [.str "number", .str "number"]]]) := fun w3 w4 => by
    simp only [evS_asg, evS_ret, evS_exp, evS_par, evT_eq, ev_var, ev_con, ev_gcon, ev_bin, ev_neg, ev_not, ev_bi, ev_ix, ev_call, ev_cmp, evs_cons, evs_nil, ev_tup1, ev_tup2, ev_tup3, ev_lst0, ev_lst1, new_eq, look_0, look_s, opt_some, Res.bind_ok, noX_ok, asg_name, asg_tup, asgs_cons, asgs_nil, List.set_cons_succ, List.set_cons_zero, tru_bl, cmp_lt, cmp_le, cmp_gt, cmp_ge, cmp_eqI, cmp_neI, add_int, sub_int, neg_int, int_int, guardR_true, len_lst hS]
    exact id rfl
  have t0 : ∀ w3 w4, evT C cIs [some (.str "number"), some (.str "number"), some (.ref h.length), w3, w4, none] (h ++ [.lst []]) = .ok false (h ++ [.lst []]) := fun w3 w4 => by
    simp only [evS_asg, evS_ret, evS_exp, evS_par, evT_eq, ev_var, ev_con, ev_gcon, ev_bin, ev_neg, ev_not, ev_bi, ev_ix, ev_call, ev_cmp, evs_cons, evs_nil, ev_tup1, ev_tup2, ev_tup3, ev_lst0, ev_lst1, new_eq, look_0, look_s, opt_some, Res.bind_ok, noX_ok, asg_name, asg_tup, asgs_cons, asgs_nil, List.set_cons_succ, List.set_cons_zero, tru_bl, cmp_lt, cmp_le, cmp_gt, cmp_ge, cmp_eqI, cmp_neI, add_int, sub_int, neg_int, int_int, guardR_true, len_lst hS0]
    exact id rfl
  unfold b_hot__law_same
  rw [evB_nx (ρ' := [some (.str "number"), some (.str "number"), some (.ref h.length), none, none, none]) (h' := h ++ [.lst [.tup [.str "number", .str "number"]]]) (by simp only [evS_asg, evS_ret, evS_exp, evS_par, evT_eq, ev_var, ev_con, ev_gcon, ev_bin, ev_neg, ev_not, ev_bi, ev_ix, ev_call, ev_cmp, evs_cons, evs_nil, ev_tup1, ev_tup2, ev_tup3, ev_lst0, ev_lst1, new_eq, look_0, look_s, opt_some, Res.bind_ok, noX_ok, asg_name, asg_tup, asgs_cons, asgs_nil, List.set_cons_succ, List.set_cons_zero, tru_bl, cmp_lt, cmp_le, cmp_gt, cmp_ge, cmp_eqI, cmp_neI, add_int, sub_int, neg_int, int_int, guardR_true])]
  rw [evB_nx (ρ' := [some (.str "number"), some (.str "number"), some (.ref h.length), some (.str "number"), some (.str "number"), none]) (h' := h ++ [.lst []]) (by
    rw [evS_wh, hf]
    refine (whL_t (t none none) (ρ1 := [some (.str "number"), some (.str "number"), some (.ref h.length), some (.str "number"), some (.str "number"), none]) (h2 := h ++ [.lst []]) ?_).trans (whL_f (t0 _ _))
    rw [evB_nx (ρ' := [some (.str "number"), some (.str "number"), some (.ref h.length), some (.str "number"), some (.str "number"), none]) (h' := h ++ [.lst []]) (by simp only [evS_asg, evS_ret, evS_exp, evS_par, evT_eq, ev_var, ev_con, ev_gcon, ev_bin, ev_neg, ev_not, ev_bi, ev_ix, ev_call, ev_cmp, evs_cons, evs_nil, ev_tup1, ev_tup2, ev_tup3, ev_lst0, ev_lst1, new_eq, look_0, look_s, opt_some, Res.bind_ok, noX_ok, asg_name, asg_tup, asgs_cons, asgs_nil, List.set_cons_succ, List.set_cons_zero, tru_bl, cmp_lt, cmp_le, cmp_gt, cmp_ge, cmp_eqI, cmp_neI, add_int, sub_int, neg_int, int_int, guardR_true, ev_mt, mtTy_pop hS, e1])]
    refine (evB_nx ?_).trans (evB_nil _ _ _)
    rw [evS_ite_f (h' := h ++ [.lst []]) (by simp only [evS_asg, evS_ret, evS_exp, evS_par, evT_eq, ev_var, ev_con, ev_gcon, ev_bin, ev_neg, ev_not, ev_bi, ev_ix, ev_call, ev_cmp, evs_cons, evs_nil, ev_tup1, ev_tup2, ev_tup3, ev_lst0, ev_lst1, new_eq, look_0, look_s, opt_some, Res.bind_ok, noX_ok, asg_name, asg_tup, asgs_cons, asgs_nil, List.set_cons_succ, List.set_cons_zero, tru_bl, cmp_lt, cmp_le, cmp_gt, cmp_ge, cmp_eqI, cmp_neI, add_int, sub_int, neg_int, int_int, guardR_true, is_st])]
    refine (evB_nx ?_).trans (evB_nil _ _ _)
    rw [evS_ite_f (h' := h ++ [.lst []]) (by simp only [evS_asg, evS_ret, evS_exp, evS_par, evT_eq, ev_var, ev_con, ev_gcon, ev_bin, ev_neg, ev_not, ev_bi, ev_ix, ev_call, ev_cmp, evs_cons, evs_nil, ev_tup1, ev_tup2, ev_tup3, ev_lst0, ev_lst1, new_eq, look_0, look_s, opt_some, Res.bind_ok, noX_ok, asg_name, asg_tup, asgs_cons, asgs_nil, List.set_cons_succ, List.set_cons_zero, tru_bl, cmp_lt, cmp_le, cmp_gt, cmp_ge, cmp_eqI, cmp_neI, add_int, sub_int, neg_int, int_int, guardR_true, is_sn])]
    refine (evB_nx ?_).trans (evB_nil _ _ _)
    rw [evS_ite_t (h' := h ++ [.lst []]) (by simp only [evS_asg, evS_ret, evS_exp, evS_par, evT_eq, ev_var, ev_con, ev_gcon, ev_bin, ev_neg, ev_not, ev_bi, ev_ix, ev_call, ev_cmp, evs_cons, evs_nil, ev_tup1, ev_tup2, ev_tup3, ev_lst0, ev_lst1, new_eq, look_0, look_s, opt_some, Res.bind_ok, noX_ok, asg_name, asg_tup, asgs_cons, asgs_nil, List.set_cons_succ, List.set_cons_zero, tru_bl, cmp_lt, cmp_le, cmp_gt, cmp_ge, cmp_eqI, cmp_neI, add_int, sub_int, neg_int, int_int, guardR_true, is_ss])]
    refine (evB_nx ?_).trans (evB_nil _ _ _)
    rw [evS_ite_f (h' := h ++ [.lst []]) (by
      simp only [evS_asg, evS_ret, evS_exp, evS_par, evT_eq, ev_var, ev_con, ev_gcon, ev_bin, ev_neg, ev_not, ev_bi, ev_ix, ev_call, ev_cmp, evs_cons, evs_nil, ev_tup1, ev_tup2, ev_tup3, ev_lst0, ev_lst1, new_eq, look_0, look_s, opt_some, Res.bind_ok, noX_ok, asg_name, asg_tup, asgs_cons, asgs_nil, List.set_cons_succ, List.set_cons_zero, tru_bl, cmp_lt, cmp_le, cmp_gt, cmp_ge, cmp_eqI, cmp_neI, add_int, sub_int, neg_int, int_int, guardR_true, ev_or2, ev_or1, is_ss, nn_ev C]
      exact id rfl), evB_nil])]
  refine evB_rt ?_
  simp only [evS_asg, evS_ret, evS_exp, evS_par, evT_eq, ev_var, ev_con, ev_gcon, ev_bin, ev_neg, ev_not, ev_bi, ev_ix, ev_call, ev_cmp, evs_cons, evs_nil, ev_tup1, ev_tup2, ev_tup3, ev_lst0, ev_lst1, new_eq, look_0, look_s, opt_some, Res.bind_ok, noX_ok, asg_name, asg_tup, asgs_cons, asgs_nil, List.set_cons_succ, List.set_cons_zero, tru_bl, cmp_lt, cmp_le, cmp_gt, cmp_ge, cmp_eqI, cmp_neI, add_int, sub_int, neg_int, int_int, guardR_true]
theorem c_hot {k : Nat} (hk : 1 ≤ k) (h : PH) : cN k i_hot__law_same [.str "number", .str "number"] h = .ok (.bl true) h := by
  obtain ⟨k, rfl⟩ : ∃ j, k = j + 1 := ⟨k - 1, by omega⟩
  rw [cN, call_of (d := f_hot__law_same) rfl rfl]
  show ends h (evB (Ck k) b_hot__law_same [some (.str "number"), some (.str "number"), none, none, none, none] h) = _
  rw [y_hot (Ck k) (show 1000 ≤ 1000 by omega) h]
  simp only [ends_rt, lo_bl, trimH_app, if_true]
theorem l1C {k : Nat} (hk : 3 ≤ k) : L1 (Ck k) where
  fuel := Nat.le_refl _
  take := c_take (by omega)
  gcd := fun g x y hy => c_gcd (by omega) g hy
  make := fun g a b hz ha hb => c_make (by omega) g hz ha hb
  make0 := fun g => c_make0 (by omega) g
  dir := fun g a b hz ha hb => c_dir (by omega) g hz ha hb
  same := fun g v hv hs => c_same (by omega) g hv hs
  hot := fun g => c_hot (by omega) g
  ofL := fun h i j xs H hj hij h0 h1 => c_ofL (by omega) H hj hij h0 h1
  ofT := fun h i xs H h0 h1 => c_ofT (by omega) H h0 h1
/-! _law_refused -/
theorem y_refused {C : Cfg} (K : L1 C) (h : PH) : evB C b__law_refused [none] h = .ok (.rt (.bl true)) h := by
  have e1 : evB C (.cons (.exp (.call i_make_direction (.cons (.con (.int 0)) (.cons (.con (.int 0)) .nil)))) .nil) [none] h = .exc "BadStep" [("word", .str "number")] h := by
    rw [evB_cons]
    simp only [evS_asg, evS_ret, evS_exp, evS_par, evT_eq, ev_var, ev_con, ev_gcon, ev_bin, ev_neg, ev_not, ev_bi, ev_ix, ev_call, ev_cmp, evs_cons, evs_nil, ev_tup1, ev_tup2, ev_tup3, ev_lst0, ev_lst1, new_eq, look_0, look_s, opt_some, Res.bind_ok, noX_ok, asg_name, asg_tup, asgs_cons, asgs_nil, List.set_cons_succ, List.set_cons_zero, tru_bl, cmp_lt, cmp_le, cmp_gt, cmp_ge, cmp_eqI, cmp_neI, add_int, sub_int, neg_int, int_int, guardR_true, K.make0]
    exact id rfl
  have e2 : hv C "BadStep" [("word", .str "number")] (.and (.isi ["BadStep"] []) (.call i_hot__law_same (.cons (.fld "word") (.cons (.con (.str "number")) .nil)))) h = .ok (.bl true) h := by
    have a : hv C "BadStep" [("word", .str "number")] (.and (.isi ["BadStep"] []) (.call i_hot__law_same (.cons (.fld "word") (.cons (.con (.str "number")) .nil)))) h = noX (C.call i_hot__law_same [.str "number", .str "number"] h) := id rfl
    rw [a, K.hot, noX_ok]
  unfold b__law_refused
  refine evB_rt ?_
  have e3 : evS C (.trya (.cons (.exp (.call i_make_direction (.cons (.con (.int 0)) (.cons (.con (.int 0)) .nil)))) .nil) ["BadStep"] [] (.and (.isi ["BadStep"] []) (.call i_hot__law_same (.cons (.fld "word") (.cons (.con (.str "number")) .nil))))) [none] h = caught C ["BadStep"] [] (.and (.isi ["BadStep"] []) (.call i_hot__law_same (.cons (.fld "word") (.cons (.con (.str "number")) .nil)))) (evB C (.cons (.exp (.call i_make_direction (.cons (.con (.int 0)) (.cons (.con (.int 0)) .nil)))) .nil) [none] h) := id rfl
  rw [e3, e1]
  have e4 : caught C ["BadStep"] [] (.and (.isi ["BadStep"] []) (.call i_hot__law_same (.cons (.fld "word") (.cons (.con (.str "number")) .nil)))) (.exc "BadStep" [("word", .str "number")] h) = (noX (hv C "BadStep" [("word", .str "number")] (.and (.isi ["BadStep"] []) (.call i_hot__law_same (.cons (.fld "word") (.cons (.con (.str "number")) .nil)))) h)).bind fun v h => .ok (.rt v) h := id rfl
  rw [e4, e2, noX_ok, Res.bind_ok]
theorem c_refused {k : Nat} (hk : 4 ≤ k) (h : PH) : cN k i__law_refused [] h = .ok (.bl true) h := by
  obtain ⟨k, rfl⟩ : ∃ j, k = j + 1 := ⟨k - 1, by omega⟩
  rw [cN, call_of (d := f__law_refused) rfl rfl]
  show ends h (evB (Ck k) b__law_refused [none] h) = _
  rw [y_refused (l1C (by omega)) h]
  simp only [ends_rt, trimH_same]
/-! turned_directions -/
def trn (d : Cell) : Cell := mkD (-d.2) d.1
theorem y_turned {C : Cfg} (K : L1 C) (h : PH) {l : List Cell} (hl : l.length ≤ 1000) (hd : ∀ d ∈ l, d ≠ (0, 0) ∧ d.1.natAbs < 2 ^ 60 ∧ d.2.natAbs < 2 ^ 60) : evB C b_turned_directions [some (pCells l), none, none] h = .ok (.rt (pCells (l.map trn))) h := by
  have it : evIt C (.val (.var 0)) [some (pCells l), none, none] h = .ok (l.map ofPr, []) h := by
    simp only [evS_asg, evS_ret, evS_exp, evS_par, evT_eq, ev_var, ev_con, ev_gcon, ev_bin, ev_neg, ev_not, ev_bi, ev_ix, ev_call, ev_cmp, evs_cons, evs_nil, ev_tup1, ev_tup2, ev_tup3, ev_lst0, ev_lst1, new_eq, look_0, look_s, opt_some, Res.bind_ok, noX_ok, asg_name, asg_tup, asgs_cons, asgs_nil, List.set_cons_succ, List.set_cons_zero, tru_bl, cmp_lt, cmp_le, cmp_gt, cmp_ge, cmp_eqI, cmp_neI, add_int, sub_int, neg_int, int_int, guardR_true, evIt_val, walk_pr]
  have e := ev_lc_map (C := C) (ρ := [some (pCells l), none, none]) (h := h) (own := [1, 2]) (tg := .tup (.cons (.name 1) (.cons (.name 2) .nil))) (e := .call i_make_direction (.cons (.neg (.var 2)) (.cons (.var 1) .nil))) ofPr (fun d => ofPr (trn d)) l it rfl (sz_of (by omega)) (fun d hm => by
    obtain ⟨k1, k2, k3⟩ := hd d hm
    have hz : -d.2 ≠ 0 ∨ d.1 ≠ 0 := by
      by_cases q : d.1 = 0
      · exact .inl fun q2 => k1 (Prod.ext q (by omega))
      · exact .inr q
    refine ⟨[some (pCells l), some (.int d.1), some (.int d.2)], by simp [ofPr, wipeE], ?_⟩
    simp only [evS_asg, evS_ret, evS_exp, evS_par, evT_eq, ev_var, ev_con, ev_gcon, ev_bin, ev_neg, ev_not, ev_bi, ev_ix, ev_call, ev_cmp, evs_cons, evs_nil, ev_tup1, ev_tup2, ev_tup3, ev_lst0, ev_lst1, new_eq, look_0, look_s, opt_some, Res.bind_ok, noX_ok, asg_name, asg_tup, asgs_cons, asgs_nil, List.set_cons_succ, List.set_cons_zero, tru_bl, cmp_lt, cmp_le, cmp_gt, cmp_ge, cmp_eqI, cmp_neI, add_int, sub_int, neg_int, int_int, guardR_true, K.make h _ _ hz (by omega) k2]
    exact id rfl)
  have m : (l.map fun d => ofPr (trn d)) = (l.map trn).map ofPr := by rw [List.map_map]; rfl
  rw [m] at e
  unfold b_turned_directions
  refine evB_rt ?_
  simp only [evS_asg, evS_ret, evS_exp, evS_par, evT_eq, ev_var, ev_con, ev_gcon, ev_bin, ev_neg, ev_not, ev_bi, ev_ix, ev_call, ev_cmp, evs_cons, evs_nil, ev_tup1, ev_tup2, ev_tup3, ev_lst0, ev_lst1, new_eq, look_0, look_s, opt_some, Res.bind_ok, noX_ok, asg_name, asg_tup, asgs_cons, asgs_nil, List.set_cons_succ, List.set_cons_zero, tru_bl, cmp_lt, cmp_le, cmp_gt, cmp_ge, cmp_eqI, cmp_neI, add_int, sub_int, neg_int, int_int, guardR_true, ev_tr, e, tuple_lst, lo_tup, los_pr, trimH_app, if_true]
  exact id rfl
theorem c_turned {k : Nat} (hk : 4 ≤ k) (h : PH) {l : List Cell} (hl : l.length ≤ 1000) (hd : ∀ d ∈ l, d ≠ (0, 0) ∧ d.1.natAbs < 2 ^ 60 ∧ d.2.natAbs < 2 ^ 60) : cN k i_turned_directions [pCells l] h = .ok (pCells (l.map trn)) h := by
  obtain ⟨k, rfl⟩ : ∃ j, k = j + 1 := ⟨k - 1, by omega⟩
  rw [cN, call_of (d := f_turned_directions) rfl rfl]
  show ends h (evB (Ck k) b_turned_directions [some (pCells l), none, none] h) = _
  rw [y_turned (l1C (by omega)) h hl hd]
  simp only [ends_rt, trimH_same]
/-! _law_directions -/
def isD (d : Cell) : Bool := (((Int.gcd d.1 d.2 : Nat) : Int) == 1) && (decide (0 < d.1) || decide (0 < d.2))
def row (s : Nat) (a : Int) : List Cell := ((List.range (2 * s + 1)).map fun (k : Nat) => (a, -(s : Int) + (k : Int))).filter isD
def dirs (s : Nat) : List Cell := (List.range (s + 1)).flatMap fun (a : Nat) => row s a
theorem rng2 {i j : Int} {n : Nat} (h1 : -1000000 ≤ i) (h2 : j ≤ 1000000) (h3 : i ≤ j) (e : j - i = n) (h : PH) : rngV [.int i, .int j] h = .ok ((List.range n).map (fun (k : Nat) => .int (i + k)), []) h := by
  have e1 : rngV [.int i, .int j] h = guardR (decide (-(2 ^ 62) ≤ i ∧ i < 2 ^ 62 ∧ -(2 ^ 62) ≤ j ∧ j < 2 ^ 62)) (.ok ((List.range (j - i).toNat).map (fun (k : Nat) => .int (i + k)), []) h) := id rfl
  rw [e1, decide_eq_true (by omega), guardR_true, e, Int.toNat_natCast]
abbrev lcDi : Ex := .lc [3] (.name 3) (.rng (.cons (.neg (.var 0)) (.cons (.bin .Add (.var 0) (.con (.int 1))) .nil))) (.cons (.and (.cons (.cmp .Eq (.call i__law_gcd (.cons (.var 2) (.cons (.var 3) .nil))) (.con (.int 1))) (.cons (.or (.cons (.cmp .Gt (.var 2) (.con (.int 0))) (.cons (.cmp .Gt (.var 3) (.con (.int 0))) .nil))) .nil))) .nil) (.tup (.cons (.var 2) (.cons (.var 3) .nil)))
abbrev bDi : Bk := .cons (.exp (.mt .extend (.var 1) (.cons lcDi .nil))) .nil
section
variable {C : Cfg} (K : L1 C)
include K
theorem di_lc (h : PH) {s : Nat} (hs : s ≤ 100) (a : Int) (w1 w3 : Option PV) : ev C lcDi [some (.int s), w1, some (.int a), w3] h = .ok (.ref h.length) (h ++ [.lst ((row s a).map ofPr)]) := by
  have e := ev_lc_of (C := C) (ρ := [some (.int s), w1, some (.int a), w3]) (h := h) (h1 := h) (own := [3]) (tg := .name 3) (it := .rng (.cons (.neg (.var 0)) (.cons (.bin .Add (.var 0) (.con (.int 1))) .nil))) (ifs := .cons (.and (.cons (.cmp .Eq (.call i__law_gcd (.cons (.var 2) (.cons (.var 3) .nil))) (.con (.int 1))) (.cons (.or (.cons (.cmp .Gt (.var 2) (.con (.int 0))) (.cons (.cmp .Gt (.var 3) (.con (.int 0))) .nil))) .nil))) .nil) (e := .tup (.cons (.var 2) (.cons (.var 3) .nil)))
    (g := []) (fun (k : Nat) => .int (-(s : Int) + (k : Int))) (fun (k : Nat) => ofPr (a, -(s : Int) + (k : Int))) (fun (k : Nat) => isD (a, -(s : Int) + (k : Int))) (List.range (2 * s + 1)) (by
      simp only [evS_asg, evS_ret, evS_exp, evS_par, evT_eq, ev_var, ev_con, ev_gcon, ev_bin, ev_neg, ev_not, ev_bi, ev_ix, ev_call, ev_cmp, evs_cons, evs_nil, ev_tup1, ev_tup2, ev_tup3, ev_lst0, ev_lst1, new_eq, look_0, look_s, opt_some, Res.bind_ok, noX_ok, asg_name, asg_tup, asgs_cons, asgs_nil, List.set_cons_succ, List.set_cons_zero, tru_bl, cmp_lt, cmp_le, cmp_gt, cmp_ge, cmp_eqI, cmp_neI, add_int, sub_int, neg_int, int_int, guardR_true, evIt_rng, rng2 (i := -(s : Int)) (j := (s : Int) + 1) (n := 2 * s + 1) (by omega) (by omega) (by omega) (by omega)]) rfl (by rw [List.length_range]; exact sz_of (by omega)) (fun x hx => by
      have hx' := List.mem_range.mp hx
      refine ⟨[some (.int s), w1, some (.int a), some (.int (-(s : Int) + (x : Int)))], by simp [wipeE], ?_, fun _ => ?_⟩
      · simp only [evS_asg, evS_ret, evS_exp, evS_par, evT_eq, ev_var, ev_con, ev_gcon, ev_bin, ev_neg, ev_not, ev_bi, ev_ix, ev_call, ev_cmp, evs_cons, evs_nil, ev_tup1, ev_tup2, ev_tup3, ev_lst0, ev_lst1, new_eq, look_0, look_s, opt_some, Res.bind_ok, noX_ok, asg_name, asg_tup, asgs_cons, asgs_nil, List.set_cons_succ, List.set_cons_zero, tru_bl, cmp_lt, cmp_le, cmp_gt, cmp_ge, cmp_eqI, cmp_neI, add_int, sub_int, neg_int, int_int, guardR_true, evTs_one, ev_and2, ev_and1, ev_or2, ev_or1, K.gcd h a (-(s : Int) + (x : Int)) (by omega)]
        unfold isD
        cases (((Int.gcd a (-(s : Int) + (x : Int)) : Nat) : Int) == 1) <;> cases decide (0 < a) <;> simp
      · simp only [evS_asg, evS_ret, evS_exp, evS_par, evT_eq, ev_var, ev_con, ev_gcon, ev_bin, ev_neg, ev_not, ev_bi, ev_ix, ev_call, ev_cmp, evs_cons, evs_nil, ev_tup1, ev_tup2, ev_tup3, ev_lst0, ev_lst1, new_eq, look_0, look_s, opt_some, Res.bind_ok, noX_ok, asg_name, asg_tup, asgs_cons, asgs_nil, List.set_cons_succ, List.set_cons_zero, tru_bl, cmp_lt, cmp_le, cmp_gt, cmp_ge, cmp_eqI, cmp_neI, add_int, sub_int, neg_int, int_int, guardR_true]
        exact id rfl)
  have m : ((List.range (2 * s + 1)).filter fun (k : Nat) => isD (a, -(s : Int) + (k : Int))).map (fun (k : Nat) => ofPr (a, -(s : Int) + (k : Int))) = (row s a).map ofPr := by
    unfold row
    rw [List.filter_map, List.map_map]
    rfl
  rw [m] at e
  exact e
omit K in
theorem row_len (s : Nat) (a : Int) : (row s a).length ≤ 2 * s + 1 := by
  unfold row
  refine Nat.le_trans (List.length_filter_le _ _) ?_
  simp
theorem di_loop (h : PH) {s : Nat} (hs : s ≤ 100) : ∀ (todo : List Nat) (acc : List Cell) (g : PH) (w2 w3 : Option PV), acc.length + todo.length * (2 * s + 1) ≤ 100000 → ∃ (g' : PH) (v2 v3 : Option PV),
    forL (fun x ρ h => (noX (asg C (.name 2) x ρ h)).bind fun ρ h => evB C bDi ρ h) [] (todo.map fun (k : Nat) => .int (k : Int)) [some (.int s), some (.ref h.length), w2, w3] (h ++ .lst (acc.map ofPr) :: g) = .ok (.nx [some (.int s), some (.ref h.length), v2, v3]) (h ++ .lst ((acc ++ todo.flatMap fun (a : Nat) => row s a).map ofPr) :: g')
  | [], acc, g, w2, w3, _ => ⟨g, w2, w3, by simpa using forL_nil rfl⟩
  | a :: todo, acc, g, w2, w3, hl => by
    rw [List.length_cons, Nat.succ_mul] at hl
    have hr := row_len s a
    have hG := getH_0 h g (.lst (acc.map ofPr))
    have hset : (h ++ PO.lst (acc.map ofPr) :: g ++ [PO.lst ((row s a).map ofPr)]).set h.length (.lst (acc.map ofPr ++ (row s a).map ofPr)) = h ++ .lst ((acc ++ row s a).map ofPr) :: (g ++ [.lst ((row s a).map ofPr)]) := by
      rw [List.map_append]
      have := setH_0 h (g ++ [PO.lst ((row s a).map ofPr)]) (.lst (acc.map ofPr)) (.lst (acc.map ofPr ++ (row s a).map ofPr))
      simpa using this
    obtain ⟨g', v2, v3, e⟩ := di_loop h hs todo (acc ++ row s a) (g ++ [.lst ((row s a).map ofPr)]) (some (.int a)) w3 (by rw [List.length_append]; omega)
    refine ⟨g', v2, v3, ?_⟩
    have turn : (noX (asg C (.name 2) (.int a) [some (.int s), some (.ref h.length), w2, w3] (h ++ .lst (acc.map ofPr) :: g))).bind (fun ρ h => evB C bDi ρ h) = .ok (.nx [some (.int s), some (.ref h.length), some (.int a), w3]) (h ++ .lst ((acc ++ row s a).map ofPr) :: (g ++ [.lst ((row s a).map ofPr)])) := by
      simp only [evS_asg, evS_ret, evS_exp, evS_par, evT_eq, ev_var, ev_con, ev_gcon, ev_bin, ev_neg, ev_not, ev_bi, ev_ix, ev_call, ev_cmp, evs_cons, evs_nil, ev_tup1, ev_tup2, ev_tup3, ev_lst0, ev_lst1, new_eq, look_0, look_s, opt_some, Res.bind_ok, noX_ok, asg_name, asg_tup, asgs_cons, asgs_nil, List.set_cons_succ, List.set_cons_zero, tru_bl, cmp_lt, cmp_le, cmp_gt, cmp_ge, cmp_eqI, cmp_neI, add_int, sub_int, neg_int, int_int, guardR_true]
      generalize hGe : h ++ PO.lst (acc.map ofPr) :: g = G at *
      have elc := di_lc K G hs a (some (.ref h.length)) w3
      have ex := ext_lst (up_app' hG [PO.lst ((row s a).map ofPr)]) (getH_0 G [] (.lst ((row s a).map ofPr))) (by simp; omega)
      rw [hset] at ex
      refine (evB_nx ?_).trans (evB_nil _ _ _)
      simp only [evS_asg, evS_ret, evS_exp, evS_par, evT_eq, ev_var, ev_con, ev_gcon, ev_bin, ev_neg, ev_not, ev_bi, ev_ix, ev_call, ev_cmp, evs_cons, evs_nil, ev_tup1, ev_tup2, ev_tup3, ev_lst0, ev_lst1, new_eq, look_0, look_s, opt_some, Res.bind_ok, noX_ok, asg_name, asg_tup, asgs_cons, asgs_nil, List.set_cons_succ, List.set_cons_zero, tru_bl, cmp_lt, cmp_le, cmp_gt, cmp_ge, cmp_eqI, cmp_neI, add_int, sub_int, neg_int, int_int, guardR_true, ev_mt, mtTy_extend hG, elc, ex]
    rw [List.map_cons]
    refine (forL_nx rfl turn).trans (e.trans ?_)
    rw [List.flatMap_cons, List.append_assoc]
theorem y_directions (h : PH) {s : Nat} (hs : s ≤ 100) : ∃ g, evB C b__law_directions [some (.int s), none, none, none] h = .ok (.rt (.ref h.length)) (h ++ .lst ((dirs s).map ofPr) :: g) := by
  have hm : (s + 1) * (2 * s + 1) ≤ 101 * 201 := Nat.mul_le_mul (by omega) (by omega)
  obtain ⟨g, v2, v3, e⟩ := di_loop K h hs (List.range (s + 1)) [] [] none none (by simp; omega)
  refine ⟨g, ?_⟩
  unfold b__law_directions
  rw [evB_nx (ρ' := [some (.int s), some (.ref h.length), none, none]) (h' := h ++ [.lst (([] : List Cell).map ofPr)]) (by simp only [evS_asg, evS_ret, evS_exp, evS_par, evT_eq, ev_var, ev_con, ev_gcon, ev_bin, ev_neg, ev_not, ev_bi, ev_ix, ev_call, ev_cmp, evs_cons, evs_nil, ev_tup1, ev_tup2, ev_tup3, ev_lst0, ev_lst1, new_eq, look_0, look_s, opt_some, Res.bind_ok, noX_ok, asg_name, asg_tup, asgs_cons, asgs_nil, List.set_cons_succ, List.set_cons_zero, tru_bl, cmp_lt, cmp_le, cmp_gt, cmp_ge, cmp_eqI, cmp_neI, add_int, sub_int, neg_int, int_int, guardR_true]; exact id rfl)]
  have it : evIt C (.rng (.cons (.bin .Add (.var 0) (.con (.int 1))) .nil)) [some (.int s), some (.ref h.length), none, none] (h ++ [.lst (([] : List Cell).map ofPr)]) = .ok ((List.range (s + 1)).map (fun (k : Nat) => .int (k : Int)), []) (h ++ [.lst (([] : List Cell).map ofPr)]) := by
    simp only [evS_asg, evS_ret, evS_exp, evS_par, evT_eq, ev_var, ev_con, ev_gcon, ev_bin, ev_neg, ev_not, ev_bi, ev_ix, ev_call, ev_cmp, evs_cons, evs_nil, ev_tup1, ev_tup2, ev_tup3, ev_lst0, ev_lst1, new_eq, look_0, look_s, opt_some, Res.bind_ok, noX_ok, asg_name, asg_tup, asgs_cons, asgs_nil, List.set_cons_succ, List.set_cons_zero, tru_bl, cmp_lt, cmp_le, cmp_gt, cmp_ge, cmp_eqI, cmp_neI, add_int, sub_int, neg_int, int_int, guardR_true, evIt_rng]
    exact congrArg noX (rng_nat (n := s + 1) (by omega) _)
  rw [evB_nx ((evS_fr_of it).trans e)]
  refine evB_rt ?_
  simp only [evS_asg, evS_ret, evS_exp, evS_par, evT_eq, ev_var, ev_con, ev_gcon, ev_bin, ev_neg, ev_not, ev_bi, ev_ix, ev_call, ev_cmp, evs_cons, evs_nil, ev_tup1, ev_tup2, ev_tup3, ev_lst0, ev_lst1, new_eq, look_0, look_s, opt_some, Res.bind_ok, noX_ok, asg_name, asg_tup, asgs_cons, asgs_nil, List.set_cons_succ, List.set_cons_zero, tru_bl, cmp_lt, cmp_le, cmp_gt, cmp_ge, cmp_eqI, cmp_neI, add_int, sub_int, neg_int, int_int, guardR_true]
  exact id rfl
end
theorem c_directions {k : Nat} (hk : 4 ≤ k) (h : PH) {s : Nat} (hs : s ≤ 100) : ∃ g, cN k i__law_directions [.int s] h = .ok (.ref h.length) (h ++ .lst ((dirs s).map ofPr) :: g) := by
  obtain ⟨k, rfl⟩ : ∃ j, k = j + 1 := ⟨k - 1, by omega⟩
  obtain ⟨g, e⟩ := y_directions (l1C (show 3 ≤ k by omega)) h hs
  refine ⟨g, ?_⟩
  rw [cN, call_of (d := f__law_directions) rfl rfl]
  show ends h (evB (Ck k) b__law_directions [some (.int s), none, none, none] h) = _
  rw [e]
  have e' : PV.lo h.length (.ref h.length) = false := decide_eq_false (by omega)
  simp only [ends_rt, trimH_app, e']
  exact id rfl
end K00

set_option Elab.async false
set_option linter.all false
set_option maxRecDepth 100000
/-! N00f: k00: _law_integer, _law_lot -/
namespace K00
open PySem PySem.Spec Pu
structure L2s (C : Cfg) : Prop extends L1 C where
  directions : ∀ (g : PH) (s : Nat), s ≤ 100 → ∃ g', C.call i__law_directions [.int s] g = .ok (.ref g.length) (g ++ .lst ((dirs s).map ofPr) :: g')
  refused : ∀ (g : PH), C.call i__law_refused [] g = .ok (.bl true) g
theorem l2C {k : Nat} (hk : 4 ≤ k) : L2s (Ck k) := { l1C (show 3 ≤ k by omega) with
  directions := fun g s hs => c_directions hk g hs
  refused := fun g => c_refused hk g }
theorem s4' : decide (0 + 1 + 1 + 1 + 1 ≤ sizeLine) = true := sz_dec (by omega)
theorem ix_mem {xs : List PV} {r : Int} (h0 : 0 ≤ r) (h1 : r < xs.length) (h : PH) : ∃ x ∈ xs, ixV (.tup xs) (.int r) h = .ok x h := by
  obtain ⟨r, rfl⟩ := Int.eq_ofNat_of_zero_le h0
  refine ⟨xs[r]'(by omega), List.getElem_mem _, ?_⟩
  rw [Pu.ix_tup, atI_of (j := r) rfl, List.getElem?_eq_getElem (show r < xs.length by omega), opt_some]
theorem Chn.trans {h h' h'' : PH} {i : Nat} (H : Chn h h' i) (K : Chn h' h'' i) : Chn h h'' i := ⟨K.len.trans H.len, fun a ha => (K.same a ha).trans (H.same a ha), K.ok⟩
theorem y_integer {C : Cfg} (K : L1 C) {h : PH} {i : Nat} (H : Ch h i) : ∃ x h', evB C b__law_integer [some (.ref i), none, none] h = .ok (.rt (.int x)) h' ∧ x.natAbs ≤ 1000000000 ∧ Chn h h' i := by
  obtain ⟨r, h1, e1, r0, r1, C1⟩ := K.take h i 4 H (by omega) (by omega)
  obtain ⟨x, hx, ex⟩ := ix_mem (xs := [.int 3, .int 9, .int 100, .int 1000000000]) r0 (by simpa using r1) h1
  have hs : ∃ s : Int, x = .int s ∧ 3 ≤ s ∧ s ≤ 1000000000 := by
    simp only [List.mem_cons, List.not_mem_nil, or_false] at hx
    rcases hx with rfl | rfl | rfl | rfl
    · exact ⟨3, rfl, by omega, by omega⟩
    · exact ⟨9, rfl, by omega, by omega⟩
    · exact ⟨100, rfl, by omega, by omega⟩
    · exact ⟨1000000000, rfl, by omega, by omega⟩
  obtain ⟨s, rfl, s0, s1⟩ := hs
  obtain ⟨n, h2, e2, n0, n1, C2⟩ := K.take h1 i (s + 1) C1.ok (by omega) (by omega)
  obtain ⟨q, h3, e3, q0, q1, C3⟩ := K.take h2 i 2 C2.ok (by omega) (by omega)
  have fin : evS C (.ret (.ite (.cmp .Eq (.call i__law_take (.cons (.var 0) (.cons (.con (.int 2)) .nil))) (.con (.int 0))) (.var 2) (.bin .Sub (.con (.int 0)) (.var 2)))) [some (.ref i), some (.int s), some (.int n)] h2 = .ok (.rt (.int (if q = 0 then n else 0 - n))) h3 := by
    simp only [evS_asg, evS_ret, evS_exp, evS_par, evT_eq, ev_var, ev_con, ev_gcon, ev_bin, ev_neg, ev_not, ev_bi, ev_ix, ev_call, ev_cmp, evs_cons, evs_nil, ev_tup1, ev_tup2, ev_tup3, ev_lst0, ev_lst1, new_eq, look_0, look_s, opt_some, Res.bind_ok, noX_ok, asg_name, asg_tup, asgs_cons, asgs_nil, List.set_cons_succ, List.set_cons_zero, tru_bl, cmp_lt, cmp_le, cmp_gt, cmp_ge, cmp_eqI, cmp_neI, add_int, sub_int, neg_int, int_int, guardR_true, ev_ite, e3]
    by_cases hq : q = 0
    · simp [hq]
    · simp [hq]
  refine ⟨if q = 0 then n else 0 - n, h3, ?_, ?_, C1.trans (C2.trans C3)⟩
  · unfold b__law_integer
    rw [evB_nx (ρ' := [some (.ref i), some (.int s), none]) (h' := h1) (by
      simp only [evS_asg, evS_ret, evS_exp, evS_par, evT_eq, ev_var, ev_con, ev_gcon, ev_bin, ev_neg, ev_not, ev_bi, ev_ix, ev_call, ev_cmp, evs_cons, evs_nil, ev_tup1, ev_tup2, ev_tup3, ev_lst0, ev_lst1, new_eq, look_0, look_s, opt_some, Res.bind_ok, noX_ok, asg_name, asg_tup, asgs_cons, asgs_nil, List.set_cons_succ, List.set_cons_zero, tru_bl, cmp_lt, cmp_le, cmp_gt, cmp_ge, cmp_eqI, cmp_neI, add_int, sub_int, neg_int, int_int, guardR_true, ev_tup, List.length_cons, List.length_nil, s4', pow9, e1, ex])]
    rw [evB_nx (ρ' := [some (.ref i), some (.int s), some (.int n)]) (h' := h2) (by simp only [evS_asg, evS_ret, evS_exp, evS_par, evT_eq, ev_var, ev_con, ev_gcon, ev_bin, ev_neg, ev_not, ev_bi, ev_ix, ev_call, ev_cmp, evs_cons, evs_nil, ev_tup1, ev_tup2, ev_tup3, ev_lst0, ev_lst1, new_eq, look_0, look_s, opt_some, Res.bind_ok, noX_ok, asg_name, asg_tup, asgs_cons, asgs_nil, List.set_cons_succ, List.set_cons_zero, tru_bl, cmp_lt, cmp_le, cmp_gt, cmp_ge, cmp_eqI, cmp_neI, add_int, sub_int, neg_int, int_int, guardR_true, e2])]
    exact evB_rt fin
  · split <;> omega
theorem c_integer {k : Nat} (hk : 4 ≤ k) {h : PH} {i : Nat} (H : Ch h i) : ∃ x h', cN k i__law_integer [.ref i] h = .ok (.int x) h' ∧ x.natAbs ≤ 1000000000 ∧ Chn h h' i := by
  obtain ⟨k, rfl⟩ : ∃ j, k = j + 1 := ⟨k - 1, by omega⟩
  obtain ⟨x, h', e, hb, K⟩ := y_integer (l1C (show 3 ≤ k by omega)) H
  refine ⟨x, h', ?_, hb, K⟩
  rw [cN, call_of (d := f__law_integer) rfl rfl]
  show ends h (evB (Ck k) b__law_integer [some (.ref i), none, none] h) = _
  rw [e]
  simp only [ends_rt, trimH_len K.len]
/-! _law_lot -/
theorem d4_ok : ∀ d ∈ dirs 4, Int.gcd d.1 d.2 = 1 ∧ (0 < d.1 ∨ (d.1 = 0 ∧ 0 < d.2)) ∧ 0 ≤ d.1 ∧ d.1 ≤ 4 ∧ -4 ≤ d.2 ∧ d.2 ≤ 4 := by decide +kernel
theorem d1_in : ∀ d ∈ dirs 1, d ∈ dirs 4 := by decide +kernel
theorem d2_in : ∀ d ∈ dirs 2, d ∈ dirs 4 := by decide +kernel
theorem dpm_in : ∀ d ∈ ([(1, 0), (0, 1)] : List Cell), d ∈ dirs 4 := by decide +kernel
theorem d_pos : (dirs 1).length = 4 ∧ (dirs 2).length = 8 ∧ (dirs 4).length = 24 := by decide +kernel
structure LotD (l : List Cell) : Prop where
  ne : l ≠ []
  len : l.length ≤ 4
  mem : ∀ d ∈ l, d ∈ dirs 4
theorem LotD.lot {l : List Cell} (H : LotD l) : Lot l := ⟨H.len, fun d hd => by
  have := d4_ok d (H.mem d hd)
  refine ⟨?_, this.2.2.1⟩
  rintro rfl
  simp at this⟩
theorem LotD.nrm {l : List Cell} (H : LotD l) {d : Cell} (hd : d ∈ l) : Nrm d := ⟨(d4_ok d (H.mem d hd)).1, (d4_ok d (H.mem d hd)).2.1⟩
abbrev bLo : Bk := .cons (.ite (.cmp .Gt (.bi .len (.cons (.var 3) .nil)) (.con (.int 0))) (.cons (.exp (.mt .append (.var 4) (.cons (.mt .pop (.var 3) (.cons (.call i__law_take (.cons (.var 0) (.cons (.bi .len (.cons (.var 3) .nil)) .nil))) .nil)) .nil))) .nil) .nil) .nil
theorem lo_loop {C : Cfg} (K : L1 C) {h0 : PH} {i L T : Nat} {w1 w2 : Option PV} (hL : h0.length ≤ L) (hT : h0.length ≤ T) (hLi : L ≠ i) (hTi : T ≠ i) (hLT : L ≠ T) : ∀ (todo : List PV) (left told : List Cell) (H : PH) (w5 : Option PV), Ext h0 H i → H[L]? = some (.lst (left.map ofPr)) → H[T]? = some (.lst (told.map ofPr)) →
    left.length ≤ 100 → told.length + todo.length ≤ 4 → (∀ d ∈ left, d ∈ dirs 4) → (∀ d ∈ told, d ∈ dirs 4) → (told ≠ [] ∨ (left ≠ [] ∧ todo ≠ [])) → ∃ (l : List Cell) (H' : PH) (v5 : Option PV),
    forL (fun x ρ h => (noX (asg C (.name 5) x ρ h)).bind fun ρ h => evB C bLo ρ h) [] todo [some (.ref i), w1, w2, some (.ref L), some (.ref T), w5] H = .ok (.nx [some (.ref i), w1, w2, some (.ref L), some (.ref T), v5]) H' ∧ Ext h0 H' i ∧ H'[T]? = some (.lst (l.map ofPr)) ∧ LotD l
  | [], left, told, H, w5, E, eL, eT, hl, ht, ml, mt, hn => by
    refine ⟨told, H, w5, forL_nil rfl, E, eT, ?_, by simpa using ht, mt⟩
    rcases hn with hn | ⟨_, hn⟩
    · exact hn
    · exact absurd rfl hn
  | x :: todo, left, told, H, w5, E, eL, eT, hl, ht, ml, mt, hn => by
    rw [List.length_cons] at ht
    have hll := len_lst eL
    rw [List.length_map] at hll
    have t : evT C (.cmp .Gt (.bi .len (.cons (.var 3) .nil)) (.con (.int 0))) [some (.ref i), w1, w2, some (.ref L), some (.ref T), some x] H = .ok (decide ((0 : Int) < left.length)) H := by
      simp only [evS_asg, evS_ret, evS_exp, evS_par, evT_eq, ev_var, ev_con, ev_gcon, ev_bin, ev_neg, ev_not, ev_bi, ev_ix, ev_call, ev_cmp, evs_cons, evs_nil, ev_tup1, ev_tup2, ev_tup3, ev_lst0, ev_lst1, new_eq, look_0, look_s, opt_some, Res.bind_ok, noX_ok, asg_name, asg_tup, asgs_cons, asgs_nil, List.set_cons_succ, List.set_cons_zero, tru_bl, cmp_lt, cmp_le, cmp_gt, cmp_ge, cmp_eqI, cmp_neI, add_int, sub_int, neg_int, int_int, guardR_true, hll]
    have a0 : noX (asg C (.name 5) x [some (.ref i), w1, w2, some (.ref L), some (.ref T), w5] H) = .ok [some (.ref i), w1, w2, some (.ref L), some (.ref T), some x] H := by simp only [evS_asg, evS_ret, evS_exp, evS_par, evT_eq, ev_var, ev_con, ev_gcon, ev_bin, ev_neg, ev_not, ev_bi, ev_ix, ev_call, ev_cmp, evs_cons, evs_nil, ev_tup1, ev_tup2, ev_tup3, ev_lst0, ev_lst1, new_eq, look_0, look_s, opt_some, Res.bind_ok, noX_ok, asg_name, asg_tup, asgs_cons, asgs_nil, List.set_cons_succ, List.set_cons_zero, tru_bl, cmp_lt, cmp_le, cmp_gt, cmp_ge, cmp_eqI, cmp_neI, add_int, sub_int, neg_int, int_int, guardR_true]
    by_cases hz : left = []
    · subst hz
      have hn' : told ≠ [] := by
        rcases hn with hn | ⟨hn, _⟩
        · exact hn
        · exact absurd rfl hn
      obtain ⟨l, H', v5, e, R⟩ := lo_loop K (h0 := h0) (w1 := w1) (w2 := w2) hL hT hLi hTi hLT todo [] told H (some x) E eL eT hl (by omega) ml mt (.inl hn')
      refine ⟨l, H', v5, ?_, R⟩
      refine (forL_nx rfl ?_).trans e
      rw [a0, Res.bind_ok]
      refine (evB_nx ?_).trans (evB_nil _ _ _)
      rw [evS_ite_f t, evB_nil]
    · have hp : 0 < left.length := List.length_pos_iff.mpr hz
      obtain ⟨r, H1, e1, r0, r1, C1⟩ := K.take H i left.length E.ok (by omega) (by omega)
      obtain ⟨r, rfl⟩ := Int.eq_ofNat_of_zero_le r0
      have hr : r < left.length := by omega
      have eL1 : H1[L]? = some (.lst (left.map ofPr)) := by rw [C1.same L hLi]; exact eL
      have eT1 : H1[T]? = some (.lst (told.map ofPr)) := by rw [C1.same T hTi]; exact eT
      have p1 := pop_ix (k := r) eL1 (by simpa using hr) (by simp; omega)
      rw [List.getElem_map] at p1
      have es : (left.map ofPr).eraseIdx r = (left.eraseIdx r).map ofPr := by
        rw [List.eraseIdx_eq_take_drop_succ, List.eraseIdx_eq_take_drop_succ, List.map_append, List.map_take, List.map_drop]
      rw [es] at p1
      have E1 : Ext h0 H1 i := E.trans (Ext.of C1)
      have eT2 : (H1.set L (.lst ((left.eraseIdx r).map ofPr)))[T]? = some (.lst (told.map ofPr)) := by rw [getset_ne (Ne.symm hLT)]; exact eT1
      have ap := append_lst eT2 (by simp; omega) (ofPr left[r])
      have em : told.map ofPr ++ [ofPr left[r]] = (told ++ [left[r]]).map ofPr := by simp
      rw [em] at ap
      have E2 : Ext h0 (H1.set L (.lst ((left.eraseIdx r).map ofPr))) i := E1.set hL hLi _
      have E3 : Ext h0 ((H1.set L (.lst ((left.eraseIdx r).map ofPr))).set T (.lst ((told ++ [left[r]]).map ofPr))) i := E2.set hT hTi _
      obtain ⟨l, H', v5, e, R⟩ := lo_loop K (h0 := h0) (w1 := w1) (w2 := w2) hL hT hLi hTi hLT todo (left.eraseIdx r) (told ++ [left[r]]) _ (some x) E3 (by rw [getset_ne hLT]; exact getset_eq eL1) (getset_eq eT2) (by
          have := List.length_eraseIdx_le left r
          omega) (by simp; omega) (fun d hd => ml d (List.mem_of_mem_eraseIdx hd)) (fun d hd => by
          rcases List.mem_append.mp hd with q | q
          · exact mt d q
          · rw [List.mem_singleton] at q
            rw [q]
            exact ml _ (List.getElem_mem _)) (.inl (by simp))
      refine ⟨l, H', v5, ?_, R⟩
      refine (forL_nx rfl ?_).trans e
      rw [a0, Res.bind_ok]
      refine (evB_nx ?_).trans (evB_nil _ _ _)
      rw [decide_eq_true (show (0 : Int) < left.length by omega)] at t
      rw [evS_ite_t t]
      refine (evB_nx ?_).trans (evB_nil _ _ _)
      simp only [evS_asg, evS_ret, evS_exp, evS_par, evT_eq, ev_var, ev_con, ev_gcon, ev_bin, ev_neg, ev_not, ev_bi, ev_ix, ev_call, ev_cmp, evs_cons, evs_nil, ev_tup1, ev_tup2, ev_tup3, ev_lst0, ev_lst1, new_eq, look_0, look_s, opt_some, Res.bind_ok, noX_ok, asg_name, asg_tup, asgs_cons, asgs_nil, List.set_cons_succ, List.set_cons_zero, tru_bl, cmp_lt, cmp_le, cmp_gt, cmp_ge, cmp_eqI, cmp_neI, add_int, sub_int, neg_int, int_int, guardR_true, ev_mt, mtTy_append eT, mtTy_pop eL, hll, e1, p1, ap]
theorem tuple_at {h : PH} {n : Nat} {xs : List PV} (e : h[n]? = some (.lst xs)) : biV .tuple [.ref n] h = .ok (.tup xs) h := by
  simp only [biV, lstOf, e, opt_some, Res.bind_ok]
theorem y_lot {C : Cfg} (K : L2s C) {h : PH} {i : Nat} (H : Ch h i) : ∃ l h', evB C b__law_lot [some (.ref i), some (.int 4), none, none, none, none] h = .ok (.rt (pCells l)) h' ∧ Ext h h' i ∧ LotD l := by
  obtain ⟨r, h1, e1, r0, r1, C1⟩ := K.take h i 4 H (by omega) (by omega)
  obtain ⟨x, hx, ex⟩ := ix_mem (xs := [.int 1, .int 2, .int 4, .int 4]) r0 (by simpa using r1) h1
  have hs : ∃ s : Nat, x = .int s ∧ s ≤ 4 ∧ 0 < (dirs s).length ∧ (dirs s).length ≤ 24 ∧ ∀ d ∈ dirs s, d ∈ dirs 4 := by
    obtain ⟨p1, p2, p4⟩ := d_pos
    simp only [List.mem_cons, List.not_mem_nil, or_false] at hx
    rcases hx with rfl | rfl | rfl | rfl
    · exact ⟨1, rfl, by omega, by omega, by omega, d1_in⟩
    · exact ⟨2, rfl, by omega, by omega, by omega, d2_in⟩
    · exact ⟨4, rfl, by omega, by omega, by omega, fun d hd => hd⟩
    · exact ⟨4, rfl, by omega, by omega, by omega, fun d hd => hd⟩
  obtain ⟨s, rfl, s1, s2, s3, s4⟩ := hs
  obtain ⟨g, e2⟩ := K.directions h1 s (by omega)
  have E1 : Ext h h1 i := Ext.of C1
  have E2 : Ext h (h1 ++ .lst ((dirs s).map ofPr) :: g) i := E1.trans (Ext.app C1.ok _)
  obtain ⟨q, h3, e3, q0, q1, C3⟩ := K.take (h1 ++ .lst ((dirs s).map ofPr) :: g) i 5 E2.ok (by omega) (by omega)
  have hi := H.lt
  have hi1 : i < h1.length := C1.ok.lt
  have E3 : Ext h h3 i := E2.trans (Ext.of C3)
  -- what is left to be drawn from
  have st3 : ∃ (L : Nat) (H4 : PH) (left : List Cell), evS C (.ite (.cmp .Eq (.call i__law_take (.cons (.var 0) (.cons (.con (.int 5)) .nil))) (.con (.int 0))) (.cons (.asg (.name 3) (.lst (.cons (.tup (.cons (.con (.int 1)) (.cons (.con (.int 0)) .nil))) (.cons (.tup (.cons (.con (.int 0)) (.cons (.con (.int 1)) .nil))) .nil)))) .nil) .nil) [some (.ref i), some (.int 4), some (.int s), some (.ref h1.length), none, none] (h1 ++ .lst ((dirs s).map ofPr) :: g) = .ok (.nx [some (.ref i), some (.int 4), some (.int s), some (.ref L), none, none]) H4 ∧ Ext h H4 i ∧ h.length ≤ L ∧ L < H4.length ∧ L ≠ i ∧ H4[L]? = some (.lst (left.map ofPr)) ∧ left ≠ [] ∧ left.length ≤ 100 ∧ ∀ d ∈ left, d ∈ dirs 4 := by
    by_cases hq : q = 0
    · refine ⟨h3.length, h3 ++ [.lst ([(1, 0), (0, 1)].map ofPr)], [(1, 0), (0, 1)], ?_, E3.trans (Ext.app C3.ok _), E3.len, by simp, by have := E3.ok.lt; omega, getH_0 _ _ _, by simp, by simp, dpm_in⟩
      rw [evS_ite_t (h' := h3) (by
        simp only [evS_asg, evS_ret, evS_exp, evS_par, evT_eq, ev_var, ev_con, ev_gcon, ev_bin, ev_neg, ev_not, ev_bi, ev_ix, ev_call, ev_cmp, evs_cons, evs_nil, ev_tup1, ev_tup2, ev_tup3, ev_lst0, ev_lst1, new_eq, look_0, look_s, opt_some, Res.bind_ok, noX_ok, asg_name, asg_tup, asgs_cons, asgs_nil, List.set_cons_succ, List.set_cons_zero, tru_bl, cmp_lt, cmp_le, cmp_gt, cmp_ge, cmp_eqI, cmp_neI, add_int, sub_int, neg_int, int_int, guardR_true, e3]
        simp [hq])]
      refine (evB_nx ?_).trans (evB_nil _ _ _)
      simp only [evS_asg, evS_ret, evS_exp, evS_par, evT_eq, ev_var, ev_con, ev_gcon, ev_bin, ev_neg, ev_not, ev_bi, ev_ix, ev_call, ev_cmp, evs_cons, evs_nil, ev_tup1, ev_tup2, ev_tup3, ev_lst0, ev_lst1, new_eq, look_0, look_s, opt_some, Res.bind_ok, noX_ok, asg_name, asg_tup, asgs_cons, asgs_nil, List.set_cons_succ, List.set_cons_zero, tru_bl, cmp_lt, cmp_le, cmp_gt, cmp_ge, cmp_eqI, cmp_neI, add_int, sub_int, neg_int, int_int, guardR_true, ev_lst, List.length_cons, List.length_nil, s2']
      exact id rfl
    · refine ⟨h1.length, h3, dirs s, ?_, E3, by rw [C1.len]; omega, by rw [C3.len]; simp, by omega, ?_, List.length_pos_iff.mp s2, by omega, s4⟩
      · rw [evS_ite_f (h' := h3) (by
          simp only [evS_asg, evS_ret, evS_exp, evS_par, evT_eq, ev_var, ev_con, ev_gcon, ev_bin, ev_neg, ev_not, ev_bi, ev_ix, ev_call, ev_cmp, evs_cons, evs_nil, ev_tup1, ev_tup2, ev_tup3, ev_lst0, ev_lst1, new_eq, look_0, look_s, opt_some, Res.bind_ok, noX_ok, asg_name, asg_tup, asgs_cons, asgs_nil, List.set_cons_succ, List.set_cons_zero, tru_bl, cmp_lt, cmp_le, cmp_gt, cmp_ge, cmp_eqI, cmp_neI, add_int, sub_int, neg_int, int_int, guardR_true, e3]
          simp [hq]), evB_nil]
      · rw [C3.same _ (by omega)]
        exact getH_0 _ _ _
  obtain ⟨L, H4, left, es3, E4, hL, hL2, hLi, eL, ln, ll, lm⟩ := st3
  have E5 : Ext h (H4 ++ [.lst (([] : List Cell).map ofPr)]) i := E4.trans (Ext.app E4.ok _)
  obtain ⟨n, H6, e6, n0, n1, C6⟩ := K.take (H4 ++ [.lst (([] : List Cell).map ofPr)]) i 4 E5.ok (by omega) (by omega)
  have E6 : Ext h H6 i := E5.trans (Ext.of C6)
  have hT := E4.len
  have hiT := E4.ok.lt
  obtain ⟨n, rfl⟩ := Int.eq_ofNat_of_zero_le n0
  obtain ⟨l, H', v5, e7, E7, eT, D⟩ := lo_loop K.toL1 (w1 := some (.int 4)) (w2 := some (.int s)) (T := H4.length) hL hT hLi (by omega) (by omega) ((List.range (n + 1)).map fun (k : Nat) => .int (k : Int)) left [] H6 none E6
    (by rw [C6.same L hLi]; exact up_app' eL _) (by rw [C6.same H4.length (by omega)]; exact getH_0 _ _ _) ll (by simp; omega) lm (by simp) (.inr ⟨ln, by simp⟩)
  refine ⟨l, H', ?_, E7, D⟩
  unfold b__law_lot
  rw [evB_nx (ρ' := [some (.ref i), some (.int 4), some (.int s), none, none, none]) (h' := h1) (by
    simp only [evS_asg, evS_ret, evS_exp, evS_par, evT_eq, ev_var, ev_con, ev_gcon, ev_bin, ev_neg, ev_not, ev_bi, ev_ix, ev_call, ev_cmp, evs_cons, evs_nil, ev_tup1, ev_tup2, ev_tup3, ev_lst0, ev_lst1, new_eq, look_0, look_s, opt_some, Res.bind_ok, noX_ok, asg_name, asg_tup, asgs_cons, asgs_nil, List.set_cons_succ, List.set_cons_zero, tru_bl, cmp_lt, cmp_le, cmp_gt, cmp_ge, cmp_eqI, cmp_neI, add_int, sub_int, neg_int, int_int, guardR_true, ev_tup, List.length_cons, List.length_nil, s4', e1, ex])]
  rw [evB_nx (ρ' := [some (.ref i), some (.int 4), some (.int s), some (.ref h1.length), none, none]) (h' := h1 ++ .lst ((dirs s).map ofPr) :: g) (by simp only [evS_asg, evS_ret, evS_exp, evS_par, evT_eq, ev_var, ev_con, ev_gcon, ev_bin, ev_neg, ev_not, ev_bi, ev_ix, ev_call, ev_cmp, evs_cons, evs_nil, ev_tup1, ev_tup2, ev_tup3, ev_lst0, ev_lst1, new_eq, look_0, look_s, opt_some, Res.bind_ok, noX_ok, asg_name, asg_tup, asgs_cons, asgs_nil, List.set_cons_succ, List.set_cons_zero, tru_bl, cmp_lt, cmp_le, cmp_gt, cmp_ge, cmp_eqI, cmp_neI, add_int, sub_int, neg_int, int_int, guardR_true, e2])]
  rw [evB_nx es3]
  rw [evB_nx (ρ' := [some (.ref i), some (.int 4), some (.int s), some (.ref L), some (.ref H4.length), none]) (h' := H4 ++ [.lst (([] : List Cell).map ofPr)]) (by simp only [evS_asg, evS_ret, evS_exp, evS_par, evT_eq, ev_var, ev_con, ev_gcon, ev_bin, ev_neg, ev_not, ev_bi, ev_ix, ev_call, ev_cmp, evs_cons, evs_nil, ev_tup1, ev_tup2, ev_tup3, ev_lst0, ev_lst1, new_eq, look_0, look_s, opt_some, Res.bind_ok, noX_ok, asg_name, asg_tup, asgs_cons, asgs_nil, List.set_cons_succ, List.set_cons_zero, tru_bl, cmp_lt, cmp_le, cmp_gt, cmp_ge, cmp_eqI, cmp_neI, add_int, sub_int, neg_int, int_int, guardR_true]; exact id rfl)]
  have it : evIt C (.rng (.cons (.bin .Add (.con (.int 1)) (.call i__law_take (.cons (.var 0) (.cons (.var 1) .nil)))) .nil)) [some (.ref i), some (.int 4), some (.int s), some (.ref L), some (.ref H4.length), none] (H4 ++ [.lst (([] : List Cell).map ofPr)]) = .ok ((List.range (n + 1)).map (fun (k : Nat) => .int (k : Int)), []) H6 := by
    simp only [evS_asg, evS_ret, evS_exp, evS_par, evT_eq, ev_var, ev_con, ev_gcon, ev_bin, ev_neg, ev_not, ev_bi, ev_ix, ev_call, ev_cmp, evs_cons, evs_nil, ev_tup1, ev_tup2, ev_tup3, ev_lst0, ev_lst1, new_eq, look_0, look_s, opt_some, Res.bind_ok, noX_ok, asg_name, asg_tup, asgs_cons, asgs_nil, List.set_cons_succ, List.set_cons_zero, tru_bl, cmp_lt, cmp_le, cmp_gt, cmp_ge, cmp_eqI, cmp_neI, add_int, sub_int, neg_int, int_int, guardR_true, evIt_rng, e6]
    have := rng_nat (n := n + 1) (by omega) H6
    rw [show ((n + 1 : Nat) : Int) = 1 + n by omega] at this
    rw [this, noX_ok]
  rw [evB_nx ((evS_fr_of it).trans e7)]
  refine evB_rt ?_
  simp only [evS_asg, evS_ret, evS_exp, evS_par, evT_eq, ev_var, ev_con, ev_gcon, ev_bin, ev_neg, ev_not, ev_bi, ev_ix, ev_call, ev_cmp, evs_cons, evs_nil, ev_tup1, ev_tup2, ev_tup3, ev_lst0, ev_lst1, new_eq, look_0, look_s, opt_some, Res.bind_ok, noX_ok, asg_name, asg_tup, asgs_cons, asgs_nil, List.set_cons_succ, List.set_cons_zero, tru_bl, cmp_lt, cmp_le, cmp_gt, cmp_ge, cmp_eqI, cmp_neI, add_int, sub_int, neg_int, int_int, guardR_true, tuple_at eT]
  exact id rfl
theorem c_lot {k : Nat} (hk : 5 ≤ k) {h : PH} {i : Nat} (H : Ch h i) : ∃ l h', cN k i__law_lot [.ref i, .int 4] h = .ok (pCells l) h' ∧ Ext h h' i ∧ LotD l := by
  obtain ⟨k, rfl⟩ : ∃ j, k = j + 1 := ⟨k - 1, by omega⟩
  obtain ⟨l, h', e, E, D⟩ := y_lot (l2C (show 4 ≤ k by omega)) H
  refine ⟨l, _, ?_, E.trim H.lt (PV.lo h.length (pCells l)), D⟩
  rw [cN, call_of (d := f__law_lot) rfl rfl]
  show ends h (evB (Ck k) b__law_lot [some (.ref i), some (.int 4), none, none, none, none] h) = _
  rw [e]
  simp only [ends_rt]
end K00

set_option Elab.async false
set_option linter.all false
set_option maxRecDepth 100000
/-! N00g: k00: _law_made -/
namespace K00
open PySem PySem.Spec Pu
structure L3 (C : Cfg) : Prop extends L2s C where
  integer : ∀ (h : PH) (i : Nat), Ch h i → ∃ x h', C.call i__law_integer [.ref i] h = .ok (.int x) h' ∧ x.natAbs ≤ 1000000000 ∧ Chn h h' i
theorem l3C {k : Nat} (hk : 5 ≤ k) : L3 (Ck k) := { l2C (show 4 ≤ k by omega) with
  integer := fun h i H => c_integer (by omega) H }
theorem fine_pr (c : Cell) : fine (ofPr c) = true := by simp [fine, ofPr, PV.flat, PV.flats, PV.dep, PV.deps]
theorem ne_pr (c d : Cell) (h : PH) : cmpop .NotEq (ofPr c) (ofPr d) h = .ok (.bl (!decide (c = d))) h := by
  have e : cmpop .NotEq (ofPr c) (ofPr d) h = (notR (guardR (fine (ofPr c) && fine (ofPr d)) (.ok ((c.1 == d.1) && ((c.2 == d.2) && true)) h))).map .bl := id rfl
  rw [e, fine_pr, fine_pr]
  have q : ((c.1 == d.1) && ((c.2 == d.2) && true)) = decide (c = d) := by
    rw [Bool.eq_iff_iff]
    simp [Prod.ext_iff]
  rw [q]
  exact id rfl
theorem iok_pr (c : Cell) : ∃ k, Iok k (ofPr c) := ⟨1, .inr ⟨_, rfl, fun x hx => by
  simp only [List.mem_cons, List.not_mem_nil, or_false] at hx
  rcases hx with rfl | rfl
  · exact ⟨_, rfl⟩
  · exact ⟨_, rfl⟩⟩⟩
theorem iok_prs (l : List Cell) : ∃ k, Iok k (pCells l) := ⟨2, .inr ⟨_, rfl, fun x hx => by
  obtain ⟨c, _, rfl⟩ := List.mem_map.mp hx
  refine .inr ⟨_, rfl, fun x hx => ?_⟩
  simp only [List.mem_cons, List.not_mem_nil, or_false] at hx
  rcases hx with rfl | rfl
  · exact ⟨_, rfl⟩
  · exact ⟨_, rfl⟩⟩⟩
theorem sz_pr (c : Cell) : szV (ofPr c) = 3 := by simp [szV, szL, ofPr]
theorem sz_prs (l : List Cell) : szV (pCells l) = 3 * l.length + 1 := by
  have : ∀ l : List Cell, szL (l.map ofPr) = 3 * l.length := by
    intro l
    induction l with
    | nil => rfl
    | cons c l ih =>
      show szV (ofPr c) + szL (l.map ofPr) = _
      rw [ih, sz_pr, List.length_cons]
      omega
  show szL (l.map ofPr) + 1 = _
  rw [this]
section
variable {C : Cfg}
abbrev sM1 : Sm := .par 5 6 (.call i__law_integer (.cons (.var 0) .nil)) (.call i__law_integer (.cons (.var 0) .nil))
abbrev sM2 : Sm := .ite (.cmp .Eq (.var 1) (.con (.int 0))) (.cons (.asg (.name 5) (.con (.int 0))) .nil) .nil
abbrev sM3 : Sm := .ite (.cmp .Eq (.var 1) (.con (.int 1))) (.cons (.asg (.name 6) (.con (.int 0))) .nil) .nil
abbrev sM4 : Sm := .ite (.cmp .Eq (.var 1) (.con (.int 2))) (.cons (.asg (.name 3) (.bin .Add (.con (.int 1)) (.call i__law_take (.cons (.var 0) (.cons (.con (.int 1000)) .nil))))) (.cons (.par 5 6 (.bin .Mult (.var 5) (.var 3)) (.bin .Mult (.var 6) (.var 3))) .nil)) .nil
abbrev sM5 : Sm := .ite (.and (.cons (.cmp .NotEq (.tup (.cons (.var 5) (.cons (.var 6) .nil))) (.tup (.cons (.con (.int 0)) (.cons (.con (.int 0)) .nil)))) (.cons (.not (.call i__law_same (.cons (.call i_make_direction (.cons (.var 5) (.cons (.var 6) .nil))) (.cons (.call i__law_direction (.cons (.var 5) (.cons (.var 6) .nil))) .nil)))) .nil))) (.cons (.ret (.con (.bl false))) .nil) .nil
theorem m2 {A w2 w3 w4 : Option PV} {t a b : Int} (H : PH) : evS C sM2 [A, some (.int t), w2, w3, w4, some (.int a), some (.int b)] H = .ok (.nx [A, some (.int t), w2, w3, w4, some (.int (if t = 0 then 0 else a)), some (.int b)]) H := by
  by_cases k : t = 0
  · rw [evS_ite_t (h' := H) (by simp only [evS_asg, evS_ret, evS_exp, evS_par, evT_eq, ev_var, ev_con, ev_gcon, ev_bin, ev_neg, ev_not, ev_bi, ev_ix, ev_call, ev_cmp, evs_cons, evs_nil, ev_tup1, ev_tup2, ev_tup3, ev_lst0, ev_lst1, new_eq, look_0, look_s, opt_some, Res.bind_ok, noX_ok, asg_name, asg_tup, asgs_cons, asgs_nil, List.set_cons_succ, List.set_cons_zero, tru_bl, cmp_lt, cmp_le, cmp_gt, cmp_ge, cmp_eqI, cmp_neI, add_int, sub_int, neg_int, int_int, guardR_true]; simp [k]), if_pos k]
    refine (evB_nx ?_).trans (evB_nil _ _ _)
    simp only [evS_asg, evS_ret, evS_exp, evS_par, evT_eq, ev_var, ev_con, ev_gcon, ev_bin, ev_neg, ev_not, ev_bi, ev_ix, ev_call, ev_cmp, evs_cons, evs_nil, ev_tup1, ev_tup2, ev_tup3, ev_lst0, ev_lst1, new_eq, look_0, look_s, opt_some, Res.bind_ok, noX_ok, asg_name, asg_tup, asgs_cons, asgs_nil, List.set_cons_succ, List.set_cons_zero, tru_bl, cmp_lt, cmp_le, cmp_gt, cmp_ge, cmp_eqI, cmp_neI, add_int, sub_int, neg_int, int_int, guardR_true]
  · rw [evS_ite_f (h' := H) (by simp only [evS_asg, evS_ret, evS_exp, evS_par, evT_eq, ev_var, ev_con, ev_gcon, ev_bin, ev_neg, ev_not, ev_bi, ev_ix, ev_call, ev_cmp, evs_cons, evs_nil, ev_tup1, ev_tup2, ev_tup3, ev_lst0, ev_lst1, new_eq, look_0, look_s, opt_some, Res.bind_ok, noX_ok, asg_name, asg_tup, asgs_cons, asgs_nil, List.set_cons_succ, List.set_cons_zero, tru_bl, cmp_lt, cmp_le, cmp_gt, cmp_ge, cmp_eqI, cmp_neI, add_int, sub_int, neg_int, int_int, guardR_true]; simp [k]), evB_nil, if_neg k]
theorem m3 {A w2 w3 w4 : Option PV} {t a b : Int} (H : PH) : evS C sM3 [A, some (.int t), w2, w3, w4, some (.int a), some (.int b)] H = .ok (.nx [A, some (.int t), w2, w3, w4, some (.int a), some (.int (if t = 1 then 0 else b))]) H := by
  by_cases k : t = 1
  · rw [evS_ite_t (h' := H) (by simp only [evS_asg, evS_ret, evS_exp, evS_par, evT_eq, ev_var, ev_con, ev_gcon, ev_bin, ev_neg, ev_not, ev_bi, ev_ix, ev_call, ev_cmp, evs_cons, evs_nil, ev_tup1, ev_tup2, ev_tup3, ev_lst0, ev_lst1, new_eq, look_0, look_s, opt_some, Res.bind_ok, noX_ok, asg_name, asg_tup, asgs_cons, asgs_nil, List.set_cons_succ, List.set_cons_zero, tru_bl, cmp_lt, cmp_le, cmp_gt, cmp_ge, cmp_eqI, cmp_neI, add_int, sub_int, neg_int, int_int, guardR_true]; simp [k]), if_pos k]
    refine (evB_nx ?_).trans (evB_nil _ _ _)
    simp only [evS_asg, evS_ret, evS_exp, evS_par, evT_eq, ev_var, ev_con, ev_gcon, ev_bin, ev_neg, ev_not, ev_bi, ev_ix, ev_call, ev_cmp, evs_cons, evs_nil, ev_tup1, ev_tup2, ev_tup3, ev_lst0, ev_lst1, new_eq, look_0, look_s, opt_some, Res.bind_ok, noX_ok, asg_name, asg_tup, asgs_cons, asgs_nil, List.set_cons_succ, List.set_cons_zero, tru_bl, cmp_lt, cmp_le, cmp_gt, cmp_ge, cmp_eqI, cmp_neI, add_int, sub_int, neg_int, int_int, guardR_true]
  · rw [evS_ite_f (h' := H) (by simp only [evS_asg, evS_ret, evS_exp, evS_par, evT_eq, ev_var, ev_con, ev_gcon, ev_bin, ev_neg, ev_not, ev_bi, ev_ix, ev_call, ev_cmp, evs_cons, evs_nil, ev_tup1, ev_tup2, ev_tup3, ev_lst0, ev_lst1, new_eq, look_0, look_s, opt_some, Res.bind_ok, noX_ok, asg_name, asg_tup, asgs_cons, asgs_nil, List.set_cons_succ, List.set_cons_zero, tru_bl, cmp_lt, cmp_le, cmp_gt, cmp_ge, cmp_eqI, cmp_neI, add_int, sub_int, neg_int, int_int, guardR_true]; simp [k]), evB_nil, if_neg k]
theorem mul_bd {a t : Int} (ha : a.natAbs ≤ 1000000000) (h0 : 1 ≤ t) (h1 : t ≤ 1000) : (a * t).natAbs ≤ 1000000000000 := by
  rw [Int.natAbs_mul]
  have := Nat.mul_le_mul ha (show t.natAbs ≤ 1000 by omega)
  omega
theorem m4 (K : L1 C) {i : Nat} {w2 w3 w4 : Option PV} {t a b : Int} {H : PH} (hC : Ch H i) (ha : a.natAbs ≤ 1000000000) (hb : b.natAbs ≤ 1000000000) : ∃ (v3 : Option PV) (a' b' : Int) (H' : PH), evS C sM4 [some (.ref i), some (.int t), w2, w3, w4, some (.int a), some (.int b)] H = .ok (.nx [some (.ref i), some (.int t), w2, v3, w4, some (.int a'), some (.int b')]) H' ∧ a'.natAbs ≤ 1000000000000 ∧ b'.natAbs ≤ 1000000000000 ∧ Ext H H' i := by
  by_cases k : t = 2
  · obtain ⟨r, H1, e1, r0, r1, C1⟩ := K.take H i 1000 hC (by omega) (by omega)
    refine ⟨some (.int (1 + r)), a * (1 + r), b * (1 + r), H1, ?_, mul_bd ha (by omega) (by omega), mul_bd hb (by omega) (by omega), Ext.of C1⟩
    rw [evS_ite_t (h' := H) (by simp only [evS_asg, evS_ret, evS_exp, evS_par, evT_eq, ev_var, ev_con, ev_gcon, ev_bin, ev_neg, ev_not, ev_bi, ev_ix, ev_call, ev_cmp, evs_cons, evs_nil, ev_tup1, ev_tup2, ev_tup3, ev_lst0, ev_lst1, new_eq, look_0, look_s, opt_some, Res.bind_ok, noX_ok, asg_name, asg_tup, asgs_cons, asgs_nil, List.set_cons_succ, List.set_cons_zero, tru_bl, cmp_lt, cmp_le, cmp_gt, cmp_ge, cmp_eqI, cmp_neI, add_int, sub_int, neg_int, int_int, guardR_true]; simp [k])]
    rw [evB_nx (ρ' := [some (.ref i), some (.int t), w2, some (.int (1 + r)), w4, some (.int a), some (.int b)]) (h' := H1) (by simp only [evS_asg, evS_ret, evS_exp, evS_par, evT_eq, ev_var, ev_con, ev_gcon, ev_bin, ev_neg, ev_not, ev_bi, ev_ix, ev_call, ev_cmp, evs_cons, evs_nil, ev_tup1, ev_tup2, ev_tup3, ev_lst0, ev_lst1, new_eq, look_0, look_s, opt_some, Res.bind_ok, noX_ok, asg_name, asg_tup, asgs_cons, asgs_nil, List.set_cons_succ, List.set_cons_zero, tru_bl, cmp_lt, cmp_le, cmp_gt, cmp_ge, cmp_eqI, cmp_neI, add_int, sub_int, neg_int, int_int, guardR_true, e1])]
    refine (evB_nx ?_).trans (evB_nil _ _ _)
    have k1 : mulOk a (1 + r) = true := mulOk_s (sm_le (by omega) (by omega)) (sm_le (by omega) (by omega))
    have k2 : mulOk b (1 + r) = true := mulOk_s (sm_le (by omega) (by omega)) (sm_le (by omega) (by omega))
    simp only [evS_asg, evS_ret, evS_exp, evS_par, evT_eq, ev_var, ev_con, ev_gcon, ev_bin, ev_neg, ev_not, ev_bi, ev_ix, ev_call, ev_cmp, evs_cons, evs_nil, ev_tup1, ev_tup2, ev_tup3, ev_lst0, ev_lst1, new_eq, look_0, look_s, opt_some, Res.bind_ok, noX_ok, asg_name, asg_tup, asgs_cons, asgs_nil, List.set_cons_succ, List.set_cons_zero, tru_bl, cmp_lt, cmp_le, cmp_gt, cmp_ge, cmp_eqI, cmp_neI, add_int, sub_int, neg_int, int_int, guardR_true, mul_int k1, mul_int k2]
  · refine ⟨w3, a, b, H, ?_, by omega, by omega, Ext.rfl' hC⟩
    rw [evS_ite_f (h' := H) (by simp only [evS_asg, evS_ret, evS_exp, evS_par, evT_eq, ev_var, ev_con, ev_gcon, ev_bin, ev_neg, ev_not, ev_bi, ev_ix, ev_call, ev_cmp, evs_cons, evs_nil, ev_tup1, ev_tup2, ev_tup3, ev_lst0, ev_lst1, new_eq, look_0, look_s, opt_some, Res.bind_ok, noX_ok, asg_name, asg_tup, asgs_cons, asgs_nil, List.set_cons_succ, List.set_cons_zero, tru_bl, cmp_lt, cmp_le, cmp_gt, cmp_ge, cmp_eqI, cmp_neI, add_int, sub_int, neg_int, int_int, guardR_true]; simp [k]), evB_nil]
theorem m5 (K : L1 C) {A w1 w2 w3 w4 : Option PV} {a b : Int} {H : PH} (ha : a.natAbs ≤ 1000000000000) (hb : b.natAbs ≤ 1000000000000) : evS C sM5 [A, w1, w2, w3, w4, some (.int a), some (.int b)] H = .ok (.nx [A, w1, w2, w3, w4, some (.int a), some (.int b)]) H := by
  have ne := ne_pr (a, b) (0, 0) H
  by_cases k : (a, b) = ((0, 0) : Cell)
  · rw [decide_eq_true k] at ne
    have ne' : cmpop .NotEq (.tup [.int a, .int b]) (.tup [.int 0, .int 0]) H = .ok (.bl (!true)) H := ne
    rw [evS_ite_f (h' := H) (by
      simp only [evS_asg, evS_ret, evS_exp, evS_par, evT_eq, ev_var, ev_con, ev_gcon, ev_bin, ev_neg, ev_not, ev_bi, ev_ix, ev_call, ev_cmp, evs_cons, evs_nil, ev_tup1, ev_tup2, ev_tup3, ev_lst0, ev_lst1, new_eq, look_0, look_s, opt_some, Res.bind_ok, noX_ok, asg_name, asg_tup, asgs_cons, asgs_nil, List.set_cons_succ, List.set_cons_zero, tru_bl, cmp_lt, cmp_le, cmp_gt, cmp_ge, cmp_eqI, cmp_neI, add_int, sub_int, neg_int, int_int, guardR_true, ev_and2, ne']
      exact id rfl), evB_nil]
  · rw [decide_eq_false k] at ne
    have ne' : cmpop .NotEq (.tup [.int a, .int b]) (.tup [.int 0, .int 0]) H = .ok (.bl (!false)) H := ne
    have hz : a ≠ 0 ∨ b ≠ 0 := by
      by_cases q : a = 0
      · exact .inr fun q2 => k (Prod.ext q q2)
      · exact .inl q
    have hp : (1000000000000 : Nat) < 2 ^ 60 := by decide
    have e1 := K.make H a b hz (by omega) (by omega)
    have e2 := K.dir H a b hz (by omega) (by omega)
    have e3 := K.same H (ofPr (mkD a b)) (iok_pr _) (by rw [sz_pr]; omega)
    rw [evS_ite_f (h' := H) (by
      simp only [evS_asg, evS_ret, evS_exp, evS_par, evT_eq, ev_var, ev_con, ev_gcon, ev_bin, ev_neg, ev_not, ev_bi, ev_ix, ev_call, ev_cmp, evs_cons, evs_nil, ev_tup1, ev_tup2, ev_tup3, ev_lst0, ev_lst1, new_eq, look_0, look_s, opt_some, Res.bind_ok, noX_ok, asg_name, asg_tup, asgs_cons, asgs_nil, List.set_cons_succ, List.set_cons_zero, tru_bl, cmp_lt, cmp_le, cmp_gt, cmp_ge, cmp_eqI, cmp_neI, add_int, sub_int, neg_int, int_int, guardR_true, ev_and2, ev_and1, ne', Bool.not_false, if_true, e1, e2, e3]
      exact id rfl), evB_nil]
abbrev bMa : Bk := .cons sM1 (.cons sM2 (.cons sM3 (.cons sM4 (.cons sM5 .nil))))
theorem ma_loop (K : L3 C) {h : PH} {i : Nat} {w2 w4 : Option PV} : ∀ (todo : List Nat) (H : PH) (w1 w3 w5 w6 : Option PV), Ext h H i → ∃ (H' : PH) (v1 v3 v5 v6 : Option PV),
    forL (fun x ρ h => (noX (asg C (.name 1) x ρ h)).bind fun ρ h => evB C bMa ρ h) [] (todo.map fun (k : Nat) => .int (k : Int)) [some (.ref i), w1, w2, w3, w4, w5, w6] H = .ok (.nx [some (.ref i), v1, w2, v3, w4, v5, v6]) H' ∧ Ext h H' i
  | [], H, w1, w3, w5, w6, E => ⟨H, w1, w3, w5, w6, forL_nil rfl, E⟩
  | t :: todo, H, w1, w3, w5, w6, E => by
    obtain ⟨a, H1, e1, ha, C1⟩ := K.integer H i E.ok
    obtain ⟨b, H2, e2, hb, C2⟩ := K.integer H1 i C1.ok
    have s1 : evS C sM1 [some (.ref i), some (.int t), w2, w3, w4, w5, w6] H = .ok (.nx [some (.ref i), some (.int t), w2, w3, w4, some (.int a), some (.int b)]) H2 := by
      simp only [evS_asg, evS_ret, evS_exp, evS_par, evT_eq, ev_var, ev_con, ev_gcon, ev_bin, ev_neg, ev_not, ev_bi, ev_ix, ev_call, ev_cmp, evs_cons, evs_nil, ev_tup1, ev_tup2, ev_tup3, ev_lst0, ev_lst1, new_eq, look_0, look_s, opt_some, Res.bind_ok, noX_ok, asg_name, asg_tup, asgs_cons, asgs_nil, List.set_cons_succ, List.set_cons_zero, tru_bl, cmp_lt, cmp_le, cmp_gt, cmp_ge, cmp_eqI, cmp_neI, add_int, sub_int, neg_int, int_int, guardR_true, e1, e2]
    obtain ⟨v3, a', b', H3, e3, ha', hb', E3⟩ := m4 K.toL1 (i := i) (w2 := w2) (w3 := w3) (w4 := w4) (t := t) (a := if (t : Int) = 0 then 0 else a) (b := if (t : Int) = 1 then 0 else b) C2.ok (by split <;> omega) (by split <;> omega)
    have e5 := m5 K.toL1 (A := some (.ref i)) (w1 := some (.int t)) (w2 := w2) (w3 := v3) (w4 := w4) (H := H3) ha' hb'
    obtain ⟨H', u1, u3, u5, u6, e, E'⟩ := ma_loop K (h := h) (w2 := w2) (w4 := w4) todo H3 (some (.int t)) v3 (some (.int a')) (some (.int b')) ((E.trans (Ext.of (C1.trans C2))).trans E3)
    refine ⟨H', u1, u3, u5, u6, ?_, E'⟩
    have turn : (noX (asg C (.name 1) (.int t) [some (.ref i), w1, w2, w3, w4, w5, w6] H)).bind (fun ρ h => evB C bMa ρ h) = .ok (.nx [some (.ref i), some (.int t), w2, v3, w4, some (.int a'), some (.int b')]) H3 := by
      have a0 : noX (asg C (.name 1) (.int t) [some (.ref i), w1, w2, w3, w4, w5, w6] H) = .ok [some (.ref i), some (.int t), w2, w3, w4, w5, w6] H := by simp only [evS_asg, evS_ret, evS_exp, evS_par, evT_eq, ev_var, ev_con, ev_gcon, ev_bin, ev_neg, ev_not, ev_bi, ev_ix, ev_call, ev_cmp, evs_cons, evs_nil, ev_tup1, ev_tup2, ev_tup3, ev_lst0, ev_lst1, new_eq, look_0, look_s, opt_some, Res.bind_ok, noX_ok, asg_name, asg_tup, asgs_cons, asgs_nil, List.set_cons_succ, List.set_cons_zero, tru_bl, cmp_lt, cmp_le, cmp_gt, cmp_ge, cmp_eqI, cmp_neI, add_int, sub_int, neg_int, int_int, guardR_true]
      rw [a0, Res.bind_ok, evB_nx s1, evB_nx (m2 H2), evB_nx (m3 H2), evB_nx e3, evB_nx e5, evB_nil]
    rw [List.map_cons]
    exact (forL_nx rfl turn).trans e
/-- a direction drawn out of all up to 4 -/
theorem draw4 (K : L2s C) {H : PH} {i : Nat} {ρ : Pu.Env} (hC : Ch H i) : ∃ d ∈ dirs 4, ∃ H', ev C (.tr (.call i__law_of (.cons (.var 0) (.cons (.call i__law_directions (.cons (.con (.int 4)) .nil)) .nil)))) (some (.ref i) :: ρ) H = .ok (ofPr d) H' ∧ Ext H H' i := by
  obtain ⟨g, e1⟩ := K.directions H 4 (by omega)
  have e1' : C.call i__law_directions [.int 4] H = .ok (.ref H.length) (H ++ .lst ((dirs 4).map ofPr) :: g) := e1
  have E1 := Ext.app hC (.lst ((dirs 4).map ofPr) :: g)
  have hl := d_pos.2.2
  obtain ⟨x, hx, H2, e2, C2⟩ := K.ofL _ i H.length ((dirs 4).map ofPr) E1.ok (getH_0 _ _ _) (by have := hC.lt; omega) (by rw [List.length_map]; omega) (by rw [List.length_map]; omega)
  obtain ⟨d, hd, rfl⟩ := List.mem_map.mp hx
  refine ⟨d, hd, _, ?_, (E1.trans (Ext.of C2)).trim hC.lt true⟩
  simp only [evS_asg, evS_ret, evS_exp, evS_par, evT_eq, ev_var, ev_con, ev_gcon, ev_bin, ev_neg, ev_not, ev_bi, ev_ix, ev_call, ev_cmp, evs_cons, evs_nil, ev_tup1, ev_tup2, ev_tup3, ev_lst0, ev_lst1, new_eq, look_0, look_s, opt_some, Res.bind_ok, noX_ok, asg_name, asg_tup, asgs_cons, asgs_nil, List.set_cons_succ, List.set_cons_zero, tru_bl, cmp_lt, cmp_le, cmp_gt, cmp_ge, cmp_eqI, cmp_neI, add_int, sub_int, neg_int, int_int, guardR_true, ev_tr, e1', e2, lo_pr]
theorem y_made (K : L3 C) {h : PH} {i : Nat} (hC : Ch h i) : ∃ H', evB C b__law_made [some (.ref i), none, none, none, none, none, none] h = .ok (.rt (.bl true)) H' ∧ Ext h H' i := by
  obtain ⟨H1, v1, v3, v5, v6, e1, E1⟩ := ma_loop K (w2 := none) (w4 := none) (List.range 6) h none none none none (Ext.rfl' hC)
  obtain ⟨d, hd, H2, e2, E2⟩ := draw4 K.toL2s (ρ := [v1, none, v3, none, v5, v6]) E1.ok
  obtain ⟨r, H3, e3, r0, r1, C3⟩ := K.take H2 i 1000000 E2.ok (by omega) (by omega)
  obtain ⟨k1, k2, k3, k4, k5, k6⟩ := d4_ok d hd
  have q1 : mulOk d.1 (1 + r) = true := mulOk_s (sm_le (by omega) (by omega)) (sm_le (by omega) (by omega))
  have q2 : mulOk d.2 (1 + r) = true := mulOk_s (sm_le (by omega) (by omega)) (sm_le (by omega) (by omega))
  have b1 : (d.1 * (1 + r)).natAbs ≤ 4000000 := by
    rw [Int.natAbs_mul]
    have := Nat.mul_le_mul (show d.1.natAbs ≤ 4 by omega) (show (1 + r).natAbs ≤ 1000000 by omega)
    omega
  have b2 : (d.2 * (1 + r)).natAbs ≤ 4000000 := by
    rw [Int.natAbs_mul]
    have := Nat.mul_le_mul (show d.2.natAbs ≤ 4 by omega) (show (1 + r).natAbs ≤ 1000000 by omega)
    omega
  have hz : d.1 * (1 + r) ≠ 0 ∨ d.2 * (1 + r) ≠ 0 := by
    rcases k2 with k2 | ⟨_, k2⟩
    · left
      have := Int.mul_pos k2 (show 0 < 1 + r by omega)
      omega
    · right
      have := Int.mul_pos k2 (show 0 < 1 + r by omega)
      omega
  have hp : (4000000 : Nat) < 2 ^ 60 := by decide
  have n1 := K.make H3 _ _ hz (by omega) (by omega)
  have n2 := K.make H3 (0 - d.1 * (1 + r)) (0 - d.2 * (1 + r)) (by omega) (by omega) (by omega)
  have z1 : mkD (d.1 * (1 + r)) (d.2 * (1 + r)) = d := mkD_scale ⟨k1, k2⟩ (by omega)
  have z2 : mkD (0 - d.1 * (1 + r)) (0 - d.2 * (1 + r)) = d := by
    have := mkD_scale (d := d) ⟨k1, k2⟩ (t := -(1 + r)) (by omega)
    rw [Int.mul_neg, Int.mul_neg] at this
    rw [Int.zero_sub, Int.zero_sub]
    exact this
  rw [z1] at n1
  rw [z2] at n2
  have sm := K.same H3 (pCells [d, d]) (iok_prs _) (by rw [sz_prs]; simp)
  have d0 : ixV (ofPr d) (.int 0) H3 = .ok (.int d.1) H3 := id rfl
  have d1 : ixV (ofPr d) (.int 1) H3 = .ok (.int d.2) H3 := by
    unfold ofPr
    rw [Pu.ix_tup, atI_1, opt_some]
  refine ⟨H3, ?_, E1.trans (E2.trans (Ext.of C3))⟩
  have it : evIt C (.rng (.cons (.con (.int 6)) .nil)) [some (.ref i), none, none, none, none, none, none] h = .ok ((List.range 6).map (fun (k : Nat) => .int (k : Int)), []) h := by
    simp only [evS_asg, evS_ret, evS_exp, evS_par, evT_eq, ev_var, ev_con, ev_gcon, ev_bin, ev_neg, ev_not, ev_bi, ev_ix, ev_call, ev_cmp, evs_cons, evs_nil, ev_tup1, ev_tup2, ev_tup3, ev_lst0, ev_lst1, new_eq, look_0, look_s, opt_some, Res.bind_ok, noX_ok, asg_name, asg_tup, asgs_cons, asgs_nil, List.set_cons_succ, List.set_cons_zero, tru_bl, cmp_lt, cmp_le, cmp_gt, cmp_ge, cmp_eqI, cmp_neI, add_int, sub_int, neg_int, int_int, guardR_true, evIt_rng]
    exact congrArg noX (rng_nat (n := 6) (by omega) h)
  unfold b__law_made
  rw [evB_nx ((evS_fr_of it).trans e1)]
  rw [evB_nx (ρ' := [some (.ref i), v1, some (ofPr d), v3, none, v5, v6]) (h' := H2) (by
    rw [evS_asg, e2]
    simp only [evS_asg, evS_ret, evS_exp, evS_par, evT_eq, ev_var, ev_con, ev_gcon, ev_bin, ev_neg, ev_not, ev_bi, ev_ix, ev_call, ev_cmp, evs_cons, evs_nil, ev_tup1, ev_tup2, ev_tup3, ev_lst0, ev_lst1, new_eq, look_0, look_s, opt_some, Res.bind_ok, noX_ok, asg_name, asg_tup, asgs_cons, asgs_nil, List.set_cons_succ, List.set_cons_zero, tru_bl, cmp_lt, cmp_le, cmp_gt, cmp_ge, cmp_eqI, cmp_neI, add_int, sub_int, neg_int, int_int, guardR_true])]
  rw [evB_nx (ρ' := [some (.ref i), v1, some (ofPr d), some (.int (1 + r)), none, v5, v6]) (h' := H3) (by simp only [evS_asg, evS_ret, evS_exp, evS_par, evT_eq, ev_var, ev_con, ev_gcon, ev_bin, ev_neg, ev_not, ev_bi, ev_ix, ev_call, ev_cmp, evs_cons, evs_nil, ev_tup1, ev_tup2, ev_tup3, ev_lst0, ev_lst1, new_eq, look_0, look_s, opt_some, Res.bind_ok, noX_ok, asg_name, asg_tup, asgs_cons, asgs_nil, List.set_cons_succ, List.set_cons_zero, tru_bl, cmp_lt, cmp_le, cmp_gt, cmp_ge, cmp_eqI, cmp_neI, add_int, sub_int, neg_int, int_int, guardR_true, pow6, e3])]
  rw [evB_nx (ρ' := [some (.ref i), v1, some (ofPr d), some (.int (1 + r)), some (pCells [d, d]), v5, v6]) (h' := H3) (by
    have pm : ([0, 1].mapM fun i => ([] ++ [PV.int (0 - d.1 * (1 + r)), PV.int (0 - d.2 * (1 + r))])[i]?) = some [PV.int (0 - d.1 * (1 + r)), PV.int (0 - d.2 * (1 + r))] := by simp
    simp only [evS_asg, evS_ret, evS_exp, evS_par, evT_eq, ev_var, ev_con, ev_gcon, ev_bin, ev_neg, ev_not, ev_bi, ev_ix, ev_call, ev_cmp, evs_cons, evs_nil, ev_tup1, ev_tup2, ev_tup3, ev_lst0, ev_lst1, new_eq, look_0, look_s, opt_some, Res.bind_ok, noX_ok, asg_name, asg_tup, asgs_cons, asgs_nil, List.set_cons_succ, List.set_cons_zero, tru_bl, cmp_lt, cmp_le, cmp_gt, cmp_ge, cmp_eqI, cmp_neI, add_int, sub_int, neg_int, int_int, guardR_true, ev_callk, d0, d1, mul_int q1, mul_int q2, n1, pm, n2]
    exact id rfl)]
  refine evB_rt ?_
  have sm' : C.call i__law_same [pCells [d, d], .tup [ofPr d, ofPr d]] H3 = .ok (.bl true) H3 := sm
  simp only [evS_asg, evS_ret, evS_exp, evS_par, evT_eq, ev_var, ev_con, ev_gcon, ev_bin, ev_neg, ev_not, ev_bi, ev_ix, ev_call, ev_cmp, evs_cons, evs_nil, ev_tup1, ev_tup2, ev_tup3, ev_lst0, ev_lst1, new_eq, look_0, look_s, opt_some, Res.bind_ok, noX_ok, asg_name, asg_tup, asgs_cons, asgs_nil, List.set_cons_succ, List.set_cons_zero, tru_bl, cmp_lt, cmp_le, cmp_gt, cmp_ge, cmp_eqI, cmp_neI, add_int, sub_int, neg_int, int_int, guardR_true, ev_and2, ev_and1, sm', if_true, ev_call0, K.refused]
end
theorem c_made {k : Nat} (hk : 6 ≤ k) {h : PH} {i : Nat} (H : Ch h i) : ∃ h', cN k i__law_made [.ref i] h = .ok (.bl true) h' ∧ Ext h h' i := by
  obtain ⟨k, rfl⟩ : ∃ j, k = j + 1 := ⟨k - 1, by omega⟩
  obtain ⟨h', e, E⟩ := y_made (l3C (show 5 ≤ k by omega)) H
  refine ⟨_, ?_, E.trim H.lt true⟩
  rw [cN, call_of (d := f__law_made) rfl rfl]
  show ends h (evB (Ck k) b__law_made [some (.ref i), none, none, none, none, none, none] h) = _
  rw [e]
  simp only [ends_rt, lo_bl]
end K00

set_option Elab.async false
set_option linter.all false
set_option maxRecDepth 100000
/-! N00h: k00: turn_of, comes_ahead, slope_order and the law's own -/
namespace K00
open PySem PySem.Spec Pu
def turn (d e : Cell) : Int := d.1 * e.2 - d.2 * e.1
def Sml (d : Cell) : Prop := d.1.natAbs ≤ 1000000 ∧ d.2.natAbs ≤ 1000000
theorem sml4 {d : Cell} (h : d ∈ dirs 4) : Sml d := by
  have := d4_ok d h
  unfold Sml
  omega
theorem Sml.m {d e : Cell} (h : Sml d) (k : Sml e) : mulOk d.1 e.2 = true ∧ mulOk d.2 e.1 = true := by
  unfold Sml at h k
  exact ⟨mulOk_s (sm_le (by omega) (by omega)) (sm_le (by omega) (by omega)), mulOk_s (sm_le (by omega) (by omega)) (sm_le (by omega) (by omega))⟩
theorem pr_0 (d : Cell) (h : PH) : ixV (ofPr d) (.int 0) h = .ok (.int d.1) h := id rfl
theorem pr_1 (d : Cell) (h : PH) : ixV (ofPr d) (.int 1) h = .ok (.int d.2) h := by
  unfold ofPr
  rw [Pu.ix_tup, atI_1, opt_some]
theorem y_turn (C : Cfg) (h : PH) {d e : Cell} (hd : Sml d) (he : Sml e) : evB C b_turn_of [some (ofPr d), some (ofPr e)] h = .ok (.rt (.int (turn d e))) h := by
  obtain ⟨k1, k2⟩ := hd.m he
  unfold b_turn_of
  refine evB_rt ?_
  simp only [evS_asg, evS_ret, evS_exp, evS_par, evT_eq, ev_var, ev_con, ev_gcon, ev_bin, ev_neg, ev_not, ev_bi, ev_ix, ev_call, ev_cmp, evs_cons, evs_nil, ev_tup1, ev_tup2, ev_tup3, ev_lst0, ev_lst1, new_eq, look_0, look_s, opt_some, Res.bind_ok, noX_ok, asg_name, asg_tup, asgs_cons, asgs_nil, List.set_cons_succ, List.set_cons_zero, tru_bl, cmp_lt, cmp_le, cmp_gt, cmp_ge, cmp_eqI, cmp_neI, add_int, sub_int, neg_int, int_int, guardR_true, pr_0, pr_1, mul_int k1, mul_int k2]
  exact id rfl
theorem c_turn {k : Nat} (hk : 1 ≤ k) (h : PH) {d e : Cell} (hd : Sml d) (he : Sml e) : cN k i_turn_of [ofPr d, ofPr e] h = .ok (.int (turn d e)) h := by
  obtain ⟨k, rfl⟩ : ∃ j, k = j + 1 := ⟨k - 1, by omega⟩
  rw [cN, call_of (d := f_turn_of) rfl rfl]
  show ends h (evB (Ck k) b_turn_of [some (ofPr d), some (ofPr e)] h) = _
  rw [y_turn (Ck k) h hd he]
  simp only [ends_rt, trimH_same]
def ahP (d e : Cell) : Bool := if (decide (d.2 < 0) == decide (e.2 < 0)) = true then decide (0 < turn d e) else decide (e.2 < 0)
theorem ne_bl (a b : Bool) (h : PH) : cmpop .NotEq (.bl a) (.bl b) h = .ok (.bl (!(a == b))) h := by
  cases a <;> cases b <;> exact id rfl
theorem y_comes {C : Cfg} (h : PH) {d e : Cell} (ht : C.call i_turn_of [ofPr d, ofPr e] h = .ok (.int (turn d e)) h) : evB C b_comes_ahead [some (ofPr d), some (ofPr e), none, none] h = .ok (.rt (.bl (ahP d e))) h := by
  unfold b_comes_ahead
  rw [evB_nx (ρ' := [some (ofPr d), some (ofPr e), some (.bl (decide (d.2 < 0))), some (.bl (decide (e.2 < 0)))]) (h' := h) (by simp only [evS_asg, evS_ret, evS_exp, evS_par, evT_eq, ev_var, ev_con, ev_gcon, ev_bin, ev_neg, ev_not, ev_bi, ev_ix, ev_call, ev_cmp, evs_cons, evs_nil, ev_tup1, ev_tup2, ev_tup3, ev_lst0, ev_lst1, new_eq, look_0, look_s, opt_some, Res.bind_ok, noX_ok, asg_name, asg_tup, asgs_cons, asgs_nil, List.set_cons_succ, List.set_cons_zero, tru_bl, cmp_lt, cmp_le, cmp_gt, cmp_ge, cmp_eqI, cmp_neI, add_int, sub_int, neg_int, int_int, guardR_true, pr_1])]
  unfold ahP
  cases hb : (decide (d.2 < 0) == decide (e.2 < 0)) with
  | true =>
    rw [evB_nx (ρ' := [some (ofPr d), some (ofPr e), some (.bl (decide (d.2 < 0))), some (.bl (decide (e.2 < 0)))]) (h' := h) (by rw [evS_ite_f (h' := h) (by simp only [evS_asg, evS_ret, evS_exp, evS_par, evT_eq, ev_var, ev_con, ev_gcon, ev_bin, ev_neg, ev_not, ev_bi, ev_ix, ev_call, ev_cmp, evs_cons, evs_nil, ev_tup1, ev_tup2, ev_tup3, ev_lst0, ev_lst1, new_eq, look_0, look_s, opt_some, Res.bind_ok, noX_ok, asg_name, asg_tup, asgs_cons, asgs_nil, List.set_cons_succ, List.set_cons_zero, tru_bl, cmp_lt, cmp_le, cmp_gt, cmp_ge, cmp_eqI, cmp_neI, add_int, sub_int, neg_int, int_int, guardR_true, ne_bl, hb]; exact id rfl), evB_nil])]
    refine evB_rt ?_
    simp only [evS_asg, evS_ret, evS_exp, evS_par, evT_eq, ev_var, ev_con, ev_gcon, ev_bin, ev_neg, ev_not, ev_bi, ev_ix, ev_call, ev_cmp, evs_cons, evs_nil, ev_tup1, ev_tup2, ev_tup3, ev_lst0, ev_lst1, new_eq, look_0, look_s, opt_some, Res.bind_ok, noX_ok, asg_name, asg_tup, asgs_cons, asgs_nil, List.set_cons_succ, List.set_cons_zero, tru_bl, cmp_lt, cmp_le, cmp_gt, cmp_ge, cmp_eqI, cmp_neI, add_int, sub_int, neg_int, int_int, guardR_true, ht]
    exact id rfl
  | false =>
    refine evB_rt ?_
    rw [evS_ite_t (h' := h) (by simp only [evS_asg, evS_ret, evS_exp, evS_par, evT_eq, ev_var, ev_con, ev_gcon, ev_bin, ev_neg, ev_not, ev_bi, ev_ix, ev_call, ev_cmp, evs_cons, evs_nil, ev_tup1, ev_tup2, ev_tup3, ev_lst0, ev_lst1, new_eq, look_0, look_s, opt_some, Res.bind_ok, noX_ok, asg_name, asg_tup, asgs_cons, asgs_nil, List.set_cons_succ, List.set_cons_zero, tru_bl, cmp_lt, cmp_le, cmp_gt, cmp_ge, cmp_eqI, cmp_neI, add_int, sub_int, neg_int, int_int, guardR_true, ne_bl, hb]; exact id rfl)]
    refine evB_rt ?_
    simp only [evS_asg, evS_ret, evS_exp, evS_par, evT_eq, ev_var, ev_con, ev_gcon, ev_bin, ev_neg, ev_not, ev_bi, ev_ix, ev_call, ev_cmp, evs_cons, evs_nil, ev_tup1, ev_tup2, ev_tup3, ev_lst0, ev_lst1, new_eq, look_0, look_s, opt_some, Res.bind_ok, noX_ok, asg_name, asg_tup, asgs_cons, asgs_nil, List.set_cons_succ, List.set_cons_zero, tru_bl, cmp_lt, cmp_le, cmp_gt, cmp_ge, cmp_eqI, cmp_neI, add_int, sub_int, neg_int, int_int, guardR_true]
    exact id rfl
theorem c_comes {k : Nat} (hk : 2 ≤ k) (h : PH) {d e : Cell} (hd : Sml d) (he : Sml e) : cN k i_comes_ahead [ofPr d, ofPr e] h = .ok (.bl (ahP d e)) h := by
  obtain ⟨k, rfl⟩ : ∃ j, k = j + 1 := ⟨k - 1, by omega⟩
  rw [cN, call_of (d := f_comes_ahead) rfl rfl]
  show ends h (evB (Ck k) b_comes_ahead [some (ofPr d), some (ofPr e), none, none] h) = _
  rw [y_comes (C := Ck k) h (c_turn (by omega) h hd he)]
  simp only [ends_rt, trimH_same]
/-! slope_order -/
def insAt (n : Nat) (d : Cell) (f : List Cell) : List Cell := f.take n ++ [d] ++ f.drop n
def insP (f : List Cell) (d : Cell) : List Cell := insAt (f.takeWhile fun e => ahP e d).length d f
theorem insAt_len {n : Nat} {d : Cell} {f : List Cell} (h : n ≤ f.length) : (insAt n d f).length = f.length + 1 := by
  unfold insAt
  simp
  omega
theorem mtTy_insert {h : PH} {n : Nat} {xs : List PV} (e : h[n]? = some (.lst xs)) : mtTy .insert (.ref n) h = true := by simp only [mtTy, e]
theorem insert_lst {h : PH} {n : Nat} {f : List Cell} (e : h[n]? = some (.lst (f.map ofPr))) (hl : f.length ≤ 1000) {j : Nat} (hj : j ≤ f.length) (d : Cell) : mtV .insert (.ref n) [.int j, ofPr d] h = .ok .non (h.set n (.lst ((insAt j d f).map ofPr))) := by
  simp only [mtV, e]
  rw [decide_eq_true (show (f.map ofPr).length < sizeLine ∧ 0 ≤ (j : Int) ∧ (j : Int) < 2 ^ 63 by rw [List.length_map, sizeLine_eq]; omega), guardR_true]
  unfold insAt
  rw [Int.toNat_natCast, List.map_append, List.map_append, List.map_take, List.map_drop]
  rfl
abbrev cSo : Ex := .and (.cons (.cmp .Lt (.var 3) (.bi .len (.cons (.var 1) .nil))) (.cons (.call i_comes_ahead (.cons (.ix (.var 1) (.var 3)) (.cons (.var 2) .nil))) .nil))
abbrev bSw : Bk := .cons (.aug 3 .Add (.con (.int 1))) .nil
theorem wh_so {C : Cfg} {H : PH} {F : Nat} {A : Option PV} {d : Cell} (hc : ∀ e, e ∈ dirs 4 → C.call i_comes_ahead [ofPr e, ofPr d] H = .ok (.bl (ahP e d)) H) : ∀ (post pre : List Cell) (fuel : Nat), post.length < fuel → H[F]? = some (.lst ((pre ++ post).map ofPr)) → (∀ e ∈ post, e ∈ dirs 4) →
    whL (evT C cSo) (evB C bSw) fuel [A, some (.ref F), some (ofPr d), some (.int (pre.length : Nat))] H = .ok (.nx [A, some (.ref F), some (ofPr d), some (.int ((pre.length + (post.takeWhile fun e => ahP e d).length : Nat)))]) H
  | [], pre, fuel, hf, eF, hm => by
    obtain ⟨f, rfl⟩ : ∃ f, fuel = f + 1 := ⟨fuel - 1, by omega⟩
    have hl := len_lst eF
    rw [List.length_map] at hl
    rw [whL_f (h1 := H) (by
      simp only [evS_asg, evS_ret, evS_exp, evS_par, evT_eq, ev_var, ev_con, ev_gcon, ev_bin, ev_neg, ev_not, ev_bi, ev_ix, ev_call, ev_cmp, evs_cons, evs_nil, ev_tup1, ev_tup2, ev_tup3, ev_lst0, ev_lst1, new_eq, look_0, look_s, opt_some, Res.bind_ok, noX_ok, asg_name, asg_tup, asgs_cons, asgs_nil, List.set_cons_succ, List.set_cons_zero, tru_bl, cmp_lt, cmp_le, cmp_gt, cmp_ge, cmp_eqI, cmp_neI, add_int, sub_int, neg_int, int_int, guardR_true, ev_and2, hl]
      rw [decide_eq_false (by simp)]
      exact id rfl)]
    rfl
  | e :: post, pre, fuel, hf, eF, hm => by
    rw [List.length_cons] at hf
    obtain ⟨f, rfl⟩ : ∃ f, fuel = f + 1 := ⟨fuel - 1, by omega⟩
    have hl := len_lst eF
    rw [List.length_map] at hl
    have ix : ixV (.ref F) (.int (pre.length : Nat)) H = .ok (ofPr e) H := by
      rw [ix_lst eF, atI_of (j := pre.length) rfl]
      simp
    have lt : decide (((pre.length : Nat) : Int) < ((pre ++ e :: post).length : Nat)) = true := decide_eq_true (by simp; omega)
    have t : evT C cSo [A, some (.ref F), some (ofPr d), some (.int (pre.length : Nat))] H = .ok (ahP e d) H := by
      simp only [evS_asg, evS_ret, evS_exp, evS_par, evT_eq, ev_var, ev_con, ev_gcon, ev_bin, ev_neg, ev_not, ev_bi, ev_ix, ev_call, ev_cmp, evs_cons, evs_nil, ev_tup1, ev_tup2, ev_tup3, ev_lst0, ev_lst1, new_eq, look_0, look_s, opt_some, Res.bind_ok, noX_ok, asg_name, asg_tup, asgs_cons, asgs_nil, List.set_cons_succ, List.set_cons_zero, tru_bl, cmp_lt, cmp_le, cmp_gt, cmp_ge, cmp_eqI, cmp_neI, add_int, sub_int, neg_int, int_int, guardR_true, ev_and2, ev_and1, hl, lt, if_true, ix, hc e (hm e List.mem_cons_self)]
    cases ha : ahP e d with
    | false =>
      rw [ha] at t
      rw [whL_f t, List.takeWhile_cons, ha, if_neg (by decide)]
      rfl
    | true =>
      rw [ha] at t
      have b : evB C bSw [A, some (.ref F), some (ofPr d), some (.int (pre.length : Nat))] H = .ok (.nx [A, some (.ref F), some (ofPr d), some (.int ((pre ++ [e]).length : Nat))]) H := by
        refine (evB_nx ?_).trans (evB_nil _ _ _)
        have io : iop .Add (.int (pre.length : Nat)) (.int 1) H = .ok (.int ((pre.length : Nat) + 1)) H := id rfl
        simp only [evS_asg, evS_ret, evS_exp, evS_par, evT_eq, ev_var, ev_con, ev_gcon, ev_bin, ev_neg, ev_not, ev_bi, ev_ix, ev_call, ev_cmp, evs_cons, evs_nil, ev_tup1, ev_tup2, ev_tup3, ev_lst0, ev_lst1, new_eq, look_0, look_s, opt_some, Res.bind_ok, noX_ok, asg_name, asg_tup, asgs_cons, asgs_nil, List.set_cons_succ, List.set_cons_zero, tru_bl, cmp_lt, cmp_le, cmp_gt, cmp_ge, cmp_eqI, cmp_neI, add_int, sub_int, neg_int, int_int, guardR_true, evS_aug, io]
        simp
      have r := wh_so (A := A) hc post (pre ++ [e]) f (by omega) (by rw [eF]; simp) fun x hx => hm x (List.mem_cons_of_mem _ hx)
      rw [whL_t t b, r, List.takeWhile_cons, ha, if_pos rfl, List.length_cons, List.length_append, List.length_singleton, Nat.add_assoc, Nat.add_comm 1]
theorem tw_le (p : Cell → Bool) : ∀ f : List Cell, (f.takeWhile p).length ≤ f.length
  | [] => Nat.le_refl _
  | x :: f => by
    rw [List.takeWhile_cons]
    split
    · have := tw_le p f
      simp only [List.length_cons]
      omega
    · simp
abbrev bSl : Bk := .cons (.asg (.name 3) (.con (.int 0))) (.cons (.wh cSo bSw) (.cons (.exp (.mt .insert (.var 1) (.cons (.var 3) (.cons (.var 2) .nil)))) .nil))
theorem insAt_mem {n : Nat} {d : Cell} {f : List Cell} (hf : ∀ e ∈ f, e ∈ dirs 4) (hd : d ∈ dirs 4) : ∀ e ∈ insAt n d f, e ∈ dirs 4 := fun e he => by
  unfold insAt at he
  simp only [List.mem_append, List.mem_singleton] at he
  rcases he with (he | rfl) | he
  · exact hf e (List.mem_of_mem_take he)
  · exact hd
  · exact hf e (List.mem_of_mem_drop he)
theorem so2_loop {C : Cfg} (hfu : 1000 ≤ C.fuel) (hc : ∀ e d H, e ∈ dirs 4 → d ∈ dirs 4 → C.call i_comes_ahead [ofPr e, ofPr d] H = .ok (.bl (ahP e d)) H) (h : PH) {A : Option PV} : ∀ (todo f : List Cell) (w2 w3 : Option PV), (∀ d ∈ todo, d ∈ dirs 4) → (∀ d ∈ f, d ∈ dirs 4) → f.length + todo.length ≤ 10 → ∃ v2 v3 : Option PV,
    forL (fun x ρ h => (noX (asg C (.name 2) x ρ h)).bind fun ρ h => evB C bSl ρ h) [] (todo.map ofPr) [A, some (.ref h.length), w2, w3] (h ++ [.lst (f.map ofPr)]) = .ok (.nx [A, some (.ref h.length), v2, v3]) (h ++ [.lst ((todo.foldl insP f).map ofPr)])
  | [], f, w2, w3, _, _, _ => ⟨w2, w3, forL_nil rfl⟩
  | d :: todo, f, w2, w3, ht, hf, hl => by
    rw [List.length_cons] at hl
    have hd := ht d List.mem_cons_self
    have hw := tw_le (fun e => ahP e d) f
    have eF := getH_0 h [] (.lst (f.map ofPr))
    have eI := insert_lst eF (by omega) hw d
    rw [setH_0] at eI
    have hln : (insP f d).length = f.length + 1 := insAt_len hw
    obtain ⟨v2, v3, e⟩ := so2_loop hfu hc h (A := A) todo (insP f d) (some (ofPr d)) (some (.int ((f.takeWhile fun e => ahP e d).length : Nat))) (fun x hx => ht x (List.mem_cons_of_mem _ hx)) (insAt_mem hf hd) (by omega)
    refine ⟨v2, v3, ?_⟩
    have w := wh_so (C := C) (H := h ++ [.lst (f.map ofPr)]) (F := h.length) (A := A) (d := d) (fun e he => hc e d _ he hd) f [] C.fuel (by omega) eF hf
    have turn : (noX (asg C (.name 2) (ofPr d) [A, some (.ref h.length), w2, w3] (h ++ [.lst (f.map ofPr)]))).bind (fun ρ h => evB C bSl ρ h) = .ok (.nx [A, some (.ref h.length), some (ofPr d), some (.int ((f.takeWhile fun e => ahP e d).length : Nat))]) (h ++ [.lst ((insP f d).map ofPr)]) := by
      have a0 : noX (asg C (.name 2) (ofPr d) [A, some (.ref h.length), w2, w3] (h ++ [.lst (f.map ofPr)])) = .ok [A, some (.ref h.length), some (ofPr d), w3] (h ++ [.lst (f.map ofPr)]) := by simp only [evS_asg, evS_ret, evS_exp, evS_par, evT_eq, ev_var, ev_con, ev_gcon, ev_bin, ev_neg, ev_not, ev_bi, ev_ix, ev_call, ev_cmp, evs_cons, evs_nil, ev_tup1, ev_tup2, ev_tup3, ev_lst0, ev_lst1, new_eq, look_0, look_s, opt_some, Res.bind_ok, noX_ok, asg_name, asg_tup, asgs_cons, asgs_nil, List.set_cons_succ, List.set_cons_zero, tru_bl, cmp_lt, cmp_le, cmp_gt, cmp_ge, cmp_eqI, cmp_neI, add_int, sub_int, neg_int, int_int, guardR_true]
      rw [a0, Res.bind_ok]
      rw [evB_nx (ρ' := [A, some (.ref h.length), some (ofPr d), some (.int (([] : List Cell).length : Nat))]) (h' := h ++ [.lst (f.map ofPr)]) (by simp only [evS_asg, evS_ret, evS_exp, evS_par, evT_eq, ev_var, ev_con, ev_gcon, ev_bin, ev_neg, ev_not, ev_bi, ev_ix, ev_call, ev_cmp, evs_cons, evs_nil, ev_tup1, ev_tup2, ev_tup3, ev_lst0, ev_lst1, new_eq, look_0, look_s, opt_some, Res.bind_ok, noX_ok, asg_name, asg_tup, asgs_cons, asgs_nil, List.set_cons_succ, List.set_cons_zero, tru_bl, cmp_lt, cmp_le, cmp_gt, cmp_ge, cmp_eqI, cmp_neI, add_int, sub_int, neg_int, int_int, guardR_true]; exact id rfl)]
      rw [evB_nx ((evS_wh _ _ _ _ _).trans w)]
      refine (evB_nx ?_).trans (evB_nil _ _ _)
      rw [List.length_nil, Nat.zero_add]
      simp only [evS_asg, evS_ret, evS_exp, evS_par, evT_eq, ev_var, ev_con, ev_gcon, ev_bin, ev_neg, ev_not, ev_bi, ev_ix, ev_call, ev_cmp, evs_cons, evs_nil, ev_tup1, ev_tup2, ev_tup3, ev_lst0, ev_lst1, new_eq, look_0, look_s, opt_some, Res.bind_ok, noX_ok, asg_name, asg_tup, asgs_cons, asgs_nil, List.set_cons_succ, List.set_cons_zero, tru_bl, cmp_lt, cmp_le, cmp_gt, cmp_ge, cmp_eqI, cmp_neI, add_int, sub_int, neg_int, int_int, guardR_true, ev_mt, mtTy_insert eF, eI]
      exact id rfl
    rw [List.map_cons]
    exact (forL_nx rfl turn).trans e
theorem y_order {C : Cfg} (hfu : 1000 ≤ C.fuel) (hc : ∀ e d H, e ∈ dirs 4 → d ∈ dirs 4 → C.call i_comes_ahead [ofPr e, ofPr d] H = .ok (.bl (ahP e d)) H) (h : PH) {l : List Cell} (hl : l.length ≤ 10) (hm : ∀ d ∈ l, d ∈ dirs 4) : ∃ g, evB C b_slope_order [some (pCells l), none, none, none] h = .ok (.rt (pCells (l.foldl insP []))) (h ++ g) := by
  obtain ⟨v2, v3, e⟩ := so2_loop hfu hc h (A := some (pCells l)) l [] none none hm (by simp) (by simpa using hl)
  refine ⟨[.lst ((l.foldl insP []).map ofPr)], ?_⟩
  unfold b_slope_order
  rw [evB_nx (ρ' := [some (pCells l), some (.ref h.length), none, none]) (h' := h ++ [.lst (([] : List Cell).map ofPr)]) (by simp only [evS_asg, evS_ret, evS_exp, evS_par, evT_eq, ev_var, ev_con, ev_gcon, ev_bin, ev_neg, ev_not, ev_bi, ev_ix, ev_call, ev_cmp, evs_cons, evs_nil, ev_tup1, ev_tup2, ev_tup3, ev_lst0, ev_lst1, new_eq, look_0, look_s, opt_some, Res.bind_ok, noX_ok, asg_name, asg_tup, asgs_cons, asgs_nil, List.set_cons_succ, List.set_cons_zero, tru_bl, cmp_lt, cmp_le, cmp_gt, cmp_ge, cmp_eqI, cmp_neI, add_int, sub_int, neg_int, int_int, guardR_true]; exact id rfl)]
  have it : evIt C (.val (.var 0)) [some (pCells l), some (.ref h.length), none, none] (h ++ [.lst (([] : List Cell).map ofPr)]) = .ok (l.map ofPr, []) (h ++ [.lst (([] : List Cell).map ofPr)]) := by
    simp only [evS_asg, evS_ret, evS_exp, evS_par, evT_eq, ev_var, ev_con, ev_gcon, ev_bin, ev_neg, ev_not, ev_bi, ev_ix, ev_call, ev_cmp, evs_cons, evs_nil, ev_tup1, ev_tup2, ev_tup3, ev_lst0, ev_lst1, new_eq, look_0, look_s, opt_some, Res.bind_ok, noX_ok, asg_name, asg_tup, asgs_cons, asgs_nil, List.set_cons_succ, List.set_cons_zero, tru_bl, cmp_lt, cmp_le, cmp_gt, cmp_ge, cmp_eqI, cmp_neI, add_int, sub_int, neg_int, int_int, guardR_true, evIt_val, walk_pr]
  rw [evB_nx ((evS_fr_of it).trans e)]
  refine evB_rt ?_
  simp only [evS_asg, evS_ret, evS_exp, evS_par, evT_eq, ev_var, ev_con, ev_gcon, ev_bin, ev_neg, ev_not, ev_bi, ev_ix, ev_call, ev_cmp, evs_cons, evs_nil, ev_tup1, ev_tup2, ev_tup3, ev_lst0, ev_lst1, new_eq, look_0, look_s, opt_some, Res.bind_ok, noX_ok, asg_name, asg_tup, asgs_cons, asgs_nil, List.set_cons_succ, List.set_cons_zero, tru_bl, cmp_lt, cmp_le, cmp_gt, cmp_ge, cmp_eqI, cmp_neI, add_int, sub_int, neg_int, int_int, guardR_true, tuple_lst]
  exact id rfl
theorem c_order {k : Nat} (hk : 3 ≤ k) (h : PH) {l : List Cell} (hl : l.length ≤ 10) (hm : ∀ d ∈ l, d ∈ dirs 4) : cN k i_slope_order [pCells l] h = .ok (pCells (l.foldl insP [])) h := by
  obtain ⟨k, rfl⟩ : ∃ j, k = j + 1 := ⟨k - 1, by omega⟩
  obtain ⟨g, e⟩ := y_order (C := Ck k) (Nat.le_refl 1000) (fun e d H he hd => c_comes (by omega) H (sml4 he) (sml4 hd)) h hl hm
  rw [cN, call_of (d := f_slope_order) rfl rfl]
  show ends h (evB (Ck k) b_slope_order [some (pCells l), none, none, none] h) = _
  rw [e]
  have e' : PV.lo h.length (pCells (l.foldl insP [])) = true := (lo_tup _ _).trans (los_pr _ _)
  simp only [ends_rt, e', trimH_app, if_true]
/-! the law's own -/
def rkL (d : Cell) : Int := if d.2 = 0 then 0 else if d.1 = 0 then 2 else if 0 < d.2 then 1 else 3
def ahL (d e : Cell) : Bool := if rkL d = rkL e then decide (d.2 * e.1 < e.2 * d.1) else decide (rkL d < rkL e)
abbrev eRk : Ex := .ite (.cmp .Eq (.var 4) (.con (.int 0))) (.con (.int 0)) (.ite (.cmp .Eq (.var 3) (.con (.int 0))) (.con (.int 2)) (.ite (.cmp .Gt (.var 4) (.con (.int 0))) (.con (.int 1)) (.con (.int 3))))
theorem rk_ev (C : Cfg) (H : PH) {A B R : Option PV} (d : Cell) : ev C eRk [A, B, R, some (.int d.1), some (.int d.2)] H = .ok (.int (rkL d)) H := by
  unfold rkL
  by_cases k1 : d.2 = 0
  · simp only [evS_asg, evS_ret, evS_exp, evS_par, evT_eq, ev_var, ev_con, ev_gcon, ev_bin, ev_neg, ev_not, ev_bi, ev_ix, ev_call, ev_cmp, evs_cons, evs_nil, ev_tup1, ev_tup2, ev_tup3, ev_lst0, ev_lst1, new_eq, look_0, look_s, opt_some, Res.bind_ok, noX_ok, asg_name, asg_tup, asgs_cons, asgs_nil, List.set_cons_succ, List.set_cons_zero, tru_bl, cmp_lt, cmp_le, cmp_gt, cmp_ge, cmp_eqI, cmp_neI, add_int, sub_int, neg_int, int_int, guardR_true, ev_ite]
    simp [k1]
  · by_cases k2 : d.1 = 0
    · simp only [evS_asg, evS_ret, evS_exp, evS_par, evT_eq, ev_var, ev_con, ev_gcon, ev_bin, ev_neg, ev_not, ev_bi, ev_ix, ev_call, ev_cmp, evs_cons, evs_nil, ev_tup1, ev_tup2, ev_tup3, ev_lst0, ev_lst1, new_eq, look_0, look_s, opt_some, Res.bind_ok, noX_ok, asg_name, asg_tup, asgs_cons, asgs_nil, List.set_cons_succ, List.set_cons_zero, tru_bl, cmp_lt, cmp_le, cmp_gt, cmp_ge, cmp_eqI, cmp_neI, add_int, sub_int, neg_int, int_int, guardR_true, ev_ite]
      simp [k1, k2]
    · by_cases k3 : 0 < d.2
      · simp only [evS_asg, evS_ret, evS_exp, evS_par, evT_eq, ev_var, ev_con, ev_gcon, ev_bin, ev_neg, ev_not, ev_bi, ev_ix, ev_call, ev_cmp, evs_cons, evs_nil, ev_tup1, ev_tup2, ev_tup3, ev_lst0, ev_lst1, new_eq, look_0, look_s, opt_some, Res.bind_ok, noX_ok, asg_name, asg_tup, asgs_cons, asgs_nil, List.set_cons_succ, List.set_cons_zero, tru_bl, cmp_lt, cmp_le, cmp_gt, cmp_ge, cmp_eqI, cmp_neI, add_int, sub_int, neg_int, int_int, guardR_true, ev_ite]
        simp [k1, k2, k3]
      · simp only [evS_asg, evS_ret, evS_exp, evS_par, evT_eq, ev_var, ev_con, ev_gcon, ev_bin, ev_neg, ev_not, ev_bi, ev_ix, ev_call, ev_cmp, evs_cons, evs_nil, ev_tup1, ev_tup2, ev_tup3, ev_lst0, ev_lst1, new_eq, look_0, look_s, opt_some, Res.bind_ok, noX_ok, asg_name, asg_tup, asgs_cons, asgs_nil, List.set_cons_succ, List.set_cons_zero, tru_bl, cmp_lt, cmp_le, cmp_gt, cmp_ge, cmp_eqI, cmp_neI, add_int, sub_int, neg_int, int_int, guardR_true, ev_ite]
        simp [k1, k2, k3]
abbrev tgAh : Tg := .tup (.cons (.name 3) (.cons (.name 4) .nil))
abbrev bAh : Bk := .cons (.exp (.mt .append (.var 2) (.cons eRk .nil))) .nil
theorem ah_turn (C : Cfg) (h : PH) {A B w3 w4 : Option PV} (d : Cell) (xs : List PV) (hl : xs.length ≤ 10) : (noX (asg C tgAh (ofPr d) [A, B, some (.ref h.length), w3, w4] (h ++ [.lst xs]))).bind (fun ρ h => evB C bAh ρ h) = .ok (.nx [A, B, some (.ref h.length), some (.int d.1), some (.int d.2)]) (h ++ [.lst (xs ++ [.int (rkL d)])]) := by
  have e0 := getH_0 h [] (.lst xs)
  have ap := append_lst e0 (by omega) (.int (rkL d))
  rw [setH_0] at ap
  have a0 : noX (asg C tgAh (ofPr d) [A, B, some (.ref h.length), w3, w4] (h ++ [.lst xs])) = .ok [A, B, some (.ref h.length), some (.int d.1), some (.int d.2)] (h ++ [.lst xs]) := by
    unfold ofPr
    simp only [evS_asg, evS_ret, evS_exp, evS_par, evT_eq, ev_var, ev_con, ev_gcon, ev_bin, ev_neg, ev_not, ev_bi, ev_ix, ev_call, ev_cmp, evs_cons, evs_nil, ev_tup1, ev_tup2, ev_tup3, ev_lst0, ev_lst1, new_eq, look_0, look_s, opt_some, Res.bind_ok, noX_ok, asg_name, asg_tup, asgs_cons, asgs_nil, List.set_cons_succ, List.set_cons_zero, tru_bl, cmp_lt, cmp_le, cmp_gt, cmp_ge, cmp_eqI, cmp_neI, add_int, sub_int, neg_int, int_int, guardR_true]
  rw [a0, Res.bind_ok]
  refine (evB_nx ?_).trans (evB_nil _ _ _)
  simp only [evS_exp, ev_mt, ev_var, look_0, look_s, opt_some, Res.bind_ok, mtTy_append e0, guardR_true, evs_cons, evs_nil, rk_ev, ap, noX_ok]
theorem y_ahead (C : Cfg) (h : PH) {d e : Cell} (hd : Sml d) (he : Sml e) : ∃ g, evB C b__law_ahead [some (ofPr d), some (ofPr e), none, none, none] h = .ok (.rt (.bl (ahL d e))) (h ++ g) := by
  have t1 := ah_turn C h (A := some (ofPr d)) (B := some (ofPr e)) (w3 := none) (w4 := none) d [] (by simp)
  have t2 := ah_turn C h (A := some (ofPr d)) (B := some (ofPr e)) (w3 := some (.int d.1)) (w4 := some (.int d.2)) e [.int (rkL d)] (by simp)
  refine ⟨[.lst [.int (rkL d), .int (rkL e)]], ?_⟩
  have lp : forL (fun x ρ h => (noX (asg C tgAh x ρ h)).bind fun ρ h => evB C bAh ρ h) [] [ofPr d, ofPr e] [some (ofPr d), some (ofPr e), some (.ref h.length), none, none] (h ++ [.lst []]) = .ok (.nx [some (ofPr d), some (ofPr e), some (.ref h.length), some (.int e.1), some (.int e.2)]) (h ++ [.lst [.int (rkL d), .int (rkL e)]]) :=
    (forL_nx rfl t1).trans ((forL_nx rfl t2).trans (forL_nil rfl))
  have it : evIt C (.val (.tup (.cons (.var 0) (.cons (.var 1) .nil)))) [some (ofPr d), some (ofPr e), some (.ref h.length), none, none] (h ++ [.lst []]) = .ok ([ofPr d, ofPr e], []) (h ++ [.lst []]) := by
    simp only [evS_asg, evS_ret, evS_exp, evS_par, evT_eq, ev_var, ev_con, ev_gcon, ev_bin, ev_neg, ev_not, ev_bi, ev_ix, ev_call, ev_cmp, evs_cons, evs_nil, ev_tup1, ev_tup2, ev_tup3, ev_lst0, ev_lst1, new_eq, look_0, look_s, opt_some, Res.bind_ok, noX_ok, asg_name, asg_tup, asgs_cons, asgs_nil, List.set_cons_succ, List.set_cons_zero, tru_bl, cmp_lt, cmp_le, cmp_gt, cmp_ge, cmp_eqI, cmp_neI, add_int, sub_int, neg_int, int_int, guardR_true, evIt_val, walk_tup]
  unfold b__law_ahead
  rw [evB_nx (ρ' := [some (ofPr d), some (ofPr e), some (.ref h.length), none, none]) (h' := h ++ [.lst []]) (by simp only [evS_asg, evS_ret, evS_exp, evS_par, evT_eq, ev_var, ev_con, ev_gcon, ev_bin, ev_neg, ev_not, ev_bi, ev_ix, ev_call, ev_cmp, evs_cons, evs_nil, ev_tup1, ev_tup2, ev_tup3, ev_lst0, ev_lst1, new_eq, look_0, look_s, opt_some, Res.bind_ok, noX_ok, asg_name, asg_tup, asgs_cons, asgs_nil, List.set_cons_succ, List.set_cons_zero, tru_bl, cmp_lt, cmp_le, cmp_gt, cmp_ge, cmp_eqI, cmp_neI, add_int, sub_int, neg_int, int_int, guardR_true])]
  rw [evB_nx ((evS_fr_of it).trans lp)]
  have eR := getH_0 h [] (.lst [.int (rkL d), .int (rkL e)])
  generalize hH : h ++ [PO.lst [.int (rkL d), .int (rkL e)]] = H at *
  have i0 : ixV (.ref h.length) (.int 0) H = .ok (.int (rkL d)) H := by rw [ix_lst eR, atI_0, opt_some]
  have i1 : ixV (.ref h.length) (.int 1) H = .ok (.int (rkL e)) H := by rw [ix_lst eR, atI_1, opt_some]
  obtain ⟨_, k2⟩ := hd.m he
  obtain ⟨_, k4⟩ := he.m hd
  unfold ahL
  by_cases k : rkL d = rkL e
  · rw [if_pos k]
    rw [evB_nx (ρ' := [some (ofPr d), some (ofPr e), some (.ref h.length), some (.int e.1), some (.int e.2)]) (h' := H) (by rw [evS_ite_f (h' := H) (by simp only [evS_asg, evS_ret, evS_exp, evS_par, evT_eq, ev_var, ev_con, ev_gcon, ev_bin, ev_neg, ev_not, ev_bi, ev_ix, ev_call, ev_cmp, evs_cons, evs_nil, ev_tup1, ev_tup2, ev_tup3, ev_lst0, ev_lst1, new_eq, look_0, look_s, opt_some, Res.bind_ok, noX_ok, asg_name, asg_tup, asgs_cons, asgs_nil, List.set_cons_succ, List.set_cons_zero, tru_bl, cmp_lt, cmp_le, cmp_gt, cmp_ge, cmp_eqI, cmp_neI, add_int, sub_int, neg_int, int_int, guardR_true, i0, i1]; simp [k]), evB_nil])]
    refine evB_rt ?_
    simp only [evS_asg, evS_ret, evS_exp, evS_par, evT_eq, ev_var, ev_con, ev_gcon, ev_bin, ev_neg, ev_not, ev_bi, ev_ix, ev_call, ev_cmp, evs_cons, evs_nil, ev_tup1, ev_tup2, ev_tup3, ev_lst0, ev_lst1, new_eq, look_0, look_s, opt_some, Res.bind_ok, noX_ok, asg_name, asg_tup, asgs_cons, asgs_nil, List.set_cons_succ, List.set_cons_zero, tru_bl, cmp_lt, cmp_le, cmp_gt, cmp_ge, cmp_eqI, cmp_neI, add_int, sub_int, neg_int, int_int, guardR_true, pr_0, pr_1, mul_int k2, mul_int k4]
  · rw [if_neg k]
    refine evB_rt ?_
    rw [evS_ite_t (h' := H) (by simp only [evS_asg, evS_ret, evS_exp, evS_par, evT_eq, ev_var, ev_con, ev_gcon, ev_bin, ev_neg, ev_not, ev_bi, ev_ix, ev_call, ev_cmp, evs_cons, evs_nil, ev_tup1, ev_tup2, ev_tup3, ev_lst0, ev_lst1, new_eq, look_0, look_s, opt_some, Res.bind_ok, noX_ok, asg_name, asg_tup, asgs_cons, asgs_nil, List.set_cons_succ, List.set_cons_zero, tru_bl, cmp_lt, cmp_le, cmp_gt, cmp_ge, cmp_eqI, cmp_neI, add_int, sub_int, neg_int, int_int, guardR_true, i0, i1]; simp [k])]
    refine evB_rt ?_
    simp only [evS_asg, evS_ret, evS_exp, evS_par, evT_eq, ev_var, ev_con, ev_gcon, ev_bin, ev_neg, ev_not, ev_bi, ev_ix, ev_call, ev_cmp, evs_cons, evs_nil, ev_tup1, ev_tup2, ev_tup3, ev_lst0, ev_lst1, new_eq, look_0, look_s, opt_some, Res.bind_ok, noX_ok, asg_name, asg_tup, asgs_cons, asgs_nil, List.set_cons_succ, List.set_cons_zero, tru_bl, cmp_lt, cmp_le, cmp_gt, cmp_ge, cmp_eqI, cmp_neI, add_int, sub_int, neg_int, int_int, guardR_true, i0, i1]
theorem c_ahead {k : Nat} (hk : 1 ≤ k) (h : PH) {d e : Cell} (hd : Sml d) (he : Sml e) : cN k i__law_ahead [ofPr d, ofPr e] h = .ok (.bl (ahL d e)) h := by
  obtain ⟨k, rfl⟩ : ∃ j, k = j + 1 := ⟨k - 1, by omega⟩
  obtain ⟨g, ee⟩ := y_ahead (Ck k) h hd he
  rw [cN, call_of (d := f__law_ahead) rfl rfl]
  show ends h (evB (Ck k) b__law_ahead [some (ofPr d), some (ofPr e), none, none, none] h) = _
  rw [ee]
  simp only [ends_rt, lo_bl, trimH_app, if_true]
def insL (f : List Cell) (d : Cell) : List Cell := insAt (f.filter fun e => ahL e d).length d f
abbrev eAt : Ex := .tr (.bi .len (.cons (.lc [4] (.name 4) (.val (.var 1)) (.cons (.call i__law_ahead (.cons (.var 4) (.cons (.var 2) .nil))) .nil) (.var 4)) .nil))
abbrev bSd : Bk := .cons (.asg (.name 3) eAt) (.cons (.exp (.mt .insert (.var 1) (.cons (.var 3) (.cons (.var 2) .nil)))) .nil)
theorem sd_loop {C : Cfg} (hc : ∀ e d H, e ∈ dirs 4 → d ∈ dirs 4 → C.call i__law_ahead [ofPr e, ofPr d] H = .ok (.bl (ahL e d)) H) (h : PH) {A : Option PV} : ∀ (todo f : List Cell) (w2 w3 : Option PV), (∀ d ∈ todo, d ∈ dirs 4) → (∀ d ∈ f, d ∈ dirs 4) → f.length + todo.length ≤ 10 → ∃ v2 v3 : Option PV,
    forL (fun x ρ h => (noX (asg C (.name 2) x ρ h)).bind fun ρ h => evB C bSd ρ h) [] (todo.map ofPr) [A, some (.ref h.length), w2, w3, none] (h ++ [.lst (f.map ofPr)]) = .ok (.nx [A, some (.ref h.length), v2, v3, none]) (h ++ [.lst ((todo.foldl insL f).map ofPr)])
  | [], f, w2, w3, _, _, _ => ⟨w2, w3, forL_nil rfl⟩
  | d :: todo, f, w2, w3, ht, hf, hl => by
    rw [List.length_cons] at hl
    have hd := ht d List.mem_cons_self
    have hw := List.length_filter_le (fun e => ahL e d) f
    have eF := getH_0 h [] (.lst (f.map ofPr))
    have eI := insert_lst eF (by omega) hw d
    rw [setH_0] at eI
    have hln : (insL f d).length = f.length + 1 := insAt_len hw
    obtain ⟨v2, v3, e⟩ := sd_loop hc h (A := A) todo (insL f d) (some (ofPr d)) (some (.int ((f.filter fun e => ahL e d).length : Nat))) (fun x hx => ht x (List.mem_cons_of_mem _ hx)) (insAt_mem hf hd) (by omega)
    refine ⟨v2, v3, ?_⟩
    have turn : (noX (asg C (.name 2) (ofPr d) [A, some (.ref h.length), w2, w3, none] (h ++ [.lst (f.map ofPr)]))).bind (fun ρ h => evB C bSd ρ h) = .ok (.nx [A, some (.ref h.length), some (ofPr d), some (.int ((f.filter fun e => ahL e d).length : Nat)), none]) (h ++ [.lst ((insL f d).map ofPr)]) := by
      have a0 : noX (asg C (.name 2) (ofPr d) [A, some (.ref h.length), w2, w3, none] (h ++ [.lst (f.map ofPr)])) = .ok [A, some (.ref h.length), some (ofPr d), w3, none] (h ++ [.lst (f.map ofPr)]) := by simp only [evS_asg, evS_ret, evS_exp, evS_par, evT_eq, ev_var, ev_con, ev_gcon, ev_bin, ev_neg, ev_not, ev_bi, ev_ix, ev_call, ev_cmp, evs_cons, evs_nil, ev_tup1, ev_tup2, ev_tup3, ev_lst0, ev_lst1, new_eq, look_0, look_s, opt_some, Res.bind_ok, noX_ok, asg_name, asg_tup, asgs_cons, asgs_nil, List.set_cons_succ, List.set_cons_zero, tru_bl, cmp_lt, cmp_le, cmp_gt, cmp_ge, cmp_eqI, cmp_neI, add_int, sub_int, neg_int, int_int, guardR_true]
      rw [a0, Res.bind_ok]
      have eI' : mtV .insert (.ref h.length) [.int ((f.filter fun e => ahL e d).length : Nat), ofPr d] (h ++ [.lst (f.map ofPr)]) = .ok .non (h ++ [.lst ((insL f d).map ofPr)]) := eI
      have hsz : f.length ≤ 1000000 := by omega
      generalize hH : h ++ [PO.lst (f.map ofPr)] = H at *
      have elc := ev_lc_of (C := C) (ρ := [A, some (.ref h.length), some (ofPr d), w3, none]) (h := H) (h1 := H) (own := [4]) (tg := .name 4) (it := .val (.var 1)) (ifs := .cons (.call i__law_ahead (.cons (.var 4) (.cons (.var 2) .nil))) .nil) (e := .var 4) (g := [(h.length, .lst (f.map ofPr))]) ofPr ofPr (fun e => ahL e d) f (by
        simp only [evS_asg, evS_ret, evS_exp, evS_par, evT_eq, ev_var, ev_con, ev_gcon, ev_bin, ev_neg, ev_not, ev_bi, ev_ix, ev_call, ev_cmp, evs_cons, evs_nil, ev_tup1, ev_tup2, ev_tup3, ev_lst0, ev_lst1, new_eq, look_0, look_s, opt_some, Res.bind_ok, noX_ok, asg_name, asg_tup, asgs_cons, asgs_nil, List.set_cons_succ, List.set_cons_zero, tru_bl, cmp_lt, cmp_le, cmp_gt, cmp_ge, cmp_eqI, cmp_neI, add_int, sub_int, neg_int, int_int, guardR_true, evIt_val]
        simp only [walkV, eF, noX_ok]) (gd_one eF) (sz_of hsz) (fun e he => by
        refine ⟨[A, some (.ref h.length), some (ofPr d), w3, some (ofPr e)], by simp [wipeE], ?_, fun _ => by simp only [evS_asg, evS_ret, evS_exp, evS_par, evT_eq, ev_var, ev_con, ev_gcon, ev_bin, ev_neg, ev_not, ev_bi, ev_ix, ev_call, ev_cmp, evs_cons, evs_nil, ev_tup1, ev_tup2, ev_tup3, ev_lst0, ev_lst1, new_eq, look_0, look_s, opt_some, Res.bind_ok, noX_ok, asg_name, asg_tup, asgs_cons, asgs_nil, List.set_cons_succ, List.set_cons_zero, tru_bl, cmp_lt, cmp_le, cmp_gt, cmp_ge, cmp_eqI, cmp_neI, add_int, sub_int, neg_int, int_int, guardR_true]⟩
        simp only [evS_asg, evS_ret, evS_exp, evS_par, evT_eq, ev_var, ev_con, ev_gcon, ev_bin, ev_neg, ev_not, ev_bi, ev_ix, ev_call, ev_cmp, evs_cons, evs_nil, ev_tup1, ev_tup2, ev_tup3, ev_lst0, ev_lst1, new_eq, look_0, look_s, opt_some, Res.bind_ok, noX_ok, asg_name, asg_tup, asgs_cons, asgs_nil, List.set_cons_succ, List.set_cons_zero, tru_bl, cmp_lt, cmp_le, cmp_gt, cmp_ge, cmp_eqI, cmp_neI, add_int, sub_int, neg_int, int_int, guardR_true, evTs_one, hc e d H (hf e he) hd])
      have hlen := len_lst (getH_0 H [] (.lst ((f.filter fun e => ahL e d).map ofPr)))
      rw [List.length_map] at hlen
      rw [evB_nx (ρ' := [A, some (.ref h.length), some (ofPr d), some (.int ((f.filter fun e => ahL e d).length : Nat)), none]) (h' := H) (by
        simp only [evS_asg, evS_ret, evS_exp, evS_par, evT_eq, ev_var, ev_con, ev_gcon, ev_bin, ev_neg, ev_not, ev_bi, ev_ix, ev_call, ev_cmp, evs_cons, evs_nil, ev_tup1, ev_tup2, ev_tup3, ev_lst0, ev_lst1, new_eq, look_0, look_s, opt_some, Res.bind_ok, noX_ok, asg_name, asg_tup, asgs_cons, asgs_nil, List.set_cons_succ, List.set_cons_zero, tru_bl, cmp_lt, cmp_le, cmp_gt, cmp_ge, cmp_eqI, cmp_neI, add_int, sub_int, neg_int, int_int, guardR_true, ev_tr, elc, hlen, lo_int, trimH_app, if_true])]
      refine (evB_nx ?_).trans (evB_nil _ _ _)
      simp only [evS_asg, evS_ret, evS_exp, evS_par, evT_eq, ev_var, ev_con, ev_gcon, ev_bin, ev_neg, ev_not, ev_bi, ev_ix, ev_call, ev_cmp, evs_cons, evs_nil, ev_tup1, ev_tup2, ev_tup3, ev_lst0, ev_lst1, new_eq, look_0, look_s, opt_some, Res.bind_ok, noX_ok, asg_name, asg_tup, asgs_cons, asgs_nil, List.set_cons_succ, List.set_cons_zero, tru_bl, cmp_lt, cmp_le, cmp_gt, cmp_ge, cmp_eqI, cmp_neI, add_int, sub_int, neg_int, int_int, guardR_true, ev_mt, mtTy_insert eF, eI']
    rw [List.map_cons]
    exact (forL_nx rfl turn).trans e
theorem y_sloped {C : Cfg} (hc : ∀ e d H, e ∈ dirs 4 → d ∈ dirs 4 → C.call i__law_ahead [ofPr e, ofPr d] H = .ok (.bl (ahL e d)) H) (h : PH) {l : List Cell} (hl : l.length ≤ 10) (hm : ∀ d ∈ l, d ∈ dirs 4) : ∃ g, evB C b__law_sloped [some (pCells l), none, none, none, none] h = .ok (.rt (pCells (l.foldl insL []))) (h ++ g) := by
  obtain ⟨v2, v3, e⟩ := sd_loop hc h (A := some (pCells l)) l [] none none hm (by simp) (by simpa using hl)
  refine ⟨[.lst ((l.foldl insL []).map ofPr)], ?_⟩
  unfold b__law_sloped
  rw [evB_nx (ρ' := [some (pCells l), some (.ref h.length), none, none, none]) (h' := h ++ [.lst (([] : List Cell).map ofPr)]) (by simp only [evS_asg, evS_ret, evS_exp, evS_par, evT_eq, ev_var, ev_con, ev_gcon, ev_bin, ev_neg, ev_not, ev_bi, ev_ix, ev_call, ev_cmp, evs_cons, evs_nil, ev_tup1, ev_tup2, ev_tup3, ev_lst0, ev_lst1, new_eq, look_0, look_s, opt_some, Res.bind_ok, noX_ok, asg_name, asg_tup, asgs_cons, asgs_nil, List.set_cons_succ, List.set_cons_zero, tru_bl, cmp_lt, cmp_le, cmp_gt, cmp_ge, cmp_eqI, cmp_neI, add_int, sub_int, neg_int, int_int, guardR_true]; exact id rfl)]
  have it : evIt C (.val (.var 0)) [some (pCells l), some (.ref h.length), none, none, none] (h ++ [.lst (([] : List Cell).map ofPr)]) = .ok (l.map ofPr, []) (h ++ [.lst (([] : List Cell).map ofPr)]) := by
    simp only [evS_asg, evS_ret, evS_exp, evS_par, evT_eq, ev_var, ev_con, ev_gcon, ev_bin, ev_neg, ev_not, ev_bi, ev_ix, ev_call, ev_cmp, evs_cons, evs_nil, ev_tup1, ev_tup2, ev_tup3, ev_lst0, ev_lst1, new_eq, look_0, look_s, opt_some, Res.bind_ok, noX_ok, asg_name, asg_tup, asgs_cons, asgs_nil, List.set_cons_succ, List.set_cons_zero, tru_bl, cmp_lt, cmp_le, cmp_gt, cmp_ge, cmp_eqI, cmp_neI, add_int, sub_int, neg_int, int_int, guardR_true, evIt_val, walk_pr]
  rw [evB_nx ((evS_fr_of it).trans e)]
  refine evB_rt ?_
  simp only [evS_asg, evS_ret, evS_exp, evS_par, evT_eq, ev_var, ev_con, ev_gcon, ev_bin, ev_neg, ev_not, ev_bi, ev_ix, ev_call, ev_cmp, evs_cons, evs_nil, ev_tup1, ev_tup2, ev_tup3, ev_lst0, ev_lst1, new_eq, look_0, look_s, opt_some, Res.bind_ok, noX_ok, asg_name, asg_tup, asgs_cons, asgs_nil, List.set_cons_succ, List.set_cons_zero, tru_bl, cmp_lt, cmp_le, cmp_gt, cmp_ge, cmp_eqI, cmp_neI, add_int, sub_int, neg_int, int_int, guardR_true, tuple_lst]
  exact id rfl
theorem c_sloped {k : Nat} (hk : 2 ≤ k) (h : PH) {l : List Cell} (hl : l.length ≤ 10) (hm : ∀ d ∈ l, d ∈ dirs 4) : cN k i__law_sloped [pCells l] h = .ok (pCells (l.foldl insL [])) h := by
  obtain ⟨k, rfl⟩ : ∃ j, k = j + 1 := ⟨k - 1, by omega⟩
  obtain ⟨g, e⟩ := y_sloped (C := Ck k) (fun e d H he hd => c_ahead (by omega) H (sml4 he) (sml4 hd)) h hl hm
  rw [cN, call_of (d := f__law_sloped) rfl rfl]
  show ends h (evB (Ck k) b__law_sloped [some (pCells l), none, none, none, none] h) = _
  rw [e]
  have e' : PV.lo h.length (pCells (l.foldl insL [])) = true := (lo_tup _ _).trans (los_pr _ _)
  simp only [ends_rt, e', trimH_app, if_true]
/-! they are the same -/
def rk (d : Cell) : Nat := ((dirs 4).filter fun e => ahP e d).length
theorem rk_all : ((dirs 4).all fun d => (dirs 4).all fun e => (ahP d e == decide (rk d < rk e)) && (ahL d e == decide (rk d < rk e))) = true := by decide +kernel
theorem rk_ok {d e : Cell} (hd : d ∈ dirs 4) (he : e ∈ dirs 4) : ahP d e = decide (rk d < rk e) ∧ ahL d e = decide (rk d < rk e) := by
  have := List.all_eq_true.mp (List.all_eq_true.mp rk_all d hd) e he
  simpa using this
def Srt (f : List Cell) : Prop := f.Pairwise fun a b => rk a ≤ rk b
theorem tw_filter (r : Nat) : ∀ {f : List Cell}, Srt f → (f.filter fun e => decide (rk e < r)) = f.takeWhile fun e => decide (rk e < r)
  | [], _ => rfl
  | x :: f, h => by
    unfold Srt at h
    rw [List.pairwise_cons] at h
    rw [List.filter_cons, List.takeWhile_cons]
    by_cases k : rk x < r
    · rw [decide_eq_true k, if_pos rfl, if_pos rfl, tw_filter r h.2]
    · rw [decide_eq_false k, if_neg (by decide), if_neg (by decide), List.filter_eq_nil_iff]
      intro y hy
      have := h.1 y hy
      simp
      omega
theorem tk_tw (p : Cell → Bool) : ∀ f : List Cell, f.take (f.takeWhile p).length = f.takeWhile p ∧ f.drop (f.takeWhile p).length = f.dropWhile p
  | [] => ⟨rfl, rfl⟩
  | x :: f => by
    obtain ⟨h1, h2⟩ := tk_tw p f
    rw [List.takeWhile_cons, List.dropWhile_cons]
    split
    · rw [List.length_cons, List.take_succ_cons, List.drop_succ_cons, h1, h2]
      exact ⟨rfl, rfl⟩
    · exact ⟨rfl, rfl⟩
theorem ins_srt {f : List Cell} (h : Srt f) (d : Cell) : Srt (insAt (f.takeWhile fun e => decide (rk e < rk d)).length d f) := by
  obtain ⟨e1, e2⟩ := tk_tw (fun e => decide (rk e < rk d)) f
  unfold insAt
  rw [e1, e2, List.append_assoc]
  have hq : Srt ((f.takeWhile fun e => decide (rk e < rk d)) ++ f.dropWhile fun e => decide (rk e < rk d)) := by
    rw [List.takeWhile_append_dropWhile]
    exact h
  unfold Srt at hq ⊢
  rw [List.pairwise_append] at hq ⊢
  have lo : ∀ a ∈ f.takeWhile fun e => decide (rk e < rk d), rk a < rk d := fun a ha => by
    rw [← tw_filter (rk d) h, List.mem_filter] at ha
    simpa using ha.2
  have hi : ∀ f : List Cell, Srt f → ∀ a ∈ f.dropWhile fun e => decide (rk e < rk d), rk d ≤ rk a := by
    intro f hf
    induction f with
    | nil => simp
    | cons x f ih =>
      unfold Srt at hf
      rw [List.pairwise_cons] at hf
      rw [List.dropWhile_cons]
      split
      · exact ih hf.2
      · rename_i k
        intro a ha
        have k' : rk d ≤ rk x := by simpa using k
        rcases List.mem_cons.mp ha with rfl | ha
        · exact k'
        · exact Nat.le_trans k' (hf.1 a ha)
  refine ⟨hq.1, ?_, ?_⟩
  · show List.Pairwise _ (d :: _)
    rw [List.pairwise_cons]
    exact ⟨fun a ha => hi f h a ha, hq.2.1⟩
  · intro a ha b hb
    rcases List.mem_cons.mp hb with rfl | hb
    · exact Nat.le_of_lt (lo a ha)
    · exact hq.2.2 a ha b hb
theorem tw_congr {p q : Cell → Bool} : ∀ {f : List Cell}, (∀ e ∈ f, p e = q e) → f.takeWhile p = f.takeWhile q
  | [], _ => rfl
  | x :: f, h => by
    rw [List.takeWhile_cons, List.takeWhile_cons, h x List.mem_cons_self, tw_congr fun e he => h e (List.mem_cons_of_mem _ he)]
theorem slope_same : ∀ (todo f : List Cell), (∀ d ∈ todo, d ∈ dirs 4) → (∀ d ∈ f, d ∈ dirs 4) → Srt f → todo.foldl insP f = todo.foldl insL f
  | [], f, _, _, _ => rfl
  | d :: todo, f, ht, hf, hs => by
    have hd := ht d List.mem_cons_self
    have e1 : (f.takeWhile fun e => ahP e d) = f.takeWhile fun e => decide (rk e < rk d) := tw_congr fun e he => (rk_ok (hf e he) hd).1
    have e2 : (f.filter fun e => ahL e d) = f.filter fun e => decide (rk e < rk d) := List.filter_congr fun e he => (rk_ok (hf e he) hd).2
    have ep : insP f d = insAt (f.takeWhile fun e => decide (rk e < rk d)).length d f := by unfold insP; rw [e1]
    have el : insL f d = insAt (f.takeWhile fun e => decide (rk e < rk d)).length d f := by unfold insL; rw [e2, tw_filter _ hs]
    rw [List.foldl_cons, List.foldl_cons, ep, el]
    exact slope_same todo _ (fun x hx => ht x (List.mem_cons_of_mem _ hx)) (insAt_mem hf hd) (ins_srt hs d)
end K00

set_option Elab.async false
set_option linter.all false
set_option maxRecDepth 100000
/-! N00i: k00: all_turns, directions_within, told_boxes, _law_boxes -/
namespace K00
open PySem PySem.Spec Pu
/-! all_turns -/
def pTurns (l : List Cell) : PV := .tup (l.map fun d => .tup (l.map fun e => .int (turn d e)))
theorem y_turns {C : Cfg} (hc : ∀ d e H, d ∈ dirs 4 → e ∈ dirs 4 → C.call i_turn_of [ofPr d, ofPr e] H = .ok (.int (turn d e)) H) (h : PH) {l : List Cell} (hl : l.length ≤ 10) (hm : ∀ d ∈ l, d ∈ dirs 4) : evB C b_all_turns [some (pCells l), none, none] h = .ok (.rt (pTurns l)) h := by
  have it : ∀ w1 w2, evIt C (.val (.var 0)) [some (pCells l), w1, w2] h = .ok (l.map ofPr, []) h := fun w1 w2 => by
    simp only [evS_asg, evS_ret, evS_exp, evS_par, evT_eq, ev_var, ev_con, ev_gcon, ev_bin, ev_neg, ev_not, ev_bi, ev_ix, ev_call, ev_cmp, evs_cons, evs_nil, ev_tup1, ev_tup2, ev_tup3, ev_lst0, ev_lst1, new_eq, look_0, look_s, opt_some, Res.bind_ok, noX_ok, asg_name, asg_tup, asgs_cons, asgs_nil, List.set_cons_succ, List.set_cons_zero, tru_bl, cmp_lt, cmp_le, cmp_gt, cmp_ge, cmp_eqI, cmp_neI, add_int, sub_int, neg_int, int_int, guardR_true, evIt_val, walk_pr]
  have inner : ∀ d ∈ l, ev C (.tr (.bi .tuple (.cons (.lc [2] (.name 2) (.val (.var 0)) .nil (.call i_turn_of (.cons (.var 1) (.cons (.var 2) .nil)))) .nil))) [some (pCells l), some (ofPr d), none] h = .ok (.tup (l.map fun e => .int (turn d e))) h := fun d hd => by
    have e1 := ev_lc_map (C := C) (ρ := [some (pCells l), some (ofPr d), none]) (h := h) (own := [2]) (tg := .name 2) (e := .call i_turn_of (.cons (.var 1) (.cons (.var 2) .nil))) ofPr (fun e => .int (turn d e)) l (it _ _) rfl (sz_of (by omega)) (fun e he => ⟨[some (pCells l), some (ofPr d), some (ofPr e)], by simp [wipeE], by
      simp only [evS_asg, evS_ret, evS_exp, evS_par, evT_eq, ev_var, ev_con, ev_gcon, ev_bin, ev_neg, ev_not, ev_bi, ev_ix, ev_call, ev_cmp, evs_cons, evs_nil, ev_tup1, ev_tup2, ev_tup3, ev_lst0, ev_lst1, new_eq, look_0, look_s, opt_some, Res.bind_ok, noX_ok, asg_name, asg_tup, asgs_cons, asgs_nil, List.set_cons_succ, List.set_cons_zero, tru_bl, cmp_lt, cmp_le, cmp_gt, cmp_ge, cmp_eqI, cmp_neI, add_int, sub_int, neg_int, int_int, guardR_true, hc d e h (hm d hd) (hm e he)]⟩)
    simp only [evS_asg, evS_ret, evS_exp, evS_par, evT_eq, ev_var, ev_con, ev_gcon, ev_bin, ev_neg, ev_not, ev_bi, ev_ix, ev_call, ev_cmp, evs_cons, evs_nil, ev_tup1, ev_tup2, ev_tup3, ev_lst0, ev_lst1, new_eq, look_0, look_s, opt_some, Res.bind_ok, noX_ok, asg_name, asg_tup, asgs_cons, asgs_nil, List.set_cons_succ, List.set_cons_zero, tru_bl, cmp_lt, cmp_le, cmp_gt, cmp_ge, cmp_eqI, cmp_neI, add_int, sub_int, neg_int, int_int, guardR_true, ev_tr, e1, tuple_lst, lo_tup, los_map (n := h.length) (f := fun e => PV.int (turn d e)) (xs := l) fun _ _ => rfl, trimH_app, if_true]
  have e2 := ev_lc_map (C := C) (ρ := [some (pCells l), none, none]) (h := h) (own := [1]) (tg := .name 1) (e := _) ofPr (fun d => .tup (l.map fun e => .int (turn d e))) l (it _ _) rfl (sz_of (by omega)) (fun d hd => ⟨[some (pCells l), some (ofPr d), none], by simp [wipeE], inner d hd⟩)
  unfold b_all_turns
  refine evB_rt ?_
  simp only [evS_ret, ev_tr, ev_bi, evs_cons, evs_nil] at e2 ⊢
  rw [e2]
  simp only [Res.bind_ok, tuple_lst, noX_ok, lo_tup, los_map (n := h.length) (f := fun d => PV.tup (l.map fun e => .int (turn d e))) (xs := l) fun u _ => (lo_tup _ _).trans (los_map fun _ _ => rfl), trimH_app, if_true]
  exact id rfl
theorem c_turns {k : Nat} (hk : 2 ≤ k) (h : PH) {l : List Cell} (hl : l.length ≤ 10) (hm : ∀ d ∈ l, d ∈ dirs 4) : cN k i_all_turns [pCells l] h = .ok (pTurns l) h := by
  obtain ⟨k, rfl⟩ : ∃ j, k = j + 1 := ⟨k - 1, by omega⟩
  rw [cN, call_of (d := f_all_turns) rfl rfl]
  show ends h (evB (Ck k) b_all_turns [some (pCells l), none, none] h) = _
  rw [y_turns (C := Ck k) (fun d e H hd he => c_turn (by omega) H (sml4 hd) (sml4 he)) h hl hm]
  simp only [ends_rt, trimH_same]
/-! directions_within -/
def rowW (s : Nat) (a : Int) : List Cell := ((List.range (2 * s + 1)).map fun (k : Nat) => (a, -(s : Int) + (k : Int))).filter fun d => ((Int.gcd d.1 d.2 : Nat) : Int) == 1
def dW (s : Nat) : List Cell := (0, 1) :: (List.range s).flatMap fun (a : Nat) => rowW s ((a + 1 : Nat) : Int)
theorem rng1 {n : Nat} (hn : n ≤ 1000) (h : PH) : rngV [.int 1, .int ((n : Int) + 1)] h = .ok ((List.range n).map (fun (k : Nat) => .int ((k + 1 : Nat) : Int)), []) h := by
  rw [rng2 (n := n) (by omega) (by omega) (by omega) (by omega)]
  congr 2
  refine List.map_congr_left fun k _ => ?_
  congr 1
  omega
abbrev lcWi : Ex := .lc [3] (.name 3) (.rng (.cons (.neg (.var 0)) (.cons (.bin .Add (.var 0) (.con (.int 1))) .nil))) (.cons (.cmp .Eq (.bi .gcd (.cons (.var 2) (.cons (.var 3) .nil))) (.con (.int 1))) .nil) (.tup (.cons (.var 2) (.cons (.var 3) .nil)))
abbrev bWi : Bk := .cons (.exp (.mt .extend (.var 1) (.cons lcWi .nil))) .nil
section
variable (C : Cfg)
theorem wi_lc (h : PH) {s : Nat} (hs : s ≤ 100) (a : Int) (w1 w3 : Option PV) : ev C lcWi [some (.int s), w1, some (.int a), w3] h = .ok (.ref h.length) (h ++ [.lst ((rowW s a).map ofPr)]) := by
  have e := ev_lc_of (C := C) (ρ := [some (.int s), w1, some (.int a), w3]) (h := h) (h1 := h) (own := [3]) (tg := .name 3) (it := .rng (.cons (.neg (.var 0)) (.cons (.bin .Add (.var 0) (.con (.int 1))) .nil))) (ifs := .cons (.cmp .Eq (.bi .gcd (.cons (.var 2) (.cons (.var 3) .nil))) (.con (.int 1))) .nil) (e := .tup (.cons (.var 2) (.cons (.var 3) .nil)))
    (g := []) (fun (k : Nat) => .int (-(s : Int) + (k : Int))) (fun (k : Nat) => ofPr (a, -(s : Int) + (k : Int))) (fun (k : Nat) => ((Int.gcd a (-(s : Int) + (k : Int)) : Nat) : Int) == 1) (List.range (2 * s + 1)) (by
      simp only [evS_asg, evS_ret, evS_exp, evS_par, evT_eq, ev_var, ev_con, ev_gcon, ev_bin, ev_neg, ev_not, ev_bi, ev_ix, ev_call, ev_cmp, evs_cons, evs_nil, ev_tup1, ev_tup2, ev_tup3, ev_lst0, ev_lst1, new_eq, look_0, look_s, opt_some, Res.bind_ok, noX_ok, asg_name, asg_tup, asgs_cons, asgs_nil, List.set_cons_succ, List.set_cons_zero, tru_bl, cmp_lt, cmp_le, cmp_gt, cmp_ge, cmp_eqI, cmp_neI, add_int, sub_int, neg_int, int_int, guardR_true, evIt_rng, rng2 (i := -(s : Int)) (j := (s : Int) + 1) (n := 2 * s + 1) (by omega) (by omega) (by omega) (by omega)]) rfl (by rw [List.length_range]; exact sz_of (by omega)) (fun x hx => by
      refine ⟨[some (.int s), w1, some (.int a), some (.int (-(s : Int) + (x : Int)))], by simp [wipeE], ?_, fun _ => ?_⟩
      · simp only [evS_asg, evS_ret, evS_exp, evS_par, evT_eq, ev_var, ev_con, ev_gcon, ev_bin, ev_neg, ev_not, ev_bi, ev_ix, ev_call, ev_cmp, evs_cons, evs_nil, ev_tup1, ev_tup2, ev_tup3, ev_lst0, ev_lst1, new_eq, look_0, look_s, opt_some, Res.bind_ok, noX_ok, asg_name, asg_tup, asgs_cons, asgs_nil, List.set_cons_succ, List.set_cons_zero, tru_bl, cmp_lt, cmp_le, cmp_gt, cmp_ge, cmp_eqI, cmp_neI, add_int, sub_int, neg_int, int_int, guardR_true, evTs_one, gcd_bi]
      · simp only [evS_asg, evS_ret, evS_exp, evS_par, evT_eq, ev_var, ev_con, ev_gcon, ev_bin, ev_neg, ev_not, ev_bi, ev_ix, ev_call, ev_cmp, evs_cons, evs_nil, ev_tup1, ev_tup2, ev_tup3, ev_lst0, ev_lst1, new_eq, look_0, look_s, opt_some, Res.bind_ok, noX_ok, asg_name, asg_tup, asgs_cons, asgs_nil, List.set_cons_succ, List.set_cons_zero, tru_bl, cmp_lt, cmp_le, cmp_gt, cmp_ge, cmp_eqI, cmp_neI, add_int, sub_int, neg_int, int_int, guardR_true]
        exact id rfl)
  have m : ((List.range (2 * s + 1)).filter fun (k : Nat) => ((Int.gcd a (-(s : Int) + (k : Int)) : Nat) : Int) == 1).map (fun (k : Nat) => ofPr (a, -(s : Int) + (k : Int))) = (rowW s a).map ofPr := by
    unfold rowW
    rw [List.filter_map, List.map_map]
    rfl
  rw [m] at e
  exact e
theorem rowW_len (s : Nat) (a : Int) : (rowW s a).length ≤ 2 * s + 1 := by
  unfold rowW
  refine Nat.le_trans (List.length_filter_le _ _) ?_
  simp
theorem wi_loop (h : PH) {s : Nat} (hs : s ≤ 100) : ∀ (todo : List Nat) (acc : List Cell) (g : PH) (w2 w3 : Option PV), acc.length + todo.length * (2 * s + 1) ≤ 100000 → ∃ (g' : PH) (v2 v3 : Option PV),
    forL (fun x ρ h => (noX (asg C (.name 2) x ρ h)).bind fun ρ h => evB C bWi ρ h) [] (todo.map fun (k : Nat) => .int ((k + 1 : Nat) : Int)) [some (.int s), some (.ref h.length), w2, w3] (h ++ .lst (acc.map ofPr) :: g) = .ok (.nx [some (.int s), some (.ref h.length), v2, v3]) (h ++ .lst ((acc ++ todo.flatMap fun (a : Nat) => rowW s ((a + 1 : Nat) : Int)).map ofPr) :: g')
  | [], acc, g, w2, w3, _ => ⟨g, w2, w3, by simpa using forL_nil rfl⟩
  | a :: todo, acc, g, w2, w3, hl => by
    rw [List.length_cons, Nat.succ_mul] at hl
    have hr := rowW_len s ((a + 1 : Nat) : Int)
    have hG := getH_0 h g (.lst (acc.map ofPr))
    have hset : (h ++ PO.lst (acc.map ofPr) :: g ++ [PO.lst ((rowW s ((a + 1 : Nat) : Int)).map ofPr)]).set h.length (.lst (acc.map ofPr ++ (rowW s ((a + 1 : Nat) : Int)).map ofPr)) = h ++ .lst ((acc ++ rowW s ((a + 1 : Nat) : Int)).map ofPr) :: (g ++ [.lst ((rowW s ((a + 1 : Nat) : Int)).map ofPr)]) := by
      rw [List.map_append]
      have := setH_0 h (g ++ [PO.lst ((rowW s ((a + 1 : Nat) : Int)).map ofPr)]) (.lst (acc.map ofPr)) (.lst (acc.map ofPr ++ (rowW s ((a + 1 : Nat) : Int)).map ofPr))
      simpa using this
    obtain ⟨g', v2, v3, e⟩ := wi_loop h hs todo (acc ++ rowW s ((a + 1 : Nat) : Int)) (g ++ [.lst ((rowW s ((a + 1 : Nat) : Int)).map ofPr)]) (some (.int ((a + 1 : Nat) : Int))) w3 (by rw [List.length_append]; omega)
    refine ⟨g', v2, v3, ?_⟩
    have turn : (noX (asg C (.name 2) (.int ((a + 1 : Nat) : Int)) [some (.int s), some (.ref h.length), w2, w3] (h ++ .lst (acc.map ofPr) :: g))).bind (fun ρ h => evB C bWi ρ h) = .ok (.nx [some (.int s), some (.ref h.length), some (.int ((a + 1 : Nat) : Int)), w3]) (h ++ .lst ((acc ++ rowW s ((a + 1 : Nat) : Int)).map ofPr) :: (g ++ [.lst ((rowW s ((a + 1 : Nat) : Int)).map ofPr)])) := by
      generalize ((a + 1 : Nat) : Int) = a at *
      simp only [evS_asg, evS_ret, evS_exp, evS_par, evT_eq, ev_var, ev_con, ev_gcon, ev_bin, ev_neg, ev_not, ev_bi, ev_ix, ev_call, ev_cmp, evs_cons, evs_nil, ev_tup1, ev_tup2, ev_tup3, ev_lst0, ev_lst1, new_eq, look_0, look_s, opt_some, Res.bind_ok, noX_ok, asg_name, asg_tup, asgs_cons, asgs_nil, List.set_cons_succ, List.set_cons_zero, tru_bl, cmp_lt, cmp_le, cmp_gt, cmp_ge, cmp_eqI, cmp_neI, add_int, sub_int, neg_int, int_int, guardR_true]
      generalize hGe : h ++ PO.lst (acc.map ofPr) :: g = G at *
      have elc := wi_lc C G hs a (some (.ref h.length)) w3
      have ex := ext_lst (up_app' hG [PO.lst ((rowW s a).map ofPr)]) (getH_0 G [] (.lst ((rowW s a).map ofPr))) (by simp; omega)
      rw [hset] at ex
      refine (evB_nx ?_).trans (evB_nil _ _ _)
      simp only [evS_asg, evS_ret, evS_exp, evS_par, evT_eq, ev_var, ev_con, ev_gcon, ev_bin, ev_neg, ev_not, ev_bi, ev_ix, ev_call, ev_cmp, evs_cons, evs_nil, ev_tup1, ev_tup2, ev_tup3, ev_lst0, ev_lst1, new_eq, look_0, look_s, opt_some, Res.bind_ok, noX_ok, asg_name, asg_tup, asgs_cons, asgs_nil, List.set_cons_succ, List.set_cons_zero, tru_bl, cmp_lt, cmp_le, cmp_gt, cmp_ge, cmp_eqI, cmp_neI, add_int, sub_int, neg_int, int_int, guardR_true, ev_mt, mtTy_extend hG, elc, ex]
    rw [List.map_cons]
    refine (forL_nx rfl turn).trans (e.trans ?_)
    rw [List.flatMap_cons, List.append_assoc]
theorem y_within (h : PH) {s : Nat} (hs : s ≤ 100) : ∃ g, evB C b_directions_within [some (.int s), none, none, none] h = .ok (.rt (pCells (sortP (dW s)))) (h ++ g) := by
  have hm : s * (2 * s + 1) ≤ 100 * 201 := Nat.mul_le_mul (by omega) (by omega)
  obtain ⟨g, v2, v3, e⟩ := wi_loop C h hs (List.range s) [(0, 1)] [] none none (by simp; omega)
  have ed : [(0, 1)] ++ ((List.range s).flatMap fun (a : Nat) => rowW s ((a + 1 : Nat) : Int)) = dW s := rfl
  rw [ed] at e
  have eS : biV .sorted [.ref h.length] (h ++ .lst ((dW s).map ofPr) :: g) = .ok (.ref (h ++ PO.lst ((dW s).map ofPr) :: g).length) ((h ++ .lst ((dW s).map ofPr) :: g) ++ [.lst ((sortP (dW s)).map ofPr)]) := by
    have e0 := getH_0 h g (.lst ((dW s).map ofPr))
    have n : allInt ((dW s).map ofPr) = none := rfl
    simp only [biV, e0, n, allPr_map, opt_some, Res.bind_ok, new_eq]
  refine ⟨.lst ((dW s).map ofPr) :: g, ?_⟩
  unfold b_directions_within
  rw [evB_nx (ρ' := [some (.int s), some (.ref h.length), none, none]) (h' := h ++ [.lst (([(0, 1)] : List Cell).map ofPr)]) (by simp only [evS_asg, evS_ret, evS_exp, evS_par, evT_eq, ev_var, ev_con, ev_gcon, ev_bin, ev_neg, ev_not, ev_bi, ev_ix, ev_call, ev_cmp, evs_cons, evs_nil, ev_tup1, ev_tup2, ev_tup3, ev_lst0, ev_lst1, new_eq, look_0, look_s, opt_some, Res.bind_ok, noX_ok, asg_name, asg_tup, asgs_cons, asgs_nil, List.set_cons_succ, List.set_cons_zero, tru_bl, cmp_lt, cmp_le, cmp_gt, cmp_ge, cmp_eqI, cmp_neI, add_int, sub_int, neg_int, int_int, guardR_true]; exact id rfl)]
  have it : evIt C (.rng (.cons (.con (.int 1)) (.cons (.bin .Add (.var 0) (.con (.int 1))) .nil))) [some (.int s), some (.ref h.length), none, none] (h ++ [.lst (([(0, 1)] : List Cell).map ofPr)]) = .ok ((List.range s).map (fun (k : Nat) => .int ((k + 1 : Nat) : Int)), []) (h ++ [.lst (([(0, 1)] : List Cell).map ofPr)]) := by
    simp only [evS_asg, evS_ret, evS_exp, evS_par, evT_eq, ev_var, ev_con, ev_gcon, ev_bin, ev_neg, ev_not, ev_bi, ev_ix, ev_call, ev_cmp, evs_cons, evs_nil, ev_tup1, ev_tup2, ev_tup3, ev_lst0, ev_lst1, new_eq, look_0, look_s, opt_some, Res.bind_ok, noX_ok, asg_name, asg_tup, asgs_cons, asgs_nil, List.set_cons_succ, List.set_cons_zero, tru_bl, cmp_lt, cmp_le, cmp_gt, cmp_ge, cmp_eqI, cmp_neI, add_int, sub_int, neg_int, int_int, guardR_true, evIt_rng, rng1 (show s ≤ 1000 by omega)]
  rw [evB_nx ((evS_fr_of it).trans e)]
  refine evB_rt ?_
  have lo : PV.lo (h ++ PO.lst ((dW s).map ofPr) :: g).length (.tup ((sortP (dW s)).map ofPr)) = true := (lo_tup _ _).trans (los_pr _ _)
  simp only [evS_asg, evS_ret, evS_exp, evS_par, evT_eq, ev_var, ev_con, ev_gcon, ev_bin, ev_neg, ev_not, ev_bi, ev_ix, ev_call, ev_cmp, evs_cons, evs_nil, ev_tup1, ev_tup2, ev_tup3, ev_lst0, ev_lst1, new_eq, look_0, look_s, opt_some, Res.bind_ok, noX_ok, asg_name, asg_tup, asgs_cons, asgs_nil, List.set_cons_succ, List.set_cons_zero, tru_bl, cmp_lt, cmp_le, cmp_gt, cmp_ge, cmp_eqI, cmp_neI, add_int, sub_int, neg_int, int_int, guardR_true, ev_tr, eS, tuple_lst, lo, trimH_app, if_true]
  exact id rfl
end
theorem c_within {k : Nat} (hk : 1 ≤ k) (h : PH) {s : Nat} (hs : s ≤ 100) : cN k i_directions_within [.int s] h = .ok (pCells (sortP (dW s))) h := by
  obtain ⟨k, rfl⟩ : ∃ j, k = j + 1 := ⟨k - 1, by omega⟩
  obtain ⟨g, e⟩ := y_within (Ck k) h hs
  rw [cN, call_of (d := f_directions_within) rfl rfl]
  show ends h (evB (Ck k) b_directions_within [some (.int s), none, none, none] h) = _
  rw [e]
  have e' : PV.lo h.length (pCells (sortP (dW s))) = true := (lo_tup _ _).trans (los_pr _ _)
  simp only [ends_rt, e', trimH_app, if_true]
theorem dW_srt : ∀ s ∈ [1, 2, 3, 4], dW s = dirs s ∧ ((dW s).Pairwise fun a b => leP a b = true) := by decide +kernel
theorem sortP_of {l : List Cell} (h : l.Pairwise fun a b => leP a b = true) : sortP l = l := List.mergeSort_of_pairwise h
theorem within_is {s : Nat} (h0 : 1 ≤ s) (h1 : s ≤ 4) : sortP (dW s) = dirs s := by
  have := dW_srt s (by simp; omega)
  rw [sortP_of this.2, this.1]
/-! boxes -/
def boxB (m n : Nat) (l : List Cell) : Bool := decide ((m : Int) * n ≤ 42) && (decide ((m : Int) ≤ sA l) || decide ((n : Int) ≤ sB l))
def boxR (l : List Cell) (most m : Nat) : List Cell := ((List.range most).filter fun (n : Nat) => boxB m (n + 1) l).map fun (n : Nat) => ((m : Int), ((n + 1 : Nat) : Int))
def boxes (l : List Cell) (most : Nat) : List Cell := (List.range most).flatMap fun (m : Nat) => boxR l most (m + 1)
theorem cells_emp {m n : Nat} (l : List Cell) : (cells (shX m n l) (shY m n l)).isEmpty = (decide ((m : Int) ≤ sA l) || decide ((n : Int) ≤ sB l)) := by
  rw [← Bool.decide_or]
  rw [Bool.eq_iff_iff, List.isEmpty_iff, decide_eq_true_iff, ← List.length_eq_zero_iff, cells_len]
  unfold shX shY
  by_cases k : (m : Int) ≤ sA l ∨ (n : Int) ≤ sB l
  · rw [if_pos k]
    simp [k]
  · rw [if_neg k, if_neg k]
    constructor
    · intro q
      have : 0 < ((m : Int) - sA l).toNat * ((n : Int) - sB l).toNat := Nat.mul_pos (by omega) (by omega)
      omega
    · exact fun q => absurd q k
abbrev bBi : Bk := .cons (.ite (.and (.cons (.cmp .LtE (.bin .Mult (.var 3) (.var 4)) (.gcon "CELLS_MOST" (.int (42)))) (.cons (.call i_is_box_told (.cons (.tup (.cons (.var 3) (.cons (.var 4) .nil))) (.cons (.var 0) .nil))) .nil))) (.cons (.exp (.mt .append (.var 2) (.cons (.tup (.cons (.var 3) (.cons (.var 4) .nil))) .nil))) .nil) .nil) .nil
abbrev bBo : Bk := .cons (.fr (.name 4) (.rng (.cons (.con (.int 1)) (.cons (.bin .Add (.var 1) (.con (.int 1))) .nil))) bBi) .nil
section
variable {C : Cfg} {l : List Cell} (hb : ∀ (H : PH) (m n : Nat), m ≤ 1000 → n ≤ 1000 → C.call i_is_box_told [pBox m n, pCells l] H = .ok (.bl (decide ((m : Int) ≤ sA l) || decide ((n : Int) ≤ sB l))) H) (h : PH)
include hb
theorem bi_loop {A : Option PV} {m : Nat} (hm : m ≤ 100) : ∀ (todo : List Nat) (acc : List Cell) (w4 : Option PV), (∀ n ∈ todo, n < 100) → acc.length + todo.length ≤ 100000 → ∃ v4 : Option PV,
    forL (fun x ρ h => (noX (asg C (.name 4) x ρ h)).bind fun ρ h => evB C bBi ρ h) [] (todo.map fun (k : Nat) => .int ((k + 1 : Nat) : Int)) [some (pCells l), A, some (.ref h.length), some (.int m), w4] (h ++ [.lst (acc.map ofPr)]) = .ok (.nx [some (pCells l), A, some (.ref h.length), some (.int m), v4]) (h ++ [.lst ((acc ++ (todo.filter fun (n : Nat) => boxB m (n + 1) l).map fun (n : Nat) => ((m : Int), ((n + 1 : Nat) : Int))).map ofPr)])
  | [], acc, w4, _, _ => ⟨w4, by simpa using forL_nil rfl⟩
  | n :: todo, acc, w4, ht, hl => by
    rw [List.length_cons] at hl
    have hn := ht n List.mem_cons_self
    have a0 : noX (asg C (.name 4) (.int ((n + 1 : Nat) : Int)) [some (pCells l), A, some (.ref h.length), some (.int m), w4] (h ++ [.lst (acc.map ofPr)])) = .ok [some (pCells l), A, some (.ref h.length), some (.int m), some (.int ((n + 1 : Nat) : Int))] (h ++ [.lst (acc.map ofPr)]) := by simp only [evS_asg, evS_ret, evS_exp, evS_par, evT_eq, ev_var, ev_con, ev_gcon, ev_bin, ev_neg, ev_not, ev_bi, ev_ix, ev_call, ev_cmp, evs_cons, evs_nil, ev_tup1, ev_tup2, ev_tup3, ev_lst0, ev_lst1, new_eq, look_0, look_s, opt_some, Res.bind_ok, noX_ok, asg_name, asg_tup, asgs_cons, asgs_nil, List.set_cons_succ, List.set_cons_zero, tru_bl, cmp_lt, cmp_le, cmp_gt, cmp_ge, cmp_eqI, cmp_neI, add_int, sub_int, neg_int, int_int, guardR_true]
    have mk : mulOk (m : Int) ((n + 1 : Nat) : Int) = true := mulOk_s (sm_le (by omega) (by omega)) (sm_le (by omega) (by omega))
    have hb' : C.call i_is_box_told [.tup [.int m, .int ((n + 1 : Nat) : Int)], pCells l] (h ++ [.lst (acc.map ofPr)]) = .ok (.bl (decide ((m : Int) ≤ sA l) || decide (((n + 1 : Nat) : Int) ≤ sB l))) (h ++ [.lst (acc.map ofPr)]) := hb _ m (n + 1) (by omega) (by omega)
    have t : evT C (.and (.cons (.cmp .LtE (.bin .Mult (.var 3) (.var 4)) (.gcon "CELLS_MOST" (.int (42)))) (.cons (.call i_is_box_told (.cons (.tup (.cons (.var 3) (.cons (.var 4) .nil))) (.cons (.var 0) .nil))) .nil))) [some (pCells l), A, some (.ref h.length), some (.int m), some (.int ((n + 1 : Nat) : Int))] (h ++ [.lst (acc.map ofPr)]) = .ok (boxB m (n + 1) l) (h ++ [.lst (acc.map ofPr)]) := by
      unfold boxB
      simp only [evS_asg, evS_ret, evS_exp, evS_par, evT_eq, ev_var, ev_con, ev_gcon, ev_bin, ev_neg, ev_not, ev_bi, ev_ix, ev_call, ev_cmp, evs_cons, evs_nil, ev_tup1, ev_tup2, ev_tup3, ev_lst0, ev_lst1, new_eq, look_0, look_s, opt_some, Res.bind_ok, noX_ok, asg_name, asg_tup, asgs_cons, asgs_nil, List.set_cons_succ, List.set_cons_zero, tru_bl, cmp_lt, cmp_le, cmp_gt, cmp_ge, cmp_eqI, cmp_neI, add_int, sub_int, neg_int, int_int, guardR_true, ev_and2, ev_and1, mul_int mk]
      cases decide ((m : Int) * ((n + 1 : Nat) : Int) ≤ 42) with
      | false => exact id rfl
      | true =>
        rw [if_pos rfl]
        simp only [evS_asg, evS_ret, evS_exp, evS_par, evT_eq, ev_var, ev_con, ev_gcon, ev_bin, ev_neg, ev_not, ev_bi, ev_ix, ev_call, ev_cmp, evs_cons, evs_nil, ev_tup1, ev_tup2, ev_tup3, ev_lst0, ev_lst1, new_eq, look_0, look_s, opt_some, Res.bind_ok, noX_ok, asg_name, asg_tup, asgs_cons, asgs_nil, List.set_cons_succ, List.set_cons_zero, tru_bl, cmp_lt, cmp_le, cmp_gt, cmp_ge, cmp_eqI, cmp_neI, add_int, sub_int, neg_int, int_int, guardR_true, hb']
        rw [Bool.true_and]
    have e0 := getH_0 h [] (.lst (acc.map ofPr))
    have ap := append_lst e0 (by simp; omega) (ofPr ((m : Int), ((n + 1 : Nat) : Int)))
    rw [setH_0] at ap
    have em : acc.map ofPr ++ [ofPr ((m : Int), ((n + 1 : Nat) : Int))] = (acc ++ [((m : Int), ((n + 1 : Nat) : Int))]).map ofPr := by simp
    rw [em] at ap
    cases hp : boxB m (n + 1) l with
    | false =>
      rw [hp] at t
      obtain ⟨v4, e⟩ := bi_loop (A := A) hm todo acc (some (.int ((n + 1 : Nat) : Int))) (fun x hx => ht x (List.mem_cons_of_mem _ hx)) (by omega)
      refine ⟨v4, ?_⟩
      rw [List.map_cons, List.filter_cons, hp, if_neg (by decide)]
      refine (forL_nx rfl ?_).trans e
      rw [a0, Res.bind_ok]
      refine (evB_nx ?_).trans (evB_nil _ _ _)
      rw [evS_ite_f t, evB_nil]
    | true =>
      rw [hp] at t
      obtain ⟨v4, e⟩ := bi_loop (A := A) hm todo (acc ++ [((m : Int), ((n + 1 : Nat) : Int))]) (some (.int ((n + 1 : Nat) : Int))) (fun x hx => ht x (List.mem_cons_of_mem _ hx)) (by simp; omega)
      refine ⟨v4, ?_⟩
      rw [List.map_cons, List.filter_cons, hp, if_pos rfl, List.map_cons]
      rw [List.append_assoc] at e
      refine (forL_nx rfl ?_).trans e
      rw [a0, Res.bind_ok]
      refine (evB_nx ?_).trans (evB_nil _ _ _)
      rw [evS_ite_t t]
      refine (evB_nx ?_).trans (evB_nil _ _ _)
      have ap' : mtV .append (.ref h.length) [.tup [.int m, .int ((n + 1 : Nat) : Int)]] (h ++ [.lst (acc.map ofPr)]) = .ok .non (h ++ [.lst ((acc ++ [((m : Int), ((n + 1 : Nat) : Int))]).map ofPr)]) := ap
      simp only [evS_asg, evS_ret, evS_exp, evS_par, evT_eq, ev_var, ev_con, ev_gcon, ev_bin, ev_neg, ev_not, ev_bi, ev_ix, ev_call, ev_cmp, evs_cons, evs_nil, ev_tup1, ev_tup2, ev_tup3, ev_lst0, ev_lst1, new_eq, look_0, look_s, opt_some, Res.bind_ok, noX_ok, asg_name, asg_tup, asgs_cons, asgs_nil, List.set_cons_succ, List.set_cons_zero, tru_bl, cmp_lt, cmp_le, cmp_gt, cmp_ge, cmp_eqI, cmp_neI, add_int, sub_int, neg_int, int_int, guardR_true, ev_mt, mtTy_append e0, ap']
theorem boxR_len (l : List Cell) (most m : Nat) : (boxR l most m).length ≤ most := by
  unfold boxR
  rw [List.length_map]
  refine Nat.le_trans (List.length_filter_le _ _) ?_
  simp
theorem bo_loop {most : Nat} (hmo : most ≤ 50) : ∀ (todo : List Nat) (acc : List Cell) (w3 w4 : Option PV), (∀ n ∈ todo, n < 50) → acc.length + todo.length * most ≤ 10000 → ∃ v3 v4 : Option PV,
    forL (fun x ρ h => (noX (asg C (.name 3) x ρ h)).bind fun ρ h => evB C bBo ρ h) [] (todo.map fun (k : Nat) => .int ((k + 1 : Nat) : Int)) [some (pCells l), some (.int most), some (.ref h.length), w3, w4] (h ++ [.lst (acc.map ofPr)]) = .ok (.nx [some (pCells l), some (.int most), some (.ref h.length), v3, v4]) (h ++ [.lst ((acc ++ todo.flatMap fun (m : Nat) => boxR l most (m + 1)).map ofPr)])
  | [], acc, w3, w4, _, _ => ⟨w3, w4, by simpa using forL_nil rfl⟩
  | m :: todo, acc, w3, w4, ht, hl => by
    rw [List.length_cons, Nat.succ_mul] at hl
    have hm := ht m List.mem_cons_self
    have hr := boxR_len hb l most (m + 1)
    obtain ⟨u4, e1⟩ := bi_loop hb h (A := some (.int most)) (m := m + 1) (by omega) (List.range most) acc w4 (fun x hx => by have := List.mem_range.mp hx; omega) (by simp; omega)
    have e1' : forL (fun x ρ h => (noX (asg C (.name 4) x ρ h)).bind fun ρ h => evB C bBi ρ h) [] ((List.range most).map fun (k : Nat) => .int ((k + 1 : Nat) : Int)) [some (pCells l), some (.int most), some (.ref h.length), some (.int ((m + 1 : Nat) : Int)), w4] (h ++ [.lst (acc.map ofPr)]) = .ok (.nx [some (pCells l), some (.int most), some (.ref h.length), some (.int ((m + 1 : Nat) : Int)), u4]) (h ++ [.lst ((acc ++ boxR l most (m + 1)).map ofPr)]) := e1
    obtain ⟨v3, v4, e⟩ := bo_loop hmo todo (acc ++ boxR l most (m + 1)) (some (.int ((m + 1 : Nat) : Int))) u4 (fun x hx => ht x (List.mem_cons_of_mem _ hx)) (by rw [List.length_append]; omega)
    refine ⟨v3, v4, ?_⟩
    rw [List.map_cons, List.flatMap_cons, ← List.append_assoc]
    refine (forL_nx rfl ?_).trans e
    have a0 : noX (asg C (.name 3) (.int ((m + 1 : Nat) : Int)) [some (pCells l), some (.int most), some (.ref h.length), w3, w4] (h ++ [.lst (acc.map ofPr)])) = .ok [some (pCells l), some (.int most), some (.ref h.length), some (.int ((m + 1 : Nat) : Int)), w4] (h ++ [.lst (acc.map ofPr)]) := by simp only [evS_asg, evS_ret, evS_exp, evS_par, evT_eq, ev_var, ev_con, ev_gcon, ev_bin, ev_neg, ev_not, ev_bi, ev_ix, ev_call, ev_cmp, evs_cons, evs_nil, ev_tup1, ev_tup2, ev_tup3, ev_lst0, ev_lst1, new_eq, look_0, look_s, opt_some, Res.bind_ok, noX_ok, asg_name, asg_tup, asgs_cons, asgs_nil, List.set_cons_succ, List.set_cons_zero, tru_bl, cmp_lt, cmp_le, cmp_gt, cmp_ge, cmp_eqI, cmp_neI, add_int, sub_int, neg_int, int_int, guardR_true]
    rw [a0, Res.bind_ok]
    refine (evB_nx ?_).trans (evB_nil _ _ _)
    refine (evS_fr_of ?_).trans e1'
    simp only [evS_asg, evS_ret, evS_exp, evS_par, evT_eq, ev_var, ev_con, ev_gcon, ev_bin, ev_neg, ev_not, ev_bi, ev_ix, ev_call, ev_cmp, evs_cons, evs_nil, ev_tup1, ev_tup2, ev_tup3, ev_lst0, ev_lst1, new_eq, look_0, look_s, opt_some, Res.bind_ok, noX_ok, asg_name, asg_tup, asgs_cons, asgs_nil, List.set_cons_succ, List.set_cons_zero, tru_bl, cmp_lt, cmp_le, cmp_gt, cmp_ge, cmp_eqI, cmp_neI, add_int, sub_int, neg_int, int_int, guardR_true, evIt_rng, rng1 (show most ≤ 1000 by omega)]
theorem y_boxes {most : Nat} (hmo : most ≤ 50) : ∃ g, evB C b_told_boxes [some (pCells l), some (.int most), none, none, none] h = .ok (.rt (pCells (boxes l most))) (h ++ g) := by
  have hm : most * most ≤ 2500 := Nat.mul_le_mul hmo hmo
  obtain ⟨v3, v4, e⟩ := bo_loop hb h hmo (List.range most) [] none none (fun x hx => by have := List.mem_range.mp hx; omega) (by simp; omega)
  have e' : forL (fun x ρ h => (noX (asg C (.name 3) x ρ h)).bind fun ρ h => evB C bBo ρ h) [] ((List.range most).map fun (k : Nat) => .int ((k + 1 : Nat) : Int)) [some (pCells l), some (.int most), some (.ref h.length), none, none] (h ++ [.lst (([] : List Cell).map ofPr)]) = .ok (.nx [some (pCells l), some (.int most), some (.ref h.length), v3, v4]) (h ++ [.lst ((boxes l most).map ofPr)]) := e
  refine ⟨[.lst ((boxes l most).map ofPr)], ?_⟩
  unfold b_told_boxes
  rw [evB_nx (ρ' := [some (pCells l), some (.int most), some (.ref h.length), none, none]) (h' := h ++ [.lst (([] : List Cell).map ofPr)]) (by simp only [evS_asg, evS_ret, evS_exp, evS_par, evT_eq, ev_var, ev_con, ev_gcon, ev_bin, ev_neg, ev_not, ev_bi, ev_ix, ev_call, ev_cmp, evs_cons, evs_nil, ev_tup1, ev_tup2, ev_tup3, ev_lst0, ev_lst1, new_eq, look_0, look_s, opt_some, Res.bind_ok, noX_ok, asg_name, asg_tup, asgs_cons, asgs_nil, List.set_cons_succ, List.set_cons_zero, tru_bl, cmp_lt, cmp_le, cmp_gt, cmp_ge, cmp_eqI, cmp_neI, add_int, sub_int, neg_int, int_int, guardR_true]; exact id rfl)]
  have it : evIt C (.rng (.cons (.con (.int 1)) (.cons (.bin .Add (.var 1) (.con (.int 1))) .nil))) [some (pCells l), some (.int most), some (.ref h.length), none, none] (h ++ [.lst (([] : List Cell).map ofPr)]) = .ok ((List.range most).map (fun (k : Nat) => .int ((k + 1 : Nat) : Int)), []) (h ++ [.lst (([] : List Cell).map ofPr)]) := by
    simp only [evS_asg, evS_ret, evS_exp, evS_par, evT_eq, ev_var, ev_con, ev_gcon, ev_bin, ev_neg, ev_not, ev_bi, ev_ix, ev_call, ev_cmp, evs_cons, evs_nil, ev_tup1, ev_tup2, ev_tup3, ev_lst0, ev_lst1, new_eq, look_0, look_s, opt_some, Res.bind_ok, noX_ok, asg_name, asg_tup, asgs_cons, asgs_nil, List.set_cons_succ, List.set_cons_zero, tru_bl, cmp_lt, cmp_le, cmp_gt, cmp_ge, cmp_eqI, cmp_neI, add_int, sub_int, neg_int, int_int, guardR_true, evIt_rng, rng1 (show most ≤ 1000 by omega)]
  rw [evB_nx ((evS_fr_of it).trans e')]
  refine evB_rt ?_
  simp only [evS_asg, evS_ret, evS_exp, evS_par, evT_eq, ev_var, ev_con, ev_gcon, ev_bin, ev_neg, ev_not, ev_bi, ev_ix, ev_call, ev_cmp, evs_cons, evs_nil, ev_tup1, ev_tup2, ev_tup3, ev_lst0, ev_lst1, new_eq, look_0, look_s, opt_some, Res.bind_ok, noX_ok, asg_name, asg_tup, asgs_cons, asgs_nil, List.set_cons_succ, List.set_cons_zero, tru_bl, cmp_lt, cmp_le, cmp_gt, cmp_ge, cmp_eqI, cmp_neI, add_int, sub_int, neg_int, int_int, guardR_true, tuple_lst]
  exact id rfl
end
theorem c_boxes {k : Nat} (hk : 5 ≤ k) (h : PH) {l : List Cell} (L : Lot l) {most : Nat} (hmo : most ≤ 50) : cN k i_told_boxes [pCells l, .int most] h = .ok (pCells (boxes l most)) h := by
  obtain ⟨k, rfl⟩ : ∃ j, k = j + 1 := ⟨k - 1, by omega⟩
  obtain ⟨g, e⟩ := y_boxes (C := Ck k) (l := l) (fun H m n hm hn => by
    have := c_box_told (k := k) (by omega) H (m := m) (n := n) L hm hn
    rw [cells_emp] at this
    exact this) h hmo
  rw [cN, call_of (d := f_told_boxes) rfl rfl]
  show ends h (evB (Ck k) b_told_boxes [some (pCells l), some (.int most), none, none, none] h) = _
  rw [e]
  have e' : PV.lo h.length (pCells (boxes l most)) = true := (lo_tup _ _).trans (los_pr _ _)
  simp only [ends_rt, e', trimH_app, if_true]
/-! the law's boxes -/
abbrev lcBx : Ex := .lc [8] (.name 8) (.rng (.cons (.con (.int 1)) (.cons (.bin .Add (.var 1) (.con (.int 1))) .nil))) (.cons (.and (.cons (.cmp .LtE (.bin .Mult (.var 5) (.var 8)) (.con (.int 42))) (.cons (.or (.cons (.cmp .GtE (.var 2) (.var 5)) (.cons (.cmp .GtE (.var 3) (.var 8)) .nil))) .nil))) .nil) (.tup (.cons (.var 5) (.cons (.var 8) .nil)))
abbrev bBx : Bk := .cons (.exp (.mt .extend (.var 4) (.cons lcBx .nil))) .nil
section
variable (C : Cfg) (l : List Cell)
theorem bx_lc (h : PH) {A w4 : Option PV} {most m : Nat} (hmo : most ≤ 50) (hm : m ≤ 100) : ev C lcBx [A, some (.int most), some (.int (sA l)), some (.int (sB l)), w4, some (.int m), none, none, none] h = .ok (.ref h.length) (h ++ [.lst ((boxR l most m).map ofPr)]) := by
  have e := ev_lc_of (C := C) (ρ := [A, some (.int most), some (.int (sA l)), some (.int (sB l)), w4, some (.int m), none, none, none]) (h := h) (h1 := h) (own := [8]) (tg := .name 8) (it := .rng (.cons (.con (.int 1)) (.cons (.bin .Add (.var 1) (.con (.int 1))) .nil))) (ifs := .cons (.and (.cons (.cmp .LtE (.bin .Mult (.var 5) (.var 8)) (.con (.int 42))) (.cons (.or (.cons (.cmp .GtE (.var 2) (.var 5)) (.cons (.cmp .GtE (.var 3) (.var 8)) .nil))) .nil))) .nil) (e := .tup (.cons (.var 5) (.cons (.var 8) .nil)))
    (g := []) (fun (k : Nat) => .int ((k + 1 : Nat) : Int)) (fun (n : Nat) => ofPr ((m : Int), ((n + 1 : Nat) : Int))) (fun (n : Nat) => boxB m (n + 1) l) (List.range most) (by
      simp only [evS_asg, evS_ret, evS_exp, evS_par, evT_eq, ev_var, ev_con, ev_gcon, ev_bin, ev_neg, ev_not, ev_bi, ev_ix, ev_call, ev_cmp, evs_cons, evs_nil, ev_tup1, ev_tup2, ev_tup3, ev_lst0, ev_lst1, new_eq, look_0, look_s, opt_some, Res.bind_ok, noX_ok, asg_name, asg_tup, asgs_cons, asgs_nil, List.set_cons_succ, List.set_cons_zero, tru_bl, cmp_lt, cmp_le, cmp_gt, cmp_ge, cmp_eqI, cmp_neI, add_int, sub_int, neg_int, int_int, guardR_true, evIt_rng, rng1 (show most ≤ 1000 by omega)]) rfl (by rw [List.length_range]; exact sz_of (by omega)) (fun n hn => by
      have hn' := List.mem_range.mp hn
      have mk : mulOk (m : Int) ((n + 1 : Nat) : Int) = true := mulOk_s (sm_le (by omega) (by omega)) (sm_le (by omega) (by omega))
      refine ⟨[A, some (.int most), some (.int (sA l)), some (.int (sB l)), w4, some (.int m), none, none, some (.int ((n + 1 : Nat) : Int))], by simp [wipeE], ?_, fun _ => ?_⟩
      · unfold boxB
        simp only [evS_asg, evS_ret, evS_exp, evS_par, evT_eq, ev_var, ev_con, ev_gcon, ev_bin, ev_neg, ev_not, ev_bi, ev_ix, ev_call, ev_cmp, evs_cons, evs_nil, ev_tup1, ev_tup2, ev_tup3, ev_lst0, ev_lst1, new_eq, look_0, look_s, opt_some, Res.bind_ok, noX_ok, asg_name, asg_tup, asgs_cons, asgs_nil, List.set_cons_succ, List.set_cons_zero, tru_bl, cmp_lt, cmp_le, cmp_gt, cmp_ge, cmp_eqI, cmp_neI, add_int, sub_int, neg_int, int_int, guardR_true, evTs_one, ev_and2, ev_and1, ev_or2, ev_or1, mul_int mk]
        cases decide ((m : Int) * ((n + 1 : Nat) : Int) ≤ 42) <;> cases decide ((m : Int) ≤ sA l) <;> exact id rfl
      · simp only [evS_asg, evS_ret, evS_exp, evS_par, evT_eq, ev_var, ev_con, ev_gcon, ev_bin, ev_neg, ev_not, ev_bi, ev_ix, ev_call, ev_cmp, evs_cons, evs_nil, ev_tup1, ev_tup2, ev_tup3, ev_lst0, ev_lst1, new_eq, look_0, look_s, opt_some, Res.bind_ok, noX_ok, asg_name, asg_tup, asgs_cons, asgs_nil, List.set_cons_succ, List.set_cons_zero, tru_bl, cmp_lt, cmp_le, cmp_gt, cmp_ge, cmp_eqI, cmp_neI, add_int, sub_int, neg_int, int_int, guardR_true]
        exact id rfl)
  have m' : ((List.range most).filter fun (n : Nat) => boxB m (n + 1) l).map (fun (n : Nat) => ofPr ((m : Int), ((n + 1 : Nat) : Int))) = (boxR l most m).map ofPr := by
    unfold boxR
    rw [List.map_map]
    rfl
  rw [m'] at e
  exact e
theorem boxR_len' (most m : Nat) : (boxR l most m).length ≤ most := by
  unfold boxR
  rw [List.length_map]
  refine Nat.le_trans (List.length_filter_le _ _) ?_
  simp
theorem bx_loop (h : PH) {A : Option PV} {most : Nat} (hmo : most ≤ 50) : ∀ (todo : List Nat) (acc : List Cell) (g : PH) (w5 : Option PV), (∀ n ∈ todo, n < 50) → acc.length + todo.length * most ≤ 10000 → ∃ (g' : PH) (v5 : Option PV),
    forL (fun x ρ h => (noX (asg C (.name 5) x ρ h)).bind fun ρ h => evB C bBx ρ h) [] (todo.map fun (k : Nat) => .int ((k + 1 : Nat) : Int)) [A, some (.int most), some (.int (sA l)), some (.int (sB l)), some (.ref h.length), w5, none, none, none] (h ++ .lst (acc.map ofPr) :: g) = .ok (.nx [A, some (.int most), some (.int (sA l)), some (.int (sB l)), some (.ref h.length), v5, none, none, none]) (h ++ .lst ((acc ++ todo.flatMap fun (m : Nat) => boxR l most (m + 1)).map ofPr) :: g')
  | [], acc, g, w5, _, _ => ⟨g, w5, by simpa using forL_nil rfl⟩
  | m :: todo, acc, g, w5, ht, hl => by
    rw [List.length_cons, Nat.succ_mul] at hl
    have hm := ht m List.mem_cons_self
    have hr := boxR_len' l most (m + 1)
    have hG := getH_0 h g (.lst (acc.map ofPr))
    have hset : (h ++ PO.lst (acc.map ofPr) :: g ++ [PO.lst ((boxR l most (m + 1)).map ofPr)]).set h.length (.lst (acc.map ofPr ++ (boxR l most (m + 1)).map ofPr)) = h ++ .lst ((acc ++ boxR l most (m + 1)).map ofPr) :: (g ++ [.lst ((boxR l most (m + 1)).map ofPr)]) := by
      rw [List.map_append]
      have := setH_0 h (g ++ [PO.lst ((boxR l most (m + 1)).map ofPr)]) (.lst (acc.map ofPr)) (.lst (acc.map ofPr ++ (boxR l most (m + 1)).map ofPr))
      simpa using this
    obtain ⟨g', v5, e⟩ := bx_loop h (A := A) hmo todo (acc ++ boxR l most (m + 1)) (g ++ [.lst ((boxR l most (m + 1)).map ofPr)]) (some (.int ((m + 1 : Nat) : Int))) (fun x hx => ht x (List.mem_cons_of_mem _ hx)) (by rw [List.length_append]; omega)
    refine ⟨g', v5, ?_⟩
    have turn : (noX (asg C (.name 5) (.int ((m + 1 : Nat) : Int)) [A, some (.int most), some (.int (sA l)), some (.int (sB l)), some (.ref h.length), w5, none, none, none] (h ++ .lst (acc.map ofPr) :: g))).bind (fun ρ h => evB C bBx ρ h) = .ok (.nx [A, some (.int most), some (.int (sA l)), some (.int (sB l)), some (.ref h.length), some (.int ((m + 1 : Nat) : Int)), none, none, none]) (h ++ .lst ((acc ++ boxR l most (m + 1)).map ofPr) :: (g ++ [.lst ((boxR l most (m + 1)).map ofPr)])) := by
      simp only [evS_asg, evS_ret, evS_exp, evS_par, evT_eq, ev_var, ev_con, ev_gcon, ev_bin, ev_neg, ev_not, ev_bi, ev_ix, ev_call, ev_cmp, evs_cons, evs_nil, ev_tup1, ev_tup2, ev_tup3, ev_lst0, ev_lst1, new_eq, look_0, look_s, opt_some, Res.bind_ok, noX_ok, asg_name, asg_tup, asgs_cons, asgs_nil, List.set_cons_succ, List.set_cons_zero, tru_bl, cmp_lt, cmp_le, cmp_gt, cmp_ge, cmp_eqI, cmp_neI, add_int, sub_int, neg_int, int_int, guardR_true]
      generalize hGe : h ++ PO.lst (acc.map ofPr) :: g = G at *
      have elc := bx_lc C l G (A := A) (w4 := some (.ref h.length)) (m := m + 1) hmo (by omega)
      have ex := ext_lst (up_app' hG [PO.lst ((boxR l most (m + 1)).map ofPr)]) (getH_0 G [] (.lst ((boxR l most (m + 1)).map ofPr))) (by simp; omega)
      rw [hset] at ex
      refine (evB_nx ?_).trans (evB_nil _ _ _)
      simp only [evS_asg, evS_ret, evS_exp, evS_par, evT_eq, ev_var, ev_con, ev_gcon, ev_bin, ev_neg, ev_not, ev_bi, ev_ix, ev_call, ev_cmp, evs_cons, evs_nil, ev_tup1, ev_tup2, ev_tup3, ev_lst0, ev_lst1, new_eq, look_0, look_s, opt_some, Res.bind_ok, noX_ok, asg_name, asg_tup, asgs_cons, asgs_nil, List.set_cons_succ, List.set_cons_zero, tru_bl, cmp_lt, cmp_le, cmp_gt, cmp_ge, cmp_eqI, cmp_neI, add_int, sub_int, neg_int, int_int, guardR_true, ev_mt, mtTy_extend hG, elc, ex]
    rw [List.map_cons]
    refine (forL_nx rfl turn).trans (e.trans ?_)
    rw [List.flatMap_cons, List.append_assoc]
/-- the sums of a lot's parts, as the law writes them -/
theorem sum1 {ρ : Pu.Env} (i a b : Nat) {h : PH} (hl : l.length ≤ 1000) (hi : look ρ i = some (pCells l)) (ho : wipeE ρ [a, b] = ρ) (h1 : ∀ d : Cell, ∃ ρ1, asg C (.tup (.cons (.name a) (.cons (.name b) .nil))) (ofPr d) ρ h = .ok ρ1 h ∧ look ρ1 a = some (.int d.1) ∧ look ρ1 b = some (.int d.2)) :
    ev C (.tr (.bi .sum (.cons (.lc [a, b] (.tup (.cons (.name a) (.cons (.name b) .nil))) (.val (.var i)) .nil (.var a)) .nil))) ρ h = .ok (.int (sA l)) h ∧ ev C (.tr (.bi .sum (.cons (.lc [a, b] (.tup (.cons (.name a) (.cons (.name b) .nil))) (.val (.var i)) .nil (.bi .abs (.cons (.var b) .nil))) .nil))) ρ h = .ok (.int (sB l)) h := by
  have it : evIt C (.val (.var i)) ρ h = .ok (l.map ofPr, []) h := by
    simp only [evIt_val, ev_var, hi, opt_some, Res.bind_ok, walk_pr, noX_ok]
  have e1 := ev_lc_map (C := C) (ρ := ρ) (h := h) (own := [a, b]) (tg := .tup (.cons (.name a) (.cons (.name b) .nil))) (e := .var a) ofPr (fun d => .int d.1) l it rfl (sz_of (by omega)) (fun d _ => by
    obtain ⟨ρ1, q1, q2, q3⟩ := h1 d
    exact ⟨ρ1, by rw [ho]; exact q1, by simp only [ev_var, q2, opt_some]⟩)
  have e2 := ev_lc_map (C := C) (ρ := ρ) (h := h) (own := [a, b]) (tg := .tup (.cons (.name a) (.cons (.name b) .nil))) (e := .bi .abs (.cons (.var b) .nil)) ofPr (fun d => .int (absI d.2)) l it rfl (sz_of (by omega)) (fun d _ => by
    obtain ⟨ρ1, q1, q2, q3⟩ := h1 d
    refine ⟨ρ1, by rw [ho]; exact q1, ?_⟩
    simp only [ev_bi, evs_cons, evs_nil, ev_var, q3, opt_some, Res.bind_ok, abs_int, noX_ok]
    exact id rfl)
  have m1 : (l.map fun d => PV.int d.1) = (l.map (·.1)).map .int := by rw [List.map_map]; rfl
  have m2 : (l.map fun d => PV.int (absI d.2)) = (l.map fun d => absI d.2).map .int := by rw [List.map_map]; rfl
  rw [m1] at e1
  rw [m2] at e2
  constructor
  · simp only [ev_tr, ev_bi, evs_cons, evs_nil, e1, Res.bind_ok, sum_lst, noX_ok, lo_int, trimH_app, if_true]
    exact id rfl
  · simp only [ev_tr, ev_bi, evs_cons, evs_nil, e2, Res.bind_ok, sum_lst, noX_ok, lo_int, trimH_app, if_true]
    exact id rfl
theorem y_lboxes (h : PH) (hl : l.length ≤ 1000) {most : Nat} (hmo : most ≤ 50) : ∃ g, evB C b__law_boxes [some (pCells l), some (.int most), none, none, none, none, none, none, none] h = .ok (.rt (pCells (boxes l most))) (h ++ g) := by
  have hm : most * most ≤ 2500 := Nat.mul_le_mul hmo hmo
  obtain ⟨g, v5, e⟩ := bx_loop C l h (A := some (pCells l)) hmo (List.range most) [] [] none (fun x hx => by have := List.mem_range.mp hx; omega) (by simp; omega)
  have e' : forL (fun x ρ h => (noX (asg C (.name 5) x ρ h)).bind fun ρ h => evB C bBx ρ h) [] ((List.range most).map fun (k : Nat) => .int ((k + 1 : Nat) : Int)) [some (pCells l), some (.int most), some (.int (sA l)), some (.int (sB l)), some (.ref h.length), none, none, none, none] (h ++ [.lst (([] : List Cell).map ofPr)]) = .ok (.nx [some (pCells l), some (.int most), some (.int (sA l)), some (.int (sB l)), some (.ref h.length), v5, none, none, none]) (h ++ .lst ((boxes l most).map ofPr) :: g) := e
  refine ⟨.lst ((boxes l most).map ofPr) :: g, ?_⟩
  have q1 := (sum1 C l (ρ := [some (pCells l), some (.int most), none, none, none, none, none, none, none]) 0 6 7 (h := h) hl rfl (by simp [wipeE]) fun d => ⟨[some (pCells l), some (.int most), none, none, none, none, some (.int d.1), some (.int d.2), none], by simp [ofPr], rfl, rfl⟩).1
  have q2 := (sum1 C l (ρ := [some (pCells l), some (.int most), some (.int (sA l)), none, none, none, none, none, none]) 0 6 7 (h := h) hl rfl (by simp [wipeE]) fun d => ⟨[some (pCells l), some (.int most), some (.int (sA l)), none, none, none, some (.int d.1), some (.int d.2), none], by simp [ofPr], rfl, rfl⟩).2
  unfold b__law_boxes
  rw [evB_nx (ρ' := [some (pCells l), some (.int most), some (.int (sA l)), none, none, none, none, none, none]) (h' := h) (by
    rw [evS_asg, q1]
    simp only [evS_asg, evS_ret, evS_exp, evS_par, evT_eq, ev_var, ev_con, ev_gcon, ev_bin, ev_neg, ev_not, ev_bi, ev_ix, ev_call, ev_cmp, evs_cons, evs_nil, ev_tup1, ev_tup2, ev_tup3, ev_lst0, ev_lst1, new_eq, look_0, look_s, opt_some, Res.bind_ok, noX_ok, asg_name, asg_tup, asgs_cons, asgs_nil, List.set_cons_succ, List.set_cons_zero, tru_bl, cmp_lt, cmp_le, cmp_gt, cmp_ge, cmp_eqI, cmp_neI, add_int, sub_int, neg_int, int_int, guardR_true])]
  rw [evB_nx (ρ' := [some (pCells l), some (.int most), some (.int (sA l)), some (.int (sB l)), none, none, none, none, none]) (h' := h) (by
    rw [evS_asg, q2]
    simp only [evS_asg, evS_ret, evS_exp, evS_par, evT_eq, ev_var, ev_con, ev_gcon, ev_bin, ev_neg, ev_not, ev_bi, ev_ix, ev_call, ev_cmp, evs_cons, evs_nil, ev_tup1, ev_tup2, ev_tup3, ev_lst0, ev_lst1, new_eq, look_0, look_s, opt_some, Res.bind_ok, noX_ok, asg_name, asg_tup, asgs_cons, asgs_nil, List.set_cons_succ, List.set_cons_zero, tru_bl, cmp_lt, cmp_le, cmp_gt, cmp_ge, cmp_eqI, cmp_neI, add_int, sub_int, neg_int, int_int, guardR_true])]
  rw [evB_nx (ρ' := [some (pCells l), some (.int most), some (.int (sA l)), some (.int (sB l)), some (.ref h.length), none, none, none, none]) (h' := h ++ [.lst (([] : List Cell).map ofPr)]) (by simp only [evS_asg, evS_ret, evS_exp, evS_par, evT_eq, ev_var, ev_con, ev_gcon, ev_bin, ev_neg, ev_not, ev_bi, ev_ix, ev_call, ev_cmp, evs_cons, evs_nil, ev_tup1, ev_tup2, ev_tup3, ev_lst0, ev_lst1, new_eq, look_0, look_s, opt_some, Res.bind_ok, noX_ok, asg_name, asg_tup, asgs_cons, asgs_nil, List.set_cons_succ, List.set_cons_zero, tru_bl, cmp_lt, cmp_le, cmp_gt, cmp_ge, cmp_eqI, cmp_neI, add_int, sub_int, neg_int, int_int, guardR_true]; exact id rfl)]
  have it : evIt C (.rng (.cons (.con (.int 1)) (.cons (.bin .Add (.var 1) (.con (.int 1))) .nil))) [some (pCells l), some (.int most), some (.int (sA l)), some (.int (sB l)), some (.ref h.length), none, none, none, none] (h ++ [.lst (([] : List Cell).map ofPr)]) = .ok ((List.range most).map (fun (k : Nat) => .int ((k + 1 : Nat) : Int)), []) (h ++ [.lst (([] : List Cell).map ofPr)]) := by
    simp only [evS_asg, evS_ret, evS_exp, evS_par, evT_eq, ev_var, ev_con, ev_gcon, ev_bin, ev_neg, ev_not, ev_bi, ev_ix, ev_call, ev_cmp, evs_cons, evs_nil, ev_tup1, ev_tup2, ev_tup3, ev_lst0, ev_lst1, new_eq, look_0, look_s, opt_some, Res.bind_ok, noX_ok, asg_name, asg_tup, asgs_cons, asgs_nil, List.set_cons_succ, List.set_cons_zero, tru_bl, cmp_lt, cmp_le, cmp_gt, cmp_ge, cmp_eqI, cmp_neI, add_int, sub_int, neg_int, int_int, guardR_true, evIt_rng, rng1 (show most ≤ 1000 by omega)]
  rw [evB_nx ((evS_fr_of it).trans e')]
  refine evB_rt ?_
  simp only [evS_asg, evS_ret, evS_exp, evS_par, evT_eq, ev_var, ev_con, ev_gcon, ev_bin, ev_neg, ev_not, ev_bi, ev_ix, ev_call, ev_cmp, evs_cons, evs_nil, ev_tup1, ev_tup2, ev_tup3, ev_lst0, ev_lst1, new_eq, look_0, look_s, opt_some, Res.bind_ok, noX_ok, asg_name, asg_tup, asgs_cons, asgs_nil, List.set_cons_succ, List.set_cons_zero, tru_bl, cmp_lt, cmp_le, cmp_gt, cmp_ge, cmp_eqI, cmp_neI, add_int, sub_int, neg_int, int_int, guardR_true, tuple_at (getH_0 h g (.lst ((boxes l most).map ofPr)))]
  exact id rfl
end
theorem c_lboxes {k : Nat} (hk : 1 ≤ k) (h : PH) {l : List Cell} (hl : l.length ≤ 1000) {most : Nat} (hmo : most ≤ 50) : cN k i__law_boxes [pCells l, .int most] h = .ok (pCells (boxes l most)) h := by
  obtain ⟨k, rfl⟩ : ∃ j, k = j + 1 := ⟨k - 1, by omega⟩
  obtain ⟨g, e⟩ := y_lboxes (Ck k) l h hl hmo
  rw [cN, call_of (d := f__law_boxes) rfl rfl]
  show ends h (evB (Ck k) b__law_boxes [some (pCells l), some (.int most), none, none, none, none, none, none, none] h) = _
  rw [e]
  have e' : PV.lo h.length (pCells (boxes l most)) = true := (lo_tup _ _).trans (los_pr _ _)
  simp only [ends_rt, e', trimH_app, if_true]
end K00

set_option Elab.async false
set_option linter.all false
set_option maxRecDepth 100000
/-! N00j: k00: _law_asked, the law -/
namespace K00
open PySem PySem.Spec Pu
theorem trn_ok : ∀ d ∈ dirs 4, trn (trn d) = d ∧ trn d ≠ (0, 0) ∧ (trn d).1.natAbs ≤ 100 ∧ (trn d).2.natAbs ≤ 100 := by decide +kernel
structure L4 (C : Cfg) : Prop extends L3 C where
  steps : ∀ (g : PH) (l : List Cell), l.length ≤ 1000 → C.call i_steps_of [pCells l] g = .ok (ofPr (sA l, sB l)) g
  turned : ∀ (g : PH) (l : List Cell), l.length ≤ 1000 → (∀ d ∈ l, d ≠ (0, 0) ∧ d.1.natAbs < 2 ^ 60 ∧ d.2.natAbs < 2 ^ 60) → C.call i_turned_directions [pCells l] g = .ok (pCells (l.map trn)) g
  order : ∀ (g : PH) (l : List Cell), l.length ≤ 10 → (∀ d ∈ l, d ∈ dirs 4) → C.call i_slope_order [pCells l] g = .ok (pCells (l.foldl insP [])) g
  sloped : ∀ (g : PH) (l : List Cell), l.length ≤ 10 → (∀ d ∈ l, d ∈ dirs 4) → C.call i__law_sloped [pCells l] g = .ok (pCells (l.foldl insL [])) g
  turns : ∀ (g : PH) (l : List Cell), l.length ≤ 10 → (∀ d ∈ l, d ∈ dirs 4) → C.call i_all_turns [pCells l] g = .ok (pTurns l) g
  turn : ∀ (g : PH) (d e : Cell), Sml d → Sml e → C.call i_turn_of [ofPr d, ofPr e] g = .ok (.int (turn d e)) g
  boxes : ∀ (g : PH) (l : List Cell) (most : Nat), Lot l → most ≤ 50 → C.call i_told_boxes [pCells l, .int most] g = .ok (pCells (boxes l most)) g
  lboxes : ∀ (g : PH) (l : List Cell) (most : Nat), l.length ≤ 1000 → most ≤ 50 → C.call i__law_boxes [pCells l, .int most] g = .ok (pCells (K00.boxes l most)) g
theorem l4C {k : Nat} (hk : 6 ≤ k) : L4 (Ck k) := { l3C (show 5 ≤ k by omega) with
  steps := fun g l hl => c_steps_of (by omega) g hl
  turned := fun g l hl hd => c_turned (by omega) g hl hd
  order := fun g l hl hm => c_order (by omega) g hl hm
  sloped := fun g l hl hm => c_sloped (by omega) g hl hm
  turns := fun g l hl hm => c_turns (by omega) g hl hm
  turn := fun g d e hd he => c_turn (by omega) g hd he
  boxes := fun g l most L hm => c_boxes (by omega) g L hm
  lboxes := fun g l most hl hm => c_lboxes (by omega) g hl hm }
theorem foldl_len : ∀ (todo f : List Cell), (todo.foldl insL f).length = f.length + todo.length
  | [], f => rfl
  | d :: todo, f => by
    rw [List.foldl_cons, foldl_len]
    have h : (insL f d).length = f.length + 1 := insAt_len (List.length_filter_le _ _)
    rw [h, List.length_cons]
    omega
theorem iok_turns (l : List Cell) : ∃ k, Iok k (pTurns l) := ⟨2, .inr ⟨_, rfl, fun x hx => by
  obtain ⟨c, _, rfl⟩ := List.mem_map.mp hx
  refine .inr ⟨_, rfl, fun x hx => ?_⟩
  obtain ⟨e, _, rfl⟩ := List.mem_map.mp hx
  exact ⟨_, rfl⟩⟩⟩
theorem sz_ints {α : Type} (f : α → Int) : ∀ l : List α, szL (l.map fun e => .int (f e)) = l.length
  | [] => rfl
  | x :: l => by
    show 1 + szL (l.map fun e => .int (f e)) = _
    rw [sz_ints f l, List.length_cons]
    omega
theorem sz_turns {l : List Cell} (hl : l.length ≤ 10) : szV (pTurns l) ≤ 900 := by
  have : ∀ m : List Cell, szL (m.map fun d => PV.tup (l.map fun e => .int (turn d e))) = m.length * (l.length + 1) := by
    intro m
    induction m with
    | nil => simp [szL]
    | cons d m ih =>
      show szL (l.map fun e => .int (turn d e)) + 1 + szL (m.map fun d => PV.tup (l.map fun e => .int (turn d e))) = _
      rw [ih, sz_ints, List.length_cons, Nat.succ_mul]
      omega
  show szL (l.map fun d => PV.tup (l.map fun e => .int (turn d e))) + 1 ≤ 900
  rw [this]
  have := Nat.mul_le_mul hl (show l.length + 1 ≤ 11 by omega)
  omega
theorem boxes_len (l : List Cell) {most : Nat} (h : most ≤ 8) : (boxes l most).length ≤ 64 := by
  have : ∀ todo : List Nat, (todo.flatMap fun m => boxR l most (m + 1)).length ≤ todo.length * most := by
    intro todo
    induction todo with
    | nil => simp
    | cons m todo ih =>
      rw [List.flatMap_cons, List.length_append, List.length_cons, Nat.succ_mul]
      have := boxR_len' l most (m + 1)
      omega
  have h1 := this (List.range most)
  rw [List.length_range] at h1
  have := Nat.mul_le_mul h h
  exact Nat.le_trans h1 this
section
variable {C : Cfg}
abbrev tgA : Tg := .tup (.cons (.name 8) (.cons (.name 9) .nil))
theorem y_asked (K : L4 C) {h : PH} {i : Nat} (hC : Ch h i) {l : List Cell} (D : LotD l) : ∃ H', evB C b__law_asked [some (.ref i), some (pCells l), none, none, none, none, none, none, none, none, none, none] h = .ok (.rt (.bl true)) H' ∧ Ext h H' i := by
  have hl := D.len
  have hd4 := fun d hd => d4_ok d (D.mem d hd)
  have p60 : (1000 : Nat) < 2 ^ 60 := by decide
  -- the directions turned
  have s1 : evS C (.asg (.name 2) (.tr (.bi .tuple (.cons (.lc [8, 9] tgA (.val (.var 1)) .nil (.call i__law_direction (.cons (.bin .Sub (.con (.int 0)) (.var 9)) (.cons (.var 8) .nil)))) .nil)))) [some (.ref i), some (pCells l), none, none, none, none, none, none, none, none, none, none] h = .ok (.nx [some (.ref i), some (pCells l), some (pCells (l.map trn)), none, none, none, none, none, none, none, none, none]) h := by
    have it : evIt C (.val (.var 1)) [some (.ref i), some (pCells l), none, none, none, none, none, none, none, none, none, none] h = .ok (l.map ofPr, []) h := by
      simp only [evS_asg, evS_ret, evS_exp, evS_par, evT_eq, ev_var, ev_con, ev_gcon, ev_bin, ev_neg, ev_not, ev_bi, ev_ix, ev_call, ev_cmp, evs_cons, evs_nil, ev_tup1, ev_tup2, ev_tup3, ev_lst0, ev_lst1, new_eq, look_0, look_s, opt_some, Res.bind_ok, noX_ok, asg_name, asg_tup, asgs_cons, asgs_nil, List.set_cons_succ, List.set_cons_zero, tru_bl, cmp_lt, cmp_le, cmp_gt, cmp_ge, cmp_eqI, cmp_neI, add_int, sub_int, neg_int, int_int, guardR_true, evIt_val, walk_pr]
    have e := ev_lc_map (C := C) (ρ := [some (.ref i), some (pCells l), none, none, none, none, none, none, none, none, none, none]) (h := h) (own := [8, 9]) (tg := tgA) (e := .call i__law_direction (.cons (.bin .Sub (.con (.int 0)) (.var 9)) (.cons (.var 8) .nil))) ofPr (fun d => ofPr (trn d)) l it rfl (sz_of (by omega)) (fun d hm => by
      have := hd4 d hm
      refine ⟨[some (.ref i), some (pCells l), none, none, none, none, none, none, some (.int d.1), some (.int d.2), none, none], by simp [ofPr, wipeE], ?_⟩
      have q := K.dir h (0 - d.2) d.1 (by omega) (by omega) (by omega)
      simp only [evS_asg, evS_ret, evS_exp, evS_par, evT_eq, ev_var, ev_con, ev_gcon, ev_bin, ev_neg, ev_not, ev_bi, ev_ix, ev_call, ev_cmp, evs_cons, evs_nil, ev_tup1, ev_tup2, ev_tup3, ev_lst0, ev_lst1, new_eq, look_0, look_s, opt_some, Res.bind_ok, noX_ok, asg_name, asg_tup, asgs_cons, asgs_nil, List.set_cons_succ, List.set_cons_zero, tru_bl, cmp_lt, cmp_le, cmp_gt, cmp_ge, cmp_eqI, cmp_neI, add_int, sub_int, neg_int, int_int, guardR_true, q]
      rw [Int.zero_sub]
      exact id rfl)
    have m : (l.map fun d => ofPr (trn d)) = (l.map trn).map ofPr := by rw [List.map_map]; rfl
    rw [m] at e
    simp only [evS_asg, evS_ret, evS_exp, evS_par, evT_eq, ev_var, ev_con, ev_gcon, ev_bin, ev_neg, ev_not, ev_bi, ev_ix, ev_call, ev_cmp, evs_cons, evs_nil, ev_tup1, ev_tup2, ev_tup3, ev_lst0, ev_lst1, new_eq, look_0, look_s, opt_some, Res.bind_ok, noX_ok, asg_name, asg_tup, asgs_cons, asgs_nil, List.set_cons_succ, List.set_cons_zero, tru_bl, cmp_lt, cmp_le, cmp_gt, cmp_ge, cmp_eqI, cmp_neI, add_int, sub_int, neg_int, int_int, guardR_true, ev_tr, e, tuple_lst, lo_tup, los_pr, trimH_app, if_true]
    exact id rfl
  have s2 : evS C (.asg (.name 3) (.tup (.cons (.tr (.bi .sum (.cons (.lc [8, 9] tgA (.val (.var 1)) .nil (.var 8)) .nil))) (.cons (.tr (.bi .sum (.cons (.lc [8, 9] tgA (.val (.var 1)) .nil (.bi .abs (.cons (.var 9) .nil))) .nil))) .nil)))) [some (.ref i), some (pCells l), some (pCells (l.map trn)), none, none, none, none, none, none, none, none, none] h = .ok (.nx [some (.ref i), some (pCells l), some (pCells (l.map trn)), some (ofPr (sA l, sB l)), none, none, none, none, none, none, none, none]) h := by
    obtain ⟨q1, q2⟩ := sum1 C l (ρ := [some (.ref i), some (pCells l), some (pCells (l.map trn)), none, none, none, none, none, none, none, none, none]) 1 8 9 (h := h) (by omega) rfl (by simp [wipeE]) fun d => ⟨[some (.ref i), some (pCells l), some (pCells (l.map trn)), none, none, none, none, none, some (.int d.1), some (.int d.2), none, none], by simp [ofPr], rfl, rfl⟩
    rw [evS_asg, ev_tup2, q1, Res.bind_ok, q2]
    simp only [evS_asg, evS_ret, evS_exp, evS_par, evT_eq, ev_var, ev_con, ev_gcon, ev_bin, ev_neg, ev_not, ev_bi, ev_ix, ev_call, ev_cmp, evs_cons, evs_nil, ev_tup1, ev_tup2, ev_tup3, ev_lst0, ev_lst1, new_eq, look_0, look_s, opt_some, Res.bind_ok, noX_ok, asg_name, asg_tup, asgs_cons, asgs_nil, List.set_cons_succ, List.set_cons_zero, tru_bl, cmp_lt, cmp_le, cmp_gt, cmp_ge, cmp_eqI, cmp_neI, add_int, sub_int, neg_int, int_int, guardR_true]
    exact id rfl
  have b1 := K.steps h l (by omega)
  have b2 := K.turned h l (by omega) fun d hd => by
    have := hd4 d hd
    refine ⟨?_, by omega, by omega⟩
    rintro rfl
    simp at this
  have b3 := K.turned h (l.map trn) (by simp; omega) fun d hd => by
    obtain ⟨c, hc, rfl⟩ := List.mem_map.mp hd
    have := trn_ok c (D.mem c hc)
    exact ⟨this.2.1, by omega, by omega⟩
  have tt : (l.map trn).map trn = l := by
    rw [List.map_map]
    have : l.map (trn ∘ trn) = l.map id := List.map_congr_left fun d hd => (trn_ok d (D.mem d hd)).1
    rw [this, List.map_id]
  rw [tt] at b3
  have b4 := K.order h l (by omega) D.mem
  have b5 := K.sloped h l (by omega) D.mem
  rw [slope_same l [] D.mem (by simp) List.Pairwise.nil] at b4
  have b6 := K.turns h l (by omega) D.mem
  have c1 := K.same h (ofPr (sA l, sB l)) (iok_pr _) (by rw [sz_pr]; omega)
  have c2 := K.same h (pCells (l.map trn)) (iok_prs _) (by rw [sz_prs, List.length_map]; omega)
  have c3 := K.same h (pCells l) (iok_prs _) (by rw [sz_prs]; omega)
  have c4 := K.same h (pCells (l.foldl insL [])) (iok_prs _) (by rw [sz_prs, foldl_len, List.length_nil]; omega)
  have c5 := K.same h (pTurns l) (iok_turns l) (sz_turns (by omega))
  have s5 : evS C (.asg (.name 4) (.tr (.bi .tuple (.cons (.lc [8, 9] tgA (.val (.var 1)) .nil (.tr (.bi .tuple (.cons (.lc [10, 11] (.tup (.cons (.name 10) (.cons (.name 11) .nil))) (.val (.var 1)) .nil (.bin .Sub (.bin .Mult (.var 8) (.var 11)) (.bin .Mult (.var 9) (.var 10)))) .nil)))) .nil)))) [some (.ref i), some (pCells l), some (pCells (l.map trn)), some (ofPr (sA l, sB l)), none, none, none, none, none, none, none, none] h = .ok (.nx [some (.ref i), some (pCells l), some (pCells (l.map trn)), some (ofPr (sA l, sB l)), some (pTurns l), none, none, none, none, none, none, none]) h := by
    have it : ∀ w8 w9, evIt C (.val (.var 1)) [some (.ref i), some (pCells l), some (pCells (l.map trn)), some (ofPr (sA l, sB l)), none, none, none, none, w8, w9, none, none] h = .ok (l.map ofPr, []) h := fun w8 w9 => by
      simp only [evS_asg, evS_ret, evS_exp, evS_par, evT_eq, ev_var, ev_con, ev_gcon, ev_bin, ev_neg, ev_not, ev_bi, ev_ix, ev_call, ev_cmp, evs_cons, evs_nil, ev_tup1, ev_tup2, ev_tup3, ev_lst0, ev_lst1, new_eq, look_0, look_s, opt_some, Res.bind_ok, noX_ok, asg_name, asg_tup, asgs_cons, asgs_nil, List.set_cons_succ, List.set_cons_zero, tru_bl, cmp_lt, cmp_le, cmp_gt, cmp_ge, cmp_eqI, cmp_neI, add_int, sub_int, neg_int, int_int, guardR_true, evIt_val, walk_pr]
    have inner : ∀ d ∈ l, ev C (.tr (.bi .tuple (.cons (.lc [10, 11] (.tup (.cons (.name 10) (.cons (.name 11) .nil))) (.val (.var 1)) .nil (.bin .Sub (.bin .Mult (.var 8) (.var 11)) (.bin .Mult (.var 9) (.var 10)))) .nil))) [some (.ref i), some (pCells l), some (pCells (l.map trn)), some (ofPr (sA l, sB l)), none, none, none, none, some (.int d.1), some (.int d.2), none, none] h = .ok (.tup (l.map fun e => .int (turn d e))) h := fun d hd => by
      have e1 := ev_lc_map (C := C) (ρ := [some (.ref i), some (pCells l), some (pCells (l.map trn)), some (ofPr (sA l, sB l)), none, none, none, none, some (.int d.1), some (.int d.2), none, none]) (h := h) (own := [10, 11]) (tg := .tup (.cons (.name 10) (.cons (.name 11) .nil))) (e := .bin .Sub (.bin .Mult (.var 8) (.var 11)) (.bin .Mult (.var 9) (.var 10))) ofPr (fun e => .int (turn d e)) l (it _ _) rfl (sz_of (by omega)) (fun e he => by
        refine ⟨[some (.ref i), some (pCells l), some (pCells (l.map trn)), some (ofPr (sA l, sB l)), none, none, none, none, some (.int d.1), some (.int d.2), some (.int e.1), some (.int e.2)], by simp [ofPr, wipeE], ?_⟩
        obtain ⟨k1, k2⟩ := (sml4 (D.mem d hd)).m (sml4 (D.mem e he))
        simp only [evS_asg, evS_ret, evS_exp, evS_par, evT_eq, ev_var, ev_con, ev_gcon, ev_bin, ev_neg, ev_not, ev_bi, ev_ix, ev_call, ev_cmp, evs_cons, evs_nil, ev_tup1, ev_tup2, ev_tup3, ev_lst0, ev_lst1, new_eq, look_0, look_s, opt_some, Res.bind_ok, noX_ok, asg_name, asg_tup, asgs_cons, asgs_nil, List.set_cons_succ, List.set_cons_zero, tru_bl, cmp_lt, cmp_le, cmp_gt, cmp_ge, cmp_eqI, cmp_neI, add_int, sub_int, neg_int, int_int, guardR_true, mul_int k1, mul_int k2]
        exact id rfl)
      simp only [evS_asg, evS_ret, evS_exp, evS_par, evT_eq, ev_var, ev_con, ev_gcon, ev_bin, ev_neg, ev_not, ev_bi, ev_ix, ev_call, ev_cmp, evs_cons, evs_nil, ev_tup1, ev_tup2, ev_tup3, ev_lst0, ev_lst1, new_eq, look_0, look_s, opt_some, Res.bind_ok, noX_ok, asg_name, asg_tup, asgs_cons, asgs_nil, List.set_cons_succ, List.set_cons_zero, tru_bl, cmp_lt, cmp_le, cmp_gt, cmp_ge, cmp_eqI, cmp_neI, add_int, sub_int, neg_int, int_int, guardR_true, ev_tr, e1, tuple_lst, lo_tup, los_map (n := h.length) (f := fun e => PV.int (turn d e)) (xs := l) fun _ _ => rfl, trimH_app, if_true]
    have e2 := ev_lc_map (C := C) (ρ := [some (.ref i), some (pCells l), some (pCells (l.map trn)), some (ofPr (sA l, sB l)), none, none, none, none, none, none, none, none]) (h := h) (own := [8, 9]) (tg := tgA) (e := _) ofPr (fun d => .tup (l.map fun e => .int (turn d e))) l (it _ _) rfl (sz_of (by omega)) (fun d hd => ⟨[some (.ref i), some (pCells l), some (pCells (l.map trn)), some (ofPr (sA l, sB l)), none, none, none, none, some (.int d.1), some (.int d.2), none, none], by simp [ofPr, wipeE], inner d hd⟩)
    simp only [evS_asg, ev_tr, ev_bi, evs_cons, evs_nil] at e2 ⊢
    rw [e2]
    simp only [Res.bind_ok, tuple_lst, noX_ok, lo_tup, los_map (n := h.length) (f := fun d => PV.tup (l.map fun e => .int (turn d e))) (xs := l) fun u _ => (lo_tup _ _).trans (los_map fun _ _ => rfl), trimH_app, if_true, asg_name, List.set_cons_succ, List.set_cons_zero]
    exact id rfl
  -- what is drawn
  obtain ⟨x, hx, H1, e1, C1⟩ := K.ofT h i (l.map ofPr) hC (by rw [List.length_map]; exact List.length_pos_iff.mpr D.ne) (by rw [List.length_map]; omega)
  obtain ⟨d, hd, rfl⟩ := List.mem_map.mp hx
  obtain ⟨e, he, H2, e2, E2⟩ := draw4 K.toL2s (ρ := [some (pCells l), some (pCells (l.map trn)), some (ofPr (sA l, sB l)), some (pTurns l), none, none, none, none, none, none, none]) C1.ok
  have t1 := K.turn H2 d e (sml4 (D.mem d hd)) (sml4 he)
  obtain ⟨k1, k2⟩ := (sml4 (D.mem d hd)).m (sml4 he)
  have c6 := K.same H2 (.int (turn d e)) ⟨0, ⟨_, rfl⟩⟩ (by simp [szV])
  obtain ⟨r, H3, e3, r0, r1, C3⟩ := K.take H2 i 8 E2.ok (by omega) (by omega)
  obtain ⟨r, rfl⟩ := Int.eq_ofNat_of_zero_le r0
  have g1 := K.boxes H3 l (r + 1) D.lot (by omega)
  have g2 := K.lboxes H3 l (r + 1) (by omega) (by omega)
  have c7 := K.same H3 (pCells (boxes l (r + 1))) (iok_prs _) (by
    rw [sz_prs]
    have := boxes_len l (most := r + 1) (by omega)
    omega)
  refine ⟨H3, ?_, (Ext.of C1).trans (E2.trans (Ext.of C3))⟩
  unfold b__law_asked
  rw [evB_nx s1, evB_nx s2]
  rw [evB_nx (ρ' := [some (.ref i), some (pCells l), some (pCells (l.map trn)), some (ofPr (sA l, sB l)), none, none, none, none, none, none, none, none]) (h' := h) (by
    rw [evS_ite_f (h' := h) (by
      simp only [evS_asg, evS_ret, evS_exp, evS_par, evT_eq, ev_var, ev_con, ev_gcon, ev_bin, ev_neg, ev_not, ev_bi, ev_ix, ev_call, ev_cmp, evs_cons, evs_nil, ev_tup1, ev_tup2, ev_tup3, ev_lst0, ev_lst1, new_eq, look_0, look_s, opt_some, Res.bind_ok, noX_ok, asg_name, asg_tup, asgs_cons, asgs_nil, List.set_cons_succ, List.set_cons_zero, tru_bl, cmp_lt, cmp_le, cmp_gt, cmp_ge, cmp_eqI, cmp_neI, add_int, sub_int, neg_int, int_int, guardR_true, ev_or2, ev_or1, b1, c1, b2, c2]
      exact id rfl), evB_nil])]
  rw [evB_nx (ρ' := [some (.ref i), some (pCells l), some (pCells (l.map trn)), some (ofPr (sA l, sB l)), none, none, none, none, none, none, none, none]) (h' := h) (by
    rw [evS_ite_f (h' := h) (by
      simp only [evS_asg, evS_ret, evS_exp, evS_par, evT_eq, ev_var, ev_con, ev_gcon, ev_bin, ev_neg, ev_not, ev_bi, ev_ix, ev_call, ev_cmp, evs_cons, evs_nil, ev_tup1, ev_tup2, ev_tup3, ev_lst0, ev_lst1, new_eq, look_0, look_s, opt_some, Res.bind_ok, noX_ok, asg_name, asg_tup, asgs_cons, asgs_nil, List.set_cons_succ, List.set_cons_zero, tru_bl, cmp_lt, cmp_le, cmp_gt, cmp_ge, cmp_eqI, cmp_neI, add_int, sub_int, neg_int, int_int, guardR_true, ev_or2, ev_or1, b3, c3, b4, b5, c4]
      exact id rfl), evB_nil])]
  rw [evB_nx s5]
  rw [evB_nx (ρ' := [some (.ref i), some (pCells l), some (pCells (l.map trn)), some (ofPr (sA l, sB l)), some (pTurns l), none, none, none, none, none, none, none]) (h' := h) (by
    rw [evS_ite_f (h' := h) (by
      simp only [evS_asg, evS_ret, evS_exp, evS_par, evT_eq, ev_var, ev_con, ev_gcon, ev_bin, ev_neg, ev_not, ev_bi, ev_ix, ev_call, ev_cmp, evs_cons, evs_nil, ev_tup1, ev_tup2, ev_tup3, ev_lst0, ev_lst1, new_eq, look_0, look_s, opt_some, Res.bind_ok, noX_ok, asg_name, asg_tup, asgs_cons, asgs_nil, List.set_cons_succ, List.set_cons_zero, tru_bl, cmp_lt, cmp_le, cmp_gt, cmp_ge, cmp_eqI, cmp_neI, add_int, sub_int, neg_int, int_int, guardR_true, b6, c5]
      exact id rfl), evB_nil])]
  rw [evB_nx (ρ' := [some (.ref i), some (pCells l), some (pCells (l.map trn)), some (ofPr (sA l, sB l)), some (pTurns l), none, some (ofPr d), some (ofPr e), none, none, none, none]) (h' := H2) (by
    have e1' : ev C (.call i__law_of (.cons (.var 0) (.cons (.var 1) .nil))) [some (.ref i), some (pCells l), some (pCells (l.map trn)), some (ofPr (sA l, sB l)), some (pTurns l), none, none, none, none, none, none, none] h = .ok (ofPr d) H1 := by
      simp only [evS_asg, evS_ret, evS_exp, evS_par, evT_eq, ev_var, ev_con, ev_gcon, ev_bin, ev_neg, ev_not, ev_bi, ev_ix, ev_call, ev_cmp, evs_cons, evs_nil, ev_tup1, ev_tup2, ev_tup3, ev_lst0, ev_lst1, new_eq, look_0, look_s, opt_some, Res.bind_ok, noX_ok, asg_name, asg_tup, asgs_cons, asgs_nil, List.set_cons_succ, List.set_cons_zero, tru_bl, cmp_lt, cmp_le, cmp_gt, cmp_ge, cmp_eqI, cmp_neI, add_int, sub_int, neg_int, int_int, guardR_true]
      exact e1
    rw [evS_par, e1', Res.bind_ok, e2]
    simp only [evS_asg, evS_ret, evS_exp, evS_par, evT_eq, ev_var, ev_con, ev_gcon, ev_bin, ev_neg, ev_not, ev_bi, ev_ix, ev_call, ev_cmp, evs_cons, evs_nil, ev_tup1, ev_tup2, ev_tup3, ev_lst0, ev_lst1, new_eq, look_0, look_s, opt_some, Res.bind_ok, noX_ok, asg_name, asg_tup, asgs_cons, asgs_nil, List.set_cons_succ, List.set_cons_zero, tru_bl, cmp_lt, cmp_le, cmp_gt, cmp_ge, cmp_eqI, cmp_neI, add_int, sub_int, neg_int, int_int, guardR_true])]
  rw [evB_nx (ρ' := [some (.ref i), some (pCells l), some (pCells (l.map trn)), some (ofPr (sA l, sB l)), some (pTurns l), none, some (ofPr d), some (ofPr e), none, none, none, none]) (h' := H2) (by
    have c6' : C.call i__law_same [.int (turn d e), .int (d.1 * e.2 - d.2 * e.1)] H2 = .ok (.bl true) H2 := c6
    rw [evS_ite_f (h' := H2) (by
      simp only [evS_asg, evS_ret, evS_exp, evS_par, evT_eq, ev_var, ev_con, ev_gcon, ev_bin, ev_neg, ev_not, ev_bi, ev_ix, ev_call, ev_cmp, evs_cons, evs_nil, ev_tup1, ev_tup2, ev_tup3, ev_lst0, ev_lst1, new_eq, look_0, look_s, opt_some, Res.bind_ok, noX_ok, asg_name, asg_tup, asgs_cons, asgs_nil, List.set_cons_succ, List.set_cons_zero, tru_bl, cmp_lt, cmp_le, cmp_gt, cmp_ge, cmp_eqI, cmp_neI, add_int, sub_int, neg_int, int_int, guardR_true, t1, pr_0, pr_1, mul_int k1, mul_int k2, c6']
      exact id rfl), evB_nil])]
  rw [evB_nx (ρ' := [some (.ref i), some (pCells l), some (pCells (l.map trn)), some (ofPr (sA l, sB l)), some (pTurns l), some (.int ((r + 1 : Nat) : Int)), some (ofPr d), some (ofPr e), none, none, none, none]) (h' := H3) (by
    simp only [evS_asg, evS_ret, evS_exp, evS_par, evT_eq, ev_var, ev_con, ev_gcon, ev_bin, ev_neg, ev_not, ev_bi, ev_ix, ev_call, ev_cmp, evs_cons, evs_nil, ev_tup1, ev_tup2, ev_tup3, ev_lst0, ev_lst1, new_eq, look_0, look_s, opt_some, Res.bind_ok, noX_ok, asg_name, asg_tup, asgs_cons, asgs_nil, List.set_cons_succ, List.set_cons_zero, tru_bl, cmp_lt, cmp_le, cmp_gt, cmp_ge, cmp_eqI, cmp_neI, add_int, sub_int, neg_int, int_int, guardR_true, e3]
    rw [show (1 : Int) + (r : Int) = ((r + 1 : Nat) : Int) by omega])]
  refine evB_rt ?_
  simp only [evS_asg, evS_ret, evS_exp, evS_par, evT_eq, ev_var, ev_con, ev_gcon, ev_bin, ev_neg, ev_not, ev_bi, ev_ix, ev_call, ev_cmp, evs_cons, evs_nil, ev_tup1, ev_tup2, ev_tup3, ev_lst0, ev_lst1, new_eq, look_0, look_s, opt_some, Res.bind_ok, noX_ok, asg_name, asg_tup, asgs_cons, asgs_nil, List.set_cons_succ, List.set_cons_zero, tru_bl, cmp_lt, cmp_le, cmp_gt, cmp_ge, cmp_eqI, cmp_neI, add_int, sub_int, neg_int, int_int, guardR_true, g1, g2, c7]
end
theorem c_asked {k : Nat} (hk : 7 ≤ k) {h : PH} {i : Nat} (H : Ch h i) {l : List Cell} (D : LotD l) : ∃ h', cN k i__law_asked [.ref i, pCells l] h = .ok (.bl true) h' ∧ Ext h h' i := by
  obtain ⟨k, rfl⟩ : ∃ j, k = j + 1 := ⟨k - 1, by omega⟩
  obtain ⟨h', e, E⟩ := y_asked (l4C (show 6 ≤ k by omega)) H D
  refine ⟨_, ?_, E.trim H.lt true⟩
  rw [cN, call_of (d := f__law_asked) rfl rfl]
  show ends h (evB (Ck k) b__law_asked [some (.ref i), some (pCells l), none, none, none, none, none, none, none, none, none, none] h) = _
  rw [e]
  simp only [ends_rt, lo_bl]
/-! the law -/
structure L5 (C : Cfg) : Prop extends L4 C where
  source : ∀ ns : List Int, ∃ g i, C.call i__law_source [.ref 0] [.fz ns] = .ok (.ref i) g ∧ Ch g i
  made : ∀ (h : PH) (i : Nat), Ch h i → ∃ h', C.call i__law_made [.ref i] h = .ok (.bl true) h' ∧ Ext h h' i
  lot : ∀ (h : PH) (i : Nat), Ch h i → ∃ l h', C.call i__law_lot [.ref i, .int 4] h = .ok (pCells l) h' ∧ Ext h h' i ∧ LotD l
  asked : ∀ (h : PH) (i : Nat) (l : List Cell), Ch h i → LotD l → ∃ h', C.call i__law_asked [.ref i, pCells l] h = .ok (.bl true) h' ∧ Ext h h' i
  within : ∀ (g : PH) (s : Nat), s ≤ 100 → C.call i_directions_within [.int s] g = .ok (pCells (sortP (dW s))) g
theorem l5C {k : Nat} (hk : 7 ≤ k) : L5 (Ck k) := { l4C (show 6 ≤ k by omega) with
  source := fun ns => c_source (by omega) ns
  made := fun h i H => c_made (by omega) H
  lot := fun h i H => c_lot (by omega) H
  asked := fun h i l H D => c_asked (by omega) H D
  within := fun g s hs => c_within (by omega) g hs }
abbrev bLp : Bk := .cons (.ite (.not (.call i__law_asked (.cons (.var 1) (.cons (.call i__law_lot (.cons (.var 1) (.cons (.con (.int 4)) .nil))) .nil)))) (.cons (.ret (.con (.bl false))) .nil) .nil) .nil
theorem lp_loop {C : Cfg} (K : L5 C) {A w3 w4 : Option PV} {i : Nat} : ∀ (todo : List PV) (H : PH) (w2 : Option PV), Ch H i → ∃ (H' : PH) (v2 : Option PV),
    forL (fun x ρ h => (noX (asg C (.name 2) x ρ h)).bind fun ρ h => evB C bLp ρ h) [] todo [A, some (.ref i), w2, w3, w4] H = .ok (.nx [A, some (.ref i), v2, w3, w4]) H' ∧ Ch H' i
  | [], H, w2, hC => ⟨H, w2, forL_nil rfl, hC⟩
  | x :: todo, H, w2, hC => by
    obtain ⟨l, H1, e1, E1, D⟩ := K.lot H i hC
    obtain ⟨H2, e2, E2⟩ := K.asked H1 i l E1.ok D
    obtain ⟨H', v2, e, C'⟩ := lp_loop K (A := A) (w3 := w3) (w4 := w4) todo H2 (some x) E2.ok
    refine ⟨H', v2, ?_, C'⟩
    refine (forL_nx rfl ?_).trans e
    have a0 : noX (asg C (.name 2) x [A, some (.ref i), w2, w3, w4] H) = .ok [A, some (.ref i), some x, w3, w4] H := by simp only [evS_asg, evS_ret, evS_exp, evS_par, evT_eq, ev_var, ev_con, ev_gcon, ev_bin, ev_neg, ev_not, ev_bi, ev_ix, ev_call, ev_cmp, evs_cons, evs_nil, ev_tup1, ev_tup2, ev_tup3, ev_lst0, ev_lst1, new_eq, look_0, look_s, opt_some, Res.bind_ok, noX_ok, asg_name, asg_tup, asgs_cons, asgs_nil, List.set_cons_succ, List.set_cons_zero, tru_bl, cmp_lt, cmp_le, cmp_gt, cmp_ge, cmp_eqI, cmp_neI, add_int, sub_int, neg_int, int_int, guardR_true]
    rw [a0, Res.bind_ok]
    refine (evB_nx ?_).trans (evB_nil _ _ _)
    rw [evS_ite_f (h' := H2) (by
      simp only [evS_asg, evS_ret, evS_exp, evS_par, evT_eq, ev_var, ev_con, ev_gcon, ev_bin, ev_neg, ev_not, ev_bi, ev_ix, ev_call, ev_cmp, evs_cons, evs_nil, ev_tup1, ev_tup2, ev_tup3, ev_lst0, ev_lst1, new_eq, look_0, look_s, opt_some, Res.bind_ok, noX_ok, asg_name, asg_tup, asgs_cons, asgs_nil, List.set_cons_succ, List.set_cons_zero, tru_bl, cmp_lt, cmp_le, cmp_gt, cmp_ge, cmp_eqI, cmp_neI, add_int, sub_int, neg_int, int_int, guardR_true, e1, e2]
      exact id rfl), evB_nil]
def lot4 : List Cell := [(1, -1), (2, -1), (0, 1), (1, 4)]
theorem lot4_ok : LotD lot4 := ⟨by decide, by decide, by decide +kernel⟩
theorem lot4_so : lot4.foldl insP [] = [(1, 4), (0, 1), (1, -1), (2, -1)] := by decide +kernel
theorem box_x : boxes [(1, 0)] 2 = [(1, 1), (1, 2)] := by decide +kernel
theorem one_ok : Lot [(1, 0)] := ⟨by decide, by decide⟩
theorem dirs_len : ∀ s ∈ [1, 2, 3, 4], (dirs s).length ≤ 24 := by decide +kernel
theorem y_law {C : Cfg} (K : L5 C) (ns : List Int) : ∃ h', evB C b_law [some (.ref 0), none, none, none, none] [.fz ns] = .ok (.rt (.bl true)) h' := by
  obtain ⟨h0, i, e0, C0⟩ := K.source ns
  obtain ⟨h1, e1, E1⟩ := K.made h0 i C0
  obtain ⟨h2, v2, e2, C2⟩ := lp_loop K (A := some (.ref 0)) (w3 := none) (w4 := none) ((List.range 4).map fun (k : Nat) => .int (k : Int)) h1 none E1.ok
  obtain ⟨r, h3, e3, r0, r1, C3⟩ := K.take h2 i 4 C2 (by omega) (by omega)
  obtain ⟨r, rfl⟩ := Int.eq_ofNat_of_zero_le r0
  have w1 := K.within h3 (r + 1) (by omega)
  rw [within_is (show 1 ≤ r + 1 by omega) (by omega)] at w1
  have w2 := K.within h3 2 (by omega)
  rw [within_is (s := 2) (by omega) (by omega)] at w2
  obtain ⟨g, d1⟩ := K.directions h3 (r + 1) (by omega)
  have hln := dirs_len (r + 1) (by simp; omega)
  have c1 := K.same h3 (pCells (dirs (r + 1))) (iok_prs _) (by rw [sz_prs]; omega)
  have hl2 : biV .len [pCells (dirs 2)] h3 = .ok (.int 8) h3 := by
    have : biV .len [pCells (dirs 2)] h3 = .ok (.int (((dirs 2).map ofPr).length : Nat)) h3 := id rfl
    rw [this, List.length_map, d_pos.2.1]
    rfl
  have lo : PV.lo h3.length (.tup ((dirs (r + 1)).map ofPr)) = true := (lo_tup _ _).trans (los_pr _ _)
  obtain ⟨h4, e4, E4⟩ := K.asked h3 i lot4 C3.ok lot4_ok
  have o1 := K.order h4 lot4 (by decide) lot4_ok.mem
  rw [lot4_so] at o1
  have c2 := K.same h4 (pCells [(1, 4), (0, 1), (1, -1), (2, -1)]) (iok_prs _) (by rw [sz_prs]; decide)
  have b1 := K.boxes h4 [(1, 0)] 2 one_ok (by omega)
  rw [box_x] at b1
  have c3 := K.same h4 (pCells [(1, 1), (1, 2)]) (iok_prs _) (by rw [sz_prs]; decide)
  have t1 := K.turn h4 (1, 1) (1, -1) (by unfold Sml; decide) (by unfold Sml; decide)
  have c4 := K.same h4 (.int (-2)) ⟨0, ⟨_, rfl⟩⟩ (by simp [szV])
  have t1' : C.call i_turn_of [.tup [.int 1, .int 1], .tup [.int 1, .int (-1)]] h4 = .ok (.int (-2)) h4 := t1
  have b1' : C.call i_told_boxes [.tup [.tup [.int 1, .int 0]], .int 2] h4 = .ok (pCells [(1, 1), (1, 2)]) h4 := b1
  have c3' : C.call i__law_same [pCells [(1, 1), (1, 2)], .tup [.tup [.int 1, .int 1], .tup [.int 1, .int 2]]] h4 = .ok (.bl true) h4 := c3
  have e4' : C.call i__law_asked [.ref i, .tup [.tup [.int 1, .int (-1)], .tup [.int 2, .int (-1)], .tup [.int 0, .int 1], .tup [.int 1, .int 4]]] h3 = .ok (.bl true) h4 := e4
  have o1' : C.call i_slope_order [.tup [.tup [.int 1, .int (-1)], .tup [.int 2, .int (-1)], .tup [.int 0, .int 1], .tup [.int 1, .int 4]]] h4 = .ok (pCells [(1, 4), (0, 1), (1, -1), (2, -1)]) h4 := o1
  have c2' : C.call i__law_same [pCells [(1, 4), (0, 1), (1, -1), (2, -1)], .tup [.tup [.int 1, .int 4], .tup [.int 0, .int 1], .tup [.int 1, .int (-1)], .tup [.int 2, .int (-1)]]] h4 = .ok (.bl true) h4 := c2
  refine ⟨h4, ?_⟩
  unfold b_law
  rw [evB_nx (ρ' := [some (.ref 0), some (.ref i), none, none, none]) (h' := h0) (by simp only [evS_asg, evS_ret, evS_exp, evS_par, evT_eq, ev_var, ev_con, ev_gcon, ev_bin, ev_neg, ev_not, ev_bi, ev_ix, ev_call, ev_cmp, evs_cons, evs_nil, ev_tup1, ev_tup2, ev_tup3, ev_lst0, ev_lst1, new_eq, look_0, look_s, opt_some, Res.bind_ok, noX_ok, asg_name, asg_tup, asgs_cons, asgs_nil, List.set_cons_succ, List.set_cons_zero, tru_bl, cmp_lt, cmp_le, cmp_gt, cmp_ge, cmp_eqI, cmp_neI, add_int, sub_int, neg_int, int_int, guardR_true, e0])]
  rw [evB_nx (ρ' := [some (.ref 0), some (.ref i), none, none, none]) (h' := h1) (by
    rw [evS_ite_f (h' := h1) (by
      simp only [evS_asg, evS_ret, evS_exp, evS_par, evT_eq, ev_var, ev_con, ev_gcon, ev_bin, ev_neg, ev_not, ev_bi, ev_ix, ev_call, ev_cmp, evs_cons, evs_nil, ev_tup1, ev_tup2, ev_tup3, ev_lst0, ev_lst1, new_eq, look_0, look_s, opt_some, Res.bind_ok, noX_ok, asg_name, asg_tup, asgs_cons, asgs_nil, List.set_cons_succ, List.set_cons_zero, tru_bl, cmp_lt, cmp_le, cmp_gt, cmp_ge, cmp_eqI, cmp_neI, add_int, sub_int, neg_int, int_int, guardR_true, e1]
      exact id rfl), evB_nil])]
  have it : evIt C (.rng (.cons (.con (.int 4)) .nil)) [some (.ref 0), some (.ref i), none, none, none] h1 = .ok ((List.range 4).map (fun (k : Nat) => .int (k : Int)), []) h1 := by
    simp only [evS_asg, evS_ret, evS_exp, evS_par, evT_eq, ev_var, ev_con, ev_gcon, ev_bin, ev_neg, ev_not, ev_bi, ev_ix, ev_call, ev_cmp, evs_cons, evs_nil, ev_tup1, ev_tup2, ev_tup3, ev_lst0, ev_lst1, new_eq, look_0, look_s, opt_some, Res.bind_ok, noX_ok, asg_name, asg_tup, asgs_cons, asgs_nil, List.set_cons_succ, List.set_cons_zero, tru_bl, cmp_lt, cmp_le, cmp_gt, cmp_ge, cmp_eqI, cmp_neI, add_int, sub_int, neg_int, int_int, guardR_true, evIt_rng]
    exact congrArg noX (rng_nat (n := 4) (by omega) h1)
  rw [evB_nx ((evS_fr_of it).trans e2)]
  rw [evB_nx (ρ' := [some (.ref 0), some (.ref i), v2, some (.int ((r + 1 : Nat) : Int)), none]) (h' := h3) (by
    simp only [evS_asg, evS_ret, evS_exp, evS_par, evT_eq, ev_var, ev_con, ev_gcon, ev_bin, ev_neg, ev_not, ev_bi, ev_ix, ev_call, ev_cmp, evs_cons, evs_nil, ev_tup1, ev_tup2, ev_tup3, ev_lst0, ev_lst1, new_eq, look_0, look_s, opt_some, Res.bind_ok, noX_ok, asg_name, asg_tup, asgs_cons, asgs_nil, List.set_cons_succ, List.set_cons_zero, tru_bl, cmp_lt, cmp_le, cmp_gt, cmp_ge, cmp_eqI, cmp_neI, add_int, sub_int, neg_int, int_int, guardR_true, e3]
    rw [show (1 : Int) + (r : Int) = ((r + 1 : Nat) : Int) by omega])]
  have tu : biV .tuple [.ref h3.length] (h3 ++ .lst ((dirs (r + 1)).map ofPr) :: g) = .ok (.tup ((dirs (r + 1)).map ofPr)) (h3 ++ .lst ((dirs (r + 1)).map ofPr) :: g) := tuple_at (getH_0 h3 g _)
  have c1' : C.call i__law_same [pCells (dirs (r + 1)), .tup ((dirs (r + 1)).map ofPr)] h3 = .ok (.bl true) h3 := c1
  have w2' : C.call i_directions_within [.int 2] h3 = .ok (pCells (dirs 2)) h3 := w2
  rw [evB_nx (ρ' := [some (.ref 0), some (.ref i), v2, some (.int ((r + 1 : Nat) : Int)), none]) (h' := h3) (by
    rw [evS_ite_f (h' := h3) (by
      simp only [evS_asg, evS_ret, evS_exp, evS_par, evT_eq, ev_var, ev_con, ev_gcon, ev_bin, ev_neg, ev_not, ev_bi, ev_ix, ev_call, ev_cmp, evs_cons, evs_nil, ev_tup1, ev_tup2, ev_tup3, ev_lst0, ev_lst1, new_eq, look_0, look_s, opt_some, Res.bind_ok, noX_ok, asg_name, asg_tup, asgs_cons, asgs_nil, List.set_cons_succ, List.set_cons_zero, tru_bl, cmp_lt, cmp_le, cmp_gt, cmp_ge, cmp_eqI, cmp_neI, add_int, sub_int, neg_int, int_int, guardR_true, ev_or2, ev_or1, w1, ev_tr, d1, tu, lo, trimH_app, if_true, c1', w2', hl2]
      exact id rfl), evB_nil])]
  rw [evB_nx (ρ' := [some (.ref 0), some (.ref i), v2, some (.int ((r + 1 : Nat) : Int)), some (.tup [.tup [.int 1, .int (-1)], .tup [.int 2, .int (-1)], .tup [.int 0, .int 1], .tup [.int 1, .int 4]])]) (h' := h3) (by
    simp only [evS_asg, evS_ret, evS_exp, evS_par, evT_eq, ev_var, ev_con, ev_gcon, ev_bin, ev_neg, ev_not, ev_bi, ev_ix, ev_call, ev_cmp, evs_cons, evs_nil, ev_tup1, ev_tup2, ev_tup3, ev_lst0, ev_lst1, new_eq, look_0, look_s, opt_some, Res.bind_ok, noX_ok, asg_name, asg_tup, asgs_cons, asgs_nil, List.set_cons_succ, List.set_cons_zero, tru_bl, cmp_lt, cmp_le, cmp_gt, cmp_ge, cmp_eqI, cmp_neI, add_int, sub_int, neg_int, int_int, guardR_true, ev_tup, List.length_cons, List.length_nil, s4', s2'])]
  have pm1 : ∀ x : PV, ([0].mapM fun i => ([] ++ [x])[i]?) = some [x] := fun x => by simp
  have pm2 : ∀ x y : PV, ([1, 0].mapM fun i => ([] ++ [x, y])[i]?) = some [y, x] := fun x y => by simp
  rw [evB_nx (ρ' := [some (.ref 0), some (.ref i), v2, some (.int ((r + 1 : Nat) : Int)), some (.tup [.tup [.int 1, .int (-1)], .tup [.int 2, .int (-1)], .tup [.int 0, .int 1], .tup [.int 1, .int 4]])]) (h' := h4) (by
    rw [evS_ite_f (h' := h4) (by
      simp only [evS_asg, evS_ret, evS_exp, evS_par, evT_eq, ev_var, ev_con, ev_gcon, ev_bin, ev_neg, ev_not, ev_bi, ev_ix, ev_call, ev_cmp, evs_cons, evs_nil, ev_tup1, ev_tup2, ev_tup3, ev_lst0, ev_lst1, new_eq, look_0, look_s, opt_some, Res.bind_ok, noX_ok, asg_name, asg_tup, asgs_cons, asgs_nil, List.set_cons_succ, List.set_cons_zero, tru_bl, cmp_lt, cmp_le, cmp_gt, cmp_ge, cmp_eqI, cmp_neI, add_int, sub_int, neg_int, int_int, guardR_true, ev_or2, ev_or1, e4', ev_callk, pm1, o1', ev_tup, List.length_cons, List.length_nil, s4', s2', c2']
      exact id rfl), evB_nil])]
  refine evB_rt ?_
  simp only [evS_asg, evS_ret, evS_exp, evS_par, evT_eq, ev_var, ev_con, ev_gcon, ev_bin, ev_neg, ev_not, ev_bi, ev_ix, ev_call, ev_cmp, evs_cons, evs_nil, ev_tup1, ev_tup2, ev_tup3, ev_lst0, ev_lst1, new_eq, look_0, look_s, opt_some, Res.bind_ok, noX_ok, asg_name, asg_tup, asgs_cons, asgs_nil, List.set_cons_succ, List.set_cons_zero, tru_bl, cmp_lt, cmp_le, cmp_gt, cmp_ge, cmp_eqI, cmp_neI, add_int, sub_int, neg_int, int_int, guardR_true, ev_and2, ev_and1, ev_callk, ev_tup, List.length_cons, List.length_nil, s1', s2', pm2, b1', c3', if_true, t1', c4]
theorem pure (ns : List Int) : ∃ h', callN (ds.map (·.fd)) 1000 20 i_law [.ref 0] [.fz ns] = .ok (.bl true) h' := by
  obtain ⟨h', e⟩ := y_law (l5C (show 7 ≤ 19 by omega)) ns
  refine ⟨trimH true [.fz ns] h', ?_⟩
  rw [call_of (d := f_law) rfl rfl]
  show ends [.fz ns] (evB (Ck 19) b_law [some (.ref 0), none, none, none, none] [.fz ns]) = _
  rw [e]
  simp only [ends_rt, lo_bl]
end K00

open PySem PySem.W PyProof.Rows
set_option Elab.async false
set_option maxRecDepth 100000 in
set_option maxHeartbeats 0 in
theorem PySem.Challenge.cw_columns_k00_directions_holds : PySem.Challenge.rw_columns_k00_directions.Holds := by
  w_on; o_law; k_head; (case hw => w_witness2)
  k_fill
  refine L2.walk_of (l := PySem.Challenge.rw_columns_k00_directions) (n := 63) (k := 20) (x := "script") (CX := fun w => L2N.CX PySem.Challenge.rw_columns_k00_directions.prog w) (sp := fun w => Pu.spLaw _) rfl (by decide) rfl ⟨rfl, by decide, by decide⟩ (fun w h Y => PySem.W.kIn_of Y) ?F (fun w H a ns hl hO hS => ⟨a, ns, rfl, hl, hO, hS, fun _ => rfl⟩) ?E
  case E =>
    intro w H s e s' h
    obtain ⟨_, _, _, _, _, _, _, _, _, _, _, _, z⟩ := h
    exact z
  case F =>
    intro w mg fa h KX G hmg
    have ok : Pu.modOk (cw_columns_k00_directions_holds.heap_39 w.params) K00.ds K00.cons K00.gcdN K00.mx = true := by kernel_rfl
    have nl : Pu.noList (cw_columns_k00_directions_holds.heap_39 w.params) = true := by kernel_rfl
    have ox : Pu.excsOk PySem.Challenge.rw_columns_k00_directions.prog (cw_columns_k00_directions_holds.heap_39 w.params) K00.mx = true := by kernel_rfl
    obtain ⟨fd, hb, hF⟩ := Pu.law_ok (P := PySem.Challenge.rw_columns_k00_directions.prog) (w := w) KX G ok nl (d := ⟨"law", ["script"], _, K00.f_law⟩) (i := K00.i_law) rfl rfl (fun ns _ => K00.pure ns) hmg ox
    exact ⟨fd, hb, fun base _ _ => hF base⟩

