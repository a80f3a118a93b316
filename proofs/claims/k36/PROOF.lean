import PyProof.Rows.All
import Wide.All
import OpenK.AllK
import Wide.FinOn
import HandS.ForMost
import HandS.TupMul
import HandS.TupAny
import HandS.IsInst
import HandS.Flow
import HandS.Wide
import KE.GoesEnum
import HandS.Iter
import KE.GoesMore
import HandS.Zip
import KE.DataEq
import HandS.Codes
import HandS.Style
import HandS.RaiseMore
import KE.OsMinMax
import KE.DataMinMax
import PyProof.MaxThree
import HandS.ExcOwn
import HandS.Dict
import HandS.Lambda
import HandS.Ends
import HandS.More
import HandS.Words
import HandS.WordsExc
import HandS.Defaults
import HandS.Head0
import HandS.Head1
import HandS.Head2
import HandS.HeadEnd
import HandS.HeadHook1
import HandS.HeadHook2
import KE.KStateDown
import PySem.Challenge.RW_penstrokes_k36_whole_least_sums_of_coupl
set_option Elab.async false
set_option linter.all false
set_option maxRecDepth 100000
namespace Pn
open PySem
open L2 (ixN atI)
open HT (sIx)

/-- values without aliases: what never changes -/
inductive PV where
  | non | bl (b : Bool) | int (i : Int) | str (s : Str) | tup (xs : List PV) | lst (xs : List PV) | dic (ks vs : List PV) | ty (n : String) | gl (x : Str) | scr (xs : List PV)
/-- what may change -/
inductive Cell where
  | lst (xs : List PV) | dk (kvs : List (L2.Key × PV)) | dt (kvs : List (List L2.Key × PV)) | dead
/-- what stands at a key -/
def valP {κ : Type} [DecidableEq κ] (kvs : List (κ × PV)) (k : κ) : Option PV := (kvs.find? fun kv => decide (kv.1 = k)).map (·.2)
def putP {κ : Type} [DecidableEq κ] (kvs : List (κ × PV)) (k : κ) (v : PV) : List (κ × PV) :=
  if (kvs.any fun kv => decide (kv.1 = k)) = true then kvs.map fun kv => if kv.1 = k then (kv.1, v) else kv else kvs ++ [(k, v)]
/-- a key of a dict: a number, a text; a tuple of such -/
def keyP : PV → Option L2.Key
  | .int i => some (.inl i)
  | .str s => some (.inr s)
  | _ => none
def keysL : List PV → Option (List L2.Key)
  | [] => some []
  | x :: xs => match keyP x, keysL xs with
    | some k, some ks => some (k :: ks)
    | _, _ => none
def keysP : PV → Option (List L2.Key)
  | .tup xs => keysL xs
  | _ => none
inductive Val where
  | pv (p : PV) | ref (n : Nat)
/-- a dict's value -/
def dget (c : Option Cell) (y : Val) : Option (Option PV) := match c, y with
  | some (.dk kvs), .pv p => (keyP p).map fun k => valP kvs k
  | some (.dt kvs), .pv p => (keysP p).map fun k => valP kvs k
  | _, _ => none
def dput (c : Option Cell) (y : Val) (v : PV) : Option Cell := match c, y with
  | some (.dk kvs), .pv p => match keyP p with
    | some k => if kvs.length < 16777216 then some (.dk (putP kvs k v)) else none
    | none => none
  | some (.dt kvs), .pv p => match keysP p with
    | some k => if kvs.length < 16777216 then some (.dt (putP kvs k v)) else none
    | none => none
  | _, _ => none
abbrev Mem := List Cell
abbrev Env := List (Option Val)
/-- an exception: its class by name, its own fields -/
structure Exc where
  cls : Str
  fs : List (Str × PV)
inductive Res (α : Type) where
  | ok (a : α) (m : Mem) | exc (e : Exc) (m : Mem) | bad
namespace Res
def bind {α β : Type} (r : Res α) (f : α → Mem → Res β) : Res β := match r with
  | ok a m => f a m
  | exc e m => exc e m
  | bad => bad
@[simp] theorem bind_ok {α β : Type} (a : α) (m : Mem) (f : α → Mem → Res β) : (ok a m).bind f = f a m := rfl
@[simp] theorem bind_exc {α β : Type} (e : Exc) (m : Mem) (f : α → Mem → Res β) : (exc e m : Res α).bind f = exc e m := rfl
@[simp] theorem bind_bad {α β : Type} (f : α → Mem → Res β) : (bad : Res α).bind f = bad := rfl
/-- a value that may be lacking -/
def of {α : Type} (o : Option α) (m : Mem) : Res α := match o with
  | some a => ok a m
  | none => bad
@[simp] theorem of_some {α : Type} (a : α) (m : Mem) : of (some a) m = ok a m := rfl
@[simp] theorem of_none {α : Type} (m : Mem) : of (none : Option α) m = bad := rfl
end Res
/-- what a call of a function gives -/
abbrev Phi := Str → List Val → Mem → Res Val
abbrev Den := Phi → Env → Mem → Res Val
abbrev TDen := Phi → Env → Mem → Res Bool
abbrev ADen := Phi → Env → Mem → Res (List Val)
inductive SRes where
  | next (ρ : Env) (m : Mem) | ret (v : Val) (m : Mem) | exc (e : Exc) (ρ : Env) (m : Mem) | bad
abbrev SDen := Phi → Env → Mem → SRes
def Res.stm {α : Type} (r : Res α) (ρ : Env) (f : α → Mem → SRes) : SRes := match r with
  | .ok a m => f a m
  | .exc e m => .exc e ρ m
  | .bad => .bad
@[simp] theorem Res.stm_ok {α : Type} (a : α) (m : Mem) (ρ : Env) (f : α → Mem → SRes) : (Res.ok a m).stm ρ f = f a m := rfl
@[simp] theorem Res.stm_exc {α : Type} (e : Exc) (m : Mem) (ρ : Env) (f : α → Mem → SRes) : (Res.exc e m : Res α).stm ρ f = .exc e ρ m := rfl
@[simp] theorem Res.stm_bad {α : Type} (ρ : Env) (f : α → Mem → SRes) : (Res.bad : Res α).stm ρ f = .bad := rfl
def SRes.thn (r : SRes) (f : Env → Mem → SRes) : SRes := match r with
  | .next ρ m => f ρ m
  | r => r
@[simp] theorem SRes.thn_next (ρ : Env) (m : Mem) (f : Env → Mem → SRes) : (SRes.next ρ m).thn f = f ρ m := rfl
@[simp] theorem SRes.thn_ret (v : Val) (m : Mem) (f : Env → Mem → SRes) : (SRes.ret v m).thn f = .ret v m := rfl
@[simp] theorem SRes.thn_exc (e : Exc) (ρ : Env) (m : Mem) (f : Env → Mem → SRes) : (SRes.exc e ρ m).thn f = .exc e ρ m := rfl
@[simp] theorem SRes.thn_bad (f : Env → Mem → SRes) : (SRes.bad).thn f = .bad := rfl

/-! ### values -/
/-- a list or a tuple: its items -/
def items (m : Mem) : Val → Option (List PV)
  | .pv (.tup xs) => some xs
  | .pv (.scr xs) => some xs
  | .pv (.lst xs) => some xs
  | .ref n => match m[n]? with
    | some (.lst xs) => some xs
    | _ => none
  | _ => none
/-- a list: its items -/
def litems (m : Mem) : Val → Option (List PV)
  | .pv (.lst xs) => some xs
  | .ref n => match m[n]? with
    | some (.lst xs) => some xs
    | _ => none
  | _ => none
def truth (m : Mem) : Val → Option Bool
  | .pv .non => some false
  | .pv (.bl b) => some b
  | .pv (.int i) => some (i != 0)
  | .pv (.str s) => if s.length ≤ 16777216 then some ((s.length : Int) != 0) else none
  | v => match items m v with
    | some xs => some (!xs.isEmpty)
    | none => none
def pvs : List Val → Option (List PV)
  | [] => some []
  | .pv p :: r => (pvs r).map (p :: ·)
  | _ :: _ => none
@[simp] theorem pvs_nil : pvs [] = some [] := rfl
@[simp] theorem pvs_cons (p : PV) (r : List Val) : pvs (.pv p :: r) = (pvs r).map (p :: ·) := rfl
def idx (m : Mem) (x y : Val) : Option Val := match x, y with
  | .pv (.str s), .pv (.int i) => if s.length ≤ 16777216 then (atI s.cps.toList i).map fun c => .pv (.str ⟨#[c]⟩) else none
  | v, y => match items m v with
    | some xs => match y with
      | .pv (.int i) => (atI xs i).map Val.pv
      | _ => none
    | none => match v with
      | .ref n => match dget m[n]? y with
        | some (some p) => some (.pv p)
        | _ => none
      | _ => none
def cut {α : Type} (xs : List α) (lo hi : Option Int) : List α := (xs.drop (sIx xs.length 0 lo)).take (sIx xs.length xs.length hi - sIx xs.length 0 lo)
def slc (m : Mem) (v : Val) (lo hi : Option Int) : Option Val := match v with
  | .pv (.tup xs) => some (.pv (.tup (cut xs lo hi)))
  | .pv (.lst xs) => some (.pv (.lst (cut xs lo hi)))
  | .pv (.str s) => if s.length ≤ 16777216 then some (.pv (.str (L2.cutS s lo hi))) else none
  | .ref n => match m[n]? with
    | some (.lst xs) => some (.pv (.lst (cut xs lo hi)))
    | _ => none
  | _ => none
inductive Bop where
  | add | sub | mul | fdiv | mod | pow
  deriving DecidableEq
def b2i (b : Bool) : Int := if b then 1 else 0
/-- an int, or a bool as one -/
def smallI (i : Int) : Bool := decide (-(2 ^ 64) < i) && decide (i < 2 ^ 64)
def addV (m : Mem) (x y : Val) : Option Val := match x, y with
  | .pv (.int i), .pv (.int j) => some (.pv (.int (i + j)))
  | .pv (.str s), .pv (.str t) => if s.length + t.length ≤ 16777216 then some (.pv (.str (s ++ t))) else none
  | .pv (.tup xs), .pv (.tup ys) => if xs.length + ys.length ≤ 16777216 then some (.pv (.tup (xs ++ ys))) else none
  | x, y => match litems m x, litems m y with
    | some xs, some ys => if xs.length + ys.length ≤ 16777216 then some (.pv (.lst (xs ++ ys))) else none
    | _, _ => none
def subV (x y : Val) : Option Val := match x, y with
  | .pv (.int i), .pv (.int j) => some (.pv (.int (i - j)))
  | .pv (.bl i), .pv (.bl j) => some (.pv (.int (b2i i - b2i j)))
  | _, _ => none
def mulV (x y : Val) : Option Val := match x, y with
  | .pv (.int i), .pv (.int j) => if smallI i || smallI j then some (.pv (.int (i * j))) else none
  | .pv (.tup xs), .pv (.int k) => if 0 ≤ k ∧ k ≤ 1000 ∧ xs.length ≤ 1000 then some (.pv (.tup (List.replicate k.toNat xs).flatten)) else none
  | .pv (.str z), .pv (.int k) => if 2 ≤ k ∧ k ≤ 1000 ∧ 1 ≤ z.length ∧ z.length ≤ 1000 then some (.pv (.str ⟨(List.replicate k.toNat z.cps).foldl (· ++ ·) #[]⟩)) else none
  | _, _ => none
def fdivV (x y : Val) : Option Val := match x, y with
  | .pv (.int i), .pv (.int j) => if 0 < j ∧ j < 1073741824 then some (.pv (.int (i / j))) else none
  | _, _ => none
def modV (x y : Val) : Option Val := match x, y with
  | .pv (.int i), .pv (.int j) => if 0 < j then some (.pv (.int (i % j))) else none
  | _, _ => none
def powV (x y : Val) : Option Val := match x, y with
  | .pv (.int i), .pv (.int j) => if 0 ≤ j ∧ j ≤ 1000000 ∧ smallI i then some (.pv (.int (i ^ j.toNat))) else none
  | _, _ => none
def bin (op : Bop) (m : Mem) (x y : Val) : Option Val := match op with
  | .add => addV m x y
  | .sub => subV x y
  | .mul => mulV x y
  | .fdiv => fdivV x y
  | .mod => modV x y
  | .pow => powV x y
end Pn

set_option Elab.async false
set_option linter.all false
set_option maxRecDepth 100000
namespace Pn
open PySem
open L2 (ixN atI)

/-! ### equality of data -/
mutual
def PV.toD : PV → PyData
  | .non => .none
  | .bl b => .bool b
  | .int i => .int i
  | .str s => .str s
  | .tup xs => .tuple (toDs xs)
  | .lst xs => .list (toDs xs)
  | _ => .none
def toDs : List PV → List PyData
  | [] => []
  | x :: xs => x.toD :: toDs xs
end
mutual
/-- data at most n deep -/
def PV.okD : Nat → PV → Bool
  | _, .non | _, .bl _ | _, .int _ | _, .str _ => true
  | n + 1, .tup xs => okDs n xs
  | n + 1, .lst xs => okDs n xs
  | _, _ => false
def okDs : Nat → List PV → Bool
  | _, [] => true
  | n, x :: xs => x.okD n && okDs n xs
end
mutual
def eqP : PV → PV → Bool
  | .non, .non => true
  | .bl a, .bl b => a == b
  | .bl a, .int j => (if a then 1 else 0) == j
  | .int i, .bl b => i == (if b then 1 else 0)
  | .int i, .int j => i == j
  | .str x, .str y => x == y
  | .lst xs, .lst ys => eqPs xs ys
  | .tup xs, .tup ys => eqPs xs ys
  | _, _ => false
def eqPs : List PV → List PV → Bool
  | [], [] => true
  | x :: xs, y :: ys => eqP x y && eqPs xs ys
  | _, _ => false
end
/-- the data of a value -/
def dat (m : Mem) : Val → Option PV
  | .pv p => some p
  | .ref n => match m[n]? with
    | some (.lst xs) => some (.lst xs)
    | _ => none
@[simp] theorem dat_pv (m : Mem) (p : PV) : dat m (.pv p) = some p := rfl
def eqV (m : Mem) (x y : Val) : Option Bool := match dat m x, dat m y with
  | some a, some b => if a.okD 60 = true ∧ b.okD 60 = true then some (eqP a b) else none
  | _, _ => none
inductive Cop where
  | eq | ne | lt | le | gt | ge | is | isnot | isin | notin
  deriving DecidableEq
def icmp (f : Int → Int → Bool) (x y : Val) : Option Val := match x, y with
  | .pv (.int i), .pv (.int j) => some (.pv (.bl (f i j)))
  | _, _ => none
def isNon : Val → Bool
  | .pv .non => true
  | _ => false
def isBl (b : Bool) : Val → Bool
  | .pv (.bl c) => c == b
  | _ => false
/-- no cell that is no more -/
def alive (m : Mem) : Val → Bool
  | .ref n => match m[n]? with
    | some .dead => false
    | some _ => true
    | none => false
  | .pv _ => true
def isV (m : Mem) (x y : Val) : Option Bool := if alive m x = true then match y with
    | .pv .non => some (isNon x)
    | .pv (.bl b) => some (isBl b x)
    | _ => none
  else none
@[simp] theorem alive_pv (m : Mem) (p : PV) : alive m (.pv p) = true := rfl
/-- x in y: a sign in a text, data in a list or a tuple -/
def inV (m : Mem) (x y : Val) : Option Bool := match x, y with
  | .pv (.str s), .pv (.str t) => match s.cps.toList with
    | [c] => some (decide (c ∈ t.cps.toList))
    | _ => none
  | x, y => match dat m x, dat m y with
    | some a, some (.lst ys) => if a.okD 60 = true ∧ okDs 60 ys = true then some (ys.any fun z => eqP z a) else none
    | some a, some (.tup ys) => if a.okD 60 = true ∧ okDs 60 ys = true then some (ys.any fun z => eqP z a) else none
    | _, none => match y with
      | .ref n => (dget m[n]? x).map (·.isSome)
      | _ => none
    | _, _ => none
def slt (x y : Val) : Option Val := match x, y with
  | .pv (.str s), .pv (.str t) => some (.pv (.bl (decide (s.cps.toList < t.cps.toList))))
  | x, y => icmp (fun i j => decide (i < j)) x y
def cmp (op : Cop) (m : Mem) (x y : Val) : Option Val := match op with
  | .lt => slt x y
  | .le => icmp (fun i j => decide (i ≤ j)) x y
  | .gt => icmp (fun i j => decide (j < i)) x y
  | .ge => icmp (fun i j => decide (j ≤ i)) x y
  | .eq => (eqV m x y).map fun b => .pv (.bl b)
  | .ne => (eqV m x y).map fun b => .pv (.bl (!b))
  | .is => (isV m x y).map fun b => .pv (.bl b)
  | .isnot => (isV m x y).map fun b => .pv (.bl (!b))
  | .isin => (inV m x y).map fun b => .pv (.bl b)
  | .notin => (inV m x y).map fun b => .pv (.bl (!b))

/-! ### expressions -/
def cVar (i : Nat) : Den := fun _ ρ m => match ρ[i]? with
  | some (some v) => .ok v m
  | _ => .bad
def cC (p : PV) : Den := fun _ _ m => .ok (.pv p) m
def cBad : Den := fun _ _ _ => .bad
def aNil : ADen := fun _ _ m => .ok [] m
def aCons (d : Den) (r : ADen) : ADen := fun φ ρ m => (d φ ρ m).bind fun v m => (r φ ρ m).bind fun vs m => .ok (v :: vs) m
def cTup (a : ADen) : Den := fun φ ρ m => (a φ ρ m).bind fun vs m => match pvs vs with
  | some ps => if ps.length ≤ 16777216 then .ok (.pv (.tup ps)) m else .bad
  | none => .bad
def cLst (a : ADen) : Den := fun φ ρ m => (a φ ρ m).bind fun vs m => match pvs vs with
  | some ps => if ps.length ≤ 16777216 then .ok (.pv (.lst ps)) m else .bad
  | none => .bad
/-- a new list that may change -/
def cNew (a : ADen) : Den := fun φ ρ m => (a φ ρ m).bind fun vs m => match pvs vs with
  | some ps => if ps.length ≤ 16777216 then .ok (.ref m.length) (m ++ [.lst ps]) else .bad
  | none => .bad
def cBin (op : Bop) (a b : Den) : Den := fun φ ρ m => (a φ ρ m).bind fun x m => (b φ ρ m).bind fun y m => .of (bin op m x y) m
def cCmp (op : Cop) (a b : Den) : Den := fun φ ρ m => (a φ ρ m).bind fun x m => (b φ ρ m).bind fun y m => .of (cmp op m x y) m
def cChain (o1 o2 : Cop) (a b c : Den) : Den := fun φ ρ m => (a φ ρ m).bind fun x m => (b φ ρ m).bind fun y m => match cmp o1 m x y with
  | some (.pv (.bl true)) => (c φ ρ m).bind fun z m => .of (cmp o2 m y z) m
  | some (.pv (.bl false)) => .ok (.pv (.bl false)) m
  | _ => .bad
def cNeg (a : Den) : Den := fun φ ρ m => (a φ ρ m).bind fun x m => match x with
  | .pv (.int i) => .ok (.pv (.int (-i))) m
  | _ => .bad
def tTru (a : Den) : TDen := fun φ ρ m => (a φ ρ m).bind fun x m => .of (truth m x) m
def cNot (a : Den) : Den := fun φ ρ m => (a φ ρ m).bind fun x m => .of ((truth m x).map fun b => .pv (.bl (!b))) m
def cAnd (a b : Den) : Den := fun φ ρ m => (a φ ρ m).bind fun x m => match truth m x with
  | some true => b φ ρ m
  | some false => .ok x m
  | none => .bad
def cOr (a b : Den) : Den := fun φ ρ m => (a φ ρ m).bind fun x m => match truth m x with
  | some true => .ok x m
  | some false => b φ ρ m
  | none => .bad
def tAnd (a b : TDen) : TDen := fun φ ρ m => (a φ ρ m).bind fun x m => if x then b φ ρ m else .ok false m
def tOr (a b : TDen) : TDen := fun φ ρ m => (a φ ρ m).bind fun x m => if x then .ok true m else b φ ρ m
def tNot (a : TDen) : TDen := fun φ ρ m => (a φ ρ m).bind fun x m => .ok (!x) m
def cIf (t : TDen) (a b : Den) : Den := fun φ ρ m => (t φ ρ m).bind fun x m => if x then a φ ρ m else b φ ρ m
def cIdx (a b : Den) : Den := fun φ ρ m => (a φ ρ m).bind fun x m => (b φ ρ m).bind fun y m => .of (idx m x y) m
abbrev ODen := Phi → Env → Mem → Res (Option Int)
def oNone : ODen := fun _ _ m => .ok none m
def oSome (d : Den) : ODen := fun φ ρ m => (d φ ρ m).bind fun x m => match x with
  | .pv (.int i) => .ok (some i) m
  | _ => .bad
def cSlc (a : Den) (lo hi : ODen) : Den := fun φ ρ m => (a φ ρ m).bind fun x m => (lo φ ρ m).bind fun l m => (hi φ ρ m).bind fun h m => .of (slc m x l h) m
/-- x[::-1] -/
def cRev (a : Den) : Den := fun φ ρ m => (a φ ρ m).bind fun x m => match x with
  | .pv (.tup xs) => .ok (.pv (.tup xs.reverse)) m
  | .pv (.lst xs) => .ok (.pv (.lst xs.reverse)) m
  | x => match litems m x with
    | some xs => .ok (.pv (.lst xs.reverse)) m
    | none => .bad
def cCall (f : Str) (a : ADen) : Den := fun φ ρ m => (a φ ρ m).bind fun vs m => φ f vs m
/-- a built-in function that changes nothing -/
def cB (f : Mem → List Val → Option Val) (a : ADen) : Den := fun φ ρ m => (a φ ρ m).bind fun vs m => .of (f m vs) m

/-! ### built-in functions -/
def intsOf : List PV → Option (List Int)
  | [] => some []
  | .int i :: r => (intsOf r).map (i :: ·)
  | _ :: _ => none
def blsOf : List PV → Option (List Bool)
  | [] => some []
  | .bl b :: r => (blsOf r).map (b :: ·)
  | _ :: _ => none
def kind (m : Mem) : Val → Option String
  | .pv .non => some "NoneType"
  | .pv (.bl _) => some "bool"
  | .pv (.int _) => some "int"
  | .pv (.str _) => some "str"
  | .pv (.tup _) => some "tuple"
  | .pv (.lst _) => some "list"
  | .ref n => match m[n]? with
    | some (.lst _) => some "list"
    | _ => none
  | _ => none
def isTypes : List String := ["int", "bool", "str", "tuple", "list", "dict"]
def isSub (k t : String) : Bool := k == t || (k == "bool" && t == "int")
abbrev BFn := Mem → List Val → Option Val
def bAbs : BFn
  | _, [.pv (.int i)] => some (.pv (.int (if i < 0 then -i else i)))
  | _, _ => none
def bLen : BFn
  | _, [.pv (.str s)] => if s.length ≤ 16777216 then some (.pv (.int s.length)) else none
  | m, [v] => (items m v).map fun xs => .pv (.int xs.length)
  | _, _ => none
def bInt : BFn
  | _, [.pv (.int i)] => some (.pv (.int i))
  | _, [.pv (.bl b)] => some (.pv (.int (b2i b)))
  | _, _ => none
def bStr : BFn
  | _, [.pv (.int i)] => if i.natAbs.log2 < 1920 then some (.pv (.str (toString i))) else none
  | _, [.pv (.str s)] => some (.pv (.str s))
  | _, _ => none
def bMax2 : BFn
  | _, [.pv (.int i), .pv (.int j)] => some (.pv (.int (max i j)))
  | _, _ => none
def bMin2 : BFn
  | _, [.pv (.int i), .pv (.int j)] => some (.pv (.int (min i j)))
  | _, _ => none
def bMax4 : BFn
  | _, [.pv (.int i), .pv (.int j), .pv (.int k), .pv (.int l)] => some (.pv (.int (max (max (max i j) k) l)))
  | _, _ => none
def bSum : BFn
  | m, [v] => ((litems m v).bind intsOf).map fun ns => .pv (.int ns.sum)
  | _, _ => none
def bAll : BFn
  | m, [v] => ((litems m v).bind blsOf).map fun ns => .pv (.bl (ns.all id))
  | _, _ => none
def bAny : BFn
  | m, [v] => ((litems m v).bind blsOf).map fun ns => .pv (.bl (ns.any id))
  | _, _ => none
def bTup : BFn
  | m, [v] => (items m v).map fun xs => .pv (.tup xs)
  | _, _ => none
def bLst : BFn
  | m, [v] => (items m v).map fun xs => .pv (.lst xs)
  | _, _ => none
def leastI : List Int → Option Int
  | [] => none
  | x :: xs => some (xs.foldl min x)
def mostI : List Int → Option Int
  | [] => none
  | x :: xs => some (xs.foldl max x)
def bMin1 : BFn
  | m, [v] => (((litems m v).bind intsOf).bind leastI).map fun n => .pv (.int n)
  | _, _ => none
def bMax1 : BFn
  | m, [v] => (((litems m v).bind intsOf).bind mostI).map fun n => .pv (.int n)
  | _, _ => none
def bIsi : BFn
  | m, [x, .pv (.ty t)] => if t ∈ isTypes then (kind m x).map fun k => .pv (.bl (isSub k t)) else none
  | _, _ => none

/-! ### targets -/
inductive Tgt where
  | name (i : Nat) | tup (ts : List Tgt)
mutual
def asgn : Tgt → PV → Env → Option Env
  | .name i, p, ρ => some (ρ.set i (some (.pv p)))
  | .tup ts, .tup xs, ρ => asgns ts xs ρ
  | .tup ts, .lst xs, ρ => asgns ts xs ρ
  | _, _, _ => none
def asgns : List Tgt → List PV → Env → Option Env
  | [], [], ρ => some ρ
  | t :: ts, x :: xs, ρ => (asgn t x ρ).bind fun ρ => asgns ts xs ρ
  | _, _, _ => none
end

/-! ### what is walked -/
abbrev Gd := List (Nat × Cell)
def gOk (g : Gd) (m : Mem) : Prop := ∀ p ∈ g, m[p.1]? = some p.2
open Classical in
noncomputable instance gDec : (g : Gd) → (m : Mem) → Decidable (gOk g m)
  | [], _ => isTrue fun _ h => by cases h
  | _ :: _, _ => Classical.propDecidable _
@[simp] theorem gOk_nil (m : Mem) : gOk [] m = True := eq_true fun _ h => by cases h
abbrev IDen := Phi → Env → Mem → Res (List PV × Gd)
/-- a text, sign by sign -/
def chrs (z : Str) : List PV := z.cps.toList.map fun c => .str ⟨#[c]⟩
/-- a sequence's items, and what must stay -/
def iOf (m : Mem) : Val → Option (List PV × Gd)
  | .pv (.tup xs) => some (xs, [])
  | .pv (.str z) => some (chrs z, [])
  | .pv (.lst xs) => some (xs, [])
  | .ref n => match m[n]? with
    | some (.lst xs) => some (xs, [(n, .lst xs)])
    | _ => none
  | _ => none
def iSeq (d : Den) : IDen := fun φ ρ m => (d φ ρ m).bind fun x m => .of (iOf m x) m
def rngP (a : Int) (n : Nat) : List PV := (List.range n).map fun (i : Nat) => .int (a + i)
def iB (f : Mem → List Val → Option (List PV × Gd)) (a : ADen) : IDen := fun φ ρ m => (a φ ρ m).bind fun vs m => .of (f m vs) m
def rngB1 : Mem → List Val → Option (List PV × Gd)
  | _, [.pv (.int j)] => if -(2 ^ 62) ≤ j ∧ j < 2 ^ 62 then some (rngP 0 j.toNat, []) else none
  | _, _ => none
def rngB2 : Mem → List Val → Option (List PV × Gd)
  | _, [.pv (.int i), .pv (.int j)] => if -(2 ^ 62) ≤ i ∧ i < 2 ^ 62 ∧ -(2 ^ 62) ≤ j ∧ j < 2 ^ 62 then some (rngP i (j - i).toNat, []) else none
  | _, _ => none
def zipP (xs ys : List PV) : List PV := List.zipWith (fun x y => .tup [x, y]) xs ys
def zipB : Mem → List Val → Option (List PV × Gd)
  | _, [.pv (.tup xs), .pv (.tup ys)] => some (zipP xs ys, [])
  | m, [.pv (.tup xs), y] => match litems m y, iOf m y with
    | some ys, some (_, g) => some (zipP xs ys, g)
    | _, _ => none
  | m, [x, .pv (.tup ys)] => match litems m x, iOf m x with
    | some xs, some (_, g) => some (zipP xs ys, g)
    | _, _ => none
  | m, [x, y] => match litems m x, litems m y, iOf m x, iOf m y with
    | some xs, some ys, some (_, g), some (_, g') => some (zipP xs ys, g ++ g')
    | _, _, _, _ => none
  | _, _ => none
def enumP (xs : List PV) : List PV := zipP (rngP 0 xs.length) xs
def enumB : Mem → List Val → Option (List PV × Gd)
  | _, [.pv (.tup xs)] => some (enumP xs, [])
  | m, [x] => match litems m x, iOf m x with
    | some xs, some (_, g) => some (enumP xs, g)
    | _, _ => none
  | _, _ => none

/-! ### comprehensions -/
def wipe (ρ : Env) : List Nat → Env
  | [] => ρ
  | v :: vs => (wipe ρ vs).set v none
/-- over the items, what each adds -/
noncomputable def lcL (f : PV → Mem → Res (List PV)) (g : Gd) : List PV → Mem → Res (List PV)
  | [], m => if gOk g m then .ok [] m else .bad
  | x :: xs, m => if gOk g m then (f x m).bind fun c m => (lcL f g xs m).bind fun ys m => .ok (c ++ ys) m else .bad
def Res.nox {α : Type} (r : Res α) : Res α := match r with
  | .exc _ _ => .bad
  | r => r
@[simp] theorem Res.nox_ok {α : Type} (a : α) (m : Mem) : (Res.ok a m).nox = .ok a m := rfl
@[simp] theorem Res.nox_exc {α : Type} (e : Exc) (m : Mem) : (Res.exc e m : Res α).nox = .bad := rfl
@[simp] theorem Res.nox_bad {α : Type} : (Res.bad : Res α).nox = .bad := rfl
/-- one item: the tests, the element -/
def lcOne (tg : Tgt) (t : TDen) (elt : Den) (φ : Phi) (ρ : Env) (x : PV) (m : Mem) : Res (List PV) := match asgn tg x ρ with
  | none => .bad
  | some ρ => (t φ ρ m).nox.bind fun b m => if b then (elt φ ρ m).nox.bind fun v m => match v with
      | .pv y => .ok [y] m
      | _ => .bad
    else .ok [] m
def tYes : TDen := fun _ _ m => .ok true m
def lcEnd (nw : Bool) (ys : List PV) (m : Mem) : Res Val := if nw then .ok (.ref m.length) (m ++ [.lst ys]) else .ok (.pv (.lst ys)) m
noncomputable def cLc (nw : Bool) (own : List Nat) (it : IDen) (tg : Tgt) (t : TDen) (elt : Den) : Den := fun φ ρ m =>
  (it φ ρ m).bind fun xg m => if xg.1.length < 16777216 then (lcL (lcOne tg t elt φ (wipe ρ own)) xg.2 xg.1 m).bind fun ys m => lcEnd nw ys m else .bad

/-! ### statements -/
def sPass : SDen := fun _ ρ m => .next ρ m
def sBad : SDen := fun _ _ _ => .bad
def sSeq (a b : SDen) : SDen := fun φ ρ m => (a φ ρ m).thn fun ρ m => b φ ρ m
def sSet (i : Nat) (d : Den) : SDen := fun φ ρ m => (d φ ρ m).stm ρ fun v m => .next (ρ.set i (some v)) m
def sTup (ts : List Tgt) (d : Den) : SDen := fun φ ρ m => (d φ ρ m).stm ρ fun v m => match v with
  | .pv p => match asgn (.tup ts) p ρ with
    | some ρ => .next ρ m
    | none => .bad
  | _ => .bad
def sets : List Nat → List Val → Env → Option Env
  | [], [], ρ => some ρ
  | i :: is, v :: vs, ρ => sets is vs (ρ.set i (some v))
  | _, _, _ => none
/-- a, b = x, y -/
def sPar (is : List Nat) (a : ADen) : SDen := fun φ ρ m => (a φ ρ m).stm ρ fun vs m => match sets is vs ρ with
  | some ρ => .next ρ m
  | none => .bad
/-- xs[i] = e of a list that may change, d[k] = e of a dict -/
def putC (c : Option Cell) (k : Val) (p : PV) : Option Cell := match c, k with
  | some (.lst xs), .pv (.int j) => match ixN xs.length j with
    | some j => some (.lst (xs.set j p))
    | none => none
  | c, k => dput c k p
def putV (m : Mem) (n : Nat) (k : Val) (p : PV) : Option Cell := putC m[n]? k p
def sPut (o i d : Den) : SDen := fun φ ρ m => (d φ ρ m).stm ρ fun v m => (o φ ρ m).stm ρ fun x m => (i φ ρ m).stm ρ fun k m => match v, x with
  | .pv p, .ref n => match putV m n k p with
    | some c => .next ρ (m.set n c)
    | none => .bad
  | _, _ => .bad
/-- {} -/
def cDct (t : Bool) : Den := fun _ _ m => .ok (.ref m.length) (m ++ [if t then .dt [] else .dk []])
def sExp (d : Den) : SDen := fun φ ρ m => (d φ ρ m).stm ρ fun _ m => .next ρ m
def sRet (d : Den) : SDen := fun φ ρ m => (d φ ρ m).stm ρ fun v m => .ret v m
/-- return of a list of one's own: it changes no more -/
def sRetF (d : Den) : SDen := fun φ ρ m => (d φ ρ m).stm ρ fun v m => match v with
  | .ref n => match m[n]? with
    | some (.lst xs) => .ret (.pv (.lst xs)) (m.set n .dead)
    | _ => .bad
  | v => .ret v m
def sIf (t : TDen) (a b : SDen) : SDen := fun φ ρ m => (t φ ρ m).stm ρ fun x m => if x then a φ ρ m else b φ ρ m
noncomputable def forL (tg : Tgt) (body : Env → Mem → SRes) (g : Gd) : List PV → Env → Mem → SRes
  | [], ρ, m => if gOk g m then .next ρ m else .bad
  | x :: xs, ρ, m => if gOk g m then match asgn tg x ρ with
      | some ρ => (body ρ m).thn (forL tg body g xs)
      | none => .bad
    else .bad
noncomputable def sFor (tg : Tgt) (it : IDen) (body : SDen) : SDen := fun φ ρ m => (it φ ρ m).stm ρ fun xg m => forL tg (body φ) xg.2 xg.1 ρ m
def whileL (c : Env → Mem → Res Bool) (body : Env → Mem → SRes) : Nat → Env → Mem → SRes
  | 0, _, _ => .bad
  | n + 1, ρ, m => (c ρ m).stm ρ fun b m => if b then (body ρ m).thn (whileL c body n) else .next ρ m
open Classical in
noncomputable def whileR (c : Env → Mem → Res Bool) (body : Env → Mem → SRes) (ρ : Env) (m : Mem) : SRes := if h : ∃ n, whileL c body n ρ m ≠ .bad then whileL c body h.choose ρ m else .bad
noncomputable def sWhile (c : TDen) (body : SDen) : SDen := fun φ ρ m => whileR (c φ) (body φ) ρ m

/-! ### functions -/
structure FnD where
  slots : Nat
  params : Nat
  body : SDen
def start (n : Nat) (vs : List Val) : Env := vs.map some ++ List.replicate (n - vs.length) none
/-- behind a body: what it made goes, but for what it hands back -/
def fin (k : Nat) : SRes → Res Val
  | .next _ m => .ok (.pv .non) (m.take k)
  | .ret (.pv p) m => .ok (.pv p) (m.take k)
  | .ret (.ref n) m => if n < k then .ok (.ref n) (m.take k) else match m[n]? with
    | some c => .ok (.ref k) (m.take k ++ [c])
    | none => .bad
  | .exc e _ m => .exc e (m.take k)
  | .bad => .bad
abbrev Tbl := Str → Option FnD
def phi (T : Tbl) : Nat → Phi
  | 0, _, _, _ => .bad
  | n + 1, f, vs, m => match T f with
    | some fd => if vs.length = fd.params then fin m.length (fd.body (phi T n) (start fd.slots vs) m) else .bad
    | none => .bad
end Pn

set_option Elab.async false
set_option linter.all false
set_option maxRecDepth 100000
set_option autoImplicit false
namespace Pn
open PySem PySem.Spec L2

/-- where the cells stand (a cell that is no more: none); what else may change -/
structure Sg where
  L : List (Option Addr)
  Z : List Addr
def Sg.av (S : Sg) (a : Addr) : Prop := some a ∈ S.L ∨ a ∈ S.Z

section
variable (K : PySem.W.Frag) (mg : Str → Option Value)
def KTup (a : Addr) (vs : List V) : Prop := ∃ (o : Obj) (its : Array Value) (n : Nat), K.lookup a = some o ∧ o.cls = .type "tuple" ∧ o.data = .seq its n ∧ its.size ≤ sizeLine ∧ Vals vs its.toList
def TupAt (H : Hp) (S : Sg) (a : Addr) (vs : List V) : Prop := H a = some (.tup vs) ∧ ¬ S.av a
def ScrAt (H : Hp) (S : Sg) (a : Addr) (vs : List V) : Prop := (Rd H a (.lst vs) ∧ ¬ S.av a) ∨ ∃ (o : Obj) (its : Array Value) (n : Nat), K.lookup a = some o ∧ o.cls = .type "list" ∧ o.dict = none ∧ o.data = .seq its n ∧ its.size ≤ sizeLine ∧ Vals vs its.toList
def LstAt (H : Hp) (S : Sg) (a : Addr) (vs : List V) : Prop := Rd H a (.lst vs) ∧ ¬ S.av a
mutual
/-- a value of ours is that of the layer -/
inductive RP (H : Hp) (S : Sg) : PV → V → Prop
  | non : RP H S .non .non
  | bl (b : Bool) : RP H S (.bl b) (.bl b)
  | int (i : Int) : RP H S (.int i) (.int i)
  | str (s : Str) : RP H S (.str s) (.str s)
  | ty (n : String) : RP H S (.ty n) (.ty n)
  | gl {x : Str} {a : Addr} (h : mg x = some (.ref a)) : RP H S (.gl x) (.ref a)
  | tup {xs : List PV} {vs : List V} {a : Addr} (h : TupAt H S a vs) (r : RPs H S xs vs) : RP H S (.tup xs) (.ref a)
  | lst {xs : List PV} {vs : List V} {a : Addr} (h : LstAt H S a vs) (r : RPs H S xs vs) : RP H S (.lst xs) (.ref a)
  | scr {xs : List PV} {vs : List V} {a : Addr} (h : ScrAt K H S a vs) (r : RPs H S xs vs) : RP H S (.scr xs) (.ref a)
inductive RPs (H : Hp) (S : Sg) : List PV → List V → Prop
  | nil : RPs H S [] []
  | cons {x : PV} {xs : List PV} {v : V} {vs : List V} (r : RP H S x v) (t : RPs H S xs vs) : RPs H S (x :: xs) (v :: vs)
end
def RV (H : Hp) (S : Sg) (x : Val) (v : V) : Prop := match x with
  | .pv p => RP K mg H S p v
  | .ref n => ∃ o, S.L[n]? = some o ∧ ∀ a, o = some a → v = .ref a
inductive RVs (H : Hp) (S : Sg) : List Val → List V → Prop
  | nil : RVs H S [] []
  | cons {x : Val} {xs : List Val} {v : V} {vs : List V} (r : RV K mg H S x v) (t : RVs H S xs vs) : RVs H S (x :: xs) (v :: vs)
def RKs {κ : Type} (H : Hp) (S : Sg) (kvs : List (κ × PV)) (ws : List (κ × V)) : Prop := kvs.map (·.1) = ws.map (·.1) ∧ RPs K mg H S (kvs.map (·.2)) (ws.map (·.2))
def COk (H : Hp) (S : Sg) (a : Addr) : Cell → Prop
  | .lst xs => ∃ vs, H a = some (.lst vs) ∧ RPs K mg H S xs vs
  | .dk kvs => ∃ ws, H a = some (.dK ws) ∧ RKs K mg H S kvs ws
  | .dt kvs => ∃ ws, H a = some (.dT ws) ∧ RKs K mg H S kvs ws
  | .dead => False
structure RM (H : Hp) (S : Sg) (m : Mem) : Prop where
  len : S.L.length = m.length
  at_ : ∀ (n : Nat) (a : Addr), S.L[n]? = some (some a) → a ∉ S.Z ∧ ∃ c, m[n]? = some c ∧ COk K mg H S a c
  inj : ∀ (i j : Nat) (a : Addr), S.L[i]? = some (some a) → S.L[j]? = some (some a) → i = j
  dead : ∀ (n : Nat), S.L[n]? = some none → m[n]? = some .dead
  zs : ∀ z ∈ S.Z, ∃ o, H z = some o
structure RE (H : Hp) (S : Sg) (ρ : Env) (σ : L2.St) : Prop where
  len : ρ.length = σ.length
  at_ : ∀ (i : Nat) (x : Val), ρ[i]? = some (some x) → ∃ v, σ[i]? = some (some v) ∧ RV K mg H S x v
structure Ext (H : Hp) (S : Sg) (H' : Hp) (S' : Sg) : Prop where
  keep : ∀ a o, H a = some o → some a ∉ S.L → H' a = some o ∧ some a ∉ S'.L
  z : S'.Z = S.Z
  cells : ∀ (n : Nat) (o : Option Addr), S.L[n]? = some o → ∃ o', S'.L[n]? = some o' ∧ (o' = o ∨ o' = none)
/-- .. where what stands in Z may change too -/
structure Exw (H : Hp) (S : Sg) (H' : Hp) (S' : Sg) : Prop where
  keep : ∀ a o, H a = some o → ¬ S.av a → H' a = some o ∧ ¬ S'.av a
  cells : ∀ (n : Nat) (o : Option Addr), S.L[n]? = some o → ∃ o', S'.L[n]? = some o' ∧ (o' = o ∨ o' = none)
structure Exk (H : Hp) (S : Sg) (H' : Hp) (S' : Sg) : Prop where
  keep : ∀ a o, H a = some o → ¬ S.av a → H' a = some o ∧ ¬ S'.av a
def RX (H : Hp) (S : Sg) (e : Exc) (c : Value) (d : Option Addr) : Prop :=
  ∃ a, mg e.cls = some (.ref a) ∧ c = .ref a ∧ (e.fs = [] ∨ ∃ dd vs, d = some dd ∧ H dd = some (.xd vs) ∧ vs.map (·.1) = e.fs.map (·.1) ∧ RPs K mg H S (e.fs.map (·.2)) (vs.map (·.2)))
end

section
variable {K : PySem.W.Frag} {mg : Str → Option Value} {H H' H2 : Hp} {S S' S2 : Sg}
theorem Ext.refl : Ext H S H S := ⟨fun _ _ h n => ⟨h, n⟩, rfl, fun _ o h => ⟨o, h, .inl rfl⟩⟩
theorem Ext.trans (a : Ext H S H' S') (b : Ext H' S' H2 S2) : Ext H S H2 S2 where
  keep := fun x o h n => let ⟨h1, n1⟩ := a.keep x o h n; b.keep x o h1 n1
  z := b.z.trans a.z
  cells := fun n o h => by
    obtain ⟨o1, h1, c1⟩ := a.cells n o h
    obtain ⟨o2, h2, c2⟩ := b.cells n o1 h1
    refine ⟨o2, h2, ?_⟩
    rcases c2 with rfl | rfl
    · exact c1
    · exact .inr rfl
theorem Ext.w (e : Ext H S H' S') : Exw H S H' S' where
  keep := fun a o h n => let ⟨h1, h2⟩ := e.keep a o h fun z => n (.inl z); ⟨h1, fun z => z.elim h2 fun z => n (.inr (e.z ▸ z))⟩
  cells := e.cells
theorem Exk.rd {u : HO} {a : Addr} (e : Exk H S H' S') (h : Rd H a u) (n : ¬ S.av a) : Rd H' a u ∧ ¬ S'.av a := by
  rcases h with h | ⟨o, h⟩
  · obtain ⟨h1, h2⟩ := e.keep a _ h n
    exact ⟨.inl h1, h2⟩
  · obtain ⟨h1, h2⟩ := e.keep a _ h n
    exact ⟨.inr ⟨o, h1⟩, h2⟩
theorem Exk.tup {a : Addr} {vs : List V} (e : Exk H S H' S') (h : TupAt H S a vs) : TupAt H' S' a vs := e.keep a _ h.1 h.2
theorem Exk.scr {a : Addr} {vs : List V} (e : Exk H S H' S') (h : ScrAt K H S a vs) : ScrAt K H' S' a vs := by
  rcases h with ⟨h, n⟩ | h
  · exact .inl (e.rd h n)
  · exact .inr h
theorem Exk.lst {a : Addr} {vs : List V} (e : Exk H S H' S') (h : LstAt H S a vs) : LstAt H' S' a vs := e.rd h.1 h.2
mutual
theorem Exk.rp (e : Exk H S H' S') : ∀ {p : PV} {v : V}, RP K mg H S p v → RP K mg H' S' p v
  | _, _, .non => .non
  | _, _, .bl b => .bl b
  | _, _, .int i => .int i
  | _, _, .str s => .str s
  | _, _, .ty n => .ty n
  | _, _, .gl h => .gl h
  | _, _, .tup h r => .tup (e.tup h) (Exk.rps e r)
  | _, _, .lst h r => .lst (e.lst h) (Exk.rps e r)
  | _, _, .scr h r => .scr (e.scr h) (Exk.rps e r)
theorem Exk.rps (e : Exk H S H' S') : ∀ {xs : List PV} {vs : List V}, RPs K mg H S xs vs → RPs K mg H' S' xs vs
  | _, _, .nil => .nil
  | _, _, .cons r t => .cons (Exk.rp e r) (Exk.rps e t)
end
theorem Exw.k (e : Exw H S H' S') : Exk H S H' S' := ⟨e.keep⟩
theorem Exw.rd {u : HO} {a : Addr} (e : Exw H S H' S') (h : Rd H a u) (n : ¬ S.av a) : Rd H' a u ∧ ¬ S'.av a := e.k.rd h n
theorem Exw.tup {a : Addr} {vs : List V} (e : Exw H S H' S') (h : TupAt H S a vs) : TupAt H' S' a vs := e.k.tup h
theorem Exw.scr {a : Addr} {vs : List V} (e : Exw H S H' S') (h : ScrAt K H S a vs) : ScrAt K H' S' a vs := e.k.scr h
theorem Exw.lst {a : Addr} {vs : List V} (e : Exw H S H' S') (h : LstAt H S a vs) : LstAt H' S' a vs := e.k.lst h
theorem Exw.rp (e : Exw H S H' S') {p : PV} {v : V} (r : RP K mg H S p v) : RP K mg H' S' p v := e.k.rp r
theorem Exw.rps (e : Exw H S H' S') {xs : List PV} {vs : List V} (r : RPs K mg H S xs vs) : RPs K mg H' S' xs vs := e.k.rps r
theorem Exw.rv (e : Exw H S H' S') {x : Val} {v : V} (r : RV K mg H S x v) : RV K mg H' S' x v := by
  cases x with
  | pv p => exact e.rp r
  | ref n =>
    obtain ⟨o, h, q⟩ := r
    obtain ⟨o', h', c⟩ := e.cells n o h
    refine ⟨o', h', fun a z => ?_⟩
    rcases c with rfl | rfl
    · exact q a z
    · cases z
theorem Exw.rvs (e : Exw H S H' S') : ∀ {xs : List Val} {vs : List V}, RVs K mg H S xs vs → RVs K mg H' S' xs vs
  | _, _, .nil => .nil
  | _, _, .cons r t => .cons (e.rv r) (Exw.rvs e t)
theorem Exw.re (e : Exw H S H' S') {ρ : Env} {σ : L2.St} (r : RE K mg H S ρ σ) : RE K mg H' S' ρ σ :=
  ⟨r.len, fun i x h => let ⟨v, h1, h2⟩ := r.at_ i x h; ⟨v, h1, e.rv h2⟩⟩
theorem Exw.refl : Exw H S H S := ⟨fun _ _ h n => ⟨h, n⟩, fun _ o h => ⟨o, h, .inl rfl⟩⟩
theorem Exw.trans (a : Exw H S H' S') (b : Exw H' S' H2 S2) : Exw H S H2 S2 where
  keep := fun x o h n => let ⟨h1, n1⟩ := a.keep x o h n; b.keep x o h1 n1
  cells := fun n o h => by
    obtain ⟨o1, h1, c1⟩ := a.cells n o h
    obtain ⟨o2, h2, c2⟩ := b.cells n o1 h1
    refine ⟨o2, h2, ?_⟩
    rcases c2 with rfl | rfl
    · exact c1
    · exact .inr rfl
theorem Ext.tup {a : Addr} {vs : List V} (e : Ext H S H' S') (h : TupAt H S a vs) : TupAt H' S' a vs := e.w.tup h
theorem Ext.lst {a : Addr} {vs : List V} (e : Ext H S H' S') (h : LstAt H S a vs) : LstAt H' S' a vs := e.w.lst h
theorem Ext.rp (e : Ext H S H' S') {p : PV} {v : V} (r : RP K mg H S p v) : RP K mg H' S' p v := e.w.rp r
theorem Ext.rps (e : Ext H S H' S') {xs : List PV} {vs : List V} (r : RPs K mg H S xs vs) : RPs K mg H' S' xs vs := e.w.rps r
theorem Ext.rv (e : Ext H S H' S') {x : Val} {v : V} (r : RV K mg H S x v) : RV K mg H' S' x v := e.w.rv r
theorem Ext.rvs (e : Ext H S H' S') {xs : List Val} {vs : List V} (r : RVs K mg H S xs vs) : RVs K mg H' S' xs vs := e.w.rvs r
theorem Ext.re (e : Ext H S H' S') {ρ : Env} {σ : L2.St} (r : RE K mg H S ρ σ) : RE K mg H' S' ρ σ := e.w.re r
theorem RPs.len : ∀ {xs : List PV} {vs : List V}, RPs K mg H S xs vs → xs.length = vs.length
  | _, _, .nil => rfl
  | _, _, .cons _ t => by rw [List.length_cons, List.length_cons, RPs.len t]
theorem RVs.len : ∀ {xs : List Val} {vs : List V}, RVs K mg H S xs vs → xs.length = vs.length
  | _, _, .nil => rfl
  | _, _, .cons _ t => by rw [List.length_cons, List.length_cons, RVs.len t]
theorem RPs.get : ∀ {xs : List PV} {vs : List V} {i : Nat} {x : PV}, RPs K mg H S xs vs → xs[i]? = some x → ∃ v, vs[i]? = some v ∧ RP K mg H S x v
  | _, _, _, _, .nil, e => by simp at e
  | _, _, 0, _, .cons r _, e => by simp at e; subst e; exact ⟨_, rfl, r⟩
  | _, _, i + 1, x, .cons _ t, e => by
    obtain ⟨v, h1, h2⟩ := RPs.get (i := i) (x := x) t (by simpa using e)
    exact ⟨v, by simpa using h1, h2⟩
theorem RPs.app : ∀ {xs ys : List PV} {vs ws : List V}, RPs K mg H S xs vs → RPs K mg H S ys ws → RPs K mg H S (xs ++ ys) (vs ++ ws)
  | _, _, _, _, .nil, s => s
  | _, _, _, _, .cons r t, s => .cons r (RPs.app t s)
theorem RPs.take : ∀ {xs : List PV} {vs : List V} (n : Nat), RPs K mg H S xs vs → RPs K mg H S (xs.take n) (vs.take n)
  | _, _, 0, _ => .nil
  | _, _, _ + 1, .nil => .nil
  | _, _, n + 1, .cons r t => .cons r (RPs.take n t)
theorem RPs.drop : ∀ {xs : List PV} {vs : List V} (n : Nat), RPs K mg H S xs vs → RPs K mg H S (xs.drop n) (vs.drop n)
  | _, _, 0, r => r
  | _, _, _ + 1, .nil => .nil
  | _, _, n + 1, .cons _ t => RPs.drop n t
theorem RPs.rev : ∀ {xs : List PV} {vs : List V}, RPs K mg H S xs vs → RPs K mg H S xs.reverse vs.reverse
  | _, _, .nil => .nil
  | _, _, .cons r t => by
    rw [List.reverse_cons, List.reverse_cons]
    exact RPs.app (RPs.rev t) (.cons r .nil)
theorem RPs.set : ∀ {xs : List PV} {vs : List V} {x : PV} {v : V} (i : Nat), RP K mg H S x v → RPs K mg H S xs vs → RPs K mg H S (xs.set i x) (vs.set i v)
  | _, _, _, _, _, _, .nil => .nil
  | _, _, _, _, 0, r, .cons _ t => .cons r t
  | _, _, _, _, i + 1, r, .cons q t => .cons q (RPs.set i r t)
theorem RPs.rep {xs : List PV} {vs : List V} (r : RPs K mg H S xs vs) : ∀ k : Nat, RPs K mg H S (List.replicate k xs).flatten (List.replicate k vs).flatten
  | 0 => .nil
  | k + 1 => by
    rw [List.replicate_succ, List.replicate_succ, List.flatten_cons, List.flatten_cons]
    exact RPs.app r (RPs.rep r k)
theorem TupAt.sq {a : Addr} {vs : List V} (h : TupAt H S a vs) : SqT K H a vs := .inl (.inl h.1)
theorem RKs.k {κ : Type} {kvs : List (κ × PV)} {ws : List (κ × V)} (e : Exk H S H' S') (h : RKs K mg H S kvs ws) : RKs K mg H' S' kvs ws := ⟨h.1, e.rps h.2⟩
theorem LstAt.sq {a : Addr} {vs : List V} (h : LstAt H S a vs) : SqL K H a vs := .inl h.1
theorem pvs_rv : ∀ {xs : List Val} {ps : List PV} {vs : List V}, RVs K mg H S xs vs → pvs xs = some ps → RPs K mg H S ps vs
  | [], ps, _, .nil, e => by cases (show some [] = some ps from e); exact .nil
  | .pv p :: r, ps, _, .cons h t, e => by
    cases q : pvs r with
    | none => rw [pvs_cons, q] at e; cases e
    | some qs =>
      rw [pvs_cons, q] at e
      cases e
      exact .cons h (pvs_rv t q)
  | .ref n :: r, ps, _, .cons h t, e => by cases e
/-- a list that is read: frozen or a cell -/
theorem litems_sq {m : Mem} {x : Val} {v : V} {xs : List PV} (rm : RM K mg H S m) (r : RV K mg H S x v) (h : litems m x = some xs) : ∃ a vs, v = .ref a ∧ Rd H a (.lst vs) ∧ RPs K mg H S xs vs := by
  unfold litems at h
  split at h
  · cases h
    cases r with
    | lst h1 r1 => exact ⟨_, _, rfl, h1.1, r1⟩
  · rename_i n
    obtain ⟨o, h1, q⟩ := r
    split at h
    · rename_i xs' e
      cases h
      cases o with
      | none => rw [rm.dead n h1] at e; cases e
      | some a =>
        obtain ⟨_, c, hc, hk⟩ := rm.at_ n a h1
        rw [e] at hc
        cases hc
        obtain ⟨vs, h2, r2⟩ := hk
        exact ⟨a, vs, q a rfl, .inl h2, r2⟩
    · cases h
  · cases h
theorem items_sq {m : Mem} {x : Val} {v : V} {xs : List PV} (rm : RM K mg H S m) (r : RV K mg H S x v) (h : items m x = some xs) : ∃ a vs, v = .ref a ∧ (SqL K H a vs ∨ SqT K H a vs) ∧ RPs K mg H S xs vs := by
  cases x with
  | pv p =>
    cases p <;> first
      | (cases (show none = some xs from h); done)
      | skip
    · cases (show some _ = some xs from h)
      cases r with
      | tup h1 r1 => exact ⟨_, _, rfl, .inr h1.sq, r1⟩
    · cases (show some _ = some xs from h)
      cases r with
      | lst h1 r1 => exact ⟨_, _, rfl, .inl h1.sq, r1⟩
    · cases (show some _ = some xs from h)
      cases r with
      | scr h1 r1 => exact ⟨_, _, rfl, .inl (h1.elim (fun z => .inl z.1) .inr), r1⟩
  | ref n =>
    obtain ⟨a, vs, e, hs, rs⟩ := litems_sq (x := .ref n) rm r h
    exact ⟨a, vs, e, .inl (.inl hs), rs⟩
end

/-! ### what a reading of ours asks -/
section
variable (K : PySem.W.Frag) (mg : Str → Option Value)
def Post {α β : Type} (R : Hp → Sg → α → β → Prop) (W : XK) (H : Hp) (S : Sg) (Q : β → Hp → Prop) : Res α → Prop
  | .ok a m => ∀ b H' S', Ext H S H' S' → RM K mg H' S' m → R H' S' a b → Q b H'
  | .exc e m => ∀ c d H' S', Ext H S H' S' → RM K mg H' S' m → RX K mg H' S' e c d → W c d H'
  | .bad => False
end
section
variable {K : PySem.W.Frag} {mg : Str → Option Value} {W : XK} {H H' : Hp} {S S' : Sg} {α β γ δ : Type} {R : Hp → Sg → α → β → Prop} {R2 : Hp → Sg → γ → δ → Prop}
theorem Post.mono {Q Q' : β → Hp → Prop} {r : Res α} (h : Post K mg R W H S Q r) (e : Ext H S H' S') (q : ∀ b H2, Q b H2 → Q' b H2) : Post K mg R W H' S' Q' r := by
  cases r with
  | ok a m => exact fun b H2 S2 e2 rm rr => q _ _ (h b H2 S2 (e.trans e2) rm rr)
  | exc x m => exact fun c d H2 S2 e2 rm rr => h c d H2 S2 (e.trans e2) rm rr
  | bad => exact h
theorem Post.bind {Q : δ → Hp → Prop} {r : Res α} {k : α → Mem → Res γ} (h : Post K mg R2 W H S Q (r.bind k)) :
    Post K mg R W H S (fun b H1 => ∃ a m1 S1, Ext H S H1 S1 ∧ RM K mg H1 S1 m1 ∧ R H1 S1 a b ∧ Post K mg R2 W H1 S1 Q (k a m1)) r := by
  cases r with
  | ok a m => exact fun b H1 S1 e rm rr => ⟨a, m, S1, e, rm, rr, Post.mono h e fun _ _ z => z⟩
  | exc x m => exact h
  | bad => exact h
theorem Post.of {Q : β → Hp → Prop} {o : Option α} {m : Mem} (h : Post K mg R W H S Q (Res.of o m)) : ∃ a, o = some a ∧ ∀ b H' S', Ext H S H' S' → RM K mg H' S' m → R H' S' a b → Q b H' := by
  cases o with
  | none => exact h.elim
  | some a => exact ⟨a, rfl, h⟩
end
end Pn

set_option Elab.async false
set_option linter.all false
set_option maxRecDepth 100000
set_option maxHeartbeats 4000000
namespace Pn
open PySem PySem.Spec PyProof.Rows L2 HT
theorem tuple_mul1 (l : Addr) (items : Array Value) (n : Nat) (dd : Option Addr) (sl : Array (Option Value)) (x : Int) (u : Tok) (c0 : (decide (x < -(2 ^ 63)) || decide (x ≥ 2 ^ 63)) = false) (c1 : (items.isEmpty || x == 1) = true) :
    Meets (Builtin.«tuple.__mul__» ⟨[.ref l, .int x u], []⟩) (fun _ R s => s.heap.get? l = some { cls := .type "tuple", dict := dd, data := .seq items n, slots := sl } ∧ R (.ok (.ret (Value.ref l))) s) :=
  .of_wp fun prog w A R s h => by
    obtain ⟨hp, g, d, tk, os⟩ := s
    obtain ⟨hl, h⟩ := h
    have f1 := AutoSeq1.idx_int
    wp_walk using wpAny_loadPart' hl
    repeat (first
      | (refine wpAny_ite_false (decide_eq_false (by rw [c0]; exact Bool.false_ne_true)) ?_; wp_walk using wpAny_loadPart' hl)
      | (refine wpAny_ite_true (decide_eq_true (by rw [c1])) ?_; wp_walk using wpAny_loadPart' hl))
    exact ⟨_, rfl, h⟩
theorem tuple_mul0 (l : Addr) (items : Array Value) (n : Nat) (dd : Option Addr) (sl : Array (Option Value)) (u : Tok) (c1 : (items.isEmpty || (0 : Int) == 1) = false) :
    Meets (Builtin.«tuple.__mul__» ⟨[.ref l, .int 0 u], []⟩) (fun _ R s => s.heap.get? l = some { cls := .type "tuple", dict := dd, data := .seq items n, slots := sl } ∧
      R (.ok (.ret (Value.ref s.heap.objs.size))) { s with heap := s.heap.push { cls := Value.type "tuple", data := Data.seq #[] }, toks := s.toks }) :=
  .of_wp fun prog w A R s h => by
    obtain ⟨hp, g, d, tk, os⟩ := s
    obtain ⟨hl, h⟩ := h
    have f1 := AutoSeq1.idx_int
    wp_walk using wpAny_loadPart' hl
    repeat (first
      | (refine wpAny_ite_false (decide_eq_false (by decide)) ?_; wp_walk using wpAny_loadPart' hl)
      | (refine wpAny_ite_false (decide_eq_false (by rw [c1]; exact Bool.false_ne_true)) ?_; wp_walk using wpAny_loadPart' hl)
      | (refine wpAny_ite_true (decide_eq_true (by simp)) ?_; wp_walk using wpAny_loadPart' hl)
      | (refine wpAny_ite_false (decide_eq_false (by show ¬ (0 > sizeLine); omega)) ?_; wp_walk using wpAny_loadPart' hl))
    exact ⟨_, rfl, h⟩
/-- t * k, any small k -/
def rRepA (K : PySem.W.Frag) : R2 := fun x y H Q => ∃ l k xs, x = .ref l ∧ y = .int k ∧ SqT K H l xs ∧ 0 ≤ k ∧ k ≤ 1000 ∧ xs.length ≤ 1000 ∧ ((xs = [] ∨ k = 1) → Q (.ref l) H) ∧ (xs ≠ [] → k ≠ 1 → ∀ p, H p = none → Q (.ref p) (upd H p (.tup (List.replicate k.toNat xs).flatten)))
theorem op_repA {X : Cx} : OpR X (binaryOp .Mult) (rRepA X.K) := by
  intro pins s σ H x y v u Q I rx ry h
  obtain ⟨l, k, xs, rfl, rfl, hT, h0, h2, hz, q1, q2⟩ := h
  by_cases hk : 2 ≤ k ∧ xs ≠ []
  · exact op_repT pins s σ H _ _ v u Q I rx ry ⟨l, k, xs, rfl, rfl, hT, hk.2, hk.1, h2, hz, q2 hk.2 (by omega)⟩
  · cases rx
    obtain ⟨t, rfl⟩ := ry
    obtain ⟨its, r, ⟨⟨cls, dd, data, sl⟩, ho, hc, n, hd⟩, hs⟩ := I.tuple hT
    simp only at hc hd
    subst hc hd
    have hle : its.length = xs.length := r.length.symm
    have c0 : (decide (k < -(2 ^ 63)) || decide (k ≥ 2 ^ 63)) = false := by
      rw [decide_eq_false (by omega), decide_eq_false (by omega)] <;> rfl
    by_cases h1 : xs = [] ∨ k = 1
    · have c1 : (its.toArray.isEmpty || k == 1) = true := by
        rcases h1 with h1 | h1
        · have : its = [] := List.eq_nil_of_length_eq_zero (by rw [hle, h1]; rfl)
          rw [this]; rfl
        · rw [h1]; simp
      exact wpAny_binaryOp_repeat_ref (T := "tuple") (U := "int") (by decide) ⟨_, ho, rfl⟩ (fun s' => typeIs_int s' k t) noFill_tuple_mul F.fills_int_mul F.slot_int_rmul repeat_tuple F.slot_int_index.lookup
        (call_meets F.slot_int_rmul (typeIs_int s k t) F.entry_int_rmul (F.args_int_rmul_2 _ _) (int_rmul_tuple k t l its.toArray n dd sl)
          ⟨ho, rfl, ⟨_, ho, rfl⟩, call_meets F.slot_tuple_mul ⟨_, ho, rfl⟩ F.entry_tuple_mul (F.args_tuple_mul_2 _ _) (tuple_mul1 l its.toArray n dd sl k t c0 c1) ⟨ho, ⟨.ref l, H, I, rfl, q1 h1⟩⟩⟩)
    · have hx : xs ≠ [] := fun z => h1 (.inl z)
      have hk0 : k = 0 := by
        have : k ≠ 1 := fun z => h1 (.inr z)
        have : ¬ 2 ≤ k := fun z => hk ⟨z, hx⟩
        omega
      subst hk0
      have c1 : (its.toArray.isEmpty || (0 : Int) == 1) = false := by
        cases its with
        | nil => exact absurd (List.eq_nil_of_length_eq_zero hle.symm) hx
        | cons a b => rfl
      refine wpAny_binaryOp_repeat_ref (T := "tuple") (U := "int") (by decide) ⟨_, ho, rfl⟩ (fun s' => typeIs_int s' 0 t) noFill_tuple_mul F.fills_int_mul F.slot_int_rmul repeat_tuple F.slot_int_index.lookup
        (call_meets F.slot_int_rmul (typeIs_int s 0 t) F.entry_int_rmul (F.args_int_rmul_2 _ _) (int_rmul_tuple 0 t l its.toArray n dd sl)
          ⟨ho, rfl, ⟨_, ho, rfl⟩, call_meets F.slot_tuple_mul ⟨_, ho, rfl⟩ F.entry_tuple_mul (F.args_tuple_mul_2 _ _) (tuple_mul0 l its.toArray n dd sl t c1) ⟨ho, ?_⟩⟩)
      exact ⟨.ref s.heap.objs.size, _, I.laid (t' := s.toks) (o := .tup []) (fun b ob q => Heap.get?_push_of_some _ q) (Nat.le_refl _) ⟨Nat.zero_le _, [], .nil, IsTup.new _ _⟩, rfl, q2 hx (by omega) _ (I.hok.fresh (Nat.le_refl _))⟩
end Pn

set_option Elab.async false
set_option linter.all false
set_option maxRecDepth 100000
set_option autoImplicit false
set_option maxHeartbeats 1000000
namespace Pn
open PySem PySem.Spec PyProof.Rows L2

section
variable {K : PySem.W.Frag} {mg : Str → Option Value} {H H' : Hp} {S S' : Sg} {m : Mem}
/-! ### new objects -/
theorem RM.live (rm : RM K mg H S m) {a : Addr} (h : S.av a) : ∃ o, H a = some o := by
  rcases h with h | h
  · obtain ⟨n, e⟩ := List.mem_iff_getElem?.mp h
    obtain ⟨_, c, _, hk⟩ := rm.at_ n a e
    cases c with
    | lst xs => obtain ⟨vs, e, _⟩ := hk; exact ⟨_, e⟩
    | dk xs => obtain ⟨vs, e, _⟩ := hk; exact ⟨_, e⟩
    | dt xs => obtain ⟨vs, e, _⟩ := hk; exact ⟨_, e⟩
    | dead => exact hk.elim
  · exact rm.zs a h
theorem RM.fresh (rm : RM K mg H S m) {p : Addr} (h : H p = none) : ¬ S.av p := fun z => by
  obtain ⟨o, e⟩ := rm.live z
  rw [h] at e; cases e
theorem Ext.new {p : Addr} {o : HO} (h : H p = none) : Ext H S (upd H p o) S where
  keep := fun a u e n => ⟨by rw [upd_ne (ne_of_none e h)]; exact e, n⟩
  z := rfl
  cells := fun n o e => ⟨o, e, .inl rfl⟩
theorem COk.ext (e : Ext H S H' S') {a : Addr} {c : Cell} (ha : ∀ o, H a = some o → H' a = some o) (h : COk K mg H S a c) : COk K mg H' S' a c := by
  cases c with
  | lst xs => obtain ⟨vs, h1, h2⟩ := h; exact ⟨vs, ha _ h1, e.rps h2⟩
  | dk xs => obtain ⟨vs, h1, h2⟩ := h; exact ⟨vs, ha _ h1, h2.k e.w.k⟩
  | dt xs => obtain ⟨vs, h1, h2⟩ := h; exact ⟨vs, ha _ h1, h2.k e.w.k⟩
  | dead => exact h
theorem COk.ext' (e : Exw H S H S') {a : Addr} {c : Cell} (h : COk K mg H S a c) : COk K mg H S' a c := by
  cases c with
  | lst xs => obtain ⟨vs, h1, h2⟩ := h; exact ⟨vs, h1, e.rps h2⟩
  | dk xs => obtain ⟨vs, h1, h2⟩ := h; exact ⟨vs, h1, h2.k e.k⟩
  | dt xs => obtain ⟨vs, h1, h2⟩ := h; exact ⟨vs, h1, h2.k e.k⟩
  | dead => exact h
theorem RM.new {p : Addr} {o : HO} (rm : RM K mg H S m) (h : H p = none) : RM K mg (upd H p o) S m where
  len := rm.len
  at_ := fun n a e => let ⟨h1, c, h2, h3⟩ := rm.at_ n a e; ⟨h1, c, h2, h3.ext (Ext.new h) fun vs q => by rw [upd_ne (ne_of_none q h)]; exact q⟩
  inj := rm.inj
  dead := rm.dead
  zs := fun z hz => let ⟨u, q⟩ := rm.zs z hz; ⟨u, by rw [upd_ne (ne_of_none q h)]; exact q⟩
theorem RP.newTup {p : Addr} {xs : List PV} {vs : List V} (rm : RM K mg H S m) (h : H p = none) (r : RPs K mg H S xs vs) : RP K mg (upd H p (.tup vs)) S (.tup xs) (.ref p) :=
  .tup ⟨upd_same, rm.fresh h⟩ ((Ext.new h).rps r)
theorem RP.newLst {p : Addr} {xs : List PV} {vs : List V} (rm : RM K mg H S m) (h : H p = none) (r : RPs K mg H S xs vs) : RP K mg (upd H p (.lst vs)) S (.lst xs) (.ref p) :=
  .lst ⟨.inl upd_same, rm.fresh h⟩ ((Ext.new h).rps r)
end
theorem line : sizeLine = 16777216 := sizeLine_eq

/-! ### operators -/
section
variable {X : Cx}
def NoX : XK := fun _ _ _ => False
def rB (K : PySem.W.Frag) (mg : Str → Option Value) (f : Mem → Val → Val → Option Val) : R2 := fun x y H Q => ∃ m S xv yv, RM K mg H S m ∧ RV K mg H S xv x ∧ RV K mg H S yv y ∧ ∃ r, f m xv yv = some r ∧
  ∀ v H' S', Ext H S H' S' → RM K mg H' S' m → RV K mg H' S' r v → Q v H'
theorem mem_of {K : PySem.W.Frag} {mg : Str → Option Value} {H : Hp} {S : Sg} {m : Mem} {r : Val} {v : V} {Q : VK} (rm : RM K mg H S m) (h : ∀ v H' S', Ext H S H' S' → RM K mg H' S' m → RV K mg H' S' r v → Q v H') (rv : RV K mg H S r v) : Q v H := h v H S Ext.refl rm rv

theorem rv_int {H : Hp} {S : Sg} {i : Int} {v : V} (h : RV X.K X.mg H S (.pv (.int i)) v) : v = .int i := by cases h; rfl
theorem rv_bl {H : Hp} {S : Sg} {i : Bool} {v : V} (h : RV X.K X.mg H S (.pv (.bl i)) v) : v = .bl i := by cases h; rfl
theorem rv_str {H : Hp} {S : Sg} {i : Str} {v : V} (h : RV X.K X.mg H S (.pv (.str i)) v) : v = .str i := by cases h; rfl
theorem rv_non {H : Hp} {S : Sg} {v : V} (h : RV X.K X.mg H S (.pv .non) v) : v = .non := by cases h; rfl
theorem rv_tup {H : Hp} {S : Sg} {xs : List PV} {v : V} (h : RV X.K X.mg H S (.pv (.tup xs)) v) : ∃ a vs, v = .ref a ∧ TupAt H S a vs ∧ RPs X.K X.mg H S xs vs := by
  cases h with
  | tup h r => exact ⟨_, _, rfl, h, r⟩
theorem Inv.rdL {pins : List (Addr × Obj)} {s : Shared} {σ : L2.St} {H : Hp} {a : Addr} {vs : List V} (I : Inv X pins σ H s) (h : Rd H a (.lst vs)) :
    vs.length ≤ sizeLine ∧ ∃ (its : List Value) (n : Nat), Vals vs its ∧ s.heap.get? a = some { cls := .type "list", data := .seq its.toArray n } := h.ok I.hok
theorem op_add' : OpR X (binaryOp .Add) (rB X.K X.mg addV) := by
  intro pins s σ H x y v u Q I rx ry h
  obtain ⟨m, S, xv, yv, rm, hx, hy, r, e, q⟩ := h
  have lists : ∀ xs ys, litems m xv = some xs → litems m yv = some ys → xs.length + ys.length ≤ 16777216 → r = .pv (.lst (xs ++ ys)) → wpAny (model X.prog X.w) X.A (binaryOp .Add v u) (EP X pins σ Q) X.xe s := by
    intro xs ys e1 e2 hz er
    subst er
    obtain ⟨a, vs, rfl, h1, r1⟩ := litems_sq rm hx e1
    obtain ⟨b, ws, rfl, h2, r2⟩ := litems_sq rm hy e2
    cases rx
    cases ry
    obtain ⟨z1, its, n1, t1, g1⟩ := Pn.Inv.rdL I h1
    obtain ⟨z2, its2, n2, t2, g2⟩ := Pn.Inv.rdL I h2
    have l1 := r1.len
    have l2 := r2.len
    have k1 := t1.length
    have k2 := t2.length
    have hl := line
    refine PySem.P.add_list g1 g2 ?_ (by rw [List.size_toArray, List.size_toArray]; omega)
    have ea : its.toArray ++ its2.toArray = (its ++ its2).toArray := by simp
    rw [ea]
    have hn : H s.heap.objs.size = none := I.fresh
    exact ⟨.ref _, _, I.lnew (t' := s.toks) (t1.append t2) (by rw [List.length_append]; omega), rfl, q _ _ S (Ext.new hn) (rm.new hn) (RP.newLst rm hn (r1.app r2))⟩
  unfold addV at e
  split at e
  · cases rv_int hx
    cases rv_int hy
    cases e
    exact op_add pins s σ H _ _ v u Q I rx ry ⟨_, _, rfl, rfl, mem_of rm q (.int _)⟩
  · cases rv_str hx
    cases rv_str hy
    split at e
    · cases e
      exact op_add_str pins s σ H _ _ v u Q I rx ry ⟨_, _, rfl, rfl, by rw [line]; assumption, mem_of rm q (.str _)⟩
    · cases e
  · obtain ⟨a, vs, rfl, h1, r1⟩ := rv_tup hx
    obtain ⟨b, ws, rfl, h2, r2⟩ := rv_tup hy
    split at e
    · rename_i hz
      cases e
      have l1 := r1.len
      have l2 := r2.len
      refine op_catA pins s σ H _ _ v u Q I rx ry ⟨a, b, vs, ws, rfl, rfl, h1.sq, h2.sq, by rw [line]; omega, fun z => ?_, fun _ z => ?_, fun _ _ p hp => ?_⟩
      · subst z
        cases r1
        exact mem_of rm q (.tup h2 r2)
      · subst z
        cases r2
        rw [List.append_nil] at q
        exact mem_of rm q (.tup h1 r1)
      · exact q _ _ S (Ext.new hp) (rm.new hp) (RP.newTup rm hp (r1.app r2))
    · cases e
  · split at e
    · rename_i xs ys e1 e2
      split at e
      · rename_i hz
        cases e
        exact lists xs ys e1 e2 hz rfl
      · cases e
    · cases e
theorem op_sub' : OpR X (binaryOp .Sub) (rB X.K X.mg fun _ => subV) := by
  intro pins s σ H x y v u Q I rx ry h
  obtain ⟨m, S, xv, yv, rm, hx, hy, r, e, q⟩ := h
  have e : subV xv yv = some r := e
  unfold subV at e
  split at e
  · cases rv_int hx
    cases rv_int hy
    cases e
    exact op_sub pins s σ H _ _ v u Q I rx ry ⟨_, _, rfl, rfl, mem_of rm q (.int _)⟩
  · cases rv_bl hx
    cases rv_bl hy
    cases e
    cases rx
    cases ry
    exact sub_bool ⟨.int _, H, I.tok _, ⟨_, rfl⟩, mem_of rm q (.int _)⟩
  · cases e
theorem CMul.of {i j : Int} (h : (smallI i || smallI j) = true) : CMul i j := by
  unfold smallI at h
  simp only [Bool.or_eq_true, Bool.and_eq_true, decide_eq_true_eq] at h
  exact h
theorem op_mul' : OpR X (binaryOp .Mult) (rB X.K X.mg fun _ => mulV) := by
  intro pins s σ H x y v u Q I rx ry h
  obtain ⟨m, S, xv, yv, rm, hx, hy, r, e, q⟩ := h
  have e : mulV xv yv = some r := e
  unfold mulV at e
  split at e
  · cases rv_int hx
    cases rv_int hy
    split at e
    · rename_i hz
      cases e
      exact op_mul pins s σ H _ _ v u Q I rx ry ⟨_, _, rfl, rfl, CMul.of hz, mem_of rm q (.int _)⟩
    · cases e
  · obtain ⟨a, vs, rfl, h1, r1⟩ := rv_tup hx
    cases rv_int hy
    split at e
    · rename_i hz
      cases e
      obtain ⟨z1, z2, z4⟩ := hz
      have l1 := r1.len
      refine op_repA pins s σ H _ _ v u Q I rx ry ⟨a, _, vs, rfl, rfl, h1.sq, z1, z2, by omega, fun z => ?_, fun _ _ p hp => ?_⟩
      · rcases z with z | z
        · subst z
          cases r1
          have e0 : ∀ n : Nat, (List.replicate n ([] : List PV)).flatten = [] := fun n => by simp
          rw [e0] at q
          exact mem_of rm q (.tup h1 .nil)
        · subst z
          have e0 : ∀ xs : List PV, (List.replicate (1 : Int).toNat xs).flatten = xs := fun xs => by simp
          rw [e0] at q
          exact mem_of rm q (.tup h1 r1)
      · exact q _ _ S (Ext.new hp) (rm.new hp) (RP.newTup rm hp (r1.rep _))
    · cases e
  · cases rv_str hx
    cases rv_int hy
    split at e
    · rename_i z k h0 hz
      cases e
      obtain ⟨z1, z2, z3, z4⟩ := hz
      obtain ⟨t, rfl⟩ := rx
      obtain ⟨t', rfl⟩ := ry
      have hk : ¬ k < 1 := by omega
      have h1 : (k == 1 || z.length == 0) = false := by
        rw [Bool.or_eq_false_iff]
        exact ⟨by simp; omega, by simp; omega⟩
      have hm : z.length * k.toNat ≤ 1000 * 1000 := Nat.mul_le_mul z4 (by omega)
      refine PySem.P.mul_str (by rw [decide_eq_false (by omega), decide_eq_false (by omega)]; rfl) (fun _ _ => ?_) (fun _ _ => ?_) ?_
      · have : (1000 : Int) ≤ (2 ^ 63 - 1) / k := (Int.le_ediv_iff_mul_le (by omega)).mpr (by omega)
        omega
      · show decide (z.length * k.toNat > sizeLine) = false
        rw [decide_eq_false_iff_not, sizeLine_eq]
        omega
      · rw [if_neg hk, if_neg (by rw [h1]; exact Bool.false_ne_true)]
        refine ⟨?_, ⟨.str _, H, I.tok _, ⟨_, rfl⟩, mem_of rm q (.str _)⟩⟩
        have hl : ∀ (n : Nat) (a : Array Nat), ((List.replicate n z.cps).foldl (· ++ ·) a).size = a.size + n * z.cps.size := by
          intro n
          induction n with
          | zero => intro a; simp
          | succ n ih => intro a; rw [List.replicate_succ, List.foldl_cons, ih, Array.size_append, Nat.succ_mul]; omega
        show ((List.replicate k.toNat z.cps).foldl (· ++ ·) #[]).size ≤ sizeLine
        rw [hl, sizeLine_eq]
        have hm2 : k.toNat * z.cps.size ≤ 1000 * 1000 := Nat.mul_le_mul (by omega) z4
        simp
        omega
    · cases e
  · cases e
theorem op_fdiv' : OpR X (binaryOp .FloorDiv) (rB X.K X.mg fun _ => fdivV) := by
  intro pins s σ H x y v u Q I rx ry h
  obtain ⟨m, S, xv, yv, rm, hx, hy, r, e, q⟩ := h
  have e : fdivV xv yv = some r := e
  unfold fdivV at e
  split at e
  · cases rv_int hx
    cases rv_int hy
    split at e
    · rename_i hz
      cases e
      exact op_fdiv pins s σ H _ _ v u Q I rx ry ⟨_, _, rfl, rfl, hz, mem_of rm q (.int _)⟩
    · cases e
  · cases e
theorem op_mod' : OpR X (binaryOp .Mod) (rB X.K X.mg fun _ => modV) := by
  intro pins s σ H x y v u Q I rx ry h
  obtain ⟨m, S, xv, yv, rm, hx, hy, r, e, q⟩ := h
  have e : modV xv yv = some r := e
  unfold modV at e
  split at e
  · cases rv_int hx
    cases rv_int hy
    split at e
    · rename_i hz
      cases e
      exact op_mod pins s σ H _ _ v u Q I rx ry ⟨_, _, rfl, rfl, hz, mem_of rm q (.int _)⟩
    · cases e
  · cases e
theorem op_pow' : OpR X (binaryOp .Pow) (rB X.K X.mg fun _ => powV) := by
  intro pins s σ H x y v u Q I rx ry h
  obtain ⟨m, S, xv, yv, rm, hx, hy, r, e, q⟩ := h
  have e : powV xv yv = some r := e
  unfold powV at e
  split at e
  · cases rv_int hx
    cases rv_int hy
    split at e
    · rename_i hz
      cases e
      obtain ⟨z1, z2, z3⟩ := hz
      unfold smallI at z3
      simp only [Bool.and_eq_true, decide_eq_true_eq] at z3
      exact op_pow pins s σ H _ _ v u Q I rx ry ⟨_, _, rfl, rfl, ⟨z1, z2, by omega⟩, mem_of rm q (.int _)⟩
    · cases e
  · cases e
def opOf : Operator → Option Bop
  | .Add => some .add
  | .Sub => some .sub
  | .Mult => some .mul
  | .FloorDiv => some .fdiv
  | .Mod => some .mod
  | .Pow => some .pow
  | _ => none
theorem op_bin {o : Operator} {b : Bop} (h : opOf o = some b) : OpR X (binaryOp o) (rB X.K X.mg (bin b)) := by
  cases o <;> first | (cases h; done) | skip
  all_goals cases h
  · exact op_add'
  · exact op_sub'
  · exact op_mul'
  · exact op_mod'
  · exact op_pow'
  · exact op_fdiv'
end
end Pn

set_option Elab.async false
set_option linter.all false
set_option maxRecDepth 100000
set_option autoImplicit false
set_option maxHeartbeats 1000000
namespace Pn
open PySem PySem.Spec PyProof.Rows L2 HT
/-! dicts -/
section
variable {K : PySem.W.Frag} {mg : Str → Option Value} {H H' : Hp} {S S' : Sg} {m : Mem}
theorem RKs.val {κ : Type} [DecidableEq κ] : ∀ {kvs : List (κ × PV)} {ws : List (κ × V)} (k : κ), RKs K mg H S kvs ws → (∀ p, valP kvs k = some p → ∃ v, valV ws k = some v ∧ RP K mg H S p v) ∧ (valP kvs k = none → valV ws k = none)
  | [], ws, k, h => by
    have : ws = [] := by
      have := h.1
      cases ws with
      | nil => rfl
      | cons _ _ => cases this
    subst this
    exact ⟨fun p e => (nomatch e), fun _ => rfl⟩
  | (k1, p1) :: kvs, ws, k, h => by
    obtain ⟨h1, h2⟩ := h
    cases ws with
    | nil => cases h1
    | cons w ws =>
      obtain ⟨k2, v2⟩ := w
      simp only [List.map_cons, List.cons.injEq] at h1
      obtain ⟨rfl, h1⟩ := h1
      cases h2 with
      | cons r t =>
        have ih := RKs.val (kvs := kvs) (ws := ws) k ⟨h1, t⟩
        by_cases e : k1 = k
        · have e1 : valP ((k1, p1) :: kvs) k = some p1 := by unfold valP; simp [List.find?_cons, e]
          have e2 : valV ((k1, v2) :: ws) k = some v2 := valV_pos e
          rw [e1, e2]
          exact ⟨fun p ep => by cases ep; exact ⟨_, rfl, r⟩, fun z => by cases z⟩
        · have e1 : valP ((k1, p1) :: kvs) k = valP kvs k := by unfold valP; simp [List.find?_cons, e]
          have e2 : valV ((k1, v2) :: ws) k = valV ws k := valV_neg e
          rw [e1, e2]
          exact ih
theorem RKs.any {κ : Type} [DecidableEq κ] : ∀ {kvs : List (κ × PV)} {ws : List (κ × V)} (k : κ), kvs.map (·.1) = ws.map (·.1) → (kvs.any fun kv => decide (kv.1 = k)) = (ws.any fun kv => decide (kv.1 = k)) := fun {kvs ws} k h => by
  have e1 : (kvs.any fun kv => decide (kv.1 = k)) = ((kvs.map (·.1)).any fun x => decide (x = k)) := by rw [List.any_map]; rfl
  have e2 : (ws.any fun kv => decide (kv.1 = k)) = ((ws.map (·.1)).any fun x => decide (x = k)) := by rw [List.any_map]; rfl
  rw [e1, e2, h]
theorem RKs.repl {κ : Type} [DecidableEq κ] {p : PV} {v : V} (k : κ) (r : RP K mg H S p v) : ∀ {kvs : List (κ × PV)} {ws : List (κ × V)}, RKs K mg H S kvs ws → RKs K mg H S (kvs.map fun kv => if kv.1 = k then (kv.1, p) else kv) (ws.map fun kv => if kv.1 = k then (kv.1, v) else kv)
  | [], ws, h => by
    have : ws = [] := by
      have := h.1
      cases ws with
      | nil => rfl
      | cons _ _ => cases this
    subst this
    exact ⟨rfl, .nil⟩
  | (k1, p1) :: kvs, ws, h => by
    obtain ⟨h1, h2⟩ := h
    cases ws with
    | nil => cases h1
    | cons w ws =>
      obtain ⟨k2, v2⟩ := w
      simp only [List.map_cons, List.cons.injEq] at h1
      obtain ⟨rfl, h1⟩ := h1
      cases h2 with
      | cons r1 t =>
        obtain ⟨i1, i2⟩ := RKs.repl k r (kvs := kvs) (ws := ws) ⟨h1, t⟩
        by_cases e : k1 = k
        · subst e
          refine ⟨by simpa using i1, ?_⟩
          simp only [List.map_cons, if_true]
          exact .cons r i2
        · refine ⟨by simpa [e] using i1, ?_⟩
          simp only [List.map_cons, if_neg e]
          exact .cons r1 i2
theorem RKs.put {κ : Type} [DecidableEq κ] {kvs : List (κ × PV)} {ws : List (κ × V)} {p : PV} {v : V} (k : κ) (h : RKs K mg H S kvs ws) (r : RP K mg H S p v) : RKs K mg H S (putP kvs k p) (putK ws k v) := by
  unfold putP putK
  rw [RKs.any k h.1]
  split
  · exact h.repl k r
  · refine ⟨by simp [h.1], ?_⟩
    rw [List.map_append, List.map_append]
    exact h.2.app (.cons r .nil)
theorem RKs.len {κ : Type} {kvs : List (κ × PV)} {ws : List (κ × V)} (h : RKs K mg H S kvs ws) : kvs.length = ws.length := by
  have := congrArg List.length h.1
  simpa using this
theorem keyP_ok {p : PV} {k : Key} {v : V} (h : keyP p = some k) (r : RP K mg H S p v) : v = kV k := by
  cases r <;> first | (cases h; done) | (cases h; rfl)
theorem keysL_ok : ∀ {xs : List PV} {ks : List Key} {vs : List V}, keysL xs = some ks → RPs K mg H S xs vs → vs = ks.map kV
  | [], ks, vs, h, r => by cases h; cases r; rfl
  | x :: xs, ks, vs, h, r => by
    unfold keysL at h
    cases hx : keyP x with
    | none => rw [hx] at h; cases h
    | some k =>
      cases ht : keysL xs with
      | none => rw [hx, ht] at h; cases h
      | some kt =>
        rw [hx, ht] at h
        cases h
        cases r with
        | cons r t => rw [keyP_ok hx r, keysL_ok ht t]; rfl
theorem keysP_ok {p : PV} {ks : List Key} {v : V} (h : keysP p = some ks) (r : RP K mg H S p v) : ∃ b, v = .ref b ∧ H b = some (.tup (ks.map kV)) := by
  cases r <;> first | (cases h; done) | skip
  rename_i xs vs a h1 r1
  have := keysL_ok (show keysL xs = some ks from h) r1
  subst this
  exact ⟨a, rfl, h1.1⟩
theorem dget_ok {n : Nat} {y : V} {kx : Val} {x : V} {o : Option PV} (rm : RM K mg H S m) (r : RV K mg H S (.ref n) y) (rk : RV K mg H S kx x) (h : dget m[n]? kx = some o) :
    ∃ a ov, y = .ref a ∧ DGet H a x ov ∧ (∀ p, o = some p → ∃ v, ov = some v ∧ RP K mg H S p v) ∧ (o = none → ov = none) := by
  obtain ⟨oa, ho, q⟩ := r
  cases oa with
  | none => rw [rm.dead n ho] at h; cases h
  | some a =>
    obtain rfl := q a rfl
    obtain ⟨hz, c, hc, hk⟩ := rm.at_ n a ho
    rw [hc] at h
    cases c with
    | lst _ => cases h
    | dead => cases h
    | dk kvs =>
      cases kx with
      | ref _ => cases h
      | pv p =>
        obtain ⟨k, e1, e2⟩ := Option.map_eq_some_iff.mp (show (keyP p).map (fun k => valP kvs k) = some o from h)
        obtain ⟨ws, h1, h2⟩ := hk
        cases keyP_ok e1 rk
        obtain ⟨v1, v2⟩ := h2.val k
        rw [e2] at v1 v2
        exact ⟨a, _, rfl, DGet.k h1, v1, v2⟩
    | dt kvs =>
      cases kx with
      | ref _ => cases h
      | pv p =>
        obtain ⟨k, e1, e2⟩ := Option.map_eq_some_iff.mp (show (keysP p).map (fun k => valP kvs k) = some o from h)
        obtain ⟨ws, h1, h2⟩ := hk
        obtain ⟨b, rfl, hb⟩ := keysP_ok e1 rk
        obtain ⟨v1, v2⟩ := h2.val k
        rw [e2] at v1 v2
        exact ⟨a, _, rfl, DGet.t h1 hb, v1, v2⟩
theorem RM.setc {n : Nat} {a : Addr} {c c' : Cell} {o : HO} (rm : RM K mg H S m) (ho : S.L[n]? = some (some a)) (hm : m[n]? = some c) (ok : Ext H S (upd H a o) S → COk K mg (upd H a o) S a c') :
    Ext H S (upd H a o) S ∧ RM K mg (upd H a o) S (m.set n c') := by
  have hml : n < m.length := (List.getElem?_eq_some_iff.mp hm).1
  have ext : Ext H S (upd H a o) S := ⟨fun b u hb hn => ⟨by rw [upd_ne (fun z => hn (by rw [z]; exact List.mem_of_getElem? ho))]; exact hb, hn⟩, rfl, fun k u e => ⟨u, e, .inl rfl⟩⟩
  refine ⟨ext, by rw [List.length_set]; exact rm.len, fun k b e => ?_, rm.inj, fun k e => ?_, fun z hz' => ?_⟩
  · obtain ⟨h1, c, h2, h3⟩ := rm.at_ k b e
    refine ⟨h1, ?_⟩
    by_cases hk : n = k
    · subst hk
      rw [ho] at e
      cases e
      exact ⟨_, List.getElem?_set_self hml, ok ext⟩
    · refine ⟨c, by rw [List.getElem?_set_ne hk]; exact h2, ?_⟩
      have hb : b ≠ a := fun z => hk (rm.inj n k a ho (z ▸ e))
      exact h3.ext ext fun u q => by rw [upd_ne hb]; exact q
  · by_cases hk : n = k
    · subst hk
      rw [ho] at e; cases e
    · rw [List.getElem?_set_ne hk]; exact rm.dead k e
  · by_cases e : z = a
    · exact ⟨_, by rw [e]; exact upd_same⟩
    · rw [upd_ne e]; exact rm.zs z hz'
theorem dput_ok {n : Nat} {y : V} {kx : Val} {x : V} {p : PV} {v : V} {c' : Cell} (rm : RM K mg H S m) (r : RV K mg H S (.ref n) y) (rk : RV K mg H S kx x) (rp : RP K mg H S p v) (h : dput m[n]? kx p = some c') :
    ∃ a H', y = .ref a ∧ DPut H a x v H' ∧ Ext H S H' S ∧ RM K mg H' S (m.set n c') := by
  obtain ⟨oa, ho, q⟩ := r
  cases oa with
  | none => rw [rm.dead n ho] at h; cases h
  | some a =>
    obtain rfl := q a rfl
    obtain ⟨hz, c, hc, hk⟩ := rm.at_ n a ho
    rw [hc] at h
    cases c with
    | lst _ => cases h
    | dead => cases h
    | dk kvs =>
      cases kx with
      | ref _ => cases h
      | pv kp =>
        unfold dput at h
        dsimp only at h
        split at h
        · rename_i k e1
          split at h
          · rename_i hl
            cases h
            obtain ⟨ws, h1, h2⟩ := hk
            cases keyP_ok e1 rk
            obtain ⟨x1, x2⟩ := rm.setc (o := .dK (putK ws k v)) (c' := .dk (putP kvs k p)) ho hc fun e => ⟨_, upd_same, (h2.put k rp).k e.w.k⟩
            exact ⟨a, _, rfl, DPut.k h1 (by rw [line, ← h2.len]; exact hl), x1, x2⟩
          · cases h
        · cases h
    | dt kvs =>
      cases kx with
      | ref _ => cases h
      | pv kp =>
        unfold dput at h
        dsimp only at h
        split at h
        · rename_i k e1
          split at h
          · rename_i hl
            cases h
            obtain ⟨ws, h1, h2⟩ := hk
            obtain ⟨b, rfl, hb⟩ := keysP_ok e1 rk
            obtain ⟨x1, x2⟩ := rm.setc (o := .dT (putK ws k v)) (c' := .dt (putP kvs k p)) ho hc fun e => ⟨_, upd_same, (h2.put k rp).k e.w.k⟩
            exact ⟨a, _, rfl, DPut.t h1 hb (by rw [line, ← h2.len]; exact hl), x1, x2⟩
          · cases h
        · cases h
end
end Pn

set_option Elab.async false
set_option linter.all false
set_option maxRecDepth 100000
set_option autoImplicit false
set_option maxHeartbeats 1000000
namespace Pn
open PySem PySem.Spec PyProof.Rows L2 HT
/-! enumerate of a tuple -/
theorem meets_enum1 {v : Value} {o : Obj} {H : Heap → Prop} (B : Begins v o H) :
    Meets (Builtin.«enumerate.__new__» ⟨[.type "enumerate", v], []⟩) (fun _ R s => H s.heap ∧
      R (.ok (.ret (.ref (s.heap.push o).objs.size))) { s with heap := (s.heap.push o).push { cls := .type "enumerate", data := .fields #[.none, .bool false, .ref s.heap.objs.size, rawInt 0, .none, .none] } }) :=
  .of_wp fun prog w A R s h => by
    obtain ⟨hp, g, d, tk, os⟩ := s; obtain ⟨h1, h⟩ := h
    have hsub := sub_enumerate
    have q1 : ∀ {A' : Around} {E : Value → Shared → Prop} {Q : Value → Shared → Prop}, Q (.ref hp.objs.size) ⟨hp.push o, g, d, tk, os⟩ → wpAny (model prog w) A' (pyIter v) Q E ⟨hp, g, d, tk, os⟩ :=
      fun q => B.iter prog w _ _ ⟨hp, g, d, tk, os⟩ _ h1 q
    wp_walk using q1
    refine wpAny_stack_any fun st => wpAny_pure ?_
    split
    · rename_i c _ _ _ _ _
      cases (c == Value.type "enumerate")
      · wp_walk using q1
        exact ⟨_, rfl, h⟩
      · wp_walk using q1
        exact ⟨_, rfl, h⟩
    · wp_walk using q1
      exact ⟨_, rfl, h⟩
theorem call_enum1 {prog : Program} {w : World} {A : Around} {E : Value → Shared → Prop} {s : Shared} {v : Value} {o : Obj} {H : Heap → Prop} {Q : Value → Shared → Prop} (B : Begins v o H) (h1 : H s.heap)
    (h : ∀ h', IsEnum h' (s.heap.objs.size + 1) s.heap.objs.size 0 .none → h'.get? s.heap.objs.size = some o → h'.objs.size = s.heap.objs.size + 2 →
      (∀ b o, s.heap.get? b = some o → h'.get? b = some o) → Q (.ref (s.heap.objs.size + 1)) { s with heap := h' }) :
    wpAny (model prog w) A (call (.type "enumerate") [v]) Q E s := by
  refine callType_new F.called_enumerate (by decide) (F.typeCall_enumerate_1 _) (F.newCall_enumerate_1 _) (fun obj => F.args_object_init_2 obj _) F.entry_enumerate_new
    (meets_enum1 B) ⟨h1, ?_⟩
  have hz : (s.heap.push o).objs.size = s.heap.objs.size + 1 := Heap.size_push ..
  show _ ∧ _
  rw [hz]
  have he : IsEnum ((s.heap.push o).push { cls := .type "enumerate", data := .fields #[.none, .bool false, .ref s.heap.objs.size, rawInt 0, .none, .none] }) (s.heap.objs.size + 1) s.heap.objs.size 0 .none := by
    have := Heap.get?_push_size (s.heap.push o) (o := { cls := .type "enumerate", data := .fields #[.none, .bool false, .ref s.heap.objs.size, rawInt 0, .none, .none] }) rfl
    rw [hz] at this; exact this
  refine ⟨⟨_, he, rfl⟩, h _ he (Heap.get?_push_of_some _ (Heap.get?_push_size _ B.free)) (by rw [Heap.size_push, hz]) fun b o x => Heap.get?_push_of_some _ (Heap.get?_push_of_some _ x)⟩
theorem wpAny_pyNext_enum_endT {prog : Program} {w : World} {A : Around} {E : Value → Shared → Prop} {s : Shared} {e it a : Addr} {i : Nat} {items : Array Value} {old : Value} {Q : Option Value → Shared → Prop} (hh : A.handled = none)
    (he : IsEnum s.heap e it i old) (hit : s.heap.IsTupleIter it a i) (ht : s.heap.IsTuple a items) (hi : items.size ≤ i)
    (hQ : ∀ h', Heap.ExtBut it s.heap h' → Q none { s with heap := h' }) : wpAny (model prog w) A (pyNext (.ref e)) Q E s := by
  have hT : s.TypeIs (.ref e) "enumerate" := ⟨_, he, rfl⟩
  unfold pyNext
  refine wpAny_bind (wpAny_attempt (wpAny_callSpecial?_slot (name := Str.ofString "__next__") hT F.slot_enumerate_next
    (wpAny_call_entry F.slot_enumerate_next hT F.entry_enumerate_next ?_ (F.args_enumerate_next_1 _))))
  show wpAny _ _ (field (.ref e) 2 >>= _) _ _ _
  refine wpAny_bind (wpAny_field he rfl (x := .ref it) rfl ?_)
  refine wpAny_bind (wpAny_nextOf_tuple_end hh hit ht (by simpa using hi) fun h' x he' hx' => ?_)
  obtain ⟨o, ho, hc⟩ := hx'
  refine wpAny_bind (wpAny_isInstance (T := "StopIteration") (b := true) ⟨o, ho, hc⟩ isSubtype_stop ?_)
  exact wpAny_pure (hQ _ he')
/-- the tuple at a, each item in a new pair -/
def IteT (K : PySem.W.Frag) (a : Addr) : It :=
  ⟨fun i H => ∃ (xs : List V) (x : V), SqT K H a xs ∧ xs[i]? = some x, fun i H v H' => ∃ T x, v = .ref T ∧ H T = none ∧ H' = upd H T (.tup [.int (i : Nat), x]) ∧ ∀ xs, SqT K H a xs → xs[i]? = some x, fun i H => ∃ xs : List V, SqT K H a xs ∧ xs.length ≤ i⟩
theorem turn_enumT {P : Program} {w : World} {K : PySem.W.Frag} {elts : List Expr} {kk : Nat} {tpos : Pos} (a e it : Addr) :
    Turn P w K (.Tuple elts kk tpos) (IteT K a) [e, it] e (fun i h => (∃ old, IsEnum h e it ((i : Nat) : Int) old) ∧ h.IsTupleIter it a i ∧ e ≠ it) where
  mem := by simp
  obj := fun i h st b hb => by
    obtain ⟨⟨old, he⟩, ⟨o, ho, hc, hd⟩, _⟩ := st
    have e' : b = e ∨ b = it := by simpa using hb
    rcases e' with z | z
    · rw [z]; exact ⟨_, he, fun v q => nomatch q⟩
    · rw [z]; exact ⟨o, ho, fun v q => by rw [hd] at q; cases q⟩
  keep := fun i h h' st k => let ⟨⟨old, he⟩, hi, hne⟩ := st; ⟨⟨old, k e (by simp) _ he⟩, hi.at fun o q => k it (by simp) o q, hne⟩
  item := by
    intro X hP hw hK hc i pins s σ H E I hf st hg
    subst hP hw hK
    obtain ⟨⟨old, he⟩, hit, hne⟩ := st
    obtain ⟨xs, x, hq, hx⟩ := hg
    obtain ⟨its, rv, p, hz⟩ := I.tuple hq
    obtain ⟨u, hu, ru⟩ := rv.get hx
    have hel : e < s.heap.objs.size := Heap.lt_size he
    have hil : it < s.heap.objs.size := by obtain ⟨_, q, _⟩ := hit; exact Heap.lt_size q
    have pt : s.heap.IsTuple a its.toArray := p
    have hea : a ≠ e := fun z => by
      obtain ⟨o, h1, h2, _⟩ := pt
      rw [z, he] at h1
      cases h1
      injection h2 with h3
      exact absurd h3 (by decide)
    have hia : a ≠ it := fun z => by
      obtain ⟨o, h1, h2, _⟩ := pt
      obtain ⟨o2, q1, q2, _⟩ := hit
      rw [z, q1] at h1
      cases h1
      rw [h2] at q2
      injection q2 with h3
      exact absurd h3 (by decide)
    have hlt : i < its.toArray.size := by
      have := (List.getElem?_eq_some_iff.mp hu).1
      simpa using this
    refine wpAny_pyNext_enum_itemD (Draws.tuple (prog := X.prog) (w := X.w) (A := X.A.in1) (I.ok.hd hc) it a hia its.toArray) he ⟨hit, pt⟩ hlt hne (by simp; exact ⟨hne, fun z => hea z.symm⟩) fun x' h' tk hP ho hit' hT hsz hk => ?_
    have ex : x' = u := by
      have h1 : its.toArray[i]? = some x' := hP
      have h2 : its.toArray[i]? = some u := by simpa using hu
      rw [h2] at h1; exact (Option.some.inj h1).symm
    subst ex
    refine ⟨_, rfl, wpAny_letOwnedTupleGo_enum (s := { s with heap := h', toks := tk + 1 }) ho fun h'' he' sb => ?_⟩
    have hT2 : h''.get? s.heap.objs.size = some { cls := .type "tuple", data := .seq #[.int i tk, x'] } := (sb.2 _ (Nat.ne_of_gt hel)).trans hT
    have new : ObjOk X.prog X.w (upd H s.heap.objs.size (.tup [.int (i : Nat), x])) h'' s.heap.objs.size (.tup [.int (i : Nat), x]) :=
      ⟨by show 2 ≤ sizeLine; decide, [.int i tk, x'], .cons ⟨_, rfl⟩ (.cons ru .nil), ⟨_, hT2, rfl, _, rfl⟩⟩
    have I1 : L2.Inv X pins σ (upd H s.heap.objs.size (.tup [.int (i : Nat), x])) { s with heap := h'', toks := tk + 1 } :=
      I.turnedNew (ch := [e, it]) (fun b ob hb q => (sb.2 b (fun z => hb (by simp [z]))).trans (hk b ob (fun z => hb (by simp [z])) (fun z => hb (by simp [z])) q)) hf (Nat.le_refl _) new
    refine ⟨.ref s.heap.objs.size, _, I1, rfl, ⟨_, x, rfl, I.hok.fresh (Nat.le_refl _), rfl, fun ys hy => by rw [I.tuple_inj hy hq]; exact hx⟩, ⟨⟨x', ?_⟩, hit'.1.at fun o q => (sb.2 it (Ne.symm hne)).trans q, hne⟩, fun b hb => ?_⟩
    · have e1 : ((i + 1 : Nat) : Int) = (i : Int) + 1 := by omega
      rw [e1]; exact he'
    · have hb' : b < s.heap.objs.size := by
        have e' : b = e ∨ b = it := by simpa using hb
        rcases e' with z | z
        · rw [z]; exact hel
        · rw [z]; exact hil
      rw [upd_ne (Nat.ne_of_lt hb')]
      exact (hf b hb).1
  done := by
    intro X hP hw hK hc i pins s σ H E I hf st hg
    subst hP hw hK
    obtain ⟨⟨old, he⟩, hit, hne⟩ := st
    obtain ⟨xs, hq, hx⟩ := hg
    obtain ⟨its, rv, p, hz⟩ := I.tuple hq
    obtain ⟨f0, f1, f2, f3, f4, f5⟩ := hf it (by simp)
    have hl := rv.length
    have pt : s.heap.IsTuple a its.toArray := p
    exact wpAny_pyNext_enum_endT (I.ok.hd hc) he hit pt (by simp; omega) fun h' eb => ⟨rfl, I.turned (t' := s.toks) (fun b o hb q => eb b o hb q) f0 f1 f3 f4 f5⟩
  self := fun A i s Q E st h => let ⟨⟨_, he⟩, _⟩ := st; wpAny_pyIter_enum he h
def iEnumA (K : PySem.W.Frag) (ta : TA) : TI := fun σ H R => ta σ H fun vs H1 => ∃ a xs, vs = [.ref a] ∧ ((SqL K H1 a xs ∧ R (Ite K a) H1) ∨ (SqT K H1 a xs ∧ R (IteT K a) H1))
theorem pi_enumA {X : Cx} {e : Expr} {ta : TA} {p pos tpos : Pos} {elts : List Expr} {kk : Nat} (hg : Gl X "enumerate") (hm : X.mg "enumerate" = none) (ha : PA X [e] ta) (hs : starEach [e] X.env = [(false, eval e X.env)]) :
    PI X (.Tuple elts kk tpos) (.Call (.Name "enumerate" p) [e] [] pos) (iEnumA X.K ta) := by
  refine ⟨fun pins s σ H R I h => ?_⟩
  refine Call_ (ld_blt I hg hm boot_enumerate (PyProof.Rows.callWith_type1 (thn (ha.run pos pins s σ H _ I h) fun us s1 ⟨vs, H1, I1, r1, q1⟩ => ?_) hs rfl))
  obtain ⟨a, xs, ex, q1⟩ := q1
  subst ex
  cases r1 with
  | cons r rr =>
    cases rr
    cases r
    have fp : ∀ (b : Addr), b ∈ [s1.heap.objs.size + 1, s1.heap.objs.size] → s1.heap.objs.size ≤ b := fun b hb => by
      have e' : b = s1.heap.objs.size + 1 ∨ b = s1.heap.objs.size := by simpa using hb
      rcases e' with z | z
      · rw [z]; exact Nat.le_add_right _ _
      · rw [z]; exact Nat.le_refl _
    rcases q1 with ⟨hq, q⟩ | ⟨hq, q⟩
    · obtain ⟨its, rv, p', hz⟩ := I1.list hq
      refine call_enumerate_list p'.isList fun h' he hit hsz hk => wpAny_pyIter_enum he ?_
      have I2 : L2.Inv X pins σ H1 { s1 with heap := h' } := I1.kept (t' := s1.toks) hk
      exact ⟨s1.heap.objs.size + 1, [s1.heap.objs.size + 1, s1.heap.objs.size], _, _, H1, rfl, I2, turn_enum a (s1.heap.objs.size + 1) s1.heap.objs.size, ⟨⟨.none, he⟩, hit, Nat.succ_ne_self _⟩, fun b hb => I1.fpOk (fp b hb) (I1.hok.fresh (fp b hb)), q⟩
    · obtain ⟨its, rv, p', hz⟩ := I1.tuple hq
      have pt : s1.heap.IsTuple a its.toArray := p'
      refine call_enum1 (begins_tuple a its.toArray) pt fun h' he hit hsz hk => wpAny_pyIter_enum he ?_
      have I2 : L2.Inv X pins σ H1 { s1 with heap := h' } := I1.kept (t' := s1.toks) hk
      exact ⟨s1.heap.objs.size + 1, [s1.heap.objs.size + 1, s1.heap.objs.size], _, _, H1, rfl, I2, turn_enumT a (s1.heap.objs.size + 1) s1.heap.objs.size, ⟨⟨.none, he⟩, ⟨_, hit, rfl, rfl⟩, Nat.succ_ne_self _⟩, fun b hb => I1.fpOk (fp b hb) (I1.hok.fresh (fp b hb)), q⟩
end Pn

set_option Elab.async false
set_option linter.all false
set_option maxRecDepth 100000
set_option autoImplicit false
set_option maxHeartbeats 1000000
namespace Pn
open PySem PySem.Spec PyProof.Rows L2 HT
/-! zip of a list and a tuple -/
def SqK (k : Bool) (K : PySem.W.Frag) (H : Hp) (a : Addr) (xs : List V) : Prop := match k with
  | true => SqT K H a xs
  | false => SqL K H a xs
def IsItK (k : Bool) (h : Heap) (it a : Addr) (i : Nat) : Prop := match k with
  | true => h.IsTupleIter it a i
  | false => h.IsListIter it a i
def IsSqK (k : Bool) (h : Heap) (a : Addr) (items : Array Value) : Prop := match k with
  | true => h.IsTuple a items
  | false => h.IsList a items
theorem IsItK.obj {k : Bool} {h : Heap} {it a : Addr} {i : Nat} (x : IsItK k h it a i) : ∃ o, h.get? it = some o ∧ ∀ v, o.data ≠ .cell v := by
  cases k
  · obtain ⟨o, ho, _, hd⟩ := x
    exact ⟨o, ho, fun v q => by rw [hd] at q; cases q⟩
  · obtain ⟨o, ho, _, hd⟩ := x
    exact ⟨o, ho, fun v q => by rw [hd] at q; cases q⟩
theorem IsItK.at {k : Bool} {h h' : Heap} {it a : Addr} {i : Nat} (x : IsItK k h it a i) (e : ∀ o, h.get? it = some o → h'.get? it = some o) : IsItK k h' it a i := by
  cases k
  · exact Heap.IsListIter.at x e
  · exact Heap.IsTupleIter.at x e
theorem IsSqK.at {k : Bool} {h h' : Heap} {a : Addr} {items : Array Value} (x : IsSqK k h a items) (e : ∀ o, h.get? a = some o → h'.get? a = some o) : IsSqK k h' a items := by
  cases k
  · exact Heap.IsList.at x e
  · exact Heap.IsTuple.at x e
theorem drawsK (k : Bool) {prog : Program} {w : World} {A : Around} (hh : A.handled = none) (it a : Addr) (hne : a ≠ it) (items : Array Value) :
    Draws prog w A it [it, a] items.size (fun i v => items[i]? = some v) (fun i h => IsItK k h it a i ∧ IsSqK k h a items) := by
  cases k
  · exact Draws.list hh it a hne items
  · exact Draws.tuple hh it a hne items
theorem stopK (k : Bool) {prog : Program} {w : World} {A : Around} (hh : A.handled = none) (it a : Addr) (items : Array Value) (i : Nat) (hi : items.size ≤ i) :
    Draws prog w A it [it, a] i (fun _ _ => True) (fun j h => j = i ∧ IsItK k h it a i ∧ IsSqK k h a items) where
  live := fun _ _ st => let ⟨o, ho, _⟩ := st.2.1.obj; ⟨o, ho⟩
  frame := fun _ _ _ st hk => ⟨st.1, st.2.1.at fun o e => hk it (by simp) o e, st.2.2.at fun o e => hk a (by simp) o e⟩
  item := fun j s Q E hj st hQ => by have := st.1; omega
  done := fun s Q E st hE => by
    have hx : items[i]? = none := Array.getElem?_eq_none hi
    cases k
    · exact wpAny_nextOf_list_end hh st.2.1 st.2.2 hx hE
    · exact wpAny_nextOf_tuple_end hh st.2.1 st.2.2 hx hE
theorem IsItK.typeLt {k : Bool} {h : Heap} {it a : Addr} {i : Nat} (x : IsItK k h it a i) : it < h.objs.size := let ⟨_, ho, _⟩ := x.obj; Heap.lt_size ho
theorem sqK {k : Bool} {X : Cx} {pins : List (Addr × Obj)} {σ : L2.St} {H : Hp} {s : Shared} (I : L2.Inv X pins σ H s) {a : Addr} {xs : List V} (h : SqK k X.K H a xs) : ∃ its, Vals xs its ∧ IsSqK k s.heap a its.toArray := by
  cases k
  · obtain ⟨its, rv, p, _⟩ := I.list h
    exact ⟨its, rv, p.isList⟩
  · obtain ⟨its, rv, p, _⟩ := I.tuple h
    exact ⟨its, rv, p⟩
theorem sqK_inj {k : Bool} {X : Cx} {pins : List (Addr × Obj)} {σ : L2.St} {H : Hp} {s : Shared} (I : L2.Inv X pins σ H s) {a : Addr} {xs ys : List V} (h : SqK k X.K H a xs) (h' : SqK k X.K H a ys) : xs = ys := by
  cases k
  · exact I.list_inj h h'
  · exact I.tuple_inj h h'
/-- two sequences as they stand at each turn, the items in new pairs -/
def ItzK (k1 k2 : Bool) (K : PySem.W.Frag) (a b : Addr) : It :=
  ⟨fun i H => ∃ (xs ys : List V) (x y : V), SqK k1 K H a xs ∧ SqK k2 K H b ys ∧ xs[i]? = some x ∧ ys[i]? = some y,
    fun i H v H' => ∃ T x y, v = .ref T ∧ H T = none ∧ H' = upd H T (.tup [x, y]) ∧ (∀ xs, SqK k1 K H a xs → xs[i]? = some x) ∧ ∀ ys, SqK k2 K H b ys → ys[i]? = some y,
    fun i H => ∃ xs ys : List V, SqK k1 K H a xs ∧ SqK k2 K H b ys ∧ (xs.length ≤ i ∨ ys.length ≤ i)⟩
theorem sep_of {z TI TO i1 i2 a b : Addr} (D : ZipApart z TI TO i1 i2 a b) : ZipSep2 z TI TO i1 i2 [i1, a] [i2, b] where
  TIz := D.TIz
  TOz := D.TOz
  TITO := D.TITO
  TIi1 := D.TIi1
  mem1 := by simp
  zf1 := by simp; exact ⟨D.i1z.symm, D.l1z.symm⟩
  Tf1 := by simp; exact ⟨D.TOi1, D.l1TO.symm⟩
  TIi2 := D.TIi2
  mem2 := by simp
  zf2 := by simp; exact ⟨D.i2z.symm, D.l2z.symm⟩
  Tf2 := by simp; exact ⟨D.TOi2, D.l2TO.symm⟩
  sep1_2 := by simp; exact ⟨D.i12, D.l2i1.symm⟩
  sep2_1 := by simp; exact ⟨D.i12.symm, D.l1i2.symm⟩
theorem turn_zipK {k1 k2 : Bool} {P : Program} {w : World} {K : PySem.W.Frag} {elts : List Expr} {kk : Nat} {tpos : Pos} {a b z TI TO i1 i2 : Addr} (D : ZipApart z TI TO i1 i2 a b) :
    Turn P w K (.Tuple elts kk tpos) (ItzK k1 k2 K a b) [z, TI, TO, i1, i2] z (fun i h => IsZip h z TI TO .none ∧ IsTupOf2 h TI (.ref i1) (.ref i2) ∧ (∃ x y, IsTupOf2 h TO x y) ∧ IsItK k1 h i1 a i ∧ IsItK k2 h i2 b i) where
  mem := by simp
  obj := fun i h st c hc => by
    obtain ⟨hz, hTI, ⟨x, y, hTO⟩, h1, h2⟩ := st
    have e' : c = z ∨ c = TI ∨ c = TO ∨ c = i1 ∨ c = i2 := by simpa using hc
    rcases e' with q | q | q | q | q
    · rw [q]; exact ⟨_, hz, fun v q => nomatch q⟩
    · rw [q]; exact ⟨_, hTI, fun v q => nomatch q⟩
    · rw [q]; exact ⟨_, hTO, fun v q => nomatch q⟩
    · rw [q]; exact h1.obj
    · rw [q]; exact h2.obj
  keep := fun i h h' st k => by
    obtain ⟨hz, hTI, ⟨x, y, hTO⟩, h1, h2⟩ := st
    exact ⟨k z (by simp) _ hz, k TI (by simp) _ hTI, ⟨x, y, k TO (by simp) _ hTO⟩, h1.at fun o q => k i1 (by simp) o q, h2.at fun o q => k i2 (by simp) o q⟩
  item := by
    intro X hP hw hK hc i pins s σ H E I hf st hg
    subst hP hw hK
    obtain ⟨hz, hTI, ⟨x0, y0, hTO⟩, h1, h2⟩ := st
    obtain ⟨xs, ys, x, y, hqx, hqy, hx, hy⟩ := hg
    obtain ⟨its, rv, p⟩ := sqK I hqx
    obtain ⟨its2, rv2, p2⟩ := sqK I hqy
    obtain ⟨u, hu, ru⟩ := rv.get hx
    obtain ⟨u2, hu2, ru2⟩ := rv2.get hy
    have hzl : z < s.heap.objs.size := Heap.lt_size hz
    have hlt1 : i < its.toArray.size := by have := (List.getElem?_eq_some_iff.mp hu).1; simpa using this
    have hlt2 : i < its2.toArray.size := by have := (List.getElem?_eq_some_iff.mp hu2).1; simpa using this
    refine wpAny_pyNext_zipD2_item (sep_of D) (drawsK k1 (prog := X.prog) (w := X.w) (A := X.A.in1) (I.ok.hd hc) i1 a D.l1i1 its.toArray) (drawsK k2 (prog := X.prog) (w := X.w) (A := X.A.in1) (I.ok.hd hc) i2 b D.l2i2 its2.toArray) hz hTI hTO ⟨h1, p⟩ ⟨h2, p2⟩ hlt1 hlt2 fun x1' x2' h' tk hP1 hP2 z' TO' h1' h2' hT hsz hk => ?_
    have ex1 : x1' = u := by
      have q1 : its.toArray[i]? = some x1' := hP1
      have q2 : its.toArray[i]? = some u := by simpa using hu
      rw [q2] at q1; exact (Option.some.inj q1).symm
    have ex2 : x2' = u2 := by
      have q1 : its2.toArray[i]? = some x2' := hP2
      have q2 : its2.toArray[i]? = some u2 := by simpa using hu2
      rw [q2] at q1; exact (Option.some.inj q1).symm
    subst ex1 ex2
    refine ⟨_, rfl, wpAny_letOwnedTupleGo_zip (s := { s with heap := h', toks := tk }) z' fun h'' z'' sb => ?_⟩
    have hT2 : h''.get? s.heap.objs.size = some { cls := .type "tuple", data := .seq #[x1', x2'] } := (sb.2 _ (Nat.ne_of_gt hzl)).trans hT
    have new : ObjOk X.prog X.w (upd H s.heap.objs.size (.tup [x, y])) h'' s.heap.objs.size (.tup [x, y]) :=
      ⟨by show 2 ≤ sizeLine; decide, [x1', x2'], .cons ru (.cons ru2 .nil), ⟨_, hT2, rfl, _, rfl⟩⟩
    have I1 : L2.Inv X pins σ (upd H s.heap.objs.size (.tup [x, y])) { s with heap := h'', toks := tk } :=
      I.turnedNew (ch := [z, TI, TO, i1, i2]) (fun c o hb q => (sb.2 c (fun q' => hb (by simp [q']))).trans (hk c o (fun q' => hb (by simp [q'])) (fun q' => hb (by simp [q'])) (fun q' => hb (by simp [q'])) (fun q' => hb (by simp [q'])) q)) hf (Nat.le_refl _) new
    refine ⟨.ref s.heap.objs.size, _, I1, rfl, ⟨_, x, y, rfl, I.hok.fresh (Nat.le_refl _), rfl, fun l hl => by rw [sqK_inj I hl hqx]; exact hx, fun l hl => by rw [sqK_inj I hl hqy]; exact hy⟩, ⟨z'', ?_, ⟨x1', x2', ?_⟩, ?_, ?_⟩, fun c hcm => ?_⟩
    · exact (sb.2 _ D.TIz).trans (hk _ _ D.TIz D.TITO D.TIi1 D.TIi2 hTI)
    · exact (sb.2 _ D.TOz).trans TO'
    · exact h1'.1.at fun o q => (sb.2 _ D.i1z).trans q
    · exact h2'.1.at fun o q => (sb.2 _ D.i2z).trans q
    · have hlt : c < s.heap.objs.size := by
        have e' : c = z ∨ c = TI ∨ c = TO ∨ c = i1 ∨ c = i2 := by simpa using hcm
        rcases e' with q | q | q | q | q
        · rw [q]; exact hzl
        · rw [q]; exact Heap.lt_size hTI
        · rw [q]; exact Heap.lt_size hTO
        · rw [q]; exact h1.typeLt
        · rw [q]; exact h2.typeLt
      rw [upd_ne (Nat.ne_of_lt hlt)]
      exact (hf c hcm).1
  done := by
    intro X hP hw hK hc i pins s σ H E I hf st hg
    subst hP hw hK
    obtain ⟨hz, hTI, ⟨x0, y0, hTO⟩, h1, h2⟩ := st
    obtain ⟨xs, ys, hqx, hqy, hend⟩ := hg
    obtain ⟨its, rv, p⟩ := sqK I hqx
    obtain ⟨its2, rv2, p2⟩ := sqK I hqy
    have l1 := rv.length
    have l2 := rv2.length
    have fin : ∀ (h' : Heap) (tk : Tok), (∀ c o, c ≠ z → c ≠ TO → c ≠ i1 → c ≠ i2 → s.heap.get? c = some o → h'.get? c = some o) → (none : Option Value) = none ∧ L2.Inv X pins σ H { s with heap := h', toks := tk } := fun h' tk hk => ⟨rfl, I.turnedL (ch := [z, TI, TO, i1, i2]) (fun c o hb q =>
      hk c o (fun q' => hb (by simp [q'])) (fun q' => hb (by simp [q'])) (fun q' => hb (by simp [q'])) (fun q' => hb (by simp [q'])) q) hf⟩
    have S1 := stopK k1 (prog := X.prog) (w := X.w) (A := X.A.in1) (I.ok.hd hc) i1 a its.toArray i
    have S2 := stopK k2 (prog := X.prog) (w := X.w) (A := X.A.in1) (I.ok.hd hc) i2 b its2.toArray i
    have D1 := drawsK k1 (prog := X.prog) (w := X.w) (A := X.A.in1) (I.ok.hd hc) i1 a D.l1i1 its.toArray
    have D2 := drawsK k2 (prog := X.prog) (w := X.w) (A := X.A.in1) (I.ok.hd hc) i2 b D.l2i2 its2.toArray
    by_cases c1 : its.toArray.size ≤ i
    · by_cases c2 : its2.toArray.size ≤ i
      · exact wpAny_pyNext_zipD2_end (sep_of D) (S1 c1) (S2 c2) hz hTI hTO ⟨rfl, h1, p⟩ ⟨rfl, h2, p2⟩ (Nat.le_refl _) (Nat.le_refl _) (.inl rfl) fin
      · exact wpAny_pyNext_zipD2_end (sep_of D) (S1 c1) D2 hz hTI hTO ⟨rfl, h1, p⟩ ⟨h2, p2⟩ (Nat.le_refl _) (by omega) (.inl rfl) fin
    · have c2 : its2.toArray.size ≤ i := by
        rcases hend with q | q
        · exfalso; apply c1; simp; omega
        · simp; omega
      exact wpAny_pyNext_zipD2_end (sep_of D) D1 (S2 c2) hz hTI hTO ⟨h1, p⟩ ⟨rfl, h2, p2⟩ (by omega) (Nat.le_refl _) (.inr rfl) fin
  self := fun A i s Q E st h => wpAny_pyIter_zip st.1 h
def beginsK (k : Bool) (a : Addr) : Obj := match k with
  | true => { cls := .type "tuple_iterator", data := .fields #[.ref a, .int 0 0] }
  | false => { cls := .type "list_iterator", data := .fields #[.ref a, .int 0 0] }
theorem begins_K (k : Bool) (a : Addr) (items : Array Value) : Begins (.ref a) (beginsK k a) fun h => IsSqK k h a items := by
  cases k
  · exact begins_list a items
  · exact begins_tuple a items
theorem itK_of {k : Bool} {h : Heap} {it a : Addr} (e : h.get? it = some (beginsK k a)) : IsItK k h it a 0 := by
  cases k
  · exact ⟨_, e, rfl, rfl⟩
  · exact ⟨_, e, rfl, rfl⟩
theorem sqK_lt {k : Bool} {h : Heap} {a : Addr} {items : Array Value} (x : IsSqK k h a items) : a < h.objs.size := by
  cases k
  · obtain ⟨o, ho, _⟩ := x; exact Heap.lt_size ho
  · obtain ⟨o, ho, _⟩ := x; exact Heap.lt_size ho
def iZipK (K : PySem.W.Frag) (ta : TA) : TI := fun σ H R => ta σ H fun vs H1 => ∃ k1 k2 a b xs ys, vs = [.ref a, .ref b] ∧ SqK k1 K H1 a xs ∧ SqK k2 K H1 b ys ∧ R (ItzK k1 k2 K a b) H1
theorem pi_zipK {X : Cx} {e e2 : Expr} {ta : TA} {p pos tpos : Pos} {elts : List Expr} {kk : Nat} (hg : Gl X "zip") (hm : X.mg "zip" = none) (ha : PA X [e, e2] ta)
    (hs : starEach [e, e2] X.env = (false, eval e X.env) :: starEach [e2] X.env) (hpl : (backTo pos (starEach [e2] X.env)).any (·.1) = false) :
    PI X (.Tuple elts kk tpos) (.Call (.Name "zip" p) [e, e2] [] pos) (iZipK X.K ta) := by
  refine ⟨fun pins s σ H R I h => ?_⟩
  refine Call_ (ld_blt I hg hm PyProof.Rows.boot_zip (PyProof.Rows.callWith_type1 (thn (ha.run pos pins s σ H _ I h) fun us s1 ⟨vs, H1, I1, r1, q1⟩ => ?_) hs hpl))
  obtain ⟨k1, k2, a, b, xs, ys, ex, hqx, hqy, q⟩ := q1
  subst ex
  cases r1 with
  | cons r rr =>
    cases rr with
    | cons r' rr =>
      cases rr
      cases r
      cases r'
      have fresh5 : ∀ c, c ∈ [s1.heap.objs.size + 4, s1.heap.objs.size + 2, s1.heap.objs.size + 3, s1.heap.objs.size, s1.heap.objs.size + 1] → FpOk X pins H1 c := fun c hcm => by
        have e' : c = s1.heap.objs.size + 4 ∨ c = s1.heap.objs.size + 2 ∨ c = s1.heap.objs.size + 3 ∨ c = s1.heap.objs.size ∨ c = s1.heap.objs.size + 1 := by simpa using hcm
        have hle : s1.heap.objs.size ≤ c := by
          rcases e' with z | z | z | z | z
          · rw [z]; exact Nat.le_add_right _ _
          · rw [z]; exact Nat.le_add_right _ _
          · rw [z]; exact Nat.le_add_right _ _
          · rw [z]; exact Nat.le_refl _
          · rw [z]; exact Nat.le_add_right _ _
        exact I1.fpOk hle (I1.hok.fresh hle)
      obtain ⟨its, rv, p1⟩ := sqK I1 hqx
      obtain ⟨its2, rv2, p2⟩ := sqK I1 hqy
      refine zip_begins2 (begins_K k1 a its.toArray) (begins_K k2 b its2.toArray) p1 p2 fun h' hz hTI hTO h1 h2 hsz hk => wpAny_pyIter_zip hz ?_
      have I2 : Inv X pins σ H1 { s1 with heap := h' } := I1.kept (t' := s1.toks) hk
      exact ⟨s1.heap.objs.size + 4, [s1.heap.objs.size + 4, s1.heap.objs.size + 2, s1.heap.objs.size + 3, s1.heap.objs.size, s1.heap.objs.size + 1], _, _, H1, rfl, I2, turn_zipK (k1 := k1) (k2 := k2) (PySem.W.ktu_apart s1.heap.objs.size a b (sqK_lt p1) (sqK_lt p2)), ⟨hz, hTI, ⟨_, _, hTO⟩, itK_of h1, itK_of h2⟩, fresh5, q⟩
/-! a list unpacked -/
section
variable {prog : Program} {w : World} {A : Around} {E : Value → Shared → Prop} {s : Shared}
theorem drawn_list {it t : Addr} {items : Array Value} (hne : t ≠ it) : ∀ (n i : Nat) (s : Shared) (Q : List Value → Shared → Prop), s.heap.IsListIter it t i → s.heap.IsList t items → i + n ≤ items.size →
    (∀ h', h'.IsListIter it t (i + n) → Heap.SameBut it s.heap h' → Q ((items.toList.drop i).take n) { s with heap := h' }) → wpAny (model prog w) A (draw (.ref it) n) Q E s
  | 0, i, s, Q, hit, _, _, hQ => by
    show wpAny _ _ (pure []) Q E s
    exact wpAny_pure (by simpa using hQ s.heap hit (Heap.SameBut.refl ..))
  | n + 1, i, s, Q, hit, ht, hle, hQ => by
    have hlt : i < items.size := by omega
    show wpAny _ _ (pyNext (.ref it) >>= _) Q E s
    refine wpAny_bind (wpAny_pyNext_list_item hit ht (x := items[i]) (by simp [hlt]) fun h₁ hit₁ hs₁ => ?_)
    refine wpAny_bind (wpAny_holding (drawn_list hne n (i + 1) _ _ hit₁ (ht.extBut hs₁.extBut hne) (by omega) fun h₂ hit₂ hs₂ => wpAny_pure ?_))
    have hd : items.toList.drop i = items[i] :: items.toList.drop (i + 1) := by simp [List.drop_eq_getElem_cons, hlt]
    have := hQ h₂ (by rw [show i + (n + 1) = i + 1 + n by omega]; exact hit₂) (hs₁.trans hs₂)
    rw [hd, List.take_succ_cons] at this
    exact this
theorem unpackItems_l {t : Addr} {items : Array Value} {Q : List Value → Shared → Prop} (hh : A.handled = none) (ht : s.heap.IsList t items)
    (hQ : ∀ h', Heap.ExtBut s.heap.objs.size s.heap h' → Q items.toList { s with heap := h' }) : wpAny (model prog w) A (unpackItems (.ref t) items.size none) Q E s := by
  have hlt : t ≠ s.heap.objs.size := by obtain ⟨o, ho, _⟩ := ht; exact Nat.ne_of_lt (Heap.lt_size ho)
  unfold unpackItems
  refine wpAny_bind ?_
  unfold notIterableAtAll
  refine wpAny_bind (wpAny_specialOf ht.typeIs F.slot_list_iter.lookup ?_)
  refine wpAny_pure ?_
  simp only [Bool.false_eq_true, if_false]
  refine wpAny_bind (wpAny_holding (wpAny_pyIter_list ht ?_))
  have ht1 : (s.heap.push { cls := .type "list_iterator", data := .fields #[.ref t, .int 0 0] }).IsList t items := Heap.IsList.at ht fun o e => Heap.get?_push_of_some _ e
  refine wpAny_bind (wpAny_holding (drawn_list hlt items.size 0 _ _ ⟨_, Heap.get?_push_size _ rfl, rfl, rfl⟩ ht1 (by omega) fun h₁ hit₁ hs₁ => ?_))
  have hall : List.take items.size (List.drop 0 items.toList) = items.toList := by
    rw [List.drop_zero]; exact List.take_of_length_le (by simp)
  rw [hall]
  rw [if_neg (by simp)]
  have ht₁ : h₁.IsList t items := ht1.extBut hs₁.extBut hlt
  refine wpAny_bind (wpAny_holding (wpAny_pyNext_list_end hh hit₁ ht₁ (by simp) fun h₂ he₂ => ?_))
  simp only [Option.isSome_none, Bool.false_eq_true, if_false]
  exact wpAny_pure (hQ h₂ fun b o hb e => he₂ b o hb (hs₁.extBut b o hb (Heap.get?_push_of_some _ e)))
theorem assign_Tuple_l {env : PySem.Env} {elts : List Expr} {x1 : Nat} {pos : Pos} {t : Addr} {items : Array Value} {Q : Unit → Shared → Prop} (hh : A.handled = none) (ht : s.heap.IsList t items)
    (hn : (assignEach elts env).length = items.size) (hstar : (assignEach elts env).findIdx? (·.1) = none)
    (h : ∀ h', Heap.ExtBut s.heap.objs.size s.heap h' → wpAny (model prog w) A (assignInOrder ((assignEach elts env).map (·.2)) items.toList) Q E { s with heap := h' }) :
    wpAny (model prog w) A (assign (.Tuple elts x1 pos) env (.ref t)) Q E s := by
  rw [assign_Tuple]
  refine wpAny_bind (wpAny_standAt ?_)
  unfold unpack
  rw [hn, hstar]
  exact wpAny_bind (wpAny_holding (unpackItems_l hh ht h))
end
def gTupK (K : PySem.W.Frag) (n : Nat) (t : TGs) : TG := fun v σ H Q => ∃ a xs, v = .ref a ∧ (SqT K H a xs ∨ SqL K H a xs) ∧ xs.length = n ∧ t xs σ H Q
theorem pg_tupK {X : Cx} {pos : Pos} {es : List Expr} {k : Nat} {t : TGs} {n : Nat} (hc : X.calm = true) (h : PGs X es t)
    (hn : (assignEach es X.env).length = n) (hst : (assignEach es X.env).findIdx? (·.1) = none) : PG X (.Tuple es k pos) (gTupK X.K n t) := by
  refine ⟨fun pins s σ H v u Q I r hw => ?_⟩
  obtain ⟨a, xs, e1, hq, hl, hw⟩ := hw
  subst e1
  cases r
  rcases hq with hq | hq
  · obtain ⟨its, rv, ht, hz⟩ := I.tuple hq
    refine PyProof.Rows.assign_Tuple_tuple (I.ok.hd hc) ht (by simp [hn, ← hl, rv.length]) hst fun h' hx => ?_
    have I1 : L2.Inv X pins σ H { s with heap := h' } := I.kept (t' := s.toks) fun b o e => hx b o (Nat.ne_of_lt (Heap.lt_size e)) e
    exact h.run pins _ σ H xs _ Q I1 (by simpa using rv) hw
  · obtain ⟨its, rv, ht, hz⟩ := I.list hq
    refine assign_Tuple_l (I.ok.hd hc) ht.isList (by simp [hn, ← hl, rv.length]) hst fun h' hx => ?_
    have I1 : L2.Inv X pins σ H { s with heap := h' } := I.kept (t' := s.toks) fun b o e => hx b o (Nat.ne_of_lt (Heap.lt_size e)) e
    exact h.run pins _ σ H xs _ Q I1 (by simpa using rv) hw
end Pn

set_option Elab.async false
set_option linter.all false
set_option maxRecDepth 100000
set_option autoImplicit false
set_option maxHeartbeats 1000000
namespace Pn
open PySem PySem.Spec PyProof.Rows L2

/-! ### data -/
mutual
theorem RP.dp {K : PySem.W.Frag} {mg : Str → Option Value} {H : Hp} {S : Sg} : ∀ {n : Nat} {p : PV} {v : V}, RP K mg H S p v → p.okD n = true → Dp K H v p.toD
  | _, _, _, .non, _ => .non
  | _, _, _, .bl b, _ => .bl b
  | _, _, _, .int i, _ => .int i
  | _, _, _, .str s, _ => .str s
  | _, _, _, .ty n, h => by unfold PV.okD at h; cases h
  | _, _, _, .gl h', h => by unfold PV.okD at h; cases h
  | _, _, _, .scr h' r, h => by unfold PV.okD at h; cases h
  | 0, _, _, .tup h' r, h => by unfold PV.okD at h; cases h
  | 0, _, _, .lst h' r, h => by unfold PV.okD at h; cases h
  | n + 1, _, _, .tup h' r, h => by unfold PV.okD at h; unfold PV.toD; exact .tup h'.sq (RPs.dps r h)
  | n + 1, _, _, .lst h' r, h => by unfold PV.okD at h; unfold PV.toD; exact .lst h'.sq (RPs.dps r h)
theorem RPs.dps {K : PySem.W.Frag} {mg : Str → Option Value} {H : Hp} {S : Sg} : ∀ {n : Nat} {xs : List PV} {vs : List V}, RPs K mg H S xs vs → okDs n xs = true → DpAll K H vs (toDs xs)
  | _, _, _, .nil, _ => by unfold toDs; exact .nil
  | n, _, _, .cons r t, h => by
    unfold okDs at h
    obtain ⟨h1, h2⟩ := Bool.and_eq_true_iff.mp h
    unfold toDs
    exact .cons (RP.dp r h1) (RPs.dps t h2)
end
mutual
theorem okD_plain : ∀ {n : Nat} {p : PV}, p.okD n = true → p.toD.plain = true
  | _, .non, _ => rfl
  | _, .bl b, _ => rfl
  | _, .int i, _ => rfl
  | _, .str s, _ => rfl
  | _, .ty n, h => by unfold PV.okD at h; cases h
  | _, .gl x, h => by unfold PV.okD at h; cases h
  | _, .dic ks vs, h => by unfold PV.okD at h; cases h
  | 0, .tup xs, h => by unfold PV.okD at h; cases h
  | 0, .lst xs, h => by unfold PV.okD at h; cases h
  | n + 1, .tup xs, h => by unfold PV.okD at h; unfold PV.toD PyData.plain; exact okDs_plain h
  | n + 1, .lst xs, h => by unfold PV.okD at h; unfold PV.toD PyData.plain; exact okDs_plain h
theorem okDs_plain : ∀ {n : Nat} {xs : List PV}, okDs n xs = true → PyData.plainAll (toDs xs) = true
  | _, [], _ => by unfold toDs; rfl
  | n, x :: xs, h => by
    unfold okDs at h
    obtain ⟨h1, h2⟩ := Bool.and_eq_true_iff.mp h
    unfold toDs PyData.plainAll
    rw [okD_plain h1, okDs_plain h2]; rfl
end
mutual
theorem okD_depth : ∀ {n : Nat} {p : PV}, p.okD n = true → p.toD.depth ≤ n
  | _, .non, _ => by simp [PV.toD, PyData.depth]
  | _, .bl b, _ => by simp [PV.toD, PyData.depth]
  | _, .int i, _ => by simp [PV.toD, PyData.depth]
  | _, .str s, _ => by simp [PV.toD, PyData.depth]
  | _, .ty n, h => by unfold PV.okD at h; cases h
  | _, .gl x, h => by unfold PV.okD at h; cases h
  | _, .dic ks vs, h => by unfold PV.okD at h; cases h
  | 0, .tup xs, h => by unfold PV.okD at h; cases h
  | 0, .lst xs, h => by unfold PV.okD at h; cases h
  | n + 1, .tup xs, h => by unfold PV.okD at h; unfold PV.toD PyData.depth; exact Nat.succ_le_succ (okDs_depth h)
  | n + 1, .lst xs, h => by unfold PV.okD at h; unfold PV.toD PyData.depth; exact Nat.succ_le_succ (okDs_depth h)
theorem okDs_depth : ∀ {n : Nat} {xs : List PV}, okDs n xs = true → PyData.depthAll (toDs xs) ≤ n
  | _, [], _ => by simp [toDs, PyData.depthAll]
  | n, x :: xs, h => by
    unfold okDs at h
    obtain ⟨h1, h2⟩ := Bool.and_eq_true_iff.mp h
    unfold toDs PyData.depthAll
    exact Nat.max_le.mpr ⟨okD_depth h1, okDs_depth h2⟩
end
mutual
theorem eqP_eqv : ∀ {n k : Nat} {a b : PV}, a.okD n = true → b.okD k = true → eqP a b = PyData.eqv a.toD b.toD
  | n, k, a, b, ha, hb => by
    cases a with
    | ty x => cases n <;> (unfold PV.okD at ha; cases ha)
    | gl x => cases n <;> (unfold PV.okD at ha; cases ha)
    | scr x => cases n <;> (unfold PV.okD at ha; cases ha)
    | dic x y => cases n <;> (unfold PV.okD at ha; cases ha)
    | tup xs =>
      cases b with
      | ty x => cases k <;> (unfold PV.okD at hb; cases hb)
      | gl x => cases k <;> (unfold PV.okD at hb; cases hb)
      | scr x => cases k <;> (unfold PV.okD at hb; cases hb)
      | dic x y => cases k <;> (unfold PV.okD at hb; cases hb)
      | tup ys =>
        cases n with
        | zero => unfold PV.okD at ha; cases ha
        | succ n =>
          cases k with
          | zero => unfold PV.okD at hb; cases hb
          | succ k =>
            unfold PV.okD at ha hb
            unfold eqP PV.toD PyData.eqv
            exact eqPs_eqv ha hb
      | _ => simp [eqP, PV.toD, PyData.eqv]
    | lst xs =>
      cases b with
      | ty x => cases k <;> (unfold PV.okD at hb; cases hb)
      | gl x => cases k <;> (unfold PV.okD at hb; cases hb)
      | scr x => cases k <;> (unfold PV.okD at hb; cases hb)
      | dic x y => cases k <;> (unfold PV.okD at hb; cases hb)
      | lst ys =>
        cases n with
        | zero => unfold PV.okD at ha; cases ha
        | succ n =>
          cases k with
          | zero => unfold PV.okD at hb; cases hb
          | succ k =>
            unfold PV.okD at ha hb
            unfold eqP PV.toD PyData.eqv
            exact eqPs_eqv ha hb
      | _ => simp [eqP, PV.toD, PyData.eqv]
    | _ =>
      cases b with
      | ty x => cases k <;> (unfold PV.okD at hb; cases hb)
      | gl x => cases k <;> (unfold PV.okD at hb; cases hb)
      | scr x => cases k <;> (unfold PV.okD at hb; cases hb)
      | dic x y => cases k <;> (unfold PV.okD at hb; cases hb)
      | _ => simp [eqP, PV.toD, PyData.eqv]
theorem eqPs_eqv : ∀ {n k : Nat} {xs ys : List PV}, okDs n xs = true → okDs k ys = true → eqPs xs ys = PyData.eqvAll (toDs xs) (toDs ys)
  | _, _, [], [], _, _ => by simp [eqPs, toDs, PyData.eqvAll]
  | _, _, [], _ :: _, _, _ => by simp [eqPs, toDs, PyData.eqvAll]
  | _, _, _ :: _, [], _, _ => by simp [eqPs, toDs, PyData.eqvAll]
  | n, k, x :: xs, y :: ys, ha, hb => by
    unfold okDs at ha hb
    obtain ⟨a1, a2⟩ := Bool.and_eq_true_iff.mp ha
    obtain ⟨b1, b2⟩ := Bool.and_eq_true_iff.mp hb
    unfold eqPs toDs PyData.eqvAll
    rw [eqP_eqv a1 b1, eqPs_eqv a2 b2]
end
section
variable {X : Cx}
theorem dat_dp {H : Hp} {S : Sg} {m : Mem} {x : Val} {v : V} {p : PV} {n : Nat} (rm : RM X.K X.mg H S m) (r : RV X.K X.mg H S x v) (h : dat m x = some p) (hn : p.okD n = true) : Dp X.K H v p.toD := by
  cases x with
  | pv q => cases h; exact RP.dp r hn
  | ref k =>
    have h' : (match m[k]? with | some (.lst xs) => some (PV.lst xs) | _ => none) = some p := h
    split at h'
    · rename_i xs e
      cases h'
      obtain ⟨a, vs, rfl, h1, r1⟩ := litems_sq (x := .ref k) (xs := xs) rm r (by show (match m[k]? with | some (.lst xs) => some xs | _ => none) = some xs; rw [e])
      cases n with
      | zero => unfold PV.okD at hn; cases hn
      | succ n => unfold PV.okD at hn; unfold PV.toD; exact .lst (.inl h1) (RPs.dps r1 hn)
    · cases h'
theorem room60 {A : Around} {a b : PyData} (hu : A.units + 64 < cLine) (h : a.depth ≤ 60) : A.units + min a.depth b.depth < cLine := by
  have := Nat.min_le_left a.depth b.depth
  omega
theorem eqV_ok {m : Mem} {x y : Val} {b : Bool} (h : eqV m x y = some b) : ∃ p q, dat m x = some p ∧ dat m y = some q ∧ p.okD 60 = true ∧ q.okD 60 = true ∧ b = eqP p q := by
  unfold eqV at h
  split at h
  · rename_i p q e1 e2
    split at h
    · rename_i z
      cases h
      exact ⟨p, q, e1, e2, z.1, z.2, rfl⟩
    · cases h
  · cases h
theorem op_eq' (hu : X.A.units + 64 < cLine) : OpR X (compareOp .Eq) (rB X.K X.mg (cmp .eq)) := by
  intro pins s σ H x y v u Q I rx ry h
  obtain ⟨m, S, xv, yv, rm, hx, hy, r, e, q⟩ := h
  have e : (eqV m xv yv).map (fun b => Val.pv (.bl b)) = some r := e
  cases ee : eqV m xv yv with
  | none => rw [ee] at e; cases e
  | some b =>
    rw [ee] at e
    cases e
    obtain ⟨p, p', e1, e2, k1, k2, rfl⟩ := eqV_ok ee
    obtain ⟨as, r1⟩ := Dp.reads I _ x v (dat_dp rm hx e1 k1) rx
    obtain ⟨bs, r2⟩ := Dp.reads I _ y u (dat_dp rm hy e2 k2) ry
    refine SeqAt.eq_plain r1 r2 (okD_plain k1) (okD_plain k2) (room60 hu (okD_depth k1)) ⟨.bl _, H, I, rfl, ?_⟩
    rw [← eqP_eqv k1 k2]
    exact mem_of rm q (.bl _)
theorem op_ne' (hu : X.A.units + 64 < cLine) : OpR X (compareOp .NotEq) (rB X.K X.mg (cmp .ne)) := by
  intro pins s σ H x y v u Q I rx ry h
  obtain ⟨m, S, xv, yv, rm, hx, hy, r, e, q⟩ := h
  have e : (eqV m xv yv).map (fun b => Val.pv (.bl (!b))) = some r := e
  cases ee : eqV m xv yv with
  | none => rw [ee] at e; cases e
  | some b =>
    rw [ee] at e
    cases e
    obtain ⟨p, p', e1, e2, k1, k2, rfl⟩ := eqV_ok ee
    obtain ⟨as, r1⟩ := Dp.reads I _ x v (dat_dp rm hx e1 k1) rx
    obtain ⟨bs, r2⟩ := Dp.reads I _ y u (dat_dp rm hy e2 k2) ry
    refine SeqAt.ne_plain r1 r2 (okD_plain k1) (okD_plain k2) (room60 hu (okD_depth k1)) ⟨.bl _, H, I, rfl, ?_⟩
    rw [← eqP_eqv k1 k2]
    exact mem_of rm q (.bl _)
theorem icmp_of {H : Hp} {S : Sg} {xv yv : Val} {x y : V} {f : Int → Int → Bool} {r : Val} (hx : RV X.K X.mg H S xv x) (hy : RV X.K X.mg H S yv y)
    (e : icmp f xv yv = some r) : ∃ i j, x = .int i ∧ y = .int j ∧ r = .pv (.bl (f i j)) := by
  unfold icmp at e
  split at e
  · cases rv_int hx
    cases rv_int hy
    cases e
    exact ⟨_, _, rfl, rfl, rfl⟩
  · cases e
theorem op_lt' : OpR X (compareOp .Lt) (rB X.K X.mg (cmp .lt)) := by
  intro pins s σ H x y v u Q I rx ry h
  obtain ⟨m, S, xv, yv, rm, hx, hy, r, e, q⟩ := h
  have e : slt xv yv = some r := e
  unfold slt at e
  split at e
  · cases rv_str hx
    cases rv_str hy
    cases e
    exact op_lt_str pins s σ H _ _ v u Q I rx ry ⟨_, _, rfl, rfl, mem_of rm q (.bl _)⟩
  obtain ⟨i, j, rfl, rfl, rfl⟩ := icmp_of hx hy e
  exact op_lt pins s σ H _ _ v u Q I rx ry ⟨_, _, rfl, rfl, mem_of rm q (.bl _)⟩
theorem op_le' : OpR X (compareOp .LtE) (rB X.K X.mg (cmp .le)) := by
  intro pins s σ H x y v u Q I rx ry h
  obtain ⟨m, S, xv, yv, rm, hx, hy, r, e, q⟩ := h
  obtain ⟨i, j, rfl, rfl, rfl⟩ := icmp_of hx hy e
  exact op_le pins s σ H _ _ v u Q I rx ry ⟨_, _, rfl, rfl, mem_of rm q (.bl _)⟩
theorem op_gt' : OpR X (compareOp .Gt) (rB X.K X.mg (cmp .gt)) := by
  intro pins s σ H x y v u Q I rx ry h
  obtain ⟨m, S, xv, yv, rm, hx, hy, r, e, q⟩ := h
  obtain ⟨i, j, rfl, rfl, rfl⟩ := icmp_of hx hy e
  exact op_gt pins s σ H _ _ v u Q I rx ry ⟨_, _, rfl, rfl, mem_of rm q (.bl _)⟩
theorem op_ge' : OpR X (compareOp .GtE) (rB X.K X.mg (cmp .ge)) := by
  intro pins s σ H x y v u Q I rx ry h
  obtain ⟨m, S, xv, yv, rm, hx, hy, r, e, q⟩ := h
  obtain ⟨i, j, rfl, rfl, rfl⟩ := icmp_of hx hy e
  exact op_ge pins s σ H _ _ v u Q I rx ry ⟨_, _, rfl, rfl, mem_of rm q (.bl _)⟩
theorem is_bool_gen {M : Model} {A : Around} {E : Value → Shared → Prop} {s : Shared} {y : V} {v : Value} {b : Bool} {Q : Value → Shared → Prop} (r : RelV y v) (h : Q (.bool (v == .bool b)) s) : wpAny M A (compareOp .Is v (.bool b)) Q E s := by
  cases y <;> first
    | (cases r; exact wpAny_pure h)
    | (obtain ⟨t, rfl⟩ := r; exact wpAny_pure h)
theorem isnot_bool_gen {M : Model} {A : Around} {E : Value → Shared → Prop} {s : Shared} {y : V} {v : Value} {b : Bool} {Q : Value → Shared → Prop} (r : RelV y v) (h : Q (.bool (!(v == .bool b))) s) : wpAny M A (compareOp .IsNot v (.bool b)) Q E s := by
  cases y <;> first
    | (cases r; exact wpAny_pure h)
    | (obtain ⟨t, rfl⟩ := r; exact wpAny_pure h)
theorem alive_of {H : Hp} {S : Sg} {x : Val} {y : V} {m : Mem} (rm : RM X.K X.mg H S m) (r : RV X.K X.mg H S x y) (h : alive m x = true) : ∀ n, x = .ref n → ∃ a : Addr, y = .ref a := fun n e => by
  subst e
  obtain ⟨o, h1, h2⟩ := r
  cases o with
  | none =>
    have z := rm.dead n h1
    unfold alive at h
    simp only [z] at h
    cases h
  | some a => exact ⟨a, h2 a rfl⟩
theorem isNon_of {H : Hp} {S : Sg} {x : Val} {y : V} {v : Value} (ex : ∀ n, x = .ref n → ∃ a : Addr, y = .ref a) (r : RV X.K X.mg H S x y) (q : RelV y v) : (v == Value.none) = isNon x := by
  rw [q.none_iff]
  cases x with
  | ref n => obtain ⟨a, rfl⟩ := ex n rfl; rfl
  | pv p => cases r <;> rfl
theorem isBl_of {H : Hp} {S : Sg} {b : Bool} {x : Val} {y : V} {v : Value} (ex : ∀ n, x = .ref n → ∃ a : Addr, y = .ref a) (r : RV X.K X.mg H S x y) (q : RelV y v) : (v == Value.bool b) = isBl b x := by
  cases x with
  | ref n => obtain ⟨a, rfl⟩ := ex n rfl; cases q; rfl
  | pv p =>
    cases r with
    | bl c => cases q; cases b <;> cases c <;> rfl
    | non => cases q; rfl
    | int i => obtain ⟨t, rfl⟩ := q; rfl
    | str s => obtain ⟨t, rfl⟩ := q; rfl
    | ty n => cases q; rfl
    | gl h => cases q; rfl
    | tup h r => cases q; rfl
    | lst h r => cases q; rfl
    | scr h r => cases q; rfl
theorem op_is' : OpR X (compareOp .Is) (rB X.K X.mg (cmp .is)) := by
  intro pins s σ H x y v u Q I rx ry h
  obtain ⟨m, S, xv, yv, rm, hx, hy, r, e, q⟩ := h
  have e : (isV m xv yv).map (fun b => Val.pv (.bl b)) = some r := e
  unfold isV at e
  split at e
  · rename_i al
    have ex := alive_of rm hx al
    split at e
    · cases rv_non hy
      cases e
      cases ry
      exact is_none_gen ⟨.bl _, H, I, by rw [isNon_of ex hx rx]; rfl, mem_of rm q (.bl _)⟩
    · cases rv_bl hy
      cases e
      cases ry
      exact is_bool_gen rx ⟨.bl _, H, I, by rw [isBl_of ex hx rx]; rfl, mem_of rm q (.bl _)⟩
    · cases e
  · cases e
theorem op_isnot' : OpR X (compareOp .IsNot) (rB X.K X.mg (cmp .isnot)) := by
  intro pins s σ H x y v u Q I rx ry h
  obtain ⟨m, S, xv, yv, rm, hx, hy, r, e, q⟩ := h
  have e : (isV m xv yv).map (fun b => Val.pv (.bl (!b))) = some r := e
  unfold isV at e
  split at e
  · rename_i al
    have ex := alive_of rm hx al
    split at e
    · cases rv_non hy
      cases e
      cases ry
      exact isnot_none_gen ⟨.bl _, H, I, by rw [isNon_of ex hx rx]; rfl, mem_of rm q (.bl _)⟩
    · cases rv_bl hy
      cases e
      cases ry
      exact isnot_bool_gen rx ⟨.bl _, H, I, by rw [isBl_of ex hx rx]; rfl, mem_of rm q (.bl _)⟩
    · cases e
  · cases e
theorem inV_ok {m : Mem} {x y : Val} {b : Bool} (h : inV m x y = some b) : (∃ c t, x = .pv (.str ⟨#[c]⟩) ∧ y = .pv (.str t) ∧ b = decide (c ∈ t.cps.toList)) ∨
    (∃ p ys q, dat m x = some p ∧ dat m y = some q ∧ (q = .lst ys ∨ q = .tup ys) ∧ p.okD 60 = true ∧ okDs 60 ys = true ∧ b = ys.any fun z => eqP z p) ∨
    ∃ n o, y = .ref n ∧ dget m[n]? x = some o ∧ b = o.isSome := by
  unfold inV at h
  split at h
  · split at h
    · rename_i s t l0 c e
      cases h
      refine .inl ⟨c, t, ?_, rfl, rfl⟩
      obtain ⟨⟨l⟩⟩ := s
      have e : l = [c] := e
      rw [e]
    · cases h
  · split at h
    · rename_i p ys e1 e2
      split at h
      · rename_i z
        cases h
        exact .inr (.inl ⟨p, ys, _, e1, e2, .inl rfl, z.1, z.2, rfl⟩)
      · cases h
    · rename_i p ys e1 e2
      split at h
      · rename_i z
        cases h
        exact .inr (.inl ⟨p, ys, _, e1, e2, .inr rfl, z.1, z.2, rfl⟩)
      · cases h
    · split at h
      · rename_i n _ _
        obtain ⟨o, e1, e2⟩ := Option.map_eq_some_iff.mp h
        exact .inr (.inr ⟨n, o, rfl, e1, e2.symm⟩)
      · cases h
    · cases h
theorem any_eqv {p : PV} (hp : p.okD 60 = true) : ∀ {ys : List PV}, okDs 60 ys = true → (ys.any fun z => eqP z p) = (toDs ys).any fun z => PyData.eqv z p.toD
  | [], _ => by simp [toDs]
  | y :: ys, h => by
    unfold okDs at h
    obtain ⟨h1, h2⟩ := Bool.and_eq_true_iff.mp h
    rw [toDs, List.any_cons, List.any_cons, any_eqv hp h2, eqP_eqv h1 hp]
theorem room61 {A : Around} {a : Nat} {b : PyData} (hu : A.units + 64 < cLine) (h : b.depth ≤ 60) : A.units + 1 + min a b.depth < cLine := by
  have := Nat.min_le_right a b.depth
  omega
theorem op_in' (hu : X.A.units + 64 < cLine) : OpR X (compareOp .In) (rB X.K X.mg (cmp .isin)) := by
  intro pins s σ H x y v u Q I rx ry h
  obtain ⟨m, S, xv, yv, rm, hx, hy, r, e, q⟩ := h
  have e : (inV m xv yv).map (fun b => Val.pv (.bl b)) = some r := e
  cases ee : inV m xv yv with
  | none => rw [ee] at e; cases e
  | some b =>
    rw [ee] at e
    cases e
    rcases inV_ok ee with ⟨c, t, rfl, rfl, rfl⟩ | ⟨p, ys, p', e1, e2, k0, k1, k2, rfl⟩ | ⟨k, o, rfl, e1, rfl⟩
    · cases rv_str hx
      cases rv_str hy
      exact op_in_sign pins s σ H _ _ v u Q I rx ry ⟨_, _, rfl, rfl, mem_of rm q (.bl _)⟩
    · have q' : Q (.bl ((toDs ys).any fun z => PyData.eqv z p.toD)) H := by
        rw [← any_eqv k1 k2]
        exact mem_of rm q (.bl _)
      obtain ⟨as, r1⟩ := Dp.reads I _ x v (dat_dp rm hx e1 k1) rx
      rcases k0 with rfl | rfl
      · have k3 : (PV.lst ys).okD 61 = true := by unfold PV.okD; exact k2
        obtain ⟨bs, r2⟩ := Dp.reads I _ y u (dat_dp rm hy e2 k3) ry
        unfold PV.toD at r2
        exact SeqAt.in_list_data r2 r1 (okDs_plain k2) (okD_plain k1) (room61 hu (okD_depth k1)) ⟨.bl _, H, I, rfl, q'⟩
      · have k3 : (PV.tup ys).okD 61 = true := by unfold PV.okD; exact k2
        obtain ⟨bs, r2⟩ := Dp.reads I _ y u (dat_dp rm hy e2 k3) ry
        unfold PV.toD at r2
        exact SeqAt.in_tuple_data r2 r1 (okDs_plain k2) (okD_plain k1) (room61 hu (okD_depth k1)) ⟨.bl _, H, I, rfl, q'⟩
    · obtain ⟨a, ov, rfl, g, g1, g2⟩ := dget_ok rm hy hx e1
      cases ry
      refine d_in (by omega) I g rx fun s' I' => ⟨.bl ov.isSome, H, I', rfl, ?_⟩
      have eo : ov.isSome = o.isSome := by
        cases o with
        | none => rw [g2 rfl]; rfl
        | some p => obtain ⟨v, e, _⟩ := g1 p rfl; rw [e]; rfl
      rw [eo]
      exact mem_of rm q (.bl _)
theorem op_notin' (hu : X.A.units + 64 < cLine) : OpR X (compareOp .NotIn) (rB X.K X.mg (cmp .notin)) := by
  intro pins s σ H x y v u Q I rx ry h
  obtain ⟨m, S, xv, yv, rm, hx, hy, r, e, q⟩ := h
  have e : (inV m xv yv).map (fun b => Val.pv (.bl (!b))) = some r := e
  cases ee : inV m xv yv with
  | none => rw [ee] at e; cases e
  | some b =>
    rw [ee] at e
    cases e
    rcases inV_ok ee with ⟨c, t, rfl, rfl, rfl⟩ | ⟨p, ys, p', e1, e2, k0, k1, k2, rfl⟩ | ⟨k, o, rfl, e1, rfl⟩
    · cases rv_str hx
      cases rv_str hy
      exact op_notIn_sign pins s σ H _ _ v u Q I rx ry ⟨_, _, rfl, rfl, mem_of rm q (.bl _)⟩
    · have q' : Q (.bl (!(toDs ys).any fun z => PyData.eqv z p.toD)) H := by
        rw [← any_eqv k1 k2]
        exact mem_of rm q (.bl _)
      obtain ⟨as, r1⟩ := Dp.reads I _ x v (dat_dp rm hx e1 k1) rx
      rcases k0 with rfl | rfl
      · have k3 : (PV.lst ys).okD 61 = true := by unfold PV.okD; exact k2
        obtain ⟨bs, r2⟩ := Dp.reads I _ y u (dat_dp rm hy e2 k3) ry
        unfold PV.toD at r2
        exact SeqAt.notIn_list_data r2 r1 (okDs_plain k2) (okD_plain k1) (room61 hu (okD_depth k1)) ⟨.bl _, H, I, rfl, q'⟩
      · have k3 : (PV.tup ys).okD 61 = true := by unfold PV.okD; exact k2
        obtain ⟨bs, r2⟩ := Dp.reads I _ y u (dat_dp rm hy e2 k3) ry
        unfold PV.toD at r2
        exact SeqAt.notIn_tuple_data r2 r1 (okDs_plain k2) (okD_plain k1) (room61 hu (okD_depth k1)) ⟨.bl _, H, I, rfl, q'⟩
    · obtain ⟨a, ov, rfl, g, g1, g2⟩ := dget_ok rm hy hx e1
      cases ry
      refine d_notIn (by omega) I g rx fun s' I' => ⟨.bl (!ov.isSome), H, I', rfl, ?_⟩
      have eo : ov.isSome = o.isSome := by
        cases o with
        | none => rw [g2 rfl]; rfl
        | some p => obtain ⟨v, e, _⟩ := g1 p rfl; rw [e]; rfl
      rw [eo]
      exact mem_of rm q (.bl _)
def copOf : CmpOp → Option Cop
  | .Eq => some .eq
  | .NotEq => some .ne
  | .Lt => some .lt
  | .LtE => some .le
  | .Gt => some .gt
  | .GtE => some .ge
  | .Is => some .is
  | .IsNot => some .isnot
  | .In => some .isin
  | .NotIn => some .notin
theorem op_cmp (hu : X.A.units + 64 < cLine) {o : CmpOp} {b : Cop} (h : copOf o = some b) : OpR X (compareOp o) (rB X.K X.mg (cmp b)) := by
  cases o <;> first | (cases h; done) | skip
  all_goals cases h
  · exact op_eq' hu
  · exact op_ne' hu
  · exact op_lt'
  · exact op_le'
  · exact op_gt'
  · exact op_ge'
  · exact op_is'
  · exact op_isnot'
  · exact op_in' hu
  · exact op_notin' hu
theorem cmp_bl {o : Cop} {m : Mem} {x y r : Val} (h : cmp o m x y = some r) : ∃ b, r = .pv (.bl b) := by
  cases o with
  | lt =>
    have h : slt x y = some r := h
    unfold slt at h
    split at h
    · cases h; exact ⟨_, rfl⟩
    · exact icmp_bl h
  | le => exact icmp_bl h
  | gt => exact icmp_bl h
  | ge => exact icmp_bl h
  | eq =>
    have h : (eqV m x y).map (fun b => Val.pv (.bl b)) = some r := h
    obtain ⟨b, _, e⟩ := Option.map_eq_some_iff.mp h
    exact ⟨_, e.symm⟩
  | ne =>
    have h : (eqV m x y).map (fun b => Val.pv (.bl (!b))) = some r := h
    obtain ⟨b, _, e⟩ := Option.map_eq_some_iff.mp h
    exact ⟨_, e.symm⟩
  | is =>
    have h : (isV m x y).map (fun b => Val.pv (.bl b)) = some r := h
    obtain ⟨b, _, e⟩ := Option.map_eq_some_iff.mp h
    exact ⟨_, e.symm⟩
  | isin =>
    have h : (inV m x y).map (fun b => Val.pv (.bl b)) = some r := h
    obtain ⟨b, _, e⟩ := Option.map_eq_some_iff.mp h
    exact ⟨_, e.symm⟩
  | notin =>
    have h : (inV m x y).map (fun b => Val.pv (.bl (!b))) = some r := h
    obtain ⟨b, _, e⟩ := Option.map_eq_some_iff.mp h
    exact ⟨_, e.symm⟩
  | isnot =>
    have h : (isV m x y).map (fun b => Val.pv (.bl (!b))) = some r := h
    obtain ⟨b, _, e⟩ := Option.map_eq_some_iff.mp h
    exact ⟨_, e.symm⟩
where
  icmp_bl {f : Int → Int → Bool} (h : icmp f x y = some r) : ∃ b, r = .pv (.bl b) := by
    unfold icmp at h
    split at h
    · cases h; exact ⟨_, rfl⟩
    · cases h
end
end Pn

set_option Elab.async false
set_option linter.all false
set_option maxRecDepth 100000
set_option autoImplicit false
set_option maxHeartbeats 1000000
namespace Pn
open PySem PySem.Spec PyProof.Rows L2 HT

section
variable {X : Cx}
/-! ### truth -/
theorem RPs.isE {K : PySem.W.Frag} {mg : Str → Option Value} {H : Hp} {S : Sg} {xs : List PV} {vs : List V} (r : RPs K mg H S xs vs) : vs.isEmpty = xs.isEmpty := by cases r <;> rfl
theorem truth_of {H : Hp} {S : Sg} {m : Mem} {x : Val} {y : V} {b : Bool} (rm : RM X.K X.mg H S m) (r : RV X.K X.mg H S x y) (h : truth m x = some b) : TruV X.K y H b := by
  unfold truth at h
  split at h
  · cases r; cases h; rfl
  · cases r; cases h; rfl
  · cases r; cases h; rfl
  · cases r
    split at h
    · cases h
      rename_i hz
      exact ⟨by rw [line]; exact hz, rfl⟩
    · cases h
  · split at h
    · rename_i xs e
      cases h
      obtain ⟨a, vs, rfl, hs, rs⟩ := items_sq rm r e
      rcases hs with hs | hs
      · exact .inl ⟨vs, hs, by rw [rs.isE]⟩
      · exact .inr (.inl ⟨vs, hs, by rw [rs.isE]⟩)
    · cases h

/-! ### an item -/
theorem atI_at {α : Type} {xs : List α} {i : Int} {x : α} (h : atI xs i = some x) : ∃ j, ixN xs.length i = some j ∧ xs[j]? = some x := by
  unfold atI at h
  obtain ⟨j, h1, h2⟩ := Option.bind_eq_some_iff.mp h
  exact ⟨j, h1, h2⟩
theorem RPs.atI {H : Hp} {S : Sg} {xs : List PV} {vs : List V} {i : Int} {x : PV} (r : RPs X.K X.mg H S xs vs) (h : L2.atI xs i = some x) : ∃ v, L2.atI vs i = some v ∧ RP X.K X.mg H S x v := by
  obtain ⟨j, h1, h2⟩ := atI_at h
  obtain ⟨v, h3, h4⟩ := r.get h2
  refine ⟨v, ?_, h4⟩
  unfold L2.atI
  rw [← r.len, h1]
  exact h3
theorem ix_dict {value slice : Expr} {pins : List (Addr × Obj)} {s : Shared} {σ : L2.St} {H : Hp} {a : Addr} {y : V} {u : Value} {v : V} {Q : VK} (hu : X.A.units + 1 < cLine) (I : L2.Inv X pins σ H s) (g : DGet H a y (some v)) (ry : L2.RelV y u) (q : Q v H)
    (hs : subscripted slice false (.ref a) u = operate [.ref a, u] (getItem (.ref a) u)) : wpAny (model X.prog X.w) X.A (subscriptTail value slice (.ref a) u) (EP X pins σ Q) X.xe s := by
  have hT := dict_typeIs I g
  have h₂ : wpAny (model X.prog X.w) X.A (getItem (.ref a) u) (EP X pins σ Q) X.xe s := d_getItem hu I g ry fun w' s3 I3 rw' => ⟨v, H, I3, rw', q⟩
  unfold subscriptTail
  refine wpAny_bind ?_
  rw [getitemInPython_of_ne hT.not_modules]
  refine wpAny_bind (wpAny_specialOf hT PySem.F.slot_dict_getitem.lookup ?_)
  have fin : wpAny (model X.prog X.w) X.A (subscripted slice false (.ref a) u) (fun r s₃ => wpAny (model X.prog X.w) X.A (letTemporaryGo value (.ref a) r >>= fun _ => pure r) (EP X pins σ Q) X.xe s₃) X.xe s := by
    rw [hs]
    exact wpAny_operating (wpAny_mono h₂ (fun r s₃ h₃ => wpAny_bind (wpAny_letTemporaryGo (wpAny_pure h₃))) fun _ _ x => x)
  first
    | exact wpAny_pure (wpAny_bind fin)
    | exact wpAny_bind (wpAny_pure (wpAny_bind fin))
    | exact wpAny_bind fin
theorem ix_idx (hu : X.A.units + 64 < cLine) : IxR X (rB X.K X.mg idx) := by
  intro ve se pins s σ H x y v u Q I rx ry h
  intro hsub
  obtain ⟨m, S, xv, yv, rm, hx, hy, r, e, q⟩ := h
  unfold idx at e
  split at e
  · cases rv_str hx
    cases rv_int hy
    split at e
    · rename_i hz
      obtain ⟨c, hc, er⟩ := Option.map_eq_some_iff.mp e
      subst er
      exact ix_seq ve se pins s σ H _ _ v u Q I rx ry (.inr (.inr ⟨_, _, c, rfl, rfl, by rw [line]; exact hz, hc, mem_of rm q (.str _)⟩)) hsub
    · cases e
  · split at e
    · rename_i xs ei
      split at e
      · rename_i i
        cases rv_int hy
        obtain ⟨c, hc, er⟩ := Option.map_eq_some_iff.mp e
        subst er
        obtain ⟨a, vs, rfl, hs, rs⟩ := items_sq rm hx ei
        obtain ⟨w, hw, rw'⟩ := rs.atI hc
        rcases hs with hs | hs
        · exact ix_seq ve se pins s σ H _ _ v u Q I rx ry (.inl ⟨a, vs, _, w, rfl, rfl, hs, hw, mem_of rm q rw'⟩) hsub
        · exact ix_seq ve se pins s σ H _ _ v u Q I rx ry (.inr (.inl ⟨a, vs, _, w, rfl, rfl, hs, hw, mem_of rm q rw'⟩)) hsub
      · cases e
    · split at e
      · rename_i n _
        split at e
        · rename_i p ed
          cases e
          obtain ⟨a, ov, rfl, g, g1, g2⟩ := dget_ok rm hx hy ed
          obtain ⟨w, rfl, rw'⟩ := g1 p rfl
          cases rx
          exact ix_dict (by omega) I g ry (mem_of rm q rw') hsub
        · cases e
      · cases e

/-! ### slices -/
theorem RPs.cut {H : Hp} {S : Sg} {xs : List PV} {vs : List V} {lo hi : Option Int} (r : RPs X.K X.mg H S xs vs) : RPs X.K X.mg H S (Pn.cut xs lo hi) (cutV vs lo hi) := by
  unfold Pn.cut cutV
  rw [r.len]
  exact (r.drop _).take _
theorem cut_whole {α : Type} {xs : List α} {lo hi : Option Int} (h : sIx xs.length 0 lo = 0 ∧ sIx xs.length xs.length hi = xs.length) : Pn.cut xs lo hi = xs := by
  unfold Pn.cut
  rw [h.1, h.2]
  simp
def rSl (K : PySem.W.Frag) (mg : Str → Option Value) : V → Option Int → Option Int → Hp → VK → Prop := fun x lo hi H Q => ∃ m S xv, RM K mg H S m ∧ RV K mg H S xv x ∧ ∃ r, slc m xv lo hi = some r ∧
  ∀ v H' S', Ext H S H' S' → RM K mg H' S' m → RV K mg H' S' r v → Q v H'
theorem sl_slc : SlR X (rSl X.K X.mg) := by
  intro pins s σ H x v vl vu lo hi sl Q I rx hs pl pu h
  obtain ⟨m, S, xv, rm, hx, r, e, q⟩ := h
  unfold slc at e
  split at e
  · obtain ⟨a, vs, rfl, h1, r1⟩ := rv_tup hx
    cases e
    refine sl_tupA pins s σ H _ v vl vu lo hi sl Q I rx hs pl pu ⟨a, vs, rfl, h1.sq, fun hw => ?_, fun hw p hp => ?_⟩
    · rw [← r1.len] at hw
      rw [cut_whole hw] at q
      exact mem_of rm q (.tup h1 r1)
    · exact q _ _ S (Ext.new hp) (rm.new hp) (RP.newTup rm hp r1.cut)
  · cases hx with
    | lst h1 r1 =>
      cases e
      exact sl_list pins s σ H _ v vl vu lo hi sl Q I rx hs pl pu ⟨_, _, rfl, h1.sq, fun p hp => q _ _ S (Ext.new hp) (rm.new hp) (RP.newLst rm hp r1.cut)⟩
  · cases rv_str hx
    split at e
    · rename_i hz
      cases e
      exact sl_str pins s σ H _ v vl vu lo hi sl Q I rx hs pl pu ⟨_, rfl, by rw [line]; exact hz, mem_of rm q (.str _)⟩
    · cases e
  · rename_i n
    split at e
    · rename_i xs em
      cases e
      obtain ⟨a, vs, rfl, h1, r1⟩ := litems_sq (x := .ref n) (xs := xs) rm hx (by show (match m[n]? with | some (.lst xs) => some xs | _ => none) = some xs; rw [em])
      exact sl_list pins s σ H _ v vl vu lo hi sl Q I rx hs pl pu ⟨_, _, rfl, .inl h1, fun p hp => q _ _ S (Ext.new hp) (rm.new hp) (RP.newLst rm hp r1.cut)⟩
    · cases e
  · cases e

/-! ### built-in functions -/
def rC (K : PySem.W.Frag) (mg : Str → Option Value) (f : BFn) : List V → Hp → VK → Prop := fun vs H Q => ∃ m S xs, RM K mg H S m ∧ RVs K mg H S xs vs ∧ ∃ r, f m xs = some r ∧
  ∀ v H' S', Ext H S H' S' → RM K mg H' S' m → RV K mg H' S' r v → Q v H'
theorem rvs1 {K : PySem.W.Frag} {mg : Str → Option Value} {H : Hp} {S : Sg} {x : Val} {vs : List V} (h : RVs K mg H S [x] vs) : ∃ v, vs = [v] ∧ RV K mg H S x v := by
  cases h with
  | cons r t => cases t; exact ⟨_, rfl, r⟩
theorem rvs2 {K : PySem.W.Frag} {mg : Str → Option Value} {H : Hp} {S : Sg} {x y : Val} {vs : List V} (h : RVs K mg H S [x, y] vs) : ∃ v w, vs = [v, w] ∧ RV K mg H S x v ∧ RV K mg H S y w := by
  cases h with
  | cons r t => obtain ⟨w, rfl, r'⟩ := rvs1 t; exact ⟨_, _, rfl, r, r'⟩
theorem b_abs : CallR X (.builtin "abs") (rC X.K X.mg bAbs) := by
  intro pins s σ H vs us Q I r h
  obtain ⟨m, S, xs, rm, rv, v, e, q⟩ := h
  unfold bAbs at e
  split at e
  · cases e
    obtain ⟨v, rfl, r1⟩ := rvs1 rv
    cases rv_int r1
    exact call_abs pins s σ H _ us Q I r ⟨_, rfl, mem_of rm q (.int _)⟩
  · cases e
theorem b_len : CallR X (.builtin "len") (rC X.K X.mg bLen) := by
  intro pins s σ H vs us Q I r h
  obtain ⟨m, S, xs, rm, rv, v, e, q⟩ := h
  unfold bLen at e
  split at e
  · obtain ⟨v, rfl, r1⟩ := rvs1 rv
    cases rv_str r1
    split at e
    · rename_i hz
      cases e
      exact call_len_str pins s σ H _ us Q I r ⟨_, rfl, by rw [line]; exact hz, mem_of rm q (.int _)⟩
    · cases e
  · obtain ⟨v, rfl, r1⟩ := rvs1 rv
    obtain ⟨xs, hi, e'⟩ := Option.map_eq_some_iff.mp e
    subst e'
    obtain ⟨a, vs, rfl, hs, rs⟩ := items_sq rm r1 hi
    exact call_len_seq pins s σ H _ us Q I r ⟨a, vs, rfl, hs, by rw [← rs.len]; exact mem_of rm q (.int _)⟩
  · cases e
theorem b_int : CallR X (.type "int") (rC X.K X.mg bInt) := by
  intro pins s σ H vs us Q I r h
  obtain ⟨m, S, xs, rm, rv, v, e, q⟩ := h
  unfold bInt at e
  split at e
  · cases e
    obtain ⟨v, rfl, r1⟩ := rvs1 rv
    cases rv_int r1
    exact call_int1 pins s σ H _ us Q I r (.inl ⟨_, rfl, mem_of rm q (.int _)⟩)
  · cases e
    obtain ⟨v, rfl, r1⟩ := rvs1 rv
    cases rv_bl r1
    exact call_int1 pins s σ H _ us Q I r (.inr ⟨_, rfl, mem_of rm q (.int _)⟩)
  · cases e
theorem b_str : CallR X (.type "str") (rC X.K X.mg bStr) := by
  intro pins s σ H vs us Q I r h
  obtain ⟨m, S, xs, rm, rv, v, e, q⟩ := h
  unfold bStr at e
  split at e
  · obtain ⟨v, rfl, r1⟩ := rvs1 rv
    cases rv_int r1
    split at e
    · rename_i hz
      cases e
      exact call_str_int pins s σ H _ us Q I r ⟨_, rfl, hz, mem_of rm q (.str _)⟩
    · cases e
  · cases e
    obtain ⟨v, rfl, r1⟩ := rvs1 rv
    cases rv_str r1
    obtain ⟨u, rfl, t, rfl⟩ := vals1 r
    exact PySem.P.str_of_str ⟨.str _, H, I, ⟨t, rfl⟩, mem_of rm q (.str _)⟩
  · cases e
theorem b_max2 (hc : X.calm = true) : CallR X (.builtin "max") (rC X.K X.mg bMax2) := by
  intro pins s σ H vs us Q I r h
  obtain ⟨m, S, xs, rm, rv, v, e, q⟩ := h
  unfold bMax2 at e
  split at e
  · cases e
    obtain ⟨v, w, rfl, r1, r2⟩ := rvs2 rv
    cases rv_int r1
    cases rv_int r2
    rename_i i j
    have e2 : (if j > i then j else i) = max i j := by split <;> omega
    exact call_max2 hc pins s σ H _ us Q I r ⟨_, _, rfl, by rw [e2]; exact mem_of rm q (.int _)⟩
  · cases e
theorem b_min2 (hc : X.calm = true) : CallR X (.builtin "min") (rC X.K X.mg bMin2) := by
  intro pins s σ H vs us Q I r h
  obtain ⟨m, S, xs, rm, rv, v, e, q⟩ := h
  unfold bMin2 at e
  split at e
  · cases e
    obtain ⟨v, w, rfl, r1, r2⟩ := rvs2 rv
    cases rv_int r1
    cases rv_int r2
    rename_i i j
    have e2 : (if j < i then j else i) = min i j := by split <;> omega
    exact call_min2 hc pins s σ H _ us Q I r ⟨_, _, rfl, by rw [e2]; exact mem_of rm q (.int _)⟩
  · cases e
theorem intsOf_rv {H : Hp} {S : Sg} : ∀ {xs : List PV} {ns : List Int} {vs : List V}, RPs X.K X.mg H S xs vs → intsOf xs = some ns → vs = ns.map V.int
  | [], ns, _, .nil, e => by cases (show some [] = some ns from e); rfl
  | x :: xs, ns, _, .cons r t, e => by
    cases r <;> first | (cases (show none = some ns from e); done) | skip
    rename_i i
    have e : (intsOf xs).map (i :: ·) = some ns := e
    obtain ⟨ms, h1, h2⟩ := Option.map_eq_some_iff.mp e
    subst h2
    rw [intsOf_rv t h1]
    rfl
theorem blsOf_rv {H : Hp} {S : Sg} : ∀ {xs : List PV} {ns : List Bool} {vs : List V}, RPs X.K X.mg H S xs vs → blsOf xs = some ns → vs = ns.map V.bl
  | [], ns, _, .nil, e => by cases (show some [] = some ns from e); rfl
  | x :: xs, ns, _, .cons r t, e => by
    cases r <;> first | (cases (show none = some ns from e); done) | skip
    rename_i i
    have e : (blsOf xs).map (i :: ·) = some ns := e
    obtain ⟨ms, h1, h2⟩ := Option.map_eq_some_iff.mp e
    subst h2
    rw [blsOf_rv t h1]
    rfl
theorem b_sum (hc : X.calm = true) : CallR X (.builtin "sum") (rC X.K X.mg bSum) := by
  intro pins s σ H vs us Q I r h
  obtain ⟨m, S, xs, rm, rv, v, e, q⟩ := h
  unfold bSum at e
  split at e
  · obtain ⟨v, rfl, r1⟩ := rvs1 rv
    obtain ⟨ns, hn, e'⟩ := Option.map_eq_some_iff.mp e
    subst e'
    obtain ⟨ys, hy, hn⟩ := Option.bind_eq_some_iff.mp hn
    obtain ⟨a, vs, rfl, hs, rs⟩ := litems_sq rm r1 hy
    cases intsOf_rv rs hn
    exact cr_sum hc pins s σ H _ us Q I r ⟨a, ns, rfl, .inl hs, mem_of rm q (.int _)⟩
  · cases e
theorem b_all (hc : X.calm = true) : CallR X (.builtin "all") (rC X.K X.mg bAll) := by
  intro pins s σ H vs us Q I r h
  obtain ⟨m, S, xs, rm, rv, v, e, q⟩ := h
  unfold bAll at e
  split at e
  · obtain ⟨v, rfl, r1⟩ := rvs1 rv
    obtain ⟨ns, hn, e'⟩ := Option.map_eq_some_iff.mp e
    subst e'
    obtain ⟨ys, hy, hn⟩ := Option.bind_eq_some_iff.mp hn
    obtain ⟨a, vs, rfl, hs, rs⟩ := litems_sq rm r1 hy
    cases blsOf_rv rs hn
    exact cr_all hc pins s σ H _ us Q I r ⟨a, ns, rfl, .inl hs, mem_of rm q (.bl _)⟩
  · cases e
theorem b_any (hc : X.calm = true) : CallR X (.builtin "any") (rC X.K X.mg bAny) := by
  intro pins s σ H vs us Q I r h
  obtain ⟨m, S, xs, rm, rv, v, e, q⟩ := h
  unfold bAny at e
  split at e
  · obtain ⟨v, rfl, r1⟩ := rvs1 rv
    obtain ⟨ns, hn, e'⟩ := Option.map_eq_some_iff.mp e
    subst e'
    obtain ⟨ys, hy, hn⟩ := Option.bind_eq_some_iff.mp hn
    obtain ⟨a, vs, rfl, hs, rs⟩ := litems_sq rm r1 hy
    cases blsOf_rv rs hn
    exact cr_any hc pins s σ H _ us Q I r ⟨a, ns, rfl, .inl hs, mem_of rm q (.bl _)⟩
  · cases e
theorem least_ok {ns : List Int} {n : Int} (h : leastI ns = some n) : 0 < ns.length ∧ ∀ m, m ∈ ns → (∀ y, y ∈ ns → m ≤ y) → m = n := by
  cases ns with
  | nil => cases h
  | cons x xs =>
    cases h
    refine ⟨Nat.succ_pos _, fun m hm hy => ?_⟩
    have := _root_.PySem.W.Mm.least hm hy
    exact this
theorem most_ok {ns : List Int} {n : Int} (h : mostI ns = some n) : 0 < ns.length ∧ ∀ m, m ∈ ns → (∀ y, y ∈ ns → y ≤ m) → m = n := by
  cases ns with
  | nil => cases h
  | cons x xs =>
    cases h
    refine ⟨Nat.succ_pos _, fun m hm hy => ?_⟩
    have := _root_.PySem.W.Mm.greatest hm hy
    exact this
theorem b_min1 (hc : X.calm = true) : CallR X (.builtin "min") (rC X.K X.mg bMin1) := by
  intro pins s σ H vs us Q I r h
  obtain ⟨m, S, xs, rm, rv, v, e, q⟩ := h
  unfold bMin1 at e
  split at e
  · obtain ⟨v, rfl, r1⟩ := rvs1 rv
    obtain ⟨n, hn, e'⟩ := Option.map_eq_some_iff.mp e
    subst e'
    obtain ⟨ns, hn, hl⟩ := Option.bind_eq_some_iff.mp hn
    obtain ⟨ys, hy, hn⟩ := Option.bind_eq_some_iff.mp hn
    obtain ⟨a, vs, rfl, hs, rs⟩ := litems_sq rm r1 hy
    cases intsOf_rv rs hn
    obtain ⟨l1, l2⟩ := least_ok hl
    exact cr_min hc pins s σ H _ us Q I r ⟨a, ns, rfl, .inl hs, l1, fun k k1 k2 => by rw [l2 k k1 k2]; exact mem_of rm q (.int _)⟩
  · cases e
theorem b_max1 (hc : X.calm = true) : CallR X (.builtin "max") (rC X.K X.mg bMax1) := by
  intro pins s σ H vs us Q I r h
  obtain ⟨m, S, xs, rm, rv, v, e, q⟩ := h
  unfold bMax1 at e
  split at e
  · obtain ⟨v, rfl, r1⟩ := rvs1 rv
    obtain ⟨n, hn, e'⟩ := Option.map_eq_some_iff.mp e
    subst e'
    obtain ⟨ns, hn, hl⟩ := Option.bind_eq_some_iff.mp hn
    obtain ⟨ys, hy, hn⟩ := Option.bind_eq_some_iff.mp hn
    obtain ⟨a, vs, rfl, hs, rs⟩ := litems_sq rm r1 hy
    cases intsOf_rv rs hn
    obtain ⟨l1, l2⟩ := most_ok hl
    exact cr_max hc pins s σ H _ us Q I r ⟨a, ns, rfl, .inl hs, l1, fun k k1 k2 => by rw [l2 k k1 k2]; exact mem_of rm q (.int _)⟩
  · cases e
theorem items_cases {m : Mem} {x : Val} {xs : List PV} (h : items m x = some xs) : litems m x = some xs ∨ x = .pv (.tup xs) ∨ x = .pv (.scr xs) := by
  cases x with
  | ref n => exact .inl h
  | pv p =>
    cases p <;> first
      | (cases h; done)
      | (cases h; exact .inr (.inl rfl))
      | (cases h; exact .inr (.inr rfl))
      | exact .inl h
theorem b_tup : CallR X (.type "tuple") (rC X.K X.mg bTup) := by
  intro pins s σ H vs us Q I r h
  obtain ⟨m, S, xs, rm, rv, v, e, q⟩ := h
  unfold bTup at e
  split at e
  · obtain ⟨v, rfl, r1⟩ := rvs1 rv
    obtain ⟨ys, hy, e'⟩ := Option.map_eq_some_iff.mp e
    subst e'
    rcases items_cases hy with hy | rfl | rfl
    · obtain ⟨a, ws, rfl, hs, rs⟩ := litems_sq rm r1 hy
      exact call_tuple_of pins s σ H _ us Q I r ⟨a, ws, rfl, .inl ⟨.inl hs, fun p hp => q _ _ S (Ext.new hp) (rm.new hp) (RP.newTup rm hp rs)⟩⟩
    · obtain ⟨a, ws, rfl, h1, r1'⟩ := rv_tup r1
      exact call_tuple_of pins s σ H _ us Q I r ⟨a, ws, rfl, .inr ⟨h1.sq, mem_of rm q (.tup h1 r1')⟩⟩
    · cases r1 with
      | scr h1 rs => exact call_tuple_of pins s σ H _ us Q I r ⟨_, _, rfl, .inl ⟨h1.elim (fun z => .inl z.1) .inr, fun p hp => q _ _ S (Ext.new hp) (rm.new hp) (RP.newTup rm hp rs)⟩⟩
  · cases e
theorem b_lst : CallR X (.type "list") (rC X.K X.mg bLst) := by
  intro pins s σ H vs us Q I r h
  obtain ⟨m, S, xs, rm, rv, v, e, q⟩ := h
  unfold bLst at e
  split at e
  · obtain ⟨v, rfl, r1⟩ := rvs1 rv
    obtain ⟨ys, hy, e'⟩ := Option.map_eq_some_iff.mp e
    subst e'
    obtain ⟨a, ws, rfl, hs, rs⟩ := items_sq rm r1 hy
    exact call_list_of pins s σ H _ us Q I r ⟨a, ws, rfl, hs, fun p hp => q _ _ S (Ext.new hp) (rm.new hp) (RP.newLst rm hp rs)⟩
  · cases e
theorem kit_tab : ["NoneType", "bool", "int", "str", "tuple", "list"].all (fun k => isTypes.all fun t => kitB k t == some (isSub k t)) = true := by decide +kernel
theorem kit_of' {k t : String} (hk : k ∈ ["NoneType", "bool", "int", "str", "tuple", "list"]) (ht : t ∈ isTypes) : PySem.W.kitOne X.K (.type k) (.type t) = some (isSub k t) :=
  kit_ty (eq_of_beq (List.all_eq_true.mp (List.all_eq_true.mp kit_tab k hk) t ht))
theorem kind_ty {H : Hp} {S : Sg} {m : Mem} {x : Val} {v : V} {k : String} (rm : RM X.K X.mg H S m) (r : RV X.K X.mg H S x v) (h : kind m x = some k) : k ∈ ["NoneType", "bool", "int", "str", "tuple", "list"] ∧ TyX X.K H v (.type k) := by
  unfold kind at h
  split at h
  · cases h; cases r; exact ⟨by decide, .base .non⟩
  · cases h; cases r; exact ⟨by decide, .base (.bl _)⟩
  · cases h; cases r; exact ⟨by decide, .base (.int _)⟩
  · cases h; cases r; exact ⟨by decide, .base (.str _)⟩
  · cases h
    obtain ⟨a, vs, rfl, h1, r1⟩ := rv_tup r
    exact ⟨by decide, .base (.tup h1.1)⟩
  · cases h
    cases r with
    | lst h1 r1 =>
      refine ⟨by decide, ?_⟩
      rcases h1 with ⟨h1 | ⟨o, h1⟩, _⟩
      · exact .base (.lst h1)
      · exact .base (.frz h1)
  · rename_i n
    split at h
    · rename_i xs e
      cases h
      obtain ⟨a, vs, rfl, h1, r1⟩ := litems_sq (x := .ref n) (xs := xs) rm r (by show (match m[n]? with | some (.lst xs) => some xs | _ => none) = some xs; rw [e])
      refine ⟨by decide, ?_⟩
      rcases h1 with h1 | ⟨o, h1⟩
      · exact .base (.lst h1)
      · exact .base (.frz h1)
    · cases h
  · cases h
theorem b_isi : CallR X (.builtin "isinstance") (rC X.K X.mg bIsi) := by
  intro pins s σ H vs us Q I r h
  obtain ⟨m, S, xs, rm, rv, v, e, q⟩ := h
  unfold bIsi at e
  split at e
  · obtain ⟨v, w, rfl, r1, r2⟩ := rvs2 rv
    cases r2
    split at e
    · rename_i ht
      obtain ⟨k, hk, e'⟩ := Option.map_eq_some_iff.mp e
      subst e'
      obtain ⟨k1, k2⟩ := kind_ty rm r1 hk
      exact call_isi pins s σ H _ us Q I r ⟨v, _, _, _, _, rfl, .ty _, k2, kit_of' k1 ht, mem_of rm q (.bl _)⟩
    · cases e
  · cases e
end
end Pn

set_option Elab.async false
set_option linter.all false
set_option maxRecDepth 100000
set_option autoImplicit false
set_option maxHeartbeats 1000000
namespace Pn
open PySem PySem.Spec PyProof.Rows L2 HT
open PySem.W (dataLt alike)
/-! min of data -/
def ltD (x y : PV) : Bool := dataLt x.toD y.toD
def minP (x : PV) (xs : List PV) : PV := xs.foldl (fun a y => if ltD y a then y else a) x
def alikeB (xs : List PV) : Bool := (xs.all fun x => xs.all fun y => alike x.toD y.toD) && xs.all fun x => !isNon (.pv x)
def bMinD : BFn := fun m vs => match bMin1 m vs with
  | some r => some r
  | none => match vs with
    | [v] => match litems m v with
      | some (x :: xs) => if okDs 30 (x :: xs) && alikeB (x :: xs) then some (.pv (minP x xs)) else none
      | _ => match v with
        | .pv (.tup (x :: xs)) => if okDs 30 (x :: xs) && alikeB (x :: xs) then some (.pv (minP x xs)) else none
        | _ => none
    | _ => none
theorem min_list_at {prog : Program} {w : World} {A : Around} {E : Value → Shared → Prop} {s : Shared} {l : Addr} {vs : Array Value} {x : PyData} {xs : List PyData} {as : List Addr} {Q : Value → Shared → Prop} (hh : A.handled = none) (hl : s.heap.IsList l vs) (hr : ReadsAll s.heap vs.toList (x :: xs) as) (ha : PySem.W.AlikeAll (x :: xs)) (hu : A.units + 1 + PyData.depthAll (x :: xs) < cLine)
    (h : ∀ v h' tk, vs[argBest (fun i j => dataLt ((x :: xs).getD i .none) ((x :: xs).getD j .none)) xs.length]? = some v → (∀ b o, s.heap.get? b = some o → h'.get? b = some o) → Q v { s with heap := h', toks := tk }) :
    wpAny (model prog w) A (call (.builtin "min") [.ref l]) Q E s := by
  have hn : vs.size = xs.length + 1 := PySem.W.readsAll_len hr
  refine call_min_walkH (PySem.W.iter_listW (A := A.in1) hh hl fun s₂ e W st hfp hw hk => ?_)
  refine ⟨_, _, _, _, _, _, _, s.heap, _, rfl, W, st, hfp, by omega, hw, hk, PySem.W.cmpIn_lt (A := A.in1) hr ha (by show A.units + 1 + _ < _; exact hu), fun v s' hP m => ?_⟩
  obtain ⟨h', tk, rfl, hk'⟩ := PySem.W.moved_old e rfl m
  have e1 : vs.size - 1 = xs.length := by omega
  rw [e1] at hP
  exact h v h' tk hP hk'
theorem min_tuple_at {prog : Program} {w : World} {A : Around} {E : Value → Shared → Prop} {s : Shared} {l : Addr} {vs : Array Value} {x : PyData} {xs : List PyData} {as : List Addr} {Q : Value → Shared → Prop} (hh : A.handled = none) (hl : s.heap.IsTuple l vs) (hr : ReadsAll s.heap vs.toList (x :: xs) as) (ha : PySem.W.AlikeAll (x :: xs)) (hu : A.units + 1 + PyData.depthAll (x :: xs) < cLine)
    (h : ∀ v h' tk, vs[argBest (fun i j => dataLt ((x :: xs).getD i .none) ((x :: xs).getD j .none)) xs.length]? = some v → (∀ b o, s.heap.get? b = some o → h'.get? b = some o) → Q v { s with heap := h', toks := tk }) :
    wpAny (model prog w) A (call (.builtin "min") [.ref l]) Q E s := by
  have hn : vs.size = xs.length + 1 := PySem.W.readsAll_len hr
  refine call_min_walkH (PySem.W.iter_tupleW (A := A.in1) hh hl fun s₂ e W st hfp hw hk => ?_)
  refine ⟨_, _, _, _, _, _, _, s.heap, _, rfl, W, st, hfp, by omega, hw, hk, PySem.W.cmpIn_lt (A := A.in1) hr ha (by show A.units + 1 + _ < _; exact hu), fun v s' hP m => ?_⟩
  obtain ⟨h', tk, rfl, hk'⟩ := PySem.W.moved_old e rfl m
  have e1 : vs.size - 1 = xs.length := by omega
  rw [e1] at hP
  exact h v h' tk hP hk'
theorem getD_toDs : ∀ (ps : List PV) (i : Nat), (toDs ps).getD i .none = (ps.getD i .non).toD
  | [], i => by simp [toDs, PV.toD]
  | p :: ps, 0 => by simp [toDs]
  | p :: ps, i + 1 => by
    have := getD_toDs ps i
    simpa [toDs] using this
theorem toDs_len : ∀ (ps : List PV), (toDs ps).length = ps.length
  | [] => rfl
  | p :: ps => by unfold toDs; simp [toDs_len ps]
theorem toDs_mem : ∀ {ps : List PV} {d : PyData}, d ∈ toDs ps → ∃ p ∈ ps, p.toD = d
  | [], d, h => nomatch h
  | p :: ps, d, h => by
    unfold toDs at h
    rcases List.mem_cons.mp h with rfl | h
    · exact ⟨p, List.mem_cons_self, rfl⟩
    · obtain ⟨q, h1, h2⟩ := toDs_mem h
      exact ⟨q, List.mem_cons_of_mem _ h1, h2⟩
theorem alikeB_ok {ps : List PV} {n : Nat} (h : alikeB ps = true) (hk : okDs n ps = true) : PySem.W.AlikeAll (toDs ps) := by
  unfold alikeB at h
  simp only [Bool.and_eq_true, List.all_eq_true] at h
  refine ⟨fun x hx y hy => ?_, fun x hx z => ?_⟩
  · obtain ⟨p, p1, rfl⟩ := toDs_mem hx
    obtain ⟨q, q1, rfl⟩ := toDs_mem hy
    exact h.1 p p1 q q1
  · obtain ⟨p, p1, rfl⟩ := toDs_mem hx
    have := h.2 p p1
    have ok : ∀ {ps : List PV}, okDs n ps = true → p ∈ ps → p.okD n = true := by
      intro ps
      induction ps with
      | nil => intro _ h; cases h
      | cons q ps ih =>
        intro hk h
        unfold okDs at hk
        rw [Bool.and_eq_true] at hk
        rcases List.mem_cons.mp h with rfl | h
        · exact hk.1
        · exact ih hk.2 h
    have ok := ok hk p1
    cases p <;> first | (unfold PV.toD at z; cases z; done) | (cases this; done) | (unfold PV.okD at ok; cases ok)
section
variable {X : Cx}
theorem b_minD (hc : X.calm = true) (hu : X.A.units + 64 < cLine) : CallR X (.builtin "min") (rC X.K X.mg bMinD) := by
  intro pins s σ H vs us Q I r h
  obtain ⟨m, S, xs, rm, rv, v, e, q⟩ := h
  unfold bMinD at e
  split at e
  · rename_i r1 e1
    cases e
    exact b_min1 hc pins s σ H vs us Q I r ⟨m, S, xs, rm, rv, _, e1, q⟩
  · split at e
    · obtain ⟨v, rfl, r1⟩ := rvs1 rv
      split at e
      · rename_i x xs hy
        split at e
        · rename_i hok
          cases e
          rw [Bool.and_eq_true] at hok
          obtain ⟨a, vs, rfl, hs, rs⟩ := litems_sq rm r1 hy
          have hd : Dp X.K H (.ref a) (PV.lst (x :: xs)).toD := by unfold PV.toD; exact .lst (.inl hs) (RPs.dps rs hok.1)
          obtain ⟨its, rvl, hl, hz⟩ := I.list (.inl hs)
          have hr : ∃ as, ReadsAll s.heap its (toDs (x :: xs)) as := Dp.readsAll I _ _ _ (RPs.dps rs hok.1) rvl
          obtain ⟨as, hr⟩ := hr
          cases r with
          | cons r rr =>
            cases rr
            cases r
            have hx : toDs (x :: xs) = x.toD :: toDs xs := by rw [toDs]
            have hdep := okDs_depth hok.1
            rw [hx] at hr hdep
            refine min_list_at (vs := its.toArray) (I.ok.hd hc) hl.isList hr (by rw [← hx]; exact alikeB_ok hok.2 hok.1) (by omega) fun v h' tk hv hk => ?_
            rw [← hx, toDs_len] at hv
            have ef : (fun i j => dataLt ((toDs (x :: xs)).getD i .none) ((toDs (x :: xs)).getD j .none)) = fun i j => ltD ((x :: xs).getD i .non) ((x :: xs).getD j .non) := by
              funext i j
              rw [getD_toDs, getD_toDs]; rfl
            rw [ef] at hv
            obtain ⟨b1, b2⟩ := PySem.W.argBest_fold ltD PV.non x xs xs.length (Nat.le_refl _)
            rw [List.take_length] at b2
            generalize argBest (fun i j => ltD ((x :: xs).getD i .non) ((x :: xs).getD j .non)) xs.length = i at *
            have hi : i < (x :: xs).length := by simp; omega
            have hp : (x :: xs)[i]? = some (minP x xs) := by
              rw [List.getD_eq_getElem?_getD, List.getElem?_eq_getElem hi] at b2
              rw [List.getElem?_eq_getElem hi]
              exact congrArg some b2
            obtain ⟨w, w1, w2⟩ := rs.get hp
            obtain ⟨u, u1, u2⟩ := rvl.get w1
            have : u = v := by
              have hv' : its[i]? = some v := by simpa using hv
              rw [u1] at hv'
              exact Option.some.inj hv'
            subst this
            exact ⟨w, H, I.kept hk, u2, mem_of rm q w2⟩
        · cases e
      · split at e
        · rename_i x xs _ hlit
          split at e
          · rename_i hok
            cases e
            rw [Bool.and_eq_true] at hok
            obtain ⟨a, vs, rfl, hs, rs⟩ := rv_tup r1
            obtain ⟨its, rvl, hl, hz⟩ := I.tuple hs.sq
            have hr : ∃ as, ReadsAll s.heap its (toDs (x :: xs)) as := Dp.readsAll I _ _ _ (RPs.dps rs hok.1) rvl
            obtain ⟨as, hr⟩ := hr
            cases r with
            | cons r rr =>
              cases rr
              cases r
              have hx : toDs (x :: xs) = x.toD :: toDs xs := by rw [toDs]
              have hdep := okDs_depth hok.1
              rw [hx] at hr hdep
              refine min_tuple_at (vs := its.toArray) (I.ok.hd hc) hl hr (by rw [← hx]; exact alikeB_ok hok.2 hok.1) (by omega) fun v h' tk hv hk => ?_
              rw [← hx, toDs_len] at hv
              have ef : (fun i j => dataLt ((toDs (x :: xs)).getD i .none) ((toDs (x :: xs)).getD j .none)) = fun i j => ltD ((x :: xs).getD i .non) ((x :: xs).getD j .non) := by
                funext i j
                rw [getD_toDs, getD_toDs]; rfl
              rw [ef] at hv
              obtain ⟨b1, b2⟩ := PySem.W.argBest_fold ltD PV.non x xs xs.length (Nat.le_refl _)
              rw [List.take_length] at b2
              generalize argBest (fun i j => ltD ((x :: xs).getD i .non) ((x :: xs).getD j .non)) xs.length = i at *
              have hi : i < (x :: xs).length := by simp; omega
              have hp : (x :: xs)[i]? = some (minP x xs) := by
                rw [List.getD_eq_getElem?_getD, List.getElem?_eq_getElem hi] at b2
                rw [List.getElem?_eq_getElem hi]
                exact congrArg some b2
              obtain ⟨w, w1, w2⟩ := rs.get hp
              obtain ⟨u, u1, u2⟩ := rvl.get w1
              have : u = v := by
                have hv' : its[i]? = some v := by simpa using hv
                rw [u1] at hv'
                exact Option.some.inj hv'
              subst this
              exact ⟨w, H, I.kept hk, u2, mem_of rm q w2⟩
          · cases e
        · cases e
    · cases e
end
end Pn

set_option Elab.async false
set_option linter.all false
set_option maxRecDepth 100000
set_option autoImplicit false
set_option maxHeartbeats 1000000
namespace Pn
open PySem PySem.Spec PyProof.Rows L2 HT
section
variable {prog : Program} {w : World} {A : Around} {E : Value → Shared → Prop} {s : Shared}
theorem args4 (a b c d : Value) : argsOk "max" ⟨[a, b, c, d], []⟩ := by unfold argsOk; kernel_rfl
/-- the greatest of four ints -/
theorem max4 {a b c d : Int} {t u x y : Tok} {Q : Value → Shared → Prop} (hh : A.handled = none)
    (h : ∀ h' tk t', (∀ b o, s.heap.get? b = some o → h'.get? b = some o) → Q (.int (max (max (max a b) c) d) t') { s with heap := h', toks := tk }) :
    wpAny (model prog w) A (call (.builtin "max") [.int a t, .int b u, .int c x, .int d y]) Q E s := by
  generalize hxs : (#[(a, t), (b, u), (c, x), (d, y)] : Array (Int × Tok)) = xs
  have hsz4 : xs.size = 4 := by rw [← hxs]; rfl
  have htup : ([.int a t, .int b u, .int c x, .int d y] : List Value).toArray = intItems xs := by rw [← hxs]; simp [intItems]
  refine call_function_tree F.kind_max F.plain_max F.entry_max (args4 _ _ _ _) ?_
  refine wpAny_bind (wpAny_of_eq (show Builtin.Builtins.bindParams "max" ["key", "default"] 0 ⟨[], []⟩ = pure [none, none] from rfl) ?_)
  show wpAny _ A.in1 (newTuple [.int a t, .int b u, .int c x, .int d y] >>= _) _ _ s
  refine wpAny_bind (wpAny_newObj_type ?_)
  rw [htup]
  generalize hs1 : ({ s with heap := s.heap.push { cls := .type "tuple", data := .seq (intItems xs) } } : Shared) = s1
  have g1 : s1.heap.get? s.heap.objs.size = some { cls := .type "tuple", data := .seq (intItems xs) } := by rw [← hs1]; exact Heap.get?_push_size _ rfl
  have k1 : ∀ b o, s.heap.get? b = some o → s1.heap.get? b = some o := fun b o e => by rw [← hs1]; exact Heap.get?_push_of_some _ e
  have z1 : s1.heap.objs.size = s.heap.objs.size + 1 := by rw [← hs1]; exact Heap.size_push ..
  have hT : s1.heap.IsTuple s.heap.objs.size (intItems xs) := ⟨_, g1, rfl, 0, rfl⟩
  refine wpAny_bind (wpAny_pyIter_tuple hT ?_)
  have W := Walks.tuple (prog := prog) (w := w) (A := A.in1) hh s1.heap.objs.size s.heap.objs.size (by rw [z1]; exact Nat.ne_of_lt (Nat.lt_succ_self _)) (intItems xs)
  refine wpAny_bind (wpAny_newObj_type ?_)
  rw [show (toString "max" ++ toString ".loop" : String) = "max.loop" by decide]
  generalize hs2 : s1.heap.push { cls := .type "tuple_iterator", data := .fields #[.ref s.heap.objs.size, .int 0 0] } = h2
  have z2 : h2.objs.size = s.heap.objs.size + 2 := by rw [← hs2, Heap.size_push, z1]
  have k2 : ∀ b o, s1.heap.get? b = some o → h2.get? b = some o := fun b o e => by rw [← hs2]; exact Heap.get?_push_of_some _ e
  have st : h2.IsTupleIter s1.heap.objs.size s.heap.objs.size 0 ∧ h2.IsTuple s.heap.objs.size (intItems xs) := ⟨⟨_, by rw [← hs2]; exact Heap.get?_push_size _ rfl, rfl, rfl⟩, by rw [← hs2]; exact hT.push _⟩
  have hfp : ∀ b ∈ [s1.heap.objs.size, s.heap.objs.size], b < h2.objs.size := fun b hb => by
    have e : b = s1.heap.objs.size ∨ b = s.heap.objs.size := by simpa using hb
    have z : (b : Nat) < s.heap.objs.size + 2 := by
      rcases e with e | e
      · rw [e, z1]; exact Nat.lt_succ_self _
      · rw [e]; exact Nat.lt_succ_of_lt (Nat.lt_succ_self _)
    rw [z2]; exact z
  refine wpAny_pure ⟨plainId_quiet F.plain_max_loop _, codeAny_max_loop_first W (fun i j => decide (numAt xs i > numAt xs j)) (CmpOf.ints_gt (numAt xs) (fun _ _ => intItems_at)) h2.objs.size (fun hm => Nat.lt_irrefl _ (hfp _ hm)) (by simp [intItems, hsz4])
    (W.frame _ _ _ st fun b _ o e => Heap.get?_push_of_some _ e) (Heap.get?_push_size _ rfl) fun v h' tk hP hk => ?_⟩
  have kept : ∀ b o, s.heap.get? b = some o → h'.get? b = some o := fun b o e => by
    have l := Heap.lt_size e
    refine hk b o (fun hm => ?_) (fun z => ?_) (Heap.get?_push_of_some _ (k2 b o (k1 b o e)))
    · have e' : b = s1.heap.objs.size := by simpa using hm
      rw [e', z1] at l
      exact Nat.lt_irrefl _ (Nat.lt_of_succ_lt l)
    · have z' : b = h2.objs.size := z
      rw [z', z2] at l
      exact Nat.lt_irrefl _ (Nat.lt_of_succ_lt (Nat.lt_of_succ_lt l))
  have n0 : numAt xs 0 = a := by rw [← hxs]; rfl
  have n1 : numAt xs 1 = b := by rw [← hxs]; rfl
  have n2 : numAt xs 2 = c := by rw [← hxs]; rfl
  have n3 : numAt xs 3 = d := by rw [← hxs]; rfl
  have fin : ∃ t', v = .int (max (max (max a b) c) d) t' := by
    have e4 : (intItems xs).size - 1 = 3 := by simp [intItems, hsz4]
    rw [e4] at hP
    have hv : ∀ (i : Nat) (j : Int) (t' : Tok), (intItems xs)[i]? = some (.int j t') → argBest (fun i j => decide (numAt xs i > numAt xs j)) 3 = i → j = max (max (max a b) c) d → ∃ t', v = .int (max (max (max a b) c) d) t' := fun i j t' e1 e2 e3 => by
      have hP : (intItems xs)[argBest (fun i j => decide (numAt xs i > numAt xs j)) 3]? = some v := hP
      rw [e2, e1] at hP
      cases hP
      exact ⟨t', by rw [e3]⟩
    have q0 : (intItems xs)[0]? = some (.int a t) := by rw [← hxs]; simp [intItems]
    have q1 : (intItems xs)[1]? = some (.int b u) := by rw [← hxs]; simp [intItems]
    have q2 : (intItems xs)[2]? = some (.int c x) := by rw [← hxs]; simp [intItems]
    have q3 : (intItems xs)[3]? = some (.int d y) := by rw [← hxs]; simp [intItems]
    have best : argBest (fun i j => decide (numAt xs i > numAt xs j)) 3 = (if b > a then (if c > b then (if d > c then 3 else 2) else (if d > b then 3 else 1)) else (if c > a then (if d > c then 3 else 2) else (if d > a then 3 else 0))) := by
      by_cases h1 : b > a <;> by_cases h2 : c > b <;> by_cases h3 : c > a <;> by_cases h4 : d > c <;> by_cases h5 : d > b <;> by_cases h6 : d > a <;> simp [argBest, n0, n1, n2, n3, h1, h2, h3, h4, h5, h6]
    by_cases h1 : b > a
    · by_cases h2 : c > b
      · by_cases h3 : d > c
        · exact hv 3 d y q3 (by rw [best, if_pos h1, if_pos h2, if_pos h3]) (by omega)
        · exact hv 2 c x q2 (by rw [best, if_pos h1, if_pos h2, if_neg h3]) (by omega)
      · by_cases h3 : d > b
        · exact hv 3 d y q3 (by rw [best, if_pos h1, if_neg h2, if_pos h3]) (by omega)
        · exact hv 1 b u q1 (by rw [best, if_pos h1, if_neg h2, if_neg h3]) (by omega)
    · by_cases h2 : c > a
      · by_cases h3 : d > c
        · exact hv 3 d y q3 (by rw [best, if_neg h1, if_pos h2, if_pos h3]) (by omega)
        · exact hv 2 c x q2 (by rw [best, if_neg h1, if_pos h2, if_neg h3]) (by omega)
      · by_cases h3 : d > a
        · exact hv 3 d y q3 (by rw [best, if_neg h1, if_neg h2, if_pos h3]) (by omega)
        · exact hv 0 a t q0 (by rw [best, if_neg h1, if_neg h2, if_neg h3]) (by omega)
  obtain ⟨t', rfl⟩ := fin
  subst hs1
  exact h h' tk t' kept
end
section
variable {X : Cx}
theorem b_max4 (hc : X.calm = true) : CallR X (.builtin "max") (rC X.K X.mg bMax4) := by
  intro pins s σ H vs us Q I r h
  obtain ⟨m, S, xs, rm, rv, v, e, q⟩ := h
  unfold bMax4 at e
  split at e
  · cases e
    cases rv with
    | cons r1 rv =>
      cases rv with
      | cons r2 rv =>
        obtain ⟨v3, v4, rfl, r3, r4⟩ := rvs2 rv
        cases rv_int r1
        cases rv_int r2
        cases rv_int r3
        cases rv_int r4
        cases r with
        | cons q1 r =>
          cases r with
          | cons q2 r =>
            obtain ⟨u3, u4, rfl, ⟨t3, rfl⟩, ⟨t4, rfl⟩⟩ := vals2 r
            obtain ⟨t1, rfl⟩ := q1
            obtain ⟨t2, rfl⟩ := q2
            exact max4 (I.ok.hd hc) fun h' tk t' k => ⟨.int _, H, I.kept k, ⟨t', rfl⟩, mem_of rm q (.int _)⟩
  · cases e
end
end Pn

set_option Elab.async false
set_option linter.all false
set_option maxRecDepth 100000
set_option autoImplicit false
set_option maxHeartbeats 1000000
namespace Pn
open PySem PySem.Spec PyProof.Rows L2 HT

/-! ### readings of ours -/
section
variable {α β γ δ : Type}
def tG (K : PySem.W.Frag) (mg : Str → Option Value) (R : Hp → Sg → α → β → Prop) (W : WX) (φ : Phi) (d : Phi → Env → Mem → Res α) : L2.St → Hp → (β → Hp → Prop) → Prop :=
  fun σ H Q => ∃ ρ m S, RE K mg H S ρ σ ∧ RM K mg H S m ∧ Post K mg R (fun c dd H' => W c dd σ H') H S Q (d φ ρ m)
variable {K : PySem.W.Frag} {mg : Str → Option Value} {R : Hp → Sg → α → β → Prop} {R2 : Hp → Sg → γ → δ → Prop} {W : WX} {φ : Phi} {d : Phi → Env → Mem → Res α} {σ : L2.St} {H : Hp} {S : Sg} {ρ : Env} {m : Mem}
theorem tG.mono {Q Q' : β → Hp → Prop} (h : tG K mg R W φ d σ H Q) (q : ∀ b H', Q b H' → Q' b H') : tG K mg R W φ d σ H Q' :=
  let ⟨ρ, m, S, re, rm, p⟩ := h; ⟨ρ, m, S, re, rm, p.mono Ext.refl q⟩
theorem Post.at {W' : XK} {Q : β → Hp → Prop} {a : α} {m : Mem} {b : β} (h : Post K mg R W' H S Q (.ok a m)) (rm : RM K mg H S m) (r : R H S a b) : Q b H := h b H S Ext.refl rm r
theorem step {Q : δ → Hp → Prop} {k : α → Mem → Res γ} (re : RE K mg H S ρ σ) (rm : RM K mg H S m) (h : Post K mg R2 (fun c dd H' => W c dd σ H') H S Q ((d φ ρ m).bind k)) :
    tG K mg R W φ d σ H (fun b H1 => ∃ a m1 S1, RE K mg H1 S1 ρ σ ∧ RM K mg H1 S1 m1 ∧ Ext H S H1 S1 ∧ R H1 S1 a b ∧ Post K mg R2 (fun c dd H' => W c dd σ H') H1 S1 Q (k a m1)) := by
  refine ⟨ρ, m, S, re, rm, ?_⟩
  cases e : d φ ρ m with
  | ok a m1 =>
    rw [e] at h
    exact fun b H1 S1 x rm1 r => ⟨a, m1, S1, x.re re, rm1, x, r, Post.mono h x fun _ _ z => z⟩
  | exc x m1 => rw [e] at h; exact h
  | bad => rw [e] at h; exact h
end
abbrev tD (K : PySem.W.Frag) (mg : Str → Option Value) (W : WX) (φ : Phi) (d : Den) : TE := tG K mg (RV K mg) W φ d
abbrev RB : Hp → Sg → Bool → Bool → Prop := fun _ _ a b => b = a
abbrev tT (K : PySem.W.Frag) (mg : Str → Option Value) (W : WX) (φ : Phi) (d : TDen) : TT := tG K mg RB W φ d
abbrev tAr (K : PySem.W.Frag) (mg : Str → Option Value) (W : WX) (φ : Phi) (d : ADen) : TA := tG K mg (RVs K mg) W φ d
abbrev RO : Hp → Sg → Option Int → Option Int → Prop := fun _ _ a b => b = a
abbrev tOp' (K : PySem.W.Frag) (mg : Str → Option Value) (W : WX) (φ : Phi) (d : ODen) : L2.St → Hp → (Option Int → Hp → Prop) → Prop := tG K mg RO W φ d
theorem PE.le {X : Cx} {e : Expr} {t t' : TE} (h : PE X e t) (q : ∀ σ H Q, t' σ H Q → t σ H Q) : PE X e t' := ⟨fun pins s σ H Q I hw => h.run pins s σ H Q I (q σ H Q hw)⟩
theorem PT.le {X : Cx} {e : Expr} {t t' : TT} (h : PT X e t) (q : ∀ σ H Q, t' σ H Q → t σ H Q) : PT X e t' := ⟨fun pins s σ H Q I hw => h.run pins s σ H Q I (q σ H Q hw)⟩
theorem PW.le {X : Cx} {e : Expr} {t t' : TT} (h : PW X e t) (q : ∀ σ H Q, t' σ H Q → t σ H Q) : PW X e t' := ⟨fun wh pins s σ H Q I hw => h.run wh pins s σ H Q I (q σ H Q hw)⟩
theorem PA.le {X : Cx} {es : List Expr} {t t' : TA} (h : PA X es t) (q : ∀ σ H Q, t' σ H Q → t σ H Q) : PA X es t' := ⟨fun pos pins s σ H Q I hw => h.run pos pins s σ H Q I (q σ H Q hw)⟩
theorem PO.le {X : Cx} {e : Option Expr} {t t' : TO} (h : PO X e t) (q : ∀ σ H Q, t' σ H Q → t σ H Q) : PO X e t' := ⟨fun pins s σ H Q I hw => h.run pins s σ H Q I (q σ H Q hw)⟩
section
variable {X : Cx} {W : WX} {φ : Phi} {a b c : Expr} {da db dc : Den} {ta tb : TDen} {pos : Pos} {rest : List Expr}
theorem pe_bad {e : Expr} : PE X e (tD X.K X.mg W φ cBad) := ⟨fun _ _ _ _ _ _ ⟨_, _, _, _, _, p⟩ => p.elim⟩
theorem pt_bad {e : Expr} : PT X e (tT X.K X.mg W φ (fun _ _ _ => .bad)) := ⟨fun _ _ _ _ _ _ ⟨_, _, _, _, _, p⟩ => p.elim⟩
theorem se_var {i : Nat} {x : Str} (hN : X.N[i]? = some x) (hv : Vis X.env.scope x) (hd : (x == ("__debug__" : Str)) = false) (hcd : (x == ("__classdict__" : Str)) = false) : PE X (.Name x pos) (tD X.K X.mg W φ (cVar i)) :=
  PE.le (pe_var hN hv hd hcd) fun σ H Q ⟨ρ, m, S, re, rm, p⟩ => by
    unfold cVar at p
    split at p
    · rename_i v e
      obtain ⟨u, h1, h2⟩ := re.at_ i v e
      exact ⟨u, h1, p.at rm h2⟩
    · exact p.elim
theorem se_con {e : Expr} {v : V} {p : PV} (h : PE X e (tC v)) (r : ∀ H S m, RM X.K X.mg H S m → RP X.K X.mg H S p v) : PE X e (tD X.K X.mg W φ (cC p)) :=
  PE.le h fun σ H Q ⟨ρ, m, S, re, rm, q⟩ => q.at rm (r H S m rm)
theorem se_bin {op : Operator} {o : Bop} (ho : opOf op = some o) (ha : PE X a (tD X.K X.mg W φ da)) (hb : PE X b (tD X.K X.mg W φ db)) : PE X (.BinOp a op b pos) (tD X.K X.mg W φ (cBin o da db)) :=
  PE.le (pe_op (op_bin ho) ha hb) fun σ H Q ⟨ρ, m, S, re, rm, p⟩ => (step re rm p).mono fun x H1 ⟨xv, m1, S1, re1, rm1, e1, r1, p1⟩ => (step re1 rm1 p1).mono fun y H2 ⟨yv, m2, S2, re2, rm2, e2, r2, p2⟩ =>
    let ⟨r, hr, hq⟩ := p2.of
    ⟨m2, S2, xv, yv, rm2, e2.rv r1, r2, r, hr, hq⟩
theorem se_neg (ha : PE X a (tD X.K X.mg W φ da)) : PE X (.UnaryOp .USub a pos) (tD X.K X.mg W φ (cNeg da)) :=
  PE.le (pe_un un_neg ha) fun σ H Q ⟨ρ, m, S, re, rm, p⟩ => (step re rm p).mono fun x H1 ⟨xv, m1, S1, re1, rm1, e1, r1, p1⟩ => by
    split at p1
    · cases rv_int r1
      exact ⟨_, rfl, p1.at rm1 (.int _)⟩
    · exact p1.elim
theorem se_cmp (hu : X.A.units + 64 < cLine) {op : CmpOp} {o : Cop} (ho : copOf op = some o) (ha : PE X a (tD X.K X.mg W φ da)) (hb : PE X b (tD X.K X.mg W φ db)) (hm : behindInMarks op b = false) : PE X (.Compare a [op] [b] pos) (tD X.K X.mg W φ (cCmp o da db)) :=
  PE.le (pe_cmpR (op_cmp hu ho) ha hb hm) fun σ H Q ⟨ρ, m, S, re, rm, p⟩ => (step re rm p).mono fun x H1 ⟨xv, m1, S1, re1, rm1, e1, r1, p1⟩ => (step re1 rm1 p1).mono fun y H2 ⟨yv, m2, S2, re2, rm2, e2, r2, p2⟩ =>
    let ⟨r, hr, hq⟩ := p2.of
    ⟨m2, S2, xv, yv, rm2, e2.rv r1, r2, r, hr, hq⟩
/-- a value's truth, from its reading -/
theorem tru_step {H : Hp} {S : Sg} {m : Mem} {xv : Val} {x : V} {Q : Bool → Hp → Prop} {W' : XK} (rm : RM X.K X.mg H S m) (r : RV X.K X.mg H S xv x) (p : Post X.K X.mg RB W' H S Q (.of (truth m xv) m)) : ∃ k, TruV X.K x H k ∧ Q k H := by
  obtain ⟨k, hk, hq⟩ := p.of
  exact ⟨k, truth_of rm r hk, hq k H S Ext.refl rm rfl⟩
theorem st_tru (ha : PE X a (tD X.K X.mg W φ da)) (he : ∀ whole, isTrue a X.env whole = (do let v ← whole; standAt a.pos; holding [v] (truthy v))) : PT X a (tT X.K X.mg W φ (tTru da)) :=
  PT.le (pt_truth ha he) fun σ H Q ⟨ρ, m, S, re, rm, p⟩ => (step re rm p).mono fun x H1 ⟨xv, m1, S1, re1, rm1, e1, r1, p1⟩ => tru_step rm1 r1 p1
theorem rd_chain (hu : X.A.units + 64 < cLine) {o o' : Cop} {σ : L2.St} {H : Hp} {Q : VK} (h : tD X.K X.mg W φ (cChain o o' da db dc) σ H Q) :
    tChain (rB X.K X.mg (cmp o)) (rB X.K X.mg (cmp o')) (tD X.K X.mg W φ da) (tD X.K X.mg W φ db) (tD X.K X.mg W φ dc) σ H Q := by
  obtain ⟨ρ, m, S, re, rm, p⟩ := h
  refine (step re rm p).mono fun x H1 ⟨xv, m1, S1, re1, rm1, e1, r1, p1⟩ => (step re1 rm1 p1).mono fun y H2 ⟨yv, m2, S2, re2, rm2, e2, r2, p2⟩ => ?_
  split at p2
  · rename_i hr
    refine ⟨m2, S2, xv, yv, rm2, e2.rv r1, r2, _, hr, fun v H' S' e rm' rr => ⟨true, rv_bl rr, ?_⟩⟩
    rw [if_pos rfl]
    refine (step (e.re re2) rm' (p2.mono e fun _ _ z => z)).mono fun z H3 ⟨zv, m3, S3, re3, rm3, e3, r3, p3⟩ => ?_
    obtain ⟨r, hr, hq⟩ := p3.of
    exact ⟨m3, S3, yv, zv, rm3, e3.rv (e.rv r2), r3, r, hr, hq⟩
  · rename_i hr
    refine ⟨m2, S2, xv, yv, rm2, e2.rv r1, r2, _, hr, fun v H' S' e rm' rr => ⟨false, rv_bl rr, ?_⟩⟩
    rw [if_neg Bool.false_ne_true]
    exact p2 _ H' S' e rm' (.bl false)
  · exact p2.elim
theorem cChain_bl {o o' : Cop} {ρ : Env} {m m' : Mem} {x : Val} (h : cChain o o' da db dc φ ρ m = .ok x m') : ∃ k, x = .pv (.bl k) := by
  unfold cChain at h
  cases ea : da φ ρ m with
  | ok xv m1 =>
    rw [ea, Res.bind_ok] at h
    cases eb : db φ ρ m1 with
    | ok yv m2 =>
      rw [eb, Res.bind_ok] at h
      split at h
      · cases ec : dc φ ρ m2 with
        | ok zv m3 =>
          rw [ec, Res.bind_ok] at h
          cases er : cmp o' m3 yv zv with
          | some r => rw [er] at h; cases h; exact cmp_bl er
          | none => rw [er] at h; cases h
        | exc _ _ => rw [ec] at h; cases h
        | bad => rw [ec] at h; cases h
      · cases h; exact ⟨_, rfl⟩
      · cases h
    | exc _ _ => rw [eb] at h; cases h
    | bad => rw [eb] at h; cases h
  | exc _ _ => rw [ea] at h; cases h
  | bad => rw [ea] at h; cases h
theorem cCmp_bl {o : Cop} {ρ : Env} {m m' : Mem} {x : Val} (h : cCmp o da db φ ρ m = .ok x m') : ∃ k, x = .pv (.bl k) := by
  unfold cCmp at h
  cases ea : da φ ρ m with
  | ok xv m1 =>
    rw [ea, Res.bind_ok] at h
    cases eb : db φ ρ m1 with
    | ok yv m2 =>
      rw [eb, Res.bind_ok] at h
      cases er : cmp o m2 xv yv with
      | some r => rw [er] at h; cases h; exact cmp_bl er
      | none => rw [er] at h; cases h
    | exc _ _ => rw [eb] at h; cases h
    | bad => rw [eb] at h; cases h
  | exc _ _ => rw [ea] at h; cases h
  | bad => rw [ea] at h; cases h
theorem of_tru_bl {σ : L2.St} {H : Hp} {Q : Bool → Hp → Prop} (hbl : ∀ {ρ m m' x}, da φ ρ m = .ok x m' → ∃ k, x = .pv (.bl k)) (h : tT X.K X.mg W φ (tTru da) σ H Q) : tD X.K X.mg W φ da σ H (fun x H' => ∃ k, x = .bl k ∧ Q k H') := by
  obtain ⟨ρ, m, S, re, rm, p⟩ := h
  refine ⟨ρ, m, S, re, rm, ?_⟩
  unfold tTru at p
  cases e : da φ ρ m with
  | ok x m1 =>
    rw [e, Res.bind_ok] at p
    obtain ⟨k, rfl⟩ := hbl e
    exact fun v H' S' x rm' rr => ⟨k, rv_bl rr, p k H' S' x rm' rfl⟩
  | exc x m1 => rw [e] at p; exact p
  | bad => rw [e] at p; exact p
theorem st_cmp (hu : X.A.units + 64 < cLine) {op : CmpOp} {o : Cop} (ho : copOf op = some o) (ha : PE X a (tD X.K X.mg W φ da)) (hb : PE X b (tD X.K X.mg W φ db)) (hm : behindInMarks op b = false) : PT X (.Compare a [op] [b] pos) (tT X.K X.mg W φ (tTru (cCmp o da db))) :=
  PT.le (pt_cmpR (op_cmp hu ho) ha hb hm) fun σ H Q h => by
    obtain ⟨ρ, m, S, re, rm, p⟩ := of_tru_bl cCmp_bl h
    exact (step re rm p).mono fun x H1 ⟨xv, m1, S1, re1, rm1, e1, r1, p1⟩ => (step re1 rm1 p1).mono fun y H2 ⟨yv, m2, S2, re2, rm2, e2, r2, p2⟩ =>
      let ⟨r, hr, hq⟩ := p2.of
      ⟨m2, S2, xv, yv, rm2, e2.rv r1, r2, r, hr, hq⟩
theorem se_chain (hu : X.A.units + 64 < cLine) {op op' : CmpOp} {o o' : Cop} (ho : copOf op = some o) (ho' : copOf op' = some o') (ha : PE X a (tD X.K X.mg W φ da)) (hb : PE X b (tD X.K X.mg W φ db)) (hc : PE X c (tD X.K X.mg W φ dc)) (hm : lastMarks [op, op'] [b, c] = false) :
    PE X (.Compare a [op, op'] [b, c] pos) (tD X.K X.mg W φ (cChain o o' da db dc)) :=
  PE.le (pe_chain (op_cmp hu ho) (op_cmp hu ho') ha hb hc hm) fun σ H Q h => rd_chain hu h
theorem st_chain (hu : X.A.units + 64 < cLine) {op op' : CmpOp} {o o' : Cop} (ho : copOf op = some o) (ho' : copOf op' = some o') (ha : PE X a (tD X.K X.mg W φ da)) (hb : PE X b (tD X.K X.mg W φ db)) (hc : PE X c (tD X.K X.mg W φ dc)) (hm : lastMarks [op, op'] [b, c] = false) :
    PT X (.Compare a [op, op'] [b, c] pos) (tT X.K X.mg W φ (tTru (cChain o o' da db dc))) :=
  PT.le (pt_chain (op_cmp hu ho) (op_cmp hu ho') ha hb hc hm) fun σ H Q h => rd_chain hu (of_tru_bl cChain_bl h)
/-! and, or, not -/
theorem se_not (ha : PE X a (tD X.K X.mg W φ da)) : PE X (.UnaryOp .Not a pos) (tD X.K X.mg W φ (cNot da)) :=
  PE.le (pe_notT ha) fun σ H Q ⟨ρ, m, S, re, rm, p⟩ => (step re rm p).mono fun x H1 ⟨xv, m1, S1, re1, rm1, e1, r1, p1⟩ => by
    obtain ⟨r, hr, hq⟩ := p1.of
    cases ht : truth m1 xv with
    | none => rw [ht] at hr; cases hr
    | some k => rw [ht] at hr; cases hr; exact ⟨k, truth_of rm1 r1 ht, hq _ H1 S1 Ext.refl rm1 (.bl _)⟩
theorem se_and (ha : PE X a (tD X.K X.mg W φ da)) (hb : PE X (.BoolOp .And (b :: rest) pos) (tD X.K X.mg W φ db)) : PE X (.BoolOp .And (a :: b :: rest) pos) (tD X.K X.mg W φ (cAnd da db)) :=
  PE.le (pe_andT ha hb) fun σ H Q ⟨ρ, m, S, re, rm, p⟩ => (step re rm p).mono fun x H1 ⟨xv, m1, S1, re1, rm1, e1, r1, p1⟩ => by
    split at p1
    · rename_i ht
      refine ⟨true, truth_of rm1 r1 ht, ?_⟩
      rw [if_pos rfl]
      exact ⟨ρ, m1, S1, re1, rm1, p1⟩
    · rename_i ht
      refine ⟨false, truth_of rm1 r1 ht, ?_⟩
      rw [if_neg Bool.false_ne_true]
      exact p1.at rm1 r1
    · exact p1.elim
theorem se_or (ha : PE X a (tD X.K X.mg W φ da)) (hb : PE X (.BoolOp .Or (b :: rest) pos) (tD X.K X.mg W φ db)) : PE X (.BoolOp .Or (a :: b :: rest) pos) (tD X.K X.mg W φ (cOr da db)) :=
  PE.le (pe_orT ha hb) fun σ H Q ⟨ρ, m, S, re, rm, p⟩ => (step re rm p).mono fun x H1 ⟨xv, m1, S1, re1, rm1, e1, r1, p1⟩ => by
    split at p1
    · rename_i ht
      refine ⟨true, truth_of rm1 r1 ht, ?_⟩
      rw [if_pos rfl]
      exact p1.at rm1 r1
    · rename_i ht
      refine ⟨false, truth_of rm1 r1 ht, ?_⟩
      rw [if_neg Bool.false_ne_true]
      exact ⟨ρ, m1, S1, re1, rm1, p1⟩
    · exact p1.elim
theorem st_not (ha : PT X a (tT X.K X.mg W φ ta)) : PT X (.UnaryOp .Not a pos) (tT X.K X.mg W φ (Pn.tNot ta)) :=
  PT.le (pt_not ha) fun σ H Q ⟨ρ, m, S, re, rm, p⟩ => (step re rm p).mono fun x H1 ⟨xv, m1, S1, re1, rm1, e1, r1, p1⟩ => by
    cases r1
    exact p1.at rm1 rfl
theorem sw_and (ha : PT X a (tT X.K X.mg W φ ta)) (hb : PW X (.BoolOp .And (b :: rest) pos) (tT X.K X.mg W φ tb)) : PW X (.BoolOp .And (a :: b :: rest) pos) (tT X.K X.mg W φ (Pn.tAnd ta tb)) :=
  PW.le (pw_and ha hb) fun σ H Q ⟨ρ, m, S, re, rm, p⟩ => (step re rm p).mono fun x H1 ⟨xv, m1, S1, re1, rm1, e1, r1, p1⟩ => by
    cases r1
    cases x with
    | true => rw [if_pos rfl] at p1 ⊢; exact ⟨ρ, m1, S1, re1, rm1, p1⟩
    | false => rw [if_neg Bool.false_ne_true] at p1 ⊢; exact p1.at rm1 rfl
theorem sw_or (ha : PT X a (tT X.K X.mg W φ ta)) (hb : PW X (.BoolOp .Or (b :: rest) pos) (tT X.K X.mg W φ tb)) : PW X (.BoolOp .Or (a :: b :: rest) pos) (tT X.K X.mg W φ (Pn.tOr ta tb)) :=
  PW.le (pw_or ha hb) fun σ H Q ⟨ρ, m, S, re, rm, p⟩ => (step re rm p).mono fun x H1 ⟨xv, m1, S1, re1, rm1, e1, r1, p1⟩ => by
    cases r1
    cases x with
    | true => rw [if_pos rfl] at p1 ⊢; exact p1.at rm1 rfl
    | false => rw [if_neg Bool.false_ne_true] at p1 ⊢; exact ⟨ρ, m1, S1, re1, rm1, p1⟩
theorem se_ifx (hc : PT X c (tT X.K X.mg W φ ta)) (ha : PE X a (tD X.K X.mg W φ da)) (hb : PE X b (tD X.K X.mg W φ db)) : PE X (.IfExp c a b pos) (tD X.K X.mg W φ (cIf ta da db)) :=
  PE.le (pe_ifExp hc ha hb) fun σ H Q ⟨ρ, m, S, re, rm, p⟩ => (step re rm p).mono fun x H1 ⟨xv, m1, S1, re1, rm1, e1, r1, p1⟩ => by
    cases r1
    cases x with
    | true => rw [if_pos rfl] at p1 ⊢; exact ⟨ρ, m1, S1, re1, rm1, p1⟩
    | false => rw [if_neg Bool.false_ne_true] at p1 ⊢; exact ⟨ρ, m1, S1, re1, rm1, p1⟩
/-! subscripts -/
theorem se_idx (hu : X.A.units + 64 < cLine) (ha : PE X a (tD X.K X.mg W φ da)) (hb : PE X b (tD X.K X.mg W φ db)) (hs : PlainIx b) : PE X (.Subscript a b pos) (tD X.K X.mg W φ (cIdx da db)) :=
  PE.le (pe_ix (ix_idx hu) ha hb hs) fun σ H Q ⟨ρ, m, S, re, rm, p⟩ => (step re rm p).mono fun x H1 ⟨xv, m1, S1, re1, rm1, e1, r1, p1⟩ => (step re1 rm1 p1).mono fun y H2 ⟨yv, m2, S2, re2, rm2, e2, r2, p2⟩ =>
    let ⟨r, hr, hq⟩ := p2.of
    ⟨m2, S2, xv, yv, rm2, e2.rv r1, r2, r, hr, hq⟩
theorem so_none : PO X none (tOp' X.K X.mg W φ oNone) := PO.le po_none fun σ H Q ⟨ρ, m, S, re, rm, p⟩ => p.at rm rfl
theorem so_some (ha : PE X a (tD X.K X.mg W φ da)) : PO X (some a) (tOp' X.K X.mg W φ (oSome da)) :=
  PO.le (po_some ha) fun σ H Q ⟨ρ, m, S, re, rm, p⟩ => (step re rm p).mono fun x H1 ⟨xv, m1, S1, re1, rm1, e1, r1, p1⟩ => by
    split at p1
    · cases rv_int r1
      exact ⟨_, rfl, p1.at rm1 rfl⟩
    · exact p1.elim
theorem se_slc {lo hi : Option Expr} {dl dh : ODen} {p2 : Pos} (ha : PE X a (tD X.K X.mg W φ da)) (hl : PO X lo (tOp' X.K X.mg W φ dl)) (hh : PO X hi (tOp' X.K X.mg W φ dh)) : PE X (.Subscript a (.Slice lo hi none p2) pos) (tD X.K X.mg W φ (cSlc da dl dh)) :=
  PE.le (pe_slice sl_slc ha hl hh) fun σ H Q ⟨ρ, m, S, re, rm, p⟩ => (step re rm p).mono fun x H1 ⟨xv, m1, S1, re1, rm1, e1, r1, p1⟩ => (step re1 rm1 p1).mono fun y H2 ⟨yv, m2, S2, re2, rm2, e2, r2, p2⟩ =>
    (step re2 rm2 p2).mono fun z H3 ⟨zv, m3, S3, re3, rm3, e3, r3, p3⟩ => by
      cases r2
      cases r3
      obtain ⟨r, hr, hq⟩ := p3.of
      exact ⟨m3, S3, xv, rm3, e3.rv (e2.rv r1), r, hr, hq⟩
/-! argument lists, displays -/
variable {e : Expr} {es : List Expr} {ad : ADen}
theorem sa_nil : PA X [] (tAr X.K X.mg W φ aNil) := PA.le pa_nil fun σ H Q ⟨ρ, m, S, re, rm, p⟩ => p.at rm .nil
theorem sa_cons (ha : PE X e (tD X.K X.mg W φ da)) (hr : PA X es (tAr X.K X.mg W φ ad)) (hs : starEach (e :: es) X.env = (false, eval e X.env) :: starEach es X.env) : PA X (e :: es) (tAr X.K X.mg W φ (aCons da ad)) :=
  PA.le (pa_cons ha hr hs) fun σ H Q ⟨ρ, m, S, re, rm, p⟩ => (step re rm p).mono fun x H1 ⟨xv, m1, S1, re1, rm1, e1, r1, p1⟩ => (step re1 rm1 p1).mono fun y H2 ⟨yv, m2, S2, re2, rm2, e2, r2, p2⟩ =>
    p2.at rm2 (.cons (e2.rv r1) r2)
theorem se_tup {k : Nat} (h : PA X es (tAr X.K X.mg W φ ad)) : PE X (.Tuple es k pos) (tD X.K X.mg W φ (cTup ad)) :=
  PE.le (pe_tup h) fun σ H Q ⟨ρ, m, S, re, rm, p⟩ => (step re rm p).mono fun x H1 ⟨xv, m1, S1, re1, rm1, e1, r1, p1⟩ => by
    split at p1
    · rename_i ps hp
      split at p1
      · rename_i hz
        have r := pvs_rv r1 hp
        have l := r.len
        exact ⟨by rw [line]; omega, fun a ha => p1 _ _ S1 (Ext.new ha) (rm1.new ha) (RP.newTup rm1 ha r)⟩
      · exact p1.elim
    · exact p1.elim
theorem se_lst (h : PA X es (tAr X.K X.mg W φ ad)) : PE X (.List es pos) (tD X.K X.mg W φ (cLst ad)) :=
  PE.le (pe_lst h) fun σ H Q ⟨ρ, m, S, re, rm, p⟩ => (step re rm p).mono fun x H1 ⟨xv, m1, S1, re1, rm1, e1, r1, p1⟩ => by
    split at p1
    · rename_i ps hp
      split at p1
      · rename_i hz
        have r := pvs_rv r1 hp
        have l := r.len
        exact ⟨by rw [line]; omega, fun a ha => p1 _ _ S1 (Ext.new ha) (rm1.new ha) (RP.newLst rm1 ha r)⟩
      · exact p1.elim
    · exact p1.elim
/-- a fresh list becomes a cell -/
theorem RM.cellG {K : PySem.W.Frag} {mg : Str → Option Value} {H : Hp} {S : Sg} {m : Mem} {a : Addr} {o₁ : HO} {c₁ : Cell} (rm : RM K mg H S m) (hn : H a = none) (r : Ext H S (upd H a o₁) ⟨S.L ++ [some a], S.Z⟩ → COk K mg (upd H a o₁) ⟨S.L ++ [some a], S.Z⟩ a c₁) :
    Ext H S (upd H a o₁) ⟨S.L ++ [some a], S.Z⟩ ∧ RM K mg (upd H a o₁) ⟨S.L ++ [some a], S.Z⟩ (m ++ [c₁]) ∧ RV K mg (upd H a o₁) ⟨S.L ++ [some a], S.Z⟩ (.ref m.length) (.ref a) := by
  have fr := rm.fresh hn
  have ext : Ext H S (upd H a o₁) ⟨S.L ++ [some a], S.Z⟩ := ⟨fun b o h n => ⟨by rw [upd_ne (ne_of_none h hn)]; exact h, fun z => by
      rcases List.mem_append.mp z with z | z
      · exact n z
      · simp at z; subst z; rw [hn] at h; cases h⟩, rfl, fun n o h => ⟨o, by
      show (S.L ++ [some a])[n]? = some o
      rw [List.getElem?_append_left (List.getElem?_eq_some_iff.mp h).1]; exact h, .inl rfl⟩⟩
  have old : ∀ {n : Nat} {b : Addr}, S.L[n]? = some (some b) → b ≠ a := fun {n b} e z => fr (.inl (List.mem_of_getElem? (z ▸ e)))
  have cs : ∀ {n : Nat} {o : Option Addr}, (S.L ++ [some a])[n]? = some o → S.L[n]? = some o ∨ (n = m.length ∧ o = some a) := fun {n o} e => by
    by_cases h : n < S.L.length
    · rw [List.getElem?_append_left h] at e; exact .inl e
    · rw [List.getElem?_append_right (Nat.le_of_not_lt h)] at e
      by_cases h2 : n - S.L.length = 0
      · rw [h2] at e
        simp at e
        exact .inr ⟨by have := rm.len; omega, e.symm⟩
      · rw [List.getElem?_eq_none (by simp; omega)] at e; cases e
  have hlast : (m ++ [c₁])[m.length]? = some c₁ := by simp
  have hold : ∀ {n : Nat} {c : Cell}, m[n]? = some c → (m ++ [c₁])[n]? = some c := fun {n c} e => by
    rw [List.getElem?_append_left (List.getElem?_eq_some_iff.mp e).1]; exact e
  refine ⟨ext, ⟨by show (S.L ++ [some a]).length = _; rw [List.length_append, List.length_append, rm.len]; rfl, fun n b e => ?_, fun i j b e1 e2 => ?_, fun n e => ?_, fun z hz => ?_⟩, ?_⟩
  · rcases cs e with f | ⟨rfl, f⟩
    · obtain ⟨h1, c, h2, h3⟩ := rm.at_ n b f
      exact ⟨h1, c, hold h2, h3.ext ext fun _ q => by rw [upd_ne (old f)]; exact q⟩
    · obtain rfl : b = a := Option.some.inj f
      exact ⟨fun z => fr (.inr z), _, hlast, r ext⟩
  · rcases cs e1 with f1 | ⟨rfl, f1⟩
    · rcases cs e2 with f2 | ⟨rfl, f2⟩
      · exact rm.inj i j b f1 f2
      · exact absurd (Option.some.inj f2) (old f1)
    · rcases cs e2 with f2 | ⟨rfl, f2⟩
      · exact absurd (Option.some.inj f1) (old f2)
      · rfl
  · rcases cs e with f | ⟨rfl, f⟩
    · exact hold (rm.dead n f)
    · cases f
  · obtain ⟨o, e⟩ := rm.zs z hz
    exact ⟨o, by rw [upd_ne (ne_of_none e hn)]; exact e⟩
  · refine ⟨some a, ?_, fun b e => by cases e; rfl⟩
    show (S.L ++ [some a])[m.length]? = some (some a)
    rw [← rm.len]; simp
theorem RM.cell {K : PySem.W.Frag} {mg : Str → Option Value} {H : Hp} {S : Sg} {m : Mem} {a : Addr} {ps : List PV} {vs : List V} (rm : RM K mg H S m) (hn : H a = none) (r : RPs K mg H S ps vs) :
    Ext H S (upd H a (.lst vs)) ⟨S.L ++ [some a], S.Z⟩ ∧ RM K mg (upd H a (.lst vs)) ⟨S.L ++ [some a], S.Z⟩ (m ++ [.lst ps]) ∧ RV K mg (upd H a (.lst vs)) ⟨S.L ++ [some a], S.Z⟩ (.ref m.length) (.ref a) :=
  rm.cellG hn fun ext => ⟨vs, upd_same, ext.rps r⟩
theorem se_dct {t : Bool} : PE X (.Dict [] [] pos) (tD X.K X.mg W φ (cDct t)) := by
  cases t with
  | true =>
    refine PE.le pe_dnewT fun σ H Q ⟨ρ, m, S, re, rm, p⟩ => ?_
    intro a ha
    obtain ⟨x1, x2, x3⟩ := rm.cellG (o₁ := .dT []) (c₁ := .dt []) ha fun _ => ⟨[], upd_same, rfl, .nil⟩
    exact p _ _ _ x1 x2 x3
  | false =>
    refine PE.le pe_dnewK fun σ H Q ⟨ρ, m, S, re, rm, p⟩ => ?_
    intro a ha
    obtain ⟨x1, x2, x3⟩ := rm.cellG (o₁ := .dK []) (c₁ := .dk []) ha fun _ => ⟨[], upd_same, rfl, .nil⟩
    exact p _ _ _ x1 x2 x3
theorem se_new (h : PA X es (tAr X.K X.mg W φ ad)) : PE X (.List es pos) (tD X.K X.mg W φ (cNew ad)) :=
  PE.le (pe_lst h) fun σ H Q ⟨ρ, m, S, re, rm, p⟩ => (step re rm p).mono fun x H1 ⟨xv, m1, S1, re1, rm1, e1, r1, p1⟩ => by
    split at p1
    · rename_i ps hp
      split at p1
      · rename_i hz
        have r := pvs_rv r1 hp
        have l := r.len
        refine ⟨by rw [line]; omega, fun a ha => ?_⟩
        obtain ⟨x1, x2, x3⟩ := rm1.cell ha r
        exact p1 _ _ _ x1 x2 x3
      · exact p1.elim
    · exact p1.elim
/-! calls -/
theorem se_callB {id : String} {f : BFn} {x : Str} {p : Pos} (hc : CallR X (.builtin id) (rC X.K X.mg f)) (hg : Gl X x) (hm : X.mg x = none) (hv : bootBuiltins x = some (.builtin id)) (ha : PA X (e :: es) (tAr X.K X.mg W φ ad)) (hn : x ≠ "__name__") (hdb : (x == ("__debug__" : Str)) = false)
    (he : starEach (e :: es) X.env = (false, eval e X.env) :: starEach es X.env) (hpl : (backTo pos (starEach es X.env)).any (·.1) = false) : PE X (.Call (.Name x p) (e :: es) [] pos) (tD X.K X.mg W φ (cB f ad)) :=
  PE.le (pe_callB hc hg hm hv ha hn hdb he hpl) fun σ H Q ⟨ρ, m, S, re, rm, p⟩ => (step re rm p).mono fun x H1 ⟨xv, m1, S1, re1, rm1, e1, r1, p1⟩ =>
    let ⟨r, hr, hq⟩ := p1.of
    ⟨m1, S1, xv, rm1, r1, r, hr, hq⟩
theorem se_callTy {id : String} {f : BFn} {x : Str} {p : Pos} (hc : CallR X (.type id) (rC X.K X.mg f)) (hg : Gl X x) (hm : X.mg x = none) (hv : bootBuiltins x = some (.type id)) (ha : PA X (e :: es) (tAr X.K X.mg W φ ad)) (hn : x ≠ "__name__") (hdb : (x == ("__debug__" : Str)) = false)
    (he : starEach (e :: es) X.env = (false, eval e X.env) :: starEach es X.env) (hpl : (backTo pos (starEach es X.env)).any (·.1) = false) : PE X (.Call (.Name x p) (e :: es) [] pos) (tD X.K X.mg W φ (cB f ad)) :=
  PE.le (pe_callTy hc hg hm hv ha hn hdb he hpl) fun σ H Q ⟨ρ, m, S, re, rm, p⟩ => (step re rm p).mono fun x H1 ⟨xv, m1, S1, re1, rm1, e1, r1, p1⟩ =>
    let ⟨r, hr, hq⟩ := p1.of
    ⟨m1, S1, xv, rm1, r1, r, hr, hq⟩
/-- what a function of ours promises -/
def spOf (K : PySem.W.Frag) (mg : Str → Option Value) (k : Nat) (f : List Val → Mem → Res Val) : Sp := fun vs H Q E =>
  vs.length = k ∧ ∃ m S xs, RM K mg H S m ∧ RVs K mg H S xs vs ∧ Post K mg (RV K mg) E H S Q (f xs m)
theorem se_call {k np : Nat} {f : Addr} {fd : FuncData} {ps : List Str} {x : Str} {p : Pos} (F : FnOk X.prog X.w X.K X.mg X.base (CX X.prog X.w) k f fd ps (spOf X.K X.mg np (φ x))) (hr : Room k X.A) (hg : Gl X x) (hm : X.mg x = some (.ref f)) (hk : PySem.W.keepIn X.K (.ref f) = true) (hb : Binds X.K fd ps []) (tk : Takes X W)
    (hnp : np = (e :: es).length) (hl : ∀ {ρ m vs m'}, ad φ ρ m = .ok vs m' → vs.length = (e :: es).length)
    (ha : PA X (e :: es) (tAr X.K X.mg W φ ad)) (hdb : (x == ("__debug__" : Str)) = false)
    (he : starEach (e :: es) X.env = (false, eval e X.env) :: starEach es X.env) (hpl : (backTo pos (starEach es X.env)).any (·.1) = false) : PE X (.Call (.Name x p) (e :: es) [] pos) (tD X.K X.mg W φ (cCall x ad)) :=
  PE.le (pe_callS F hr hg hm hk hb (E := WE W) (passAt tk) ha hdb he hpl) fun σ H Q ⟨ρ, m, S, re, rm, p⟩ => by
    unfold cCall at p
    cases ea : ad φ ρ m with
    | ok xv m1 =>
      rw [ea, Res.bind_ok] at p
      refine ⟨ρ, m, S, re, rm, ?_⟩
      rw [ea]
      intro vs H1 S1 e1 rm1 r1
      exact ⟨by rw [hnp, ← r1.len, hl ea], m1, S1, xv, rm1, r1, p.mono e1 fun _ _ z => z⟩
    | exc x m1 => rw [ea] at p; exact ⟨ρ, m, S, re, rm, by rw [ea]; exact p⟩
    | bad => rw [ea] at p; exact p.elim
end
end Pn

set_option Elab.async false
set_option linter.all false
set_option maxRecDepth 100000
set_option autoImplicit false
set_option maxHeartbeats 1000000
namespace Pn
open PySem PySem.Spec PyProof.Rows L2 HT

/-! ### targets -/
section
variable {K : PySem.W.Frag} {mg : Str → Option Value} {H : Hp} {S : Sg} {ρ ρ' : Env} {σ : L2.St}
theorem RE.set {x : Val} {v : V} (re : RE K mg H S ρ σ) (r : RV K mg H S x v) (i : Nat) : RE K mg H S (ρ.set i (some x)) (σ.set i (some v)) where
  len := by rw [List.length_set, List.length_set, re.len]
  at_ := fun j y e => by
    by_cases h : i = j
    · subst h
      have hl : i < ρ.length := by
        have := (List.getElem?_eq_some_iff.mp e).1
        simpa using this
      rw [List.getElem?_set_self hl] at e
      cases e
      exact ⟨v, by rw [List.getElem?_set_self (by rw [← re.len]; exact hl)], r⟩
    · rw [List.getElem?_set_ne h] at e ⊢
      exact re.at_ j y e
mutual
def slotsOf : Tgt → List Nat
  | .name i => [i]
  | .tup ts => slotsOfs ts
def slotsOfs : List Tgt → List Nat
  | [] => []
  | t :: ts => slotsOf t ++ slotsOfs ts
end
theorem wipe_set {σ : L2.St} {i : Nat} {x : Option V} : ∀ {vs : List Nat}, i ∈ vs → L2.wipe (σ.set i x) vs = L2.wipe σ vs
  | v :: vs, h => by
    unfold L2.wipe
    by_cases e : i ∈ vs
    · rw [wipe_set e]
    · have hv : i = v := by
        rcases List.mem_cons.mp h with h | h
        · exact h
        · exact absurd h e
      subst hv
      have key : ∀ (ws : List Nat) (τ : L2.St), i ∉ ws → L2.wipe (τ.set i x) ws = (L2.wipe τ ws).set i x := by
        intro ws
        induction ws with
        | nil => intro τ _; rfl
        | cons u us ih =>
          intro τ hn
          have h1 : i ≠ u := fun z => hn (z ▸ List.mem_cons_self)
          have h2 : i ∉ us := fun z => hn (List.mem_cons_of_mem _ z)
          unfold L2.wipe
          rw [ih τ h2, List.set_comm _ _ h1]
      rw [key vs σ e, List.set_set]
theorem RE.wipe (re : RE K mg H S ρ σ) : ∀ vs : List Nat, RE K mg H S (Pn.wipe ρ vs) (L2.wipe σ vs)
  | [] => re
  | v :: vs => by
    have ih := RE.wipe re vs
    unfold Pn.wipe L2.wipe
    refine ⟨by rw [List.length_set, List.length_set, ih.len], fun j y e => ?_⟩
    by_cases h : v = j
    · subst h
      by_cases hl : v < (Pn.wipe ρ vs).length
      · rw [List.getElem?_set_self hl] at e; cases e
      · rw [List.getElem?_eq_none (by simpa using hl)] at e; cases e
    · rw [List.getElem?_set_ne h] at e ⊢
      exact ih.at_ j y e
end
def gA (K : PySem.W.Frag) (mg : Str → Option Value) (t : Tgt) : TG := fun v σ H Q => ∃ ρ S p ρ', RE K mg H S ρ σ ∧ RP K mg H S p v ∧ asgn t p ρ = some ρ' ∧ ∀ σ', RE K mg H S ρ' σ' → (∀ vs : List Nat, (∀ i ∈ slotsOf t, i ∈ vs) → L2.wipe σ' vs = L2.wipe σ vs) → Q σ' H
def gAs (K : PySem.W.Frag) (mg : Str → Option Value) (ts : List Tgt) : TGs := fun vs σ H Q => ∃ ρ S ps ρ', RE K mg H S ρ σ ∧ RPs K mg H S ps vs ∧ asgns ts ps ρ = some ρ' ∧ ∀ σ', RE K mg H S ρ' σ' → (∀ vs : List Nat, (∀ i ∈ slotsOfs ts, i ∈ vs) → L2.wipe σ' vs = L2.wipe σ vs) → Q σ' H
theorem PG.le {X : Cx} {e : Expr} {t t' : TG} (h : PG X e t) (q : ∀ v σ H Q, t' v σ H Q → t v σ H Q) : PG X e t' := ⟨fun pins s σ H v u Q I r hw => h.run pins s σ H v u Q I r (q v σ H Q hw)⟩
theorem PGs.le {X : Cx} {e : List Expr} {t t' : TGs} (h : PGs X e t) (q : ∀ v σ H Q, t' v σ H Q → t v σ H Q) : PGs X e t' := ⟨fun pins s σ H v u Q I r hw => h.run pins s σ H v u Q I r (q v σ H Q hw)⟩
section
variable {X : Cx} {pos : Pos}
theorem sg_name {i : Nat} {x : Str} (hN : X.N.Nodup) (hi : X.N[i]? = some x) (hx : Loc X.env.scope x) (hf : X.fn x = true ∨ X.env.scope.names.lookup x = some .local) : PG X (.Name x pos) (gA X.K X.mg (.name i)) :=
  PG.le (pg_name hN hi hx hf) fun v σ H Q ⟨ρ, S, p, ρ', re, rp, e, q⟩ => by
    cases (show some (ρ.set i (some (.pv p))) = some ρ' from e)
    exact q _ (re.set (show RV X.K X.mg H S (.pv p) v from rp) i) fun vs h => wipe_set (h i (by simp [slotsOf]))
theorem sg_tup {es : List Expr} {k : Nat} {ts : List Tgt} (hc : X.calm = true) (h : PGs X es (gAs X.K X.mg ts)) (hl : ∀ {ps ρ ρ'}, asgns ts ps ρ = some ρ' → ps.length = es.length)
    (hn : (assignEach es X.env).length = es.length) (hst : (assignEach es X.env).findIdx? (·.1) = none) : PG X (.Tuple es k pos) (gA X.K X.mg (.tup ts)) :=
  PG.le (pg_tupK hc h (n := es.length) hn hst) fun v σ H Q ⟨ρ, S, p, ρ', re, rp, e, q⟩ => by
    cases rp with
    | tup ht r =>
      have e : asgns ts _ ρ = some ρ' := e
      refine ⟨_, _, rfl, .inl ht.sq, by rw [← r.len]; exact hl e, ρ, S, _, ρ', re, r, e, q⟩
    | lst ht r =>
      have e : asgns ts _ ρ = some ρ' := e
      refine ⟨_, _, rfl, .inr ht.sq, by rw [← r.len]; exact hl e, ρ, S, _, ρ', re, r, e, q⟩
    | _ => cases e
theorem sgs_nil : PGs X [] (gAs X.K X.mg []) := PGs.le pgs_nil fun v σ H Q ⟨ρ, S, ps, ρ', re, r, e, q⟩ => by
  cases r with
  | nil => cases e; exact ⟨rfl, q σ re fun _ _ => rfl⟩
  | cons _ _ => cases e
theorem sgs_cons {e : Expr} {es : List Expr} {t : Tgt} {ts : List Tgt} (h1 : PG X e (gA X.K X.mg t)) (h2 : PGs X es (gAs X.K X.mg ts)) (hs : (assignEach (e :: es) X.env).map (·.2) = assign e X.env :: (assignEach es X.env).map (·.2)) :
    PGs X (e :: es) (gAs X.K X.mg (t :: ts)) := PGs.le (pgs_cons h1 h2 hs) fun v σ H Q ⟨ρ, S, ps, ρ', re, r, ea, q⟩ => by
  cases r with
  | nil => cases ea
  | cons r rr =>
    have ea : (asgn t _ ρ).bind (fun ρ => asgns ts _ ρ) = some ρ' := ea
    cases e1 : asgn t _ ρ with
    | none => rw [e1] at ea; cases ea
    | some ρ1 =>
      rw [e1] at ea
      refine ⟨_, _, rfl, ρ, S, _, ρ1, re, r, e1, fun σ1 re1 w1 => ⟨ρ1, S, _, ρ', re1, rr, ea, fun σ2 re2 w2 => q σ2 re2 fun vs hv => ?_⟩⟩
      rw [w2 vs fun i hi => hv i (List.mem_append_right _ hi), w1 vs fun i hi => hv i (List.mem_append_left _ hi)]
end
/-! ### what is walked -/
def RI (K : PySem.W.Frag) (mg : Str → Option Value) (H : Hp) (S : Sg) (xg : List PV × Gd) (J : It) : Prop :=
  ∀ H' S' m', Exw H S H' S' → RM K mg H' S' m' → gOk xg.2 m' → ∀ i, (i < xg.1.length → J.go i H' ∧ ∀ x H2, J.yld i H' x H2 → ∃ p, xg.1[i]? = some p ∧ Ext H' S' H2 S' ∧ RM K mg H2 S' m' ∧ RP K mg H2 S' p x) ∧ (xg.1.length ≤ i → J.stop i H')
abbrev tI (K : PySem.W.Frag) (mg : Str → Option Value) (W : WX) (φ : Phi) (d : IDen) : TI := tG K mg (RI K mg) W φ d
theorem PI.le {X : Cx} {tg e : Expr} {t t' : TI} (h : PI X tg e t) (q : ∀ σ H Q, t' σ H Q → t σ H Q) : PI X tg e t' := ⟨fun pins s σ H Q I hw => h.run pins s σ H Q I (q σ H Q hw)⟩
section
variable {X : Cx} {tg : Expr}
/-- a list or a tuple -/
def iAny (K : PySem.W.Frag) (tl : TE) : TI := fun σ H R => tl σ H fun x H1 => (∃ z, x = .str z ∧ R (Its z) H1) ∨ ∃ a, x = .ref a ∧ ((∃ xs, SqL K H1 a xs ∧ R (Itl K a) H1) ∨ ∃ xs, SqT K H1 a xs ∧ R (Itt K a) H1)
theorem pi_any {l : Expr} {tl : TE} (hl : PE X l tl) : PI X tg l (iAny X.K tl) := by
  refine ⟨fun pins s σ H R I h => ?_⟩
  refine thn (hl.run pins s σ H _ I h) fun v s1 ⟨x, H1, I1, r1, q1⟩ => ?_
  rcases q1 with ⟨z, e, q⟩ | ⟨a, e, q1⟩
  · subst e
    obtain ⟨t, rfl⟩ := r1
    cases ha : z.cps.all (· < 128)
    · exact wpAny_pyIter_wide ha (pi_one (tk := s1.toks) I1 _ (turn_str _ z t "str_iterator" (.inr rfl)) ⟨_, Heap.get?_push_size _ rfl, rfl, rfl⟩ q)
    · exact wpAny_pyIter_ascii ha (pi_one (tk := s1.toks) I1 _ (turn_str _ z t "str_ascii_iterator" (.inl rfl)) ⟨_, Heap.get?_push_size _ rfl, rfl, rfl⟩ q)
  subst e
  cases r1
  rcases q1 with ⟨xs, hq, q⟩ | ⟨xs, hq, q⟩
  · obtain ⟨its, rv, p, hz⟩ := I1.list hq
    refine wpAny_pyIter_list p.isList ?_
    refine ⟨s1.heap.objs.size, [s1.heap.objs.size], _, _, H1, rfl, I1.kept (t' := s1.toks) fun b o e => Heap.get?_push_of_some _ e, turn_list a _, ⟨_, Heap.get?_push_size _ rfl, rfl, rfl⟩, fun b hb => ?_, q⟩
    have e : b = s1.heap.objs.size := by simpa using hb
    subst e
    exact I1.fpOk (Nat.le_refl _) (I1.hok.fresh (Nat.le_refl _))
  · obtain ⟨its, rv, p, hz⟩ := I1.tuple hq
    refine wpAny_pyIter_tuple (show s1.heap.IsTuple a its.toArray from p) ?_
    refine ⟨s1.heap.objs.size, [s1.heap.objs.size], _, _, H1, rfl, I1.kept (t' := s1.toks) fun b o e => Heap.get?_push_of_some _ e, turn_tuple a _, ⟨_, Heap.get?_push_size _ rfl, rfl, rfl⟩, fun b hb => ?_, q⟩
    have e : b = s1.heap.objs.size := by simpa using hb
    subst e
    exact I1.fpOk (Nat.le_refl _) (I1.hok.fresh (Nat.le_refl _))
end
section
variable {K : PySem.W.Frag} {mg : Str → Option Value} {H H' : Hp} {S S' : Sg} {m m' : Mem}
/-- two readings of one list, of one tuple -/
theorem Rd.inj {a : Addr} {u v : HO} (h : Rd H a u) (h' : Rd H a v) (hu : ∀ o w, u ≠ .frz o w) (hv : ∀ o w, v ≠ .frz o w) : u = v := by
  rcases h with h | ⟨o, h⟩ <;> rcases h' with h' | ⟨o', h'⟩
  · rw [h] at h'; exact Option.some.inj h'
  · rw [h] at h'; exact absurd (Option.some.inj h') (hu _ _)
  · rw [h'] at h; exact absurd (Option.some.inj h) (hv _ _)
  · rw [h] at h'; cases h'; rfl
theorem iOf_list {x : Val} {v : V} {xs : List PV} {g : Gd} (rm : RM K mg H S m) (r : RV K mg H S x v) (h : iOf m x = some (xs, g)) (hl : litems m x = some xs) (e : Exw H S H' S') (rm' : RM K mg H' S' m') (hg : gOk g m') :
    ∃ a vs, v = .ref a ∧ Rd H' a (.lst vs) ∧ RPs K mg H' S' xs vs := by
  cases x with
  | pv p =>
    cases p with
    | lst ys =>
      cases h
      cases r with
      | lst h1 r1 => exact ⟨_, _, rfl, (e.lst h1).1, e.rps r1⟩
    | _ => cases hl
  | ref n =>
    have hr := e.rv r
    unfold iOf at h
    dsimp only at h
    split at h
    · cases h
      exact litems_sq (x := .ref n) rm' hr (by unfold litems; dsimp only; rw [hg _ List.mem_cons_self])
    · cases h
theorem ri_list {a : Addr} {xs : List PV} {g : Gd} (h : ∀ H' S' m', Exw H S H' S' → RM K mg H' S' m' → gOk g m' → ∃ vs, SqL K H' a vs ∧ RPs K mg H' S' xs vs) : RI K mg H S (xs, g) (Itl K a) := fun H' S' m' e rm hg i => by
  obtain ⟨vs, hs, r⟩ := h H' S' m' e rm hg
  refine ⟨fun hi => ?_, fun hi => ⟨vs, hs, by rw [← r.len]; exact hi⟩⟩
  have hx : xs[i]? = some xs[i] := List.getElem?_eq_getElem hi
  obtain ⟨v, h1, h2⟩ := r.get hx
  refine ⟨⟨vs, v, hs, h1⟩, fun x H2 ⟨e2, y⟩ => ?_⟩
  subst e2
  have hv := y vs hs
  rw [h1] at hv
  cases hv
  exact ⟨_, hx, Ext.refl, rm, h2⟩
theorem ri_tup {a : Addr} {xs : List PV} {g : Gd} (h : ∀ H' S' m', Exw H S H' S' → RM K mg H' S' m' → gOk g m' → ∃ vs, SqT K H' a vs ∧ RPs K mg H' S' xs vs) : RI K mg H S (xs, g) (Itt K a) := fun H' S' m' e rm hg i => by
  obtain ⟨vs, hs, r⟩ := h H' S' m' e rm hg
  refine ⟨fun hi => ?_, fun hi => ⟨vs, hs, by rw [← r.len]; exact hi⟩⟩
  have hx : xs[i]? = some xs[i] := List.getElem?_eq_getElem hi
  obtain ⟨v, h1, h2⟩ := r.get hx
  refine ⟨⟨vs, v, hs, h1⟩, fun x H2 ⟨e2, y⟩ => ?_⟩
  subst e2
  have hv := y vs hs
  rw [h1] at hv
  cases hv
  exact ⟨_, hx, Ext.refl, rm, h2⟩
theorem rngP_len (lo : Int) (n : Nat) : (rngP lo n).length = n := by unfold rngP; simp
theorem chrs_len (z : Str) : (chrs z).length = z.cps.size := by unfold chrs; simp
theorem ri_str {z : Str} : RI K mg H S (chrs z, []) (Its z) := fun H' S' m' e rm hg i => by
  dsimp only
  rw [chrs_len]
  refine ⟨fun hi => ⟨hi, fun x H2 ⟨e2, c, h1, h2⟩ => ?_⟩, fun hi => hi⟩
  subst e2 h2
  refine ⟨.str ⟨#[c]⟩, ?_, Ext.refl, rm, .str _⟩
  unfold chrs
  rw [List.getElem?_map, Array.getElem?_toList, h1]
  rfl
theorem ri_rng {lo : Int} {n : Nat} : RI K mg H S (rngP lo n, []) (Itr lo n) := fun H' S' m' e rm hg i => by
  dsimp only
  rw [rngP_len]
  refine ⟨fun hi => ⟨hi, fun x H2 ⟨e2, y⟩ => ?_⟩, fun hi => hi⟩
  subst e2 y
  exact ⟨.int (lo + i), by unfold rngP; simp [hi], Ext.refl, rm, .int _⟩
theorem zip_get {xs ys : List PV} {i : Nat} (h : i < (zipP xs ys).length) : ∃ x y, xs[i]? = some x ∧ ys[i]? = some y ∧ (zipP xs ys)[i]? = some (.tup [x, y]) := by
  unfold zipP at *
  rw [List.length_zipWith] at h
  have h1 : i < xs.length := by omega
  have h2 : i < ys.length := by omega
  refine ⟨xs[i], ys[i], List.getElem?_eq_getElem h1, List.getElem?_eq_getElem h2, ?_⟩
  rw [List.getElem?_zipWith, List.getElem?_eq_getElem h1, List.getElem?_eq_getElem h2]
theorem ri_pair {x y : PV} {v w : V} {T : Addr} (rm : RM K mg H S m) (hT : H T = none) (r1 : RP K mg H S x v) (r2 : RP K mg H S y w) : Ext H S (upd H T (.tup [v, w])) S ∧ RM K mg (upd H T (.tup [v, w])) S m ∧ RP K mg (upd H T (.tup [v, w])) S (.tup [x, y]) (.ref T) :=
  ⟨Ext.new hT, rm.new hT, RP.newTup rm hT (.cons r1 (.cons r2 .nil))⟩
theorem ri_zipK {k1 k2 : Bool} {a b : Addr} {xs ys : List PV} {g : Gd} (h : ∀ H' S' m', Exw H S H' S' → RM K mg H' S' m' → gOk g m' → ∃ vs ws, SqK k1 K H' a vs ∧ RPs K mg H' S' xs vs ∧ SqK k2 K H' b ws ∧ RPs K mg H' S' ys ws) : RI K mg H S (zipP xs ys, g) (ItzK k1 k2 K a b) := fun H' S' m' e rm hg i => by
  obtain ⟨vs, ws, h1, r1, h2, r2⟩ := h H' S' m' e rm hg
  refine ⟨fun hi => ?_, fun hi => ⟨vs, ws, h1, h2, ?_⟩⟩
  · obtain ⟨x, y, ex, ey, ez⟩ := zip_get hi
    obtain ⟨v, v1, v2⟩ := r1.get ex
    obtain ⟨w, w1, w2⟩ := r2.get ey
    refine ⟨⟨vs, ws, v, w, h1, h2, v1, w1⟩, fun u H2 ⟨T, x', y', eu, hT, e2, y1, y2⟩ => ?_⟩
    subst eu e2
    have f1 := y1 vs h1
    have f2 := y2 ws h2
    rw [v1] at f1
    rw [w1] at f2
    cases f1
    cases f2
    obtain ⟨q1, q2, q3⟩ := ri_pair rm hT v2 w2
    exact ⟨_, ez, q1, q2, q3⟩
  · unfold zipP at hi
    rw [List.length_zipWith] at hi
    have := r1.len
    have := r2.len
    omega
theorem enum_get {xs : List PV} {i : Nat} (h : i < (enumP xs).length) : ∃ x, xs[i]? = some x ∧ (enumP xs)[i]? = some (.tup [.int i, x]) := by
  obtain ⟨k, x, ek, ex, ez⟩ := zip_get h
  have hi := (List.getElem?_eq_some_iff.mp ex).1
  unfold rngP at ek
  rw [List.getElem?_map, List.getElem?_range hi] at ek
  have : k = .int i := by
    have := (Option.some.inj ek).symm
    rw [this]; exact congrArg PV.int (Int.zero_add _)
  subst this
  exact ⟨x, ex, ez⟩
theorem enum_len {xs : List PV} : (enumP xs).length = xs.length := by simp [enumP, zipP, rngP]
theorem ri_enL {a : Addr} {xs : List PV} {g : Gd} (h : ∀ H' S' m', Exw H S H' S' → RM K mg H' S' m' → gOk g m' → ∃ vs, SqL K H' a vs ∧ RPs K mg H' S' xs vs) : RI K mg H S (enumP xs, g) (Ite K a) := fun H' S' m' e rm hg i => by
  obtain ⟨vs, h1, r1⟩ := h H' S' m' e rm hg
  refine ⟨fun hi => ?_, fun hi => ⟨vs, h1, ?_⟩⟩
  · obtain ⟨x, ex, ez⟩ := enum_get hi
    obtain ⟨v, v1, v2⟩ := r1.get ex
    refine ⟨⟨vs, v, h1, v1⟩, fun u H2 ⟨T, x', eu, hT, e2, y1⟩ => ?_⟩
    subst eu e2
    have f1 := y1 vs h1
    rw [v1] at f1
    cases f1
    obtain ⟨q1, q2, q3⟩ := ri_pair rm hT (.int _) v2
    exact ⟨_, ez, q1, q2, q3⟩
  · rw [enum_len] at hi
    have := r1.len
    omega
theorem ri_enT {a : Addr} {xs : List PV} {g : Gd} (h : ∀ H' S' m', Exw H S H' S' → RM K mg H' S' m' → gOk g m' → ∃ vs, SqT K H' a vs ∧ RPs K mg H' S' xs vs) : RI K mg H S (enumP xs, g) (IteT K a) := fun H' S' m' e rm hg i => by
  obtain ⟨vs, h1, r1⟩ := h H' S' m' e rm hg
  refine ⟨fun hi => ?_, fun hi => ⟨vs, h1, ?_⟩⟩
  · obtain ⟨x, ex, ez⟩ := enum_get hi
    obtain ⟨v, v1, v2⟩ := r1.get ex
    refine ⟨⟨vs, v, h1, v1⟩, fun u H2 ⟨T, x', eu, hT, e2, y1⟩ => ?_⟩
    subst eu e2
    have f1 := y1 vs h1
    rw [v1] at f1
    cases f1
    obtain ⟨q1, q2, q3⟩ := ri_pair rm hT (.int _) v2
    exact ⟨_, ez, q1, q2, q3⟩
  · rw [enum_len] at hi
    have := r1.len
    omega
end
theorem gOk_app {g g' : Gd} {m : Mem} : gOk (g ++ g') m ↔ gOk g m ∧ gOk g' m := by
  unfold gOk
  simp only [List.mem_append]
  exact ⟨fun h => ⟨fun p hp => h p (.inl hp), fun p hp => h p (.inr hp)⟩, fun ⟨h1, h2⟩ p hp => hp.elim (h1 p) (h2 p)⟩
section
variable {X : Cx} {tg : Expr} {W : WX} {φ : Phi} {a b : Expr} {da : Den} {ad : ADen} {pos p : Pos}
theorem iOf_cases {m : Mem} {x : Val} {xs : List PV} {g : Gd} (h : iOf m x = some (xs, g)) : litems m x = some xs ∨ (x = .pv (.tup xs) ∧ g = []) ∨ ∃ z, x = .pv (.str z) ∧ xs = chrs z ∧ g = [] := by
  unfold iOf at h
  split at h
  · cases h; exact .inr (.inl ⟨rfl, rfl⟩)
  · cases h; exact .inr (.inr ⟨_, rfl, rfl, rfl⟩)
  · cases h; exact .inl rfl
  · split at h
    · cases h
      rename_i e
      exact .inl (by unfold litems; dsimp only; rw [e])
    · cases h
  · cases h
theorem iOf_of {m : Mem} {x : Val} {xs ys : List PV} {g : Gd} (o : iOf m x = some (ys, g)) (l : litems m x = some xs) : iOf m x = some (xs, g) := by
  rcases iOf_cases o with z | ⟨z, _⟩ | ⟨_, z, _, _⟩
  · rw [l] at z; cases z; exact o
  · subst z; cases l
  · subst z; cases l
theorem si_seq (ha : PE X a (tD X.K X.mg W φ da)) : PI X tg a (tI X.K X.mg W φ (iSeq da)) :=
  PI.le (pi_any ha) fun σ H Q ⟨ρ, m, S, re, rm, p⟩ => (step re rm p).mono fun x H1 ⟨xv, m1, S1, re1, rm1, e1, r1, p1⟩ => by
    obtain ⟨⟨xs, g⟩, hr, hq⟩ := p1.of
    rcases iOf_cases hr with hl | ⟨rfl, rfl⟩ | ⟨z, rfl, rfl, rfl⟩
    · obtain ⟨a, vs, rfl, h1, r⟩ := litems_sq rm1 r1 hl
      refine .inr ⟨a, rfl, .inl ⟨vs, .inl h1, hq _ H1 S1 Ext.refl rm1 (ri_list fun H' S' m' e rm' hg => ?_)⟩⟩
      obtain ⟨a', vs', ea, h2, r2⟩ := iOf_list rm1 r1 hr hl e rm' hg
      cases ea
      exact ⟨vs', .inl h2, r2⟩
    · obtain ⟨a, vs, rfl, h1, r⟩ := rv_tup r1
      exact .inr ⟨a, rfl, .inr ⟨vs, h1.sq, hq _ H1 S1 Ext.refl rm1 (ri_tup fun H' S' m' e rm' hg => ⟨vs, (e.tup h1).sq, e.rps r⟩)⟩⟩
    · cases rv_str r1
      exact .inl ⟨z, rfl, hq _ H1 S1 Ext.refl rm1 ri_str⟩
theorem si_rng1 (hg : Gl X "range") (hm : X.mg "range" = none) (ha : PA X [a] (tAr X.K X.mg W φ ad)) (hs : starEach [a] X.env = [(false, eval a X.env)]) : PI X tg (.Call (.Name "range" p) [a] [] pos) (tI X.K X.mg W φ (iB rngB1 ad)) :=
  PI.le (pi_range1 hg hm ha hs) fun σ H Q ⟨ρ, m, S, re, rm, p⟩ => (step re rm p).mono fun vs H1 ⟨xv, m1, S1, re1, rm1, e1, r1, p1⟩ => by
    obtain ⟨xg, hr, hq⟩ := p1.of
    unfold rngB1 at hr
    split at hr
    · obtain ⟨v, rfl, rv⟩ := rvs1 r1
      cases rv_int rv
      split at hr
      · rename_i hz
        cases hr
        exact ⟨_, rfl, hz.1, hz.2, hq _ H1 S1 Ext.refl rm1 ri_rng⟩
      · cases hr
    · cases hr
theorem si_rng2 (hg : Gl X "range") (hm : X.mg "range" = none) (ha : PA X [a, b] (tAr X.K X.mg W φ ad)) (hs : starEach [a, b] X.env = [(false, eval a X.env), (false, eval b X.env)]) (hs2 : starEach [b] X.env = [(false, eval b X.env)]) : PI X tg (.Call (.Name "range" p) [a, b] [] pos) (tI X.K X.mg W φ (iB rngB2 ad)) :=
  PI.le (pi_range2 hg hm ha hs hs2) fun σ H Q ⟨ρ, m, S, re, rm, p⟩ => (step re rm p).mono fun vs H1 ⟨xv, m1, S1, re1, rm1, e1, r1, p1⟩ => by
    obtain ⟨xg, hr, hq⟩ := p1.of
    unfold rngB2 at hr
    split at hr
    · obtain ⟨v, v', rfl, rv, rv'⟩ := rvs2 r1
      cases rv_int rv
      cases rv_int rv'
      split at hr
      · rename_i hz
        cases hr
        exact ⟨_, _, rfl, hz, hq _ H1 S1 Ext.refl rm1 ri_rng⟩
      · cases hr
    · cases hr
theorem si_zip {elts : List Expr} {kk : Nat} {tpos : Pos} (hg : Gl X "zip") (hm : X.mg "zip" = none) (ha : PA X [a, b] (tAr X.K X.mg W φ ad)) (hs : starEach [a, b] X.env = (false, eval a X.env) :: starEach [b] X.env) (hpl : (backTo pos (starEach [b] X.env)).any (·.1) = false) :
    PI X (.Tuple elts kk tpos) (.Call (.Name "zip" p) [a, b] [] pos) (tI X.K X.mg W φ (iB zipB ad)) :=
  PI.le (pi_zipK hg hm ha hs hpl) fun σ H Q ⟨ρ, m, S, re, rm, p⟩ => (step re rm p).mono fun vs H1 ⟨xv, m1, S1, re1, rm1, e1, r1, p1⟩ => by
    obtain ⟨xg, hr, hq⟩ := p1.of
    unfold zipB at hr
    split at hr
    · obtain ⟨v, v', rfl, rv, rv'⟩ := rvs2 r1
      cases hr
      obtain ⟨a, vs, rfl, h1, q1⟩ := rv_tup rv
      obtain ⟨b, ws, rfl, h2, q2⟩ := rv_tup rv'
      exact ⟨true, true, a, b, vs, ws, rfl, h1.sq, h2.sq, hq _ H1 S1 Ext.refl rm1 (ri_zipK fun H' S' m' e rm' hg => ⟨vs, ws, (e.tup h1).sq, e.rps q1, (e.tup h2).sq, e.rps q2⟩)⟩
    · obtain ⟨v, v', rfl, rv, rv'⟩ := rvs2 r1
      split at hr
      · rename_i ys x2 g' l2 o2
        cases hr
        obtain ⟨a, vs, rfl, h1, q1⟩ := rv_tup rv
        obtain ⟨b, ws, rfl, h2, q2⟩ := litems_sq rm1 rv' l2
        have f2 := iOf_of o2 l2
        refine ⟨true, false, a, b, vs, ws, rfl, h1.sq, .inl h2, hq _ H1 S1 Ext.refl rm1 (ri_zipK fun H' S' m' e rm' hg => ?_)⟩
        obtain ⟨b', ws', eb, h4, q4⟩ := iOf_list rm1 rv' f2 l2 e rm' hg
        cases eb
        exact ⟨vs, ws', (e.tup h1).sq, e.rps q1, .inl h4, q4⟩
      · cases hr
    · obtain ⟨v, v', rfl, rv, rv'⟩ := rvs2 r1
      split at hr
      · rename_i xs x1 g l1 o1
        cases hr
        obtain ⟨a, vs, rfl, h1, q1⟩ := litems_sq rm1 rv l1
        obtain ⟨b, ws, rfl, h2, q2⟩ := rv_tup rv'
        have f1 := iOf_of o1 l1
        refine ⟨false, true, a, b, vs, ws, rfl, .inl h1, h2.sq, hq _ H1 S1 Ext.refl rm1 (ri_zipK fun H' S' m' e rm' hg => ?_)⟩
        obtain ⟨a', vs', ea, h3, q3⟩ := iOf_list rm1 rv f1 l1 e rm' hg
        cases ea
        exact ⟨vs', ws, .inl h3, q3, (e.tup h2).sq, e.rps q2⟩
      · cases hr
    · obtain ⟨v, v', rfl, rv, rv'⟩ := rvs2 r1
      split at hr
      · rename_i xs ys x1 g x2 g' l1 l2 o1 o2
        cases hr
        obtain ⟨a, vs, rfl, h1, q1⟩ := litems_sq rm1 rv l1
        obtain ⟨b, ws, rfl, h2, q2⟩ := litems_sq rm1 rv' l2
        have f1 := iOf_of o1 l1
        have f2 := iOf_of o2 l2
        refine ⟨false, false, a, b, vs, ws, rfl, .inl h1, .inl h2, hq _ H1 S1 Ext.refl rm1 (ri_zipK fun H' S' m' e rm' hg => ?_)⟩
        obtain ⟨g1, g2⟩ := gOk_app.mp hg
        obtain ⟨a', vs', ea, h3, q3⟩ := iOf_list rm1 rv f1 l1 e rm' g1
        obtain ⟨b', ws', eb, h4, q4⟩ := iOf_list rm1 rv' f2 l2 e rm' g2
        cases ea
        cases eb
        exact ⟨vs', ws', .inl h3, q3, .inl h4, q4⟩
      · cases hr
    · cases hr
theorem si_enum {elts : List Expr} {kk : Nat} {tpos : Pos} (hg : Gl X "enumerate") (hm : X.mg "enumerate" = none) (ha : PA X [a] (tAr X.K X.mg W φ ad)) (hs : starEach [a] X.env = [(false, eval a X.env)]) :
    PI X (.Tuple elts kk tpos) (.Call (.Name "enumerate" p) [a] [] pos) (tI X.K X.mg W φ (iB enumB ad)) :=
  PI.le (pi_enumA hg hm ha hs) fun σ H Q ⟨ρ, m, S, re, rm, p⟩ => (step re rm p).mono fun vs H1 ⟨xv, m1, S1, re1, rm1, e1, r1, p1⟩ => by
    obtain ⟨xg, hr, hq⟩ := p1.of
    unfold enumB at hr
    split at hr
    · obtain ⟨v, rfl, rv⟩ := rvs1 r1
      cases hr
      obtain ⟨a, vs, rfl, h1, q1⟩ := rv_tup rv
      exact ⟨a, vs, rfl, .inr ⟨h1.sq, hq _ H1 S1 Ext.refl rm1 (ri_enT fun H' S' m' e rm' hg => ⟨vs, (e.tup h1).sq, e.rps q1⟩)⟩⟩
    · obtain ⟨v, rfl, rv⟩ := rvs1 r1
      split at hr
      · rename_i xs x1 g l1 o1
        cases hr
        obtain ⟨a, vs, rfl, h1, q1⟩ := litems_sq rm1 rv l1
        have f1 := iOf_of o1 l1
        refine ⟨a, vs, rfl, .inl ⟨.inl h1, hq _ H1 S1 Ext.refl rm1 (ri_enL fun H' S' m' e rm' hg => ?_)⟩⟩
        obtain ⟨a', vs', ea, h3, q3⟩ := iOf_list rm1 rv f1 l1 e rm' hg
        cases ea
        exact ⟨vs', .inl h3, q3⟩
      · cases hr
    · cases hr
end
end Pn

set_option Elab.async false
set_option linter.all false
set_option maxRecDepth 100000
set_option autoImplicit false
set_option maxHeartbeats 1000000
namespace Pn
open PySem PySem.Spec PyProof.Rows L2 HT

/-! ### comprehensions -/
section
variable {K : PySem.W.Frag} {mg : Str → Option Value} {H H' H1 : Hp} {L L1 : List (Option Addr)} {Z Z1 : List Addr} {m m' : Mem} {D : Addr} {as : List V} {ys : List PV}
theorem RM.dropD (rm : RM K mg H ⟨L, D :: Z⟩ m) : Exw H ⟨L, D :: Z⟩ H ⟨L, Z⟩ ∧ RM K mg H ⟨L, Z⟩ m := by
  have e : Exw H ⟨L, D :: Z⟩ H ⟨L, Z⟩ := ⟨fun a o h n => ⟨h, fun z => n (z.elim .inl fun z => .inr (List.mem_cons_of_mem _ z))⟩, fun n o h => ⟨o, h, .inl rfl⟩⟩
  refine ⟨e, rm.len, fun n a h => ?_, rm.inj, rm.dead, fun z hz => rm.zs z (List.mem_cons_of_mem _ hz)⟩
  obtain ⟨h1, c, h2, h3⟩ := rm.at_ n a h
  refine ⟨fun z => h1 (List.mem_cons_of_mem _ z), c, h2, ?_⟩
  cases c with
  | lst xs => obtain ⟨vs, q1, q2⟩ := h3; exact ⟨vs, q1, e.rps q2⟩
  | dk xs => obtain ⟨vs, q1, q2⟩ := h3; exact ⟨vs, q1, q2.k e.k⟩
  | dt xs => obtain ⟨vs, q1, q2⟩ := h3; exact ⟨vs, q1, q2.k e.k⟩
  | dead => exact h3
theorem RM.noD (rm : RM K mg H ⟨L, D :: Z⟩ m) : some D ∉ L := fun z => by
  obtain ⟨n, e⟩ := List.mem_iff_getElem?.mp z
  exact (rm.at_ n D e).1 List.mem_cons_self
theorem RM.pushD (rm : RM K mg H ⟨L, D :: Z⟩ m) (hD : H D = some (.lst as)) (r : RPs K mg H ⟨L, D :: Z⟩ ys as) (hZ : D ∉ Z) :
    RM K mg H ⟨L ++ [some D], Z⟩ (m ++ [.lst ys]) ∧ RV K mg H ⟨L ++ [some D], Z⟩ (.ref m.length) (.ref D) := by
  have nD := rm.noD
  have e : Exw H ⟨L, D :: Z⟩ H ⟨L ++ [some D], Z⟩ := ⟨fun a o h n => ⟨h, fun z => n (by
      rcases z with z | z
      · rcases List.mem_append.mp z with z | z
        · exact .inl z
        · simp at z; subst z; exact .inr List.mem_cons_self
      · exact .inr (List.mem_cons_of_mem _ z))⟩, fun n o h => ⟨o, by
      show (L ++ [some D])[n]? = some o
      rw [List.getElem?_append_left (List.getElem?_eq_some_iff.mp h).1]; exact h, .inl rfl⟩⟩
  have hlen : L.length = m.length := rm.len
  have cs : ∀ {n : Nat} {o : Option Addr}, (L ++ [some D])[n]? = some o → L[n]? = some o ∨ (n = m.length ∧ o = some D) := fun {n o} e => by
    by_cases h : n < L.length
    · rw [List.getElem?_append_left h] at e; exact .inl e
    · rw [List.getElem?_append_right (Nat.le_of_not_lt h)] at e
      by_cases h2 : n - L.length = 0
      · rw [h2] at e
        simp at e
        exact .inr ⟨by omega, e.symm⟩
      · rw [List.getElem?_eq_none (by simp; omega)] at e; cases e
  have hlast : (m ++ [Cell.lst ys])[m.length]? = some (.lst ys) := by simp
  have hold : ∀ {n : Nat} {c : Cell}, m[n]? = some c → (m ++ [Cell.lst ys])[n]? = some c := fun {n c} e => by
    rw [List.getElem?_append_left (List.getElem?_eq_some_iff.mp e).1]; exact e
  have old : ∀ {n : Nat} {b : Addr}, L[n]? = some (some b) → b ≠ D := fun {n b} h z => nD (List.mem_of_getElem? (z ▸ h))
  refine ⟨⟨by show (L ++ [some D]).length = _; rw [List.length_append, List.length_append, hlen]; rfl, fun n b h => ?_, fun i j b e1 e2 => ?_, fun n h => ?_, fun z hz => rm.zs z (List.mem_cons_of_mem _ hz)⟩, ?_⟩
  · rcases cs h with f | ⟨rfl, f⟩
    · obtain ⟨h1, c, h2, h3⟩ := rm.at_ n b f
      exact ⟨fun z => h1 (List.mem_cons_of_mem _ z), c, hold h2, h3.ext' e⟩
    · obtain rfl : b = D := Option.some.inj f
      exact ⟨hZ, _, hlast, as, hD, e.rps r⟩
  · rcases cs e1 with f1 | ⟨rfl, f1⟩
    · rcases cs e2 with f2 | ⟨rfl, f2⟩
      · exact rm.inj i j b f1 f2
      · exact absurd (Option.some.inj f2) (old f1)
    · rcases cs e2 with f2 | ⟨rfl, f2⟩
      · exact absurd (Option.some.inj f1) (old f2)
      · rfl
  · rcases cs h with f | ⟨rfl, f⟩
    · exact hold (rm.dead n f)
    · cases f
  · refine ⟨some D, ?_, fun b e => by cases e; rfl⟩
    show (L ++ [some D])[m.length]? = some (some D)
    rw [← hlen]; simp
end
abbrev NoW : WX := fun _ _ _ _ => False
theorem wipe_wipe {σ : L2.St} : ∀ {vs : List Nat}, L2.wipe (L2.wipe σ vs) vs = L2.wipe σ vs := by
  have key : ∀ (ws : List Nat) (τ : L2.St) (vs : List Nat), (∀ i ∈ ws, i ∈ vs) → L2.wipe (L2.wipe τ ws) vs = L2.wipe τ vs := by
    intro ws
    induction ws with
    | nil => intro τ vs _; rfl
    | cons u us ih =>
      intro τ vs h
      show L2.wipe ((L2.wipe τ us).set u none) vs = _
      rw [wipe_set (h u List.mem_cons_self), ih τ vs fun i hi => h i (List.mem_cons_of_mem _ hi)]
  exact fun {vs} => key vs σ vs fun _ h => h
section
variable {K : PySem.W.Frag} {mg : Str → Option Value} {W : WX} {φ : Phi}
theorem Ext.upd {H1 H : Hp} {S1 : Sg} {L : List (Option Addr)} {D : Addr} {o : HO} (e : Ext H1 S1 H ⟨L, S1.Z⟩) (hD : H1 D = none) : Ext H1 S1 (upd H D o) ⟨L, S1.Z⟩ :=
  ⟨fun a u h n => let ⟨h1, h2⟩ := e.keep a u h n; ⟨by rw [upd_ne (ne_of_none h hD)]; exact h1, h2⟩, rfl, e.cells⟩
theorem Ext.toD {H1 H : Hp} {S1 : Sg} {L : List (Option Addr)} {D : Addr} (e : Ext H1 S1 H ⟨L, S1.Z⟩) (hD : H1 D = none) : Exw H1 S1 H ⟨L, D :: S1.Z⟩ :=
  ⟨fun a u h n => by
    obtain ⟨h1, h2⟩ := e.w.keep a u h n
    refine ⟨h1, fun z => ?_⟩
    rcases z with z | z
    · exact h2 (.inl z)
    · rcases List.mem_cons.mp z with z | z
      · subst z; rw [hD] at h; cases h
      · exact h2 (.inr z), e.cells⟩
theorem Exw.updD {H : Hp} {L : List (Option Addr)} {Z : List Addr} {D : Addr} {o : HO} : Exw H ⟨L, D :: Z⟩ (upd H D o) ⟨L, D :: Z⟩ :=
  ⟨fun a u h n => ⟨by rw [upd_ne (show a ≠ D from fun z => n (.inr (by show a ∈ D :: Z; rw [z]; exact List.mem_cons_self)))]; exact h, n⟩, fun n o h => ⟨o, h, .inl rfl⟩⟩
theorem RM.updD {H : Hp} {L : List (Option Addr)} {Z : List Addr} {D : Addr} {o : HO} {m : Mem} (rm : RM K mg H ⟨L, D :: Z⟩ m) : RM K mg (upd H D o) ⟨L, D :: Z⟩ m :=
  ⟨rm.len, fun n a h => by
    obtain ⟨h1, c, h2, h3⟩ := rm.at_ n a h
    refine ⟨h1, c, h2, ?_⟩
    cases c with
    | lst xs =>
      obtain ⟨vs, q1, q2⟩ := h3
      exact ⟨vs, by rw [upd_ne (show a ≠ D from fun z => h1 (by show a ∈ D :: Z; rw [z]; exact List.mem_cons_self))]; exact q1, Exw.updD.rps q2⟩
    | dk xs =>
      obtain ⟨vs, q1, q2⟩ := h3
      exact ⟨vs, by rw [upd_ne (show a ≠ D from fun z => h1 (by show a ∈ D :: Z; rw [z]; exact List.mem_cons_self))]; exact q1, q2.k Exw.updD.k⟩
    | dt xs =>
      obtain ⟨vs, q1, q2⟩ := h3
      exact ⟨vs, by rw [upd_ne (show a ≠ D from fun z => h1 (by show a ∈ D :: Z; rw [z]; exact List.mem_cons_self))]; exact q1, q2.k Exw.updD.k⟩
    | dead => exact h3, rm.inj, rm.dead, fun z hz => by
    by_cases e : z = D
    · exact ⟨o, by rw [e]; exact upd_same⟩
    · rw [upd_ne e]; exact rm.zs z hz⟩
theorem rd_lc {nw : Bool} {own : List Nat} {it : IDen} {tg : Tgt} {t : TDen} {elt : Den} {σ : L2.St} {H : Hp} {Q : VK} (hown : ∀ i ∈ slotsOf tg, i ∈ own) (h : tD K mg W φ (cLc nw own it tg t elt) σ H Q) :
    tLc (tI K mg W φ it) (gA K mg tg) (tT K mg NoW φ t) (tD K mg NoW φ elt) own σ H Q := by
  obtain ⟨ρ, m, S, re, rm, p⟩ := h
  refine (step re rm p).mono fun J H1 ⟨⟨xs, g⟩, m1, S1, re1, rm1, e1, ri, p1⟩ D hD => ?_
  dsimp only at p1
  split at p1
  case isFalse => exact p1.elim
  rename_i hsz
  have hDZ : D ∉ S1.Z := fun z => by obtain ⟨o, e⟩ := rm1.zs D z; rw [hD] at e; cases e
  have noD : ¬ S1.av D := rm1.fresh hD
  -- the invariant
  refine ⟨fun i mm H => mm = xs.length - i ∧ i ≤ xs.length ∧ ∃ m L acc as, Ext H1 S1 H ⟨L, S1.Z⟩ ∧ RM K mg H ⟨L, D :: S1.Z⟩ m ∧ H D = some (.lst as) ∧ RPs K mg H ⟨L, D :: S1.Z⟩ acc as ∧ acc.length ≤ i ∧
    Post K mg (RV K mg) (fun c dd H' => W c dd σ H') H1 S1 Q ((lcL (lcOne tg t elt φ (Pn.wipe ρ own)) g (xs.drop i) m).bind fun ys m => lcEnd nw (acc ++ ys) m), ⟨xs.length, by simp, Nat.zero_le _, m1, S1.L, [], [], Ext.new hD, ?_, upd_same, .nil, Nat.zero_le _, p1⟩, ?_⟩
  · have e0 : Exw H1 S1 H1 ⟨S1.L, D :: S1.Z⟩ := Ext.toD (L := S1.L) Ext.refl hD
    refine ⟨rm1.len, fun n a h => ?_, rm1.inj, rm1.dead, fun z hz => ?_⟩
    · obtain ⟨h1, c, h2, h3⟩ := rm1.at_ n a h
      refine ⟨fun z => ?_, c, h2, ?_⟩
      · rcases List.mem_cons.mp z with z | z
        · exact noD (.inl (z ▸ List.mem_of_getElem? h))
        · exact h1 z
      · have h4 := (h3.ext' e0)
        cases c with
        | lst xs =>
          obtain ⟨vs, q1, q2⟩ := h4
          exact ⟨vs, by rw [upd_ne (ne_of_none q1 hD)]; exact q1, Exw.updD.rps q2⟩
        | dk xs =>
          obtain ⟨vs, q1, q2⟩ := h4
          exact ⟨vs, by rw [upd_ne (ne_of_none q1 hD)]; exact q1, q2.k Exw.updD.k⟩
        | dt xs =>
          obtain ⟨vs, q1, q2⟩ := h4
          exact ⟨vs, by rw [upd_ne (ne_of_none q1 hD)]; exact q1, q2.k Exw.updD.k⟩
        | dead => exact h4
    · rcases List.mem_cons.mp hz with z | z
      · exact ⟨_, by rw [z]; exact upd_same⟩
      · obtain ⟨o, e⟩ := rm1.zs _ z
        exact ⟨o, by rw [upd_ne (ne_of_none e hD)]; exact e⟩
  · rintro i mm H ⟨rfl, hi, m, L, acc, as, ex, rm, hHD, ra, hacc, p⟩
    have exw := Ext.toD ex hD
    have lacc := ra.len
    by_cases hlt : i < xs.length
    · have hx : xs[i]? = some xs[i] := List.getElem?_eq_getElem hlt
      have hdrop : xs.drop i = xs[i] :: xs.drop (i + 1) := List.drop_eq_getElem_cons hlt
      rw [hdrop] at p
      unfold lcL at p
      split at p
      case isFalse => exact p.elim
      rename_i hg
      obtain ⟨hgo, hy⟩ := (ri H ⟨L, D :: S1.Z⟩ m exw rm hg i).1 hlt
      refine .inr ⟨hgo, fun H => ∃ m L acc as, Ext H1 S1 H ⟨L, S1.Z⟩ ∧ RM K mg H ⟨L, D :: S1.Z⟩ m ∧ H D = some (.lst as) ∧ RPs K mg H ⟨L, D :: S1.Z⟩ acc as ∧ acc.length ≤ i + 1 ∧
        Post K mg (RV K mg) (fun c dd H' => W c dd σ H') H1 S1 Q ((lcL (lcOne tg t elt φ (Pn.wipe ρ own)) g (xs.drop (i + 1)) m).bind fun ys m => lcEnd nw (acc ++ ys) m), fun H' hN => ⟨_, by omega, rfl, hlt, hN⟩, fun x H2 hyl => ?_⟩
      obtain ⟨px, hpx, ey, rmy, rpy⟩ := hy x H2 hyl
      obtain rfl : xs[i] = px := by
        have : xs[i]? = some px := hpx
        rw [hx] at this
        exact Option.some.inj this
      -- Ext from H1 to what comes
      have key : ∀ {Ha Hb : Hp} {La Lb : List (Option Addr)}, Ext H1 S1 Ha ⟨La, S1.Z⟩ → Ext Ha ⟨La, D :: S1.Z⟩ Hb ⟨Lb, D :: S1.Z⟩ → Ext H1 S1 Hb ⟨Lb, S1.Z⟩ := fun {Ha Hb La Lb} u v =>
        ⟨fun a o h n => let ⟨h1, h2⟩ := u.keep a o h n; v.keep a o h1 h2, rfl, fun n o h => by
          obtain ⟨o1, h1, c1⟩ := u.cells n o h
          obtain ⟨o2, h2, c2⟩ := v.cells n o1 h1
          refine ⟨o2, h2, ?_⟩
          rcases c2 with rfl | rfl
          · exact c1
          · exact .inr rfl⟩
      unfold lcOne at p
      cases ea : asgn tg xs[i] (Pn.wipe ρ own) with
      | none => rw [ea] at p; exact p.elim
      | some ρ' =>
        rw [ea] at p
        dsimp only at p
        refine ⟨Pn.wipe ρ own, ⟨L, D :: S1.Z⟩, xs[i], ρ', ((exw.trans ey.w).re re1).wipe own, rpy, ea, fun σ' re' hw => ⟨?_, ?_⟩⟩
        · rw [hw own hown, wipe_wipe]
        refine ⟨ρ', m, ⟨L, D :: S1.Z⟩, re', rmy, ?_⟩
        cases et : t φ ρ' m with
        | exc _ _ => rw [et] at p; exact p.elim
        | bad => rw [et] at p; exact p.elim
        | ok b m2 =>
          rw [et] at p
          intro b' H3 S3 e3 rm3 rb
          cases rb
          obtain ⟨L3, Z3⟩ := S3
          obtain rfl : Z3 = D :: S1.Z := e3.z
          have ex3 := key ex (ey.trans e3)
          have keepD : ∀ {Hb : Hp} {Lb : List (Option Addr)}, Ext H ⟨L, D :: S1.Z⟩ Hb ⟨Lb, D :: S1.Z⟩ → Hb D = some (.lst as) := fun v => (v.keep D _ hHD rm.noD).1
          cases b with
          | false =>
            rw [if_neg Bool.false_ne_true]
            refine ⟨m2, L3, acc, as, ex3, rm3, keepD (ey.trans e3), (ey.trans e3).rps ra, by omega, ?_⟩
            simp only [Res.nox_ok, Res.bind_ok, Bool.false_eq_true, if_false, List.nil_append] at p
            have e0 : ∀ r : Res (List PV), (r.bind fun ys m => Res.ok ys m) = r := fun r => by cases r <;> rfl
            rw [e0] at p
            exact p
          | true =>
            rw [if_pos rfl]
            refine ⟨ρ', m2, ⟨L3, D :: S1.Z⟩, e3.re re', rm3, ?_⟩
            simp only [Res.nox_ok, Res.bind_ok, if_true] at p
            cases ee : elt φ ρ' m2 with
            | exc _ _ => rw [ee] at p; exact p.elim
            | bad => rw [ee] at p; exact p.elim
            | ok v m3 =>
              rw [ee] at p
              simp only [Res.nox_ok, Res.bind_ok] at p
              cases v with
              | ref n => exact p.elim
              | pv y =>
                intro y' H4 S4 e4 rm4 ry
                obtain ⟨L4, Z4⟩ := S4
                obtain rfl : Z4 = D :: S1.Z := e4.z
                have et4 := (ey.trans e3).trans e4
                refine ⟨as, keepD et4, by rw [line]; omega, m3, L4, acc ++ [y], as ++ [y'], Ext.upd (key ex et4) hD, rm4.updD, upd_same, Exw.updD.rps ((et4.rps ra).app (.cons ry .nil)), by simp; omega, ?_⟩
                have e0 : ∀ r : Res (List PV), ((r.bind fun ys m => Res.ok ([y] ++ ys) m).bind fun ys m => lcEnd nw (acc ++ ys) m) = r.bind fun ys m => lcEnd nw ((acc ++ [y]) ++ ys) m := fun r => by
                  cases r <;> simp
                simp only [Res.bind_ok] at p
                rw [e0] at p
                exact p
    · have hn : i = xs.length := by omega
      subst hn
      rw [List.drop_length] at p
      unfold lcL at p
      split at p
      case isFalse => exact p.elim
      rename_i hg
      refine .inl ⟨(ri H ⟨L, D :: S1.Z⟩ m exw rm hg _).2 (Nat.le_refl _), ?_⟩
      rw [Res.bind_ok, List.append_nil] at p
      unfold lcEnd at p
      cases nw with
      | false =>
        rw [if_neg Bool.false_ne_true] at p
        obtain ⟨x1, x2⟩ := rm.dropD
        exact p _ H _ ex x2 (.lst ⟨.inl hHD, fun z => z.elim rm.noD hDZ⟩ (x1.rps ra))
      | true =>
        rw [if_pos rfl] at p
        obtain ⟨x1, x2⟩ := rm.pushD hHD ra hDZ
        refine p _ H ⟨L ++ [some D], S1.Z⟩ ⟨fun a o h n => ?_, rfl, fun n o h => ?_⟩ x1 x2
        · obtain ⟨h1, h2⟩ := ex.keep a o h n
          refine ⟨h1, fun z => ?_⟩
          rcases List.mem_append.mp z with z | z
          · exact h2 z
          · simp at z; subst z; rw [hD] at h; cases h
        · obtain ⟨o', h1, h2⟩ := ex.cells n o h
          exact ⟨o', by show (L ++ [some D])[n]? = some o'; rw [List.getElem?_append_left (List.getElem?_eq_some_iff.mp h1).1]; exact h1, h2⟩
end
end Pn

set_option Elab.async false
set_option linter.all false
set_option maxRecDepth 100000
set_option autoImplicit false
set_option maxHeartbeats 1000000
namespace Pn
open PySem PySem.Spec PyProof.Rows L2 HT

section
variable (K : PySem.W.Frag) (mg : Str → Option Value)
def PostS (W : WX) (H : Hp) (S : Sg) (D : Ends) : SRes → Prop
  | .next ρ m => ∀ σ' H' S', Ext H S H' S' → RM K mg H' S' m → RE K mg H' S' ρ σ' → D.nx σ' H'
  | .ret v m => ∀ u H' S', Ext H S H' S' → RM K mg H' S' m → RV K mg H' S' v u → D.rt u H'
  | .exc e ρ m => ∀ σ' c d H' S', Ext H S H' S' → RM K mg H' S' m → RX K mg H' S' e c d → RE K mg H' S' ρ σ' → W c d σ' H'
  | .bad => False
def tSt (W : WX) (φ : Phi) (d : SDen) : TS := fun D σ H => ∃ ρ m S, RE K mg H S ρ σ ∧ RM K mg H S m ∧ PostS K mg W H S D (d φ ρ m)
end
section
variable {K : PySem.W.Frag} {mg : Str → Option Value} {W : WX} {φ : Phi} {H H' : Hp} {S S' : Sg} {D D' : Ends} {σ : L2.St} {ρ : Env} {m : Mem} {α β : Type} {R : Hp → Sg → α → β → Prop} {d : Phi → Env → Mem → Res α}
theorem PostS.mono {r : SRes} (h : PostS K mg W H S D r) (e : Ext H S H' S') (hn : ∀ σ H, D.nx σ H → D'.nx σ H) (hr : ∀ v H, D.rt v H → D'.rt v H) : PostS K mg W H' S' D' r := by
  cases r with
  | next ρ m => exact fun σ' H2 S2 e2 rm re => hn _ _ (h σ' H2 S2 (e.trans e2) rm re)
  | ret v m => exact fun u H2 S2 e2 rm rv => hr _ _ (h u H2 S2 (e.trans e2) rm rv)
  | exc x ρ m => exact fun σ' c d H2 S2 e2 rm rx re => h σ' c d H2 S2 (e.trans e2) rm rx re
  | bad => exact h
theorem PostS.ext {r : SRes} (h : PostS K mg W H S D r) (e : Ext H S H' S') : PostS K mg W H' S' D r := h.mono e (fun _ _ z => z) fun _ _ z => z
theorem stepS {k : α → Mem → SRes} (re : RE K mg H S ρ σ) (rm : RM K mg H S m) (h : PostS K mg W H S D ((d φ ρ m).stm ρ k)) :
    tG K mg R W φ d σ H (fun b H1 => ∃ a m1 S1, RE K mg H1 S1 ρ σ ∧ RM K mg H1 S1 m1 ∧ Ext H S H1 S1 ∧ R H1 S1 a b ∧ PostS K mg W H1 S1 D (k a m1)) := by
  refine ⟨ρ, m, S, re, rm, ?_⟩
  cases e : d φ ρ m with
  | ok a m1 =>
    rw [e] at h
    exact fun b H1 S1 x rm1 r => ⟨a, m1, S1, x.re re, rm1, x, r, h.ext x⟩
  | exc x m1 => rw [e] at h; exact fun c d H1 S1 e1 rm1 rx => h σ c d H1 S1 e1 rm1 rx (e1.re re)
  | bad => rw [e] at h; exact h
theorem PostS.thn {r : SRes} {k : Env → Mem → SRes} (h : PostS K mg W H S D (r.thn k)) :
    PostS K mg W H S { D with nx := fun σ1 H1 => ∃ ρ1 m1 S1, RE K mg H1 S1 ρ1 σ1 ∧ RM K mg H1 S1 m1 ∧ Ext H S H1 S1 ∧ PostS K mg W H1 S1 D (k ρ1 m1) } r := by
  cases r with
  | next ρ m => exact fun σ' H2 S2 e2 rm re => ⟨ρ, m, S2, re, rm, e2, h.ext e2⟩
  | ret v m => exact h
  | exc x ρ m => exact h
  | bad => exact h
theorem PostS.ends {r : SRes} {D' : Ends} (h : PostS K mg W H S D r) (hn : D'.nx = D.nx) (hr : D'.rt = D.rt) : PostS K mg W H S D' r := by
  cases r with
  | next ρ m => intro σ' H2 S2 e2 rm re; rw [hn]; exact h σ' H2 S2 e2 rm re
  | ret v m => intro σ' H2 S2 e2 rm re; rw [hr]; exact h σ' H2 S2 e2 rm re
  | exc x ρ m => exact h
  | bad => exact h
end
theorem PS.le {X : Cx} {e : Stmt} {t t' : TS} (h : PS X e t) (q : ∀ D σ H, t' D σ H → t D σ H) : PS X e t' := ⟨fun pins s σ H D I hw => h.run pins s σ H D I (q D σ H hw)⟩
theorem PSs.le {X : Cx} {e : List Stmt} {t t' : TS} (h : PSs X e t) (q : ∀ D σ H, t' D σ H → t D σ H) : PSs X e t' := ⟨fun pins s σ H D I hw => h.run pins s σ H D I (q D σ H hw)⟩
section
variable {X : Cx} {W : WX} {φ : Phi} {st : Stmt} {rest : List Stmt} {e a b c : Expr} {d da db dc : Den} {ta : TDen} {u v : SDen} {pos : Pos} {tg : Tgt} {ad : ADen}
theorem ss_bad : PS X st (tSt X.K X.mg W φ sBad) := ⟨fun _ _ _ _ _ _ ⟨_, _, _, _, _, p⟩ => p.elim⟩
theorem ss_nil : PSs X [] (tSt X.K X.mg W φ sPass) := PSs.le pss_nil fun D σ H ⟨ρ, m, S, re, rm, p⟩ => p σ H S Ext.refl rm re
theorem ss_pass (h : PS X st tNext) : PS X st (tSt X.K X.mg W φ sPass) := PS.le h fun D σ H ⟨ρ, m, S, re, rm, p⟩ => p σ H S Ext.refl rm re
theorem ss_one (h : PS X st (tSt X.K X.mg W φ u)) : PSs X [st] (tSt X.K X.mg W φ u) := pss_one h
theorem ss_cons (h1 : PS X st (tSt X.K X.mg W φ u)) (h2 : PSs X rest (tSt X.K X.mg W φ v)) : PSs X (st :: rest) (tSt X.K X.mg W φ (sSeq u v)) :=
  PSs.le (pss_cons h1 h2) fun D σ H ⟨ρ, m, S, re, rm, p⟩ => ⟨ρ, m, S, re, rm, by
    refine PostS.mono (PostS.thn (show PostS X.K X.mg W H S D ((u φ ρ m).thn fun ρ m => v φ ρ m) from p)) Ext.refl (fun σ1 H1 ⟨ρ1, m1, S1, re1, rm1, e1, p1⟩ => ⟨ρ1, m1, S1, re1, rm1, p1⟩) fun _ _ z => z⟩
theorem ss_ret (he : PE X e (tD X.K X.mg W φ d)) : PS X (.Return (some e) pos) (tSt X.K X.mg W φ (sRet d)) :=
  PS.le (ps_ret he) fun D σ H ⟨ρ, m, S, re, rm, p⟩ => (stepS re rm p).mono fun x H1 ⟨xv, m1, S1, re1, rm1, e1, r1, p1⟩ => p1 x H1 S1 Ext.refl rm1 r1
theorem ss_retN : PS X (.Return none pos) (tSt X.K X.mg W φ (sRet (cC .non))) :=
  PS.le ps_retN fun D σ H ⟨ρ, m, S, re, rm, p⟩ => p .non H S Ext.refl rm .non
theorem RM.kill {K : PySem.W.Frag} {mg : Str → Option Value} {H : Hp} {S : Sg} {m : Mem} {n : Nat} {xs : List PV} {y : V} (rm : RM K mg H S m) (h : m[n]? = some (.lst xs)) (r : RV K mg H S (.ref n) y) :
    Ext H S H ⟨S.L.set n none, S.Z⟩ ∧ RM K mg H ⟨S.L.set n none, S.Z⟩ (m.set n .dead) ∧ RV K mg H ⟨S.L.set n none, S.Z⟩ (.pv (.lst xs)) y := by
  obtain ⟨o, ho, q⟩ := r
  cases o with
  | none => rw [rm.dead n ho] at h; cases h
  | some a =>
    obtain rfl := q a rfl
    obtain ⟨hz, c, hc, hk⟩ := rm.at_ n a ho
    rw [h] at hc
    cases hc
    obtain ⟨vs, hv, rv⟩ := hk
    have hnl : n < S.L.length := (List.getElem?_eq_some_iff.mp ho).1
    have cs : ∀ {k : Nat} {o : Option Addr}, (S.L.set n none)[k]? = some o → (k = n ∧ o = none) ∨ (k ≠ n ∧ S.L[k]? = some o) := fun {k o} e => by
      by_cases hk : n = k
      · subst hk
        rw [List.getElem?_set_self hnl] at e
        exact .inl ⟨rfl, (Option.some.inj e).symm⟩
      · rw [List.getElem?_set_ne hk] at e
        exact .inr ⟨fun z => hk z.symm, e⟩
    have sub : ∀ b, some b ∈ S.L.set n none → some b ∈ S.L := fun b hb => by
      obtain ⟨k, e⟩ := List.mem_iff_getElem?.mp hb
      rcases cs e with ⟨_, e⟩ | ⟨_, e⟩
      · cases e
      · exact List.mem_of_getElem? e
    have na : some a ∉ S.L.set n none := fun hb => by
      obtain ⟨k, e⟩ := List.mem_iff_getElem?.mp hb
      rcases cs e with ⟨_, e⟩ | ⟨hk, e⟩
      · cases e
      · exact hk (rm.inj k n a e ho)
    have ext : Ext H S H ⟨S.L.set n none, S.Z⟩ := ⟨fun b o hb hn => ⟨hb, fun z => hn (sub b z)⟩, rfl, fun k o e => by
      by_cases hk : n = k
      · subst hk
        exact ⟨none, by show (S.L.set n none)[n]? = _; rw [List.getElem?_set_self hnl], .inr rfl⟩
      · exact ⟨o, by show (S.L.set n none)[k]? = _; rw [List.getElem?_set_ne hk]; exact e, .inl rfl⟩⟩
    refine ⟨ext, ⟨by show (S.L.set n none).length = _; rw [List.length_set, List.length_set, rm.len], fun k b e => ?_, fun i j b e1 e2 => ?_, fun k e => ?_, rm.zs⟩, .lst ⟨.inl hv, fun z => z.elim na hz⟩ (ext.rps rv)⟩
    · rcases cs e with ⟨_, e⟩ | ⟨hk, e⟩
      · cases e
      · obtain ⟨h1, c, h2, h3⟩ := rm.at_ k b e
        exact ⟨h1, c, by rw [List.getElem?_set_ne (Ne.symm hk)]; exact h2, h3.ext' ext.w⟩
    · rcases cs e1 with ⟨_, e1⟩ | ⟨_, e1⟩
      · cases e1
      · rcases cs e2 with ⟨_, e2⟩ | ⟨_, e2⟩
        · cases e2
        · exact rm.inj i j b e1 e2
    · rcases cs e with ⟨rfl, _⟩ | ⟨hk, e⟩
      · rw [List.getElem?_set_self (by rw [← rm.len]; exact hnl)]
      · rw [List.getElem?_set_ne (Ne.symm hk)]; exact rm.dead k e
theorem ss_retF (he : PE X e (tD X.K X.mg W φ d)) : PS X (.Return (some e) pos) (tSt X.K X.mg W φ (sRetF d)) :=
  PS.le (ps_ret he) fun D σ H ⟨ρ, m, S, re, rm, p⟩ => (stepS re rm p).mono fun x H1 ⟨xv, m1, S1, re1, rm1, e1, r1, p1⟩ => by
    cases xv with
    | pv q => exact p1 x H1 S1 Ext.refl rm1 r1
    | ref n =>
      dsimp only at p1
      split at p1
      · rename_i xs h
        obtain ⟨x1, x2, x3⟩ := rm1.kill h r1
        exact p1 x H1 _ x1 x2 x3
      · exact p1.elim
theorem ss_exp (he : PE X e (tD X.K X.mg W φ d)) (hs : swapsWith e none pos.line X.env = pure false) : PS X (.Expr e pos) (tSt X.K X.mg W φ (sExp d)) :=
  PS.le (ps_expr he hs) fun D σ H ⟨ρ, m, S, re, rm, p⟩ => (stepS re rm p).mono fun x H1 ⟨xv, m1, S1, re1, rm1, e1, r1, p1⟩ => p1 σ H1 S1 Ext.refl rm1 re1
theorem ss_if {p q : List Stmt} (hc : PT X c (tT X.K X.mg W φ ta)) (ha : PSs X p (tSt X.K X.mg W φ u)) (hb : PSs X q (tSt X.K X.mg W φ v)) : PS X (.If c p q pos) (tSt X.K X.mg W φ (sIf ta u v)) :=
  PS.le (ps_if hc ha hb) fun D σ H ⟨ρ, m, S, re, rm, p⟩ => (stepS re rm p).mono fun x H1 ⟨xv, m1, S1, re1, rm1, e1, r1, p1⟩ => by
    cases r1
    cases x with
    | true => rw [if_pos rfl] at p1 ⊢; exact ⟨ρ, m1, S1, re1, rm1, p1⟩
    | false => rw [if_neg Bool.false_ne_true] at p1 ⊢; exact ⟨ρ, m1, S1, re1, rm1, p1⟩
/-- name = e, from its store -/
theorem ss_set' {i : Nat} (h : PS X st (tAsg (tD X.K X.mg W φ d) (gName i))) : PS X st (tSt X.K X.mg W φ (sSet i d)) :=
  PS.le h fun D σ H ⟨ρ, m, S, re, rm, p⟩ => (stepS re rm p).mono fun x H1 ⟨xv, m1, S1, re1, rm1, e1, r1, p1⟩ => p1 _ H1 S1 Ext.refl rm1 (re1.set r1 i)
theorem ss_asg {t : Expr} {ts : List Tgt} (he : PE X e (tD X.K X.mg W φ d)) (hg : PG X t (gA X.K X.mg (.tup ts))) (hs : swapsWithSole [t] e pos.line X.env = pure false) (hw : swappedStores [t] e X.env = pure none)
    (h1 : (assignEach [t] X.env).map (·.2) = [assign t X.env]) : PS X (.Assign [t] e pos) (tSt X.K X.mg W φ (sTup ts d)) :=
  PS.le (ps_asg he hg hs hw h1) fun D σ H ⟨ρ, m, S, re, rm, p⟩ => (stepS re rm p).mono fun x H1 ⟨xv, m1, S1, re1, rm1, e1, r1, p1⟩ => by
    cases xv with
    | ref n => exact p1.elim
    | pv q =>
      dsimp only at p1
      split at p1
      · rename_i ρ' ea
        exact ⟨ρ, S1, q, ρ', re1, r1, ea, fun σ' re' _ => p1 σ' H1 S1 Ext.refl rm1 re'⟩
      · exact p1.elim
theorem RVs.cons_inv {K : PySem.W.Frag} {mg : Str → Option Value} {H : Hp} {S : Sg} {xs : List Val} {v : V} {vs : List V} (h : RVs K mg H S xs (v :: vs)) : ∃ x r, xs = x :: r ∧ RV K mg H S x v ∧ RVs K mg H S r vs := by
  cases h with
  | cons r t => exact ⟨_, _, rfl, r, t⟩
theorem ss_par {i j : Nat} (h : PS X st (tPar i j (tAr X.K X.mg W φ ad))) : PS X st (tSt X.K X.mg W φ (sPar [i, j] ad)) :=
  PS.le h fun D σ H ⟨ρ, m, S, re, rm, p⟩ => (stepS re rm p).mono fun vs H1 ⟨xs, m1, S1, re1, rm1, e1, r1, p1⟩ => by
    split at p1
    · rename_i ρ' ea
      cases r1 with
      | nil => cases ea
      | cons q1 r1 =>
        cases r1 with
        | nil => cases ea
        | cons q2 r1 =>
          cases r1 with
          | nil => cases ea; exact ⟨_, _, rfl, p1 _ H1 S1 Ext.refl rm1 ((re1.set q1 i).set q2 j)⟩
          | cons _ _ => cases ea
    · exact p1.elim
theorem ss_par3 {i j l : Nat} (h : PS X st (tPar3 i j l (tAr X.K X.mg W φ ad))) : PS X st (tSt X.K X.mg W φ (sPar [i, j, l] ad)) :=
  PS.le h fun D σ H ⟨ρ, m, S, re, rm, p⟩ => (stepS re rm p).mono fun vs H1 ⟨xs, m1, S1, re1, rm1, e1, r1, p1⟩ => by
    split at p1
    · rename_i ρ' ea
      cases r1 with
      | nil => cases ea
      | cons q1 r1 =>
        cases r1 with
        | nil => cases ea
        | cons q2 r1 =>
          cases r1 with
          | nil => cases ea
          | cons q3 r1 =>
            cases r1 with
            | nil => cases ea; exact ⟨_, _, _, rfl, p1 _ H1 S1 Ext.refl rm1 (((re1.set q1 i).set q2 j).set q3 l)⟩
            | cons _ _ => cases ea
    · exact p1.elim
/-- a cell is written -/
theorem RM.put {K : PySem.W.Frag} {mg : Str → Option Value} {H : Hp} {S : Sg} {m : Mem} {n : Nat} {xs : List PV} {y : V} (rm : RM K mg H S m) (h : m[n]? = some (.lst xs)) (r : RV K mg H S (.ref n) y) :
    ∃ a vs, y = .ref a ∧ H a = some (.lst vs) ∧ RPs K mg H S xs vs ∧ ∀ ys ws, RPs K mg H S ys ws → Ext H S (upd H a (.lst ws)) S ∧ RM K mg (upd H a (.lst ws)) S (m.set n (.lst ys)) := by
  obtain ⟨o, ho, q⟩ := r
  cases o with
  | none => rw [rm.dead n ho] at h; cases h
  | some a =>
    obtain ⟨hz, c, hc, hk⟩ := rm.at_ n a ho
    rw [h] at hc
    cases hc
    obtain ⟨vs, hv, rv⟩ := hk
    have hml : n < m.length := (List.getElem?_eq_some_iff.mp h).1
    refine ⟨a, vs, q a rfl, hv, rv, fun ys ws rw' => ?_⟩
    have ext : Ext H S (upd H a (.lst ws)) S := ⟨fun b o hb hn => ⟨by rw [upd_ne (fun z => hn (by rw [z]; exact List.mem_of_getElem? ho))]; exact hb, hn⟩, rfl, fun k o e => ⟨o, e, .inl rfl⟩⟩
    refine ⟨ext, by rw [List.length_set]; exact rm.len, fun k b e => ?_, rm.inj, fun k e => ?_, fun z hz' => ?_⟩
    · obtain ⟨h1, c, h2, h3⟩ := rm.at_ k b e
      refine ⟨h1, ?_⟩
      by_cases hk : n = k
      · subst hk
        rw [ho] at e
        cases e
        exact ⟨_, List.getElem?_set_self hml, ws, upd_same, ext.rps rw'⟩
      · refine ⟨c, by rw [List.getElem?_set_ne hk]; exact h2, ?_⟩
        have hb : b ≠ a := fun z => hk (rm.inj n k a ho (z ▸ e))
        exact h3.ext ext fun u q => by rw [upd_ne hb]; exact q
    · by_cases hk : n = k
      · subst hk
        rw [ho] at e; cases e
      · rw [List.getElem?_set_ne hk]; exact rm.dead k e
    · by_cases e : z = a
      · exact ⟨_, by rw [e]; exact upd_same⟩
      · rw [upd_ne e]; exact rm.zs z hz'
def rSetA : V → V → V → Hp → (Hp → Prop) → Prop := fun o i v H Q => rSetL o i v H Q ∨ ∃ a H4, o = .ref a ∧ DPut H a i v H4 ∧ Q H4
theorem set_any (hu : X.A.units + 64 < cLine) : PSet X rSetA := by
  intro pins s σ H o i v ov iv u Q I ro ri rv h
  rcases h with h | ⟨a, H4, rfl, g, q⟩
  · exact set_list pins s σ H o i v ov iv u Q I ro ri rv h
  · cases ro
    exact d_setItem (by omega) I g ri rv fun s' I' => ⟨H4, I', q⟩
theorem ss_put (hu : X.A.units + 64 < cLine) {o i : Expr} {dO dI : Den} {tpos : Pos} (ho : PE X o (tD X.K X.mg W φ dO)) (hi : PE X i (tD X.K X.mg W φ dI)) (he : PE X e (tD X.K X.mg W φ d))
    (ha : ∀ v, assign (.Subscript o i tpos) X.env v = (do
      let ov ← holding [v] (eval o X.env)
      let iv ← holding [v, ov] (eval i X.env)
      standAt tpos
      holding [v, ov, iv] (setItem ov iv v)
      release [v, ov, iv] []))
    (hs : swapsWithSole [.Subscript o i tpos] e pos.line X.env = pure false) (hw : swappedStores [.Subscript o i tpos] e X.env = pure none) (h1 : (assignEach [.Subscript o i tpos] X.env).map (·.2) = [assign (.Subscript o i tpos) X.env]) :
    PS X (.Assign [.Subscript o i tpos] e pos) (tSt X.K X.mg W φ (sPut dO dI d)) :=
  PS.le (ps_asg he (pg_sub ho hi (set_any hu) ha) hs hw h1) fun D σ H ⟨ρ, m, S, re, rm, p⟩ => (stepS re rm p).mono fun x H1 ⟨xv, m1, S1, re1, rm1, e1, r1, p1⟩ => (stepS re1 rm1 p1).mono fun y H2 ⟨yv, m2, S2, re2, rm2, e2, r2, p2⟩ =>
    (stepS re2 rm2 p2).mono fun z H3 ⟨zv, m3, S3, re3, rm3, e3, r3, p3⟩ => by
      cases xv with
      | ref _ => exact p3.elim
      | pv pp =>
        cases yv with
        | pv _ => exact p3.elim
        | ref n =>
          have rp : RP X.K X.mg H3 S3 pp x := (e2.trans e3).rp r1
          dsimp only at p3
          split at p3
          · rename_i c hc
            unfold putV putC at hc
            split at hc
            · rename_i xs k hm
              split at hc
              · rename_i j hj
                cases hc
                cases rv_int r3
                obtain ⟨a, vs, rfl, hv, rvs, put⟩ := rm3.put hm (e3.rv r2)
                obtain ⟨x1, x2⟩ := put (xs.set j pp) (vs.set j x) (rvs.set j rp)
                exact .inl ⟨a, vs, k, j, rfl, rfl, hv, by rw [← rvs.len]; exact hj, p3 σ _ S3 x1 x2 (x1.re re3)⟩
              · cases hc
            · obtain ⟨a, H4, rfl, g, x1, x2⟩ := dput_ok rm3 (e3.rv r2) r3 rp hc
              exact .inr ⟨a, H4, rfl, g, p3 σ _ S3 x1 x2 (x1.re re3)⟩
          · exact p3.elim
/-! ### loops -/
theorem ss_for {t it : Expr} {body : List Stmt} {di : IDen} (hp : PassesOwn (model X.prog X.w) X.A X.env X.xe) (hc : X.calm = true) (hi : PI X t it (tI X.K X.mg W φ di)) (hg : PG X t (gA X.K X.mg tg)) (hb : PSs X body (tSt X.K X.mg W φ u)) (hs : ∀ x, foldedSetIterable it X.env x = pure x) :
    PS X (.For t it body [] pos) (tSt X.K X.mg W φ (sFor tg di u)) :=
  PS.le (ps_for hp hc hi hg hb hs) fun D σ H ⟨ρ, m, S, re, rm, p⟩ => (stepS re rm p).mono fun J H1 ⟨⟨xs, g⟩, m1, S1, re1, rm1, e1, ri, p1⟩ => by
    refine ⟨fun i mm σ H => mm = xs.length - i ∧ i ≤ xs.length ∧ ∃ ρ m S, Ext H1 S1 H S ∧ RE X.K X.mg H S ρ σ ∧ RM X.K X.mg H S m ∧ PostS X.K X.mg W H S D (forL tg (u φ) g (xs.drop i) ρ m), ⟨xs.length, by simp, Nat.zero_le _, ρ, m1, S1, Ext.refl, re1, rm1, p1⟩, ?_⟩
    rintro i mm σ H ⟨rfl, hle, ρ, m, S, ex, re, rm, p⟩
    by_cases hlt : i < xs.length
    · have hx : xs[i]? = some xs[i] := List.getElem?_eq_getElem hlt
      rw [List.drop_eq_getElem_cons hlt] at p
      unfold forL at p
      split at p
      case isFalse => exact p.elim
      rename_i hg'
      obtain ⟨hgo, hy⟩ := (ri H S m ex.w rm hg' i).1 hlt
      refine .inr ⟨hgo, fun σ H => ∃ ρ m S, Ext H1 S1 H S ∧ RE X.K X.mg H S ρ σ ∧ RM X.K X.mg H S m ∧ PostS X.K X.mg W H S D (forL tg (u φ) g (xs.drop (i + 1)) ρ m), fun σ' H' hN => ⟨_, by omega, rfl, hlt, hN⟩, fun x H2 hyl => ?_⟩
      obtain ⟨px, hpx, ey, rmy, rpy⟩ := hy x H2 hyl
      obtain rfl : xs[i] = px := by
        have : xs[i]? = some px := hpx
        rw [hx] at this
        exact Option.some.inj this
      cases ea : asgn tg xs[i] ρ with
      | none => rw [ea] at p; exact p.elim
      | some ρ' =>
        rw [ea] at p
        refine ⟨ρ, S, xs[i], ρ', ey.re re, rpy, ea, fun σ' re' _ => ⟨ρ', m, S, re', rmy, ?_⟩⟩
        have p' := PostS.thn (p.ext ey)
        exact p'.mono Ext.refl (fun σ1 H3 ⟨ρ1, m3, S3, re3, rm3, e3, p3⟩ => ⟨ρ1, m3, S3, (ex.trans ey).trans e3, re3, rm3, p3⟩) fun _ _ z => z
    · have hn : i = xs.length := by omega
      subst hn
      rw [List.drop_length] at p
      unfold forL at p
      split at p
      case isFalse => exact p.elim
      rename_i hg'
      exact .inl ⟨(ri H S m ex.w rm hg' _).2 (Nat.le_refl _), p σ H S Ext.refl rm re⟩
theorem ss_while {c : Expr} {body : List Stmt} (hp : PassesOwn (model X.prog X.w) X.A X.env X.xe) (hc : PT X c (tT X.K X.mg W φ ta)) (hb : PSs X body (tSt X.K X.mg W φ u)) : PS X (.While c body [] pos) (tSt X.K X.mg W φ (sWhile ta u)) :=
  PS.le (ps_while hp hc hb) fun D σ H ⟨ρ, m, S, re, rm, p⟩ => by
    unfold sWhile whileR at p
    split at p
    case isFalse => exact p.elim
    rename_i hn
    generalize hn.choose = n at p
    refine ⟨fun n σ H => ∃ ρ m S, RE X.K X.mg H S ρ σ ∧ RM X.K X.mg H S m ∧ PostS X.K X.mg W H S D (whileL (ta φ) (u φ) n ρ m), ⟨n, ρ, m, S, re, rm, p⟩, ?_⟩
    rintro n σ H ⟨ρ, m, S, re, rm, p⟩
    cases n with
    | zero => exact p.elim
    | succ n =>
      unfold whileL at p
      refine (stepS re rm p).mono fun b H1 ⟨bv, m1, S1, re1, rm1, e1, r1, p1⟩ => ?_
      cases r1
      cases b with
      | false =>
        rw [if_neg Bool.false_ne_true] at p1 ⊢
        exact p1 σ H1 S1 Ext.refl rm1 re1
      | true =>
        rw [if_pos rfl] at p1 ⊢
        refine ⟨fun σ H => ∃ ρ m S, RE X.K X.mg H S ρ σ ∧ RM X.K X.mg H S m ∧ PostS X.K X.mg W H S D (whileL (ta φ) (u φ) n ρ m), fun σ' H' hN => ⟨n, Nat.lt_succ_self _, hN⟩, ρ, m1, S1, re1, rm1, ?_⟩
        exact (PostS.thn p1).mono Ext.refl (fun σ1 H3 ⟨ρ1, m3, S3, re3, rm3, e3, p3⟩ => ⟨ρ1, m3, S3, re3, rm3, p3⟩) fun _ _ z => z
end
end Pn

set_option Elab.async false
set_option linter.all false
set_option maxRecDepth 100000
set_option autoImplicit false
set_option maxHeartbeats 1000000
namespace Pn
open PySem PySem.Spec PyProof.Rows L2 HT
section
variable {prog : Program} {w : World} {A : Around} {E : Value → Shared → Prop} {s : Shared}
theorem places_rev (n : Nat) : Builtin.Slice.slicePlaces ((n : Int) - 1) (-1) (-1) = n := by
  unfold Builtin.Slice.slicePlaces
  rw [if_neg (by omega)]
  by_cases h : n = 0
  · subst h; rfl
  · rw [if_pos (by omega)]
    have e : ((n : Int) - 1 - -1 - 1) / (- -1) = (n : Int) - 1 := by
      rw [show (- -1 : Int) = 1 by rfl, Int.ediv_one]; omega
    rw [e]; omega
theorem pick_rev (xs : Array Value) : ((List.range xs.size).filterMap fun (m : Nat) => xs[(((xs.size : Nat) : Int) - 1 + (m : Int) * -1).toNat]?).toArray = xs.toList.reverse.toArray := by
  congr 1
  apply List.ext_getElem?
  intro i
  have key : ∀ k, k ≤ xs.size → (List.range k).filterMap (fun (m : Nat) => xs[(((xs.size : Nat) : Int) - 1 + (m : Int) * -1).toNat]?) = xs.toList.reverse.take k := by
    intro k
    induction k with
    | zero => intro _; rfl
    | succ k ih =>
      intro hk
      rw [List.range_succ, List.filterMap_append, ih (by omega)]
      have e : (((xs.size : Nat) : Int) - 1 + (k : Int) * -1).toNat = xs.size - 1 - k := by omega
      have hl : xs.size - 1 - k < xs.size := by omega
      have e2 : xs[(((xs.size : Nat) : Int) - 1 + (k : Int) * -1).toNat]? = some xs[xs.size - 1 - k] := by rw [e]; exact Array.getElem?_eq_getElem hl
      have e3 : List.filterMap (fun (m : Nat) => xs[(((xs.size : Nat) : Int) - 1 + (m : Int) * -1).toNat]?) [k] = [xs[xs.size - 1 - k]] := by
        rw [List.filterMap_cons, e2]; rfl
      rw [e3, List.take_succ_eq_append_getElem (by simp; omega)]
      congr 2
      rw [List.getElem_reverse]
      simp
  rw [key xs.size (Nat.le_refl _), List.take_of_length_le (by simp)]
theorem getItem_tuple_rev {t sl : Addr} {items : Array Value} {vl vu vs : Value} {Q : Value → Shared → Prop} (ht : IsTup s.heap t items) (hs : s.heap.IsSliceOf sl vl vu vs) (pl : IsPart vl none) (pu : IsPart vu none) (ps : IsPart vs (some (-1)))
    (h : Q (.ref s.heap.objs.size) { s with heap := s.heap.push { cls := .type "tuple", data := .seq items.toList.reverse.toArray } })
    (hsz : items.size ≤ sizeLine) : wpAny (model prog w) A (getItem (.ref t) (.ref sl)) Q E s := by
  have htake : sizeOk (.seq items.toList.reverse.toArray) := by
    show items.toList.reverse.toArray.size ≤ sizeLine
    rw [List.size_toArray, List.length_reverse, Array.length_toList]
    exact hsz
  obtain ⟨os, hos, hcs, hds⟩ := id hs
  have hTs : s.TypeIs (.ref sl) "slice" := ⟨os, hos, hcs⟩
  unfold getItem
  try with_reducible refine wpAny_holding ?_
  first | refine wpAny_bind (wpAny_pure ?_) | skip
  refine wpAny_bind (wpAny_sequenceKey ht.typeIs (by decide) ?_)
  refine wpAny_bind (wpAny_callSpecial?_slot (name := Str.ofString "__getitem__") ht.typeIs PyProof.Rows.slot_tuple_getitem
    (wpAny_call_entry PyProof.Rows.slot_tuple_getitem ht.typeIs entry_tuple_getitem ?_ (args_tuple_getitem _ _)))
  show wpAny _ _ (Builtin.Tuple.tupleItemsOf (.ref t) >>= _) _ _ s
  refine wpAny_bind (tupleItemsOf_ ht ?_)
  refine wpAny_bind (wpAny_typeOf hTs ?_)
  rw [if_pos (by decide)]
  have hap : ∀ {A : Around} {E : Value → Shared → Prop} {Q' : Int × Int × Nat → Shared → Prop}, Q' ((items.size : Int) - 1, -1, items.size) s → wpAny (model prog w) A (Builtin.Slice.sliceApplied (.ref sl) (pure (items.size : Int))) Q' E s := fun {A E Q'} q => by
    unfold Builtin.Slice.sliceApplied Builtin.Slice.sliceFields
    refine wpAny_bind (wpAny_bind (wpAny_field hos hds (x := vl) rfl (wpAny_bind (wpAny_field hos hds (x := vu) rfl (wpAny_bind (wpAny_field hos hds (x := vs) rfl (wpAny_pure ?_)))))))
    refine wpAny_bind (slicePart_ ps ?_)
    show wpAny _ _ (if ((-1 : Int) == 0) = true then _ else _) _ _ s
    rw [if_neg (by decide)]
    refine wpAny_bind (slicePart_ pl (wpAny_bind (slicePart_ pu (wpAny_bind (wpAny_pure ?_)))))
    show wpAny _ _ (pure ((items.size : Int) - 1, (-1 : Int), Builtin.Slice.slicePlaces ((items.size : Int) - 1) (-1) (-1))) _ _ s
    rw [places_rev]
    exact wpAny_pure q
  refine wpAny_bind (hap ?_)
  have hno : ¬ ((((items.size : Int) - 1) == 0 && (-1 : Int) == 1 && items.size == items.size) = true) := by
    intro q
    rw [Bool.and_eq_true, Bool.and_eq_true] at q
    exact absurd q.1.2 (by decide)
  show wpAny _ _ (if ((((items.size : Int) - 1) == 0 && (-1 : Int) == 1 && items.size == items.size) = true) then _ else _) _ _ s
  rw [if_neg hno, pick_rev]
  first
    | exact wpAny_bind (m := Builtin.Tuple.tupleExact _) (wpAny_newObj_type (wpAny_pure ⟨_, rfl, wpAny_pure h⟩) htake)
    | exact wpAny_bind (m := Builtin.Tuple.tupleExact _) (wpAny_newObj_type (wpAny_bind (wpAny_pure (wpAny_pure ⟨_, rfl, wpAny_pure h⟩))) htake)
    | exact wpAny_bind (wpAny_bind (m := Builtin.Tuple.tupleExact _) (wpAny_newObj_type (wpAny_pure (wpAny_pure ⟨_, rfl, wpAny_pure h⟩)) htake))
    | exact wpAny_bind (wpAny_bind (m := Builtin.Tuple.tupleExact _) (wpAny_newObj_type (wpAny_pure ⟨_, rfl, wpAny_pure h⟩) htake))
end
section
variable {X : Cx} {W : WX} {φ : Phi} {e : Expr} {d : Den} {te : TE}
def tRev (K : PySem.W.Frag) (te : TE) : TE := fun σ H Q => te σ H fun x H1 => ∃ a xs, x = .ref a ∧ ((SqL K H1 a xs ∧ ∀ p, H1 p = none → Q (.ref p) (upd H1 p (.lst xs.reverse))) ∨ (SqT K H1 a xs ∧ ∀ p, H1 p = none → Q (.ref p) (upd H1 p (.tup xs.reverse))))
theorem pe_rev {k : Nat} {p1 p2 p3 pos : Pos} (he : PE X e te) : PE X (.Subscript e (.Slice none none (some (.UnaryOp .USub (.Constant (.int 1) k p1) p2)) p3) pos) (tRev X.K te) := by
  refine ⟨fun pins s σ H Q I h => ?_⟩
  refine Subscript_ (thn (he.run pins s σ H _ I h) fun v s1 ⟨x, H1, I1, r1, q1⟩ => ?_)
  obtain ⟨a, xs, ex, q⟩ := q1
  subst ex
  cases r1
  have hst : PO X (some (.UnaryOp .USub (.Constant (.int 1) k p1) p2)) (tPart (tUn (rU fun i => .int (-i)) (tC (.int 1)))) := po_some (pe_un un_neg pe_int)
  refine wpAny_Slice (thn (po_none.run pins s1 σ H1 (fun o H2 => o = none ∧ H2 = H1) I1 ⟨rfl, rfl⟩) fun vl s2 ⟨l, H2, I2, pl, el, e2⟩ => ?_)
  subst el e2
  refine thn (po_none.run pins s2 σ H2 (fun o H3 => o = none ∧ H3 = H2) I2 ⟨rfl, rfl⟩) fun vu s3 ⟨u, H3, I3, pu, eu, e3⟩ => ?_
  subst eu e3
  refine thn (hst.run pins s3 σ H3 (fun o H4 => o = some (-1) ∧ H4 = H3) I3 ⟨1, rfl, -1, rfl, rfl, rfl⟩) fun vs s4 ⟨o, H4, I4, ps, eo, e4⟩ => ?_
  subst eo e4
  have I5 : Inv X pins σ H4 { s4 with heap := s4.heap.push { cls := .type "slice", data := .fields #[vl, vu, vs] } } := I4.kept (t' := s4.toks) fun b ob q => Heap.get?_push_of_some _ q
  show wpAny (model X.prog X.w) X.A (subscriptTail e (.Slice none none (some (.UnaryOp .USub (.Constant (.int 1) k p1) p2)) p3) (.ref a) (.ref s4.heap.objs.size)) (EP X pins σ Q) X.xe { s4 with heap := s4.heap.push { cls := .type "slice", data := .fields #[vl, vu, vs] } }
  rcases q with ⟨hx, q⟩ | ⟨hx, q⟩
  · obtain ⟨its, r, ht, hz⟩ := I5.list hx
    have hlen := r.length
    refine tail_any (ops := [.ref a, .ref s4.heap.objs.size]) ht.isList.typeIs (PySem.slot_list_getitem.lookup) ?_ (by with_unfolding_all rfl)
    refine wpAny_getItem_list_slice ht.isList (Heap.IsSliceOf.new _ vl vu vs) pl pu ps (by decide) ?_ (by rw [List.size_toArray]; omega)
    rw [PySem.W.krv_pick]
    refine ⟨.ref _, _, I5.laid (t' := s4.toks) (o := .lst xs.reverse) (fun b ob q => Heap.get?_push_of_some _ q) (Nat.le_refl _) ?_, rfl, q _ (I5.hok.fresh (Nat.le_refl _))⟩
    exact ⟨by rw [List.length_reverse]; exact hz, _, 0, r.reverse, Heap.get?_push_size _ rfl⟩
  · obtain ⟨its, r, ht, hz⟩ := I5.tuple hx
    have hlen := r.length
    refine tail_any (ops := [.ref a, .ref s4.heap.objs.size]) ht.typeIs (PyProof.Rows.slot_tuple_getitem.lookup) ?_ (by with_unfolding_all rfl)
    refine getItem_tuple_rev ht (Heap.IsSliceOf.new _ vl vu vs) pl pu ps ?_ (by rw [List.size_toArray]; omega)
    refine ⟨.ref _, _, I5.laid (t' := s4.toks) (o := .tup xs.reverse) (fun b ob q => Heap.get?_push_of_some _ q) (Nat.le_refl _) ?_, rfl, q _ (I5.hok.fresh (Nat.le_refl _))⟩
    exact ⟨by rw [List.length_reverse]; exact hz, _, r.reverse, IsTup.new _ _⟩
theorem se_rev {k : Nat} {p1 p2 p3 pos : Pos} (he : PE X e (tD X.K X.mg W φ d)) : PE X (.Subscript e (.Slice none none (some (.UnaryOp .USub (.Constant (.int 1) k p1) p2)) p3) pos) (tD X.K X.mg W φ (cRev d)) :=
  PE.le (pe_rev he) fun σ H Q ⟨ρ, m, S, re, rm, p⟩ => (step re rm p).mono fun x H1 ⟨xv, m1, S1, re1, rm1, e1, r1, p1⟩ => by
    have lst : ∀ xs, litems m1 xv = some xs → Post X.K X.mg (RV X.K X.mg) (fun c dd H' => W c dd σ H') H1 S1 Q (.ok (.pv (.lst xs.reverse)) m1) → ∃ a xs, x = .ref a ∧ ((SqL X.K H1 a xs ∧ ∀ p, H1 p = none → Q (.ref p) (upd H1 p (.lst xs.reverse))) ∨ (SqT X.K H1 a xs ∧ ∀ p, H1 p = none → Q (.ref p) (upd H1 p (.tup xs.reverse)))) := fun xs hl p1 => by
      obtain ⟨a, vs, rfl, h1, r⟩ := litems_sq rm1 r1 hl
      exact ⟨a, vs, rfl, .inl ⟨.inl h1, fun q hq => p1 _ _ S1 (Ext.new hq) (rm1.new hq) (RP.newLst rm1 hq r.rev)⟩⟩
    split at p1
    · obtain ⟨a, vs, rfl, h1, r⟩ := rv_tup r1
      exact ⟨a, vs, rfl, .inr ⟨h1.sq, fun q hq => p1 _ _ S1 (Ext.new hq) (rm1.new hq) (RP.newTup rm1 hq r.rev)⟩⟩
    · exact lst _ rfl p1
    · split at p1
      · rename_i xs hl
        exact lst xs hl p1
      · exact p1.elim
end
end Pn

set_option Elab.async false
set_option linter.all false
set_option maxRecDepth 100000
set_option autoImplicit false
set_option maxHeartbeats 1000000
namespace Pn
open PySem PySem.Spec PyProof.Rows L2 HT
/-- x.append(e) -/
def cApp (o : Den) (a : ADen) : Den := fun φ ρ m => (o φ ρ m).bind fun x m => match x with
  | .ref n => if (litems m x).isSome then (a φ ρ m).bind fun ys m => match ys with
      | [.pv p] => match m[n]? with
        | some (.lst xs) => if xs.length < 16777216 then .ok (.pv .non) (m.set n (.lst (xs ++ [p]))) else .bad
        | _ => .bad
      | _ => .bad
    else .bad
  | _ => .bad
section
variable {X : Cx} {W : WX} {φ : Phi} {o e : Expr} {d : Den} {ad : ADen}
theorem se_app {apos cpos : Pos} (ho : PE X o (tD X.K X.mg W φ d)) (ha : PA X [e] (tAr X.K X.mg W φ ad)) (hbase : attributeBase o "append" X.env (eval o X.env) = eval o X.env) (hline : (apos.endLine == cpos.line) = true) (hs : starEach [e] X.env = (false, eval e X.env) :: starEach [] X.env) :
    PE X (.Call (.Attribute o "append" apos) [e] [] cpos) (tD X.K X.mg W φ (cApp d ad)) :=
  PE.le (pe_bm PySem.F.plainAttrs_list PySem.F.slot_list_append PySem.F.type_list_append mt_append ho ha hbase (by rw [hs]; rfl) hline hs rfl) fun σ H Q ⟨ρ, m, S, re, rm, p⟩ => (step re rm p).mono fun x H1 ⟨xv, m1, S1, re1, rm1, e1, r1, p1⟩ => by
    cases xv with
    | pv _ => exact p1.elim
    | ref n =>
      dsimp only at p1
      split at p1
      · rename_i hl
        obtain ⟨xs, hxs⟩ := Option.isSome_iff_exists.mp hl
        obtain ⟨a, vs, rfl, h1, _⟩ := litems_sq rm1 r1 hxs
        refine ⟨.inl ⟨rfl, vs, .inl h1⟩, (step re1 rm1 p1).mono fun ws H2 ⟨yv, m2, S2, re2, rm2, e2, r2, p2⟩ => ?_⟩
        split at p2
        · rename_i p
          obtain ⟨w, rfl, rw1⟩ := rvs1 r2
          split at p2
          · rename_i ys hm
            split at p2
            · rename_i hz
              obtain ⟨a', us, ea, hv, rvs, put⟩ := rm2.put hm (e2.rv r1)
              cases ea
              obtain ⟨x1, x2⟩ := put (ys ++ [p]) (us ++ [w]) (rvs.app (.cons rw1 .nil))
              exact ⟨a, us, w, rfl, rfl, hv, by rw [line, ← rvs.len]; exact hz, p2 _ _ S2 x1 x2 .non⟩
            · exact p2.elim
          · exact p2.elim
        · exact p2.elim
      · exact p1.elim
end
end Pn

set_option Elab.async false
set_option linter.all false
set_option maxRecDepth 100000
set_option autoImplicit false
set_option maxHeartbeats 1000000
namespace Pn
open PySem PySem.Spec PyProof.Rows L2 HT
def isDct : Option Cell → Bool
  | some (.dk _) => true
  | some (.dt _) => true
  | _ => false
/-- d.get(e) -/
def cDGet1 (o e : Den) : Den := fun φ ρ m => (o φ ρ m).bind fun x m => match x with
  | .ref n => if isDct m[n]? then (e φ ρ m).bind fun y m => match dget m[n]? y with
      | some oo => .ok (.pv (oo.getD .non)) m
      | none => .bad
    else .bad
  | _ => .bad
/-- d.get(e, f) -/
def cDGet2 (o e f : Den) : Den := fun φ ρ m => (o φ ρ m).bind fun x m => match x with
  | .ref n => if isDct m[n]? then (e φ ρ m).bind fun y m => (f φ ρ m).bind fun z m => match dget m[n]? y with
      | some (some p) => .ok (.pv p) m
      | some none => .ok z m
      | none => .bad
    else .bad
  | _ => .bad
/-- xs.pop() -/
def cPop (o : Den) : Den := fun φ ρ m => (o φ ρ m).bind fun x m => match x with
  | .ref n => match m[n]? with
    | some (.lst xs) => match xs.getLast? with
      | some p => .ok (.pv p) (m.set n (.lst xs.dropLast))
      | none => .bad
    | _ => .bad
  | _ => .bad
section
variable {X : Cx} {W : WX} {φ : Phi} {o e f : Expr} {d d1 d2 : Den} {ad : ADen}
theorem isD_of {H : Hp} {S : Sg} {m : Mem} {n : Nat} {y : V} (rm : RM X.K X.mg H S m) (r : RV X.K X.mg H S (.ref n) y) (h : isDct m[n]? = true) : ∃ a, y = .ref a ∧ IsD H a := by
  obtain ⟨oa, ho, q⟩ := r
  cases oa with
  | none => rw [rm.dead n ho] at h; cases h
  | some a =>
    obtain ⟨hz, c, hc, hk⟩ := rm.at_ n a ho
    rw [hc] at h
    cases c with
    | lst _ => cases h
    | dead => cases h
    | dk kvs => obtain ⟨ws, h1, _⟩ := hk; exact ⟨a, q a rfl, .inl ⟨ws, .inl h1⟩⟩
    | dt kvs => obtain ⟨ws, h1, _⟩ := hk; exact ⟨a, q a rfl, .inr ⟨ws, .inl h1⟩⟩
theorem se_dget1 {apos cpos : Pos} (hu : X.A.units + 64 < cLine) (ho : PE X o (tD X.K X.mg W φ d)) (he : PE X e (tD X.K X.mg W φ d1)) (m1 : M1 X o "get" apos e cpos) :
    PE X (.Call (.Attribute o "get" apos) [e] [] cpos) (tD X.K X.mg W φ (cDGet1 d d1)) :=
  PE.le (pe_dget1 (by omega) ho he m1) fun σ H Q ⟨ρ, m, S, re, rm, p⟩ => (step re rm p).mono fun x H1 ⟨xv, m1, S1, re1, rm1, e1, r1, p1⟩ => by
    cases xv with
    | pv _ => exact p1.elim
    | ref n =>
      dsimp only at p1
      split at p1
      · rename_i hd
        obtain ⟨a, rfl, hD⟩ := isD_of rm1 r1 hd
        refine ⟨a, rfl, hD, (step re1 rm1 p1).mono fun y H2 ⟨yv, m2, S2, re2, rm2, e2, r2, p2⟩ => ?_⟩
        split at p2
        · rename_i oo hg
          obtain ⟨b, ov, eb, g, g1, g2⟩ := dget_ok rm2 (e2.rv r1) r2 hg
          cases eb
          refine ⟨ov, g, ?_⟩
          cases oo with
          | none => rw [g2 rfl]; exact p2.at rm2 .non
          | some pp =>
            obtain ⟨v, rfl, rv⟩ := g1 pp rfl
            exact p2.at rm2 (show RV X.K X.mg H2 S2 (.pv pp) v from rv)
        · exact p2.elim
      · exact p1.elim
theorem se_dget2 {apos cpos : Pos} (hu : X.A.units + 64 < cLine) (ho : PE X o (tD X.K X.mg W φ d)) (he : PE X e (tD X.K X.mg W φ d1)) (hf : PE X f (tD X.K X.mg W φ d2)) (m2 : M2 X o "get" apos e f cpos) :
    PE X (.Call (.Attribute o "get" apos) [e, f] [] cpos) (tD X.K X.mg W φ (cDGet2 d d1 d2)) :=
  PE.le (pe_dget2 (by omega) ho he hf m2) fun σ H Q ⟨ρ, m, S, re, rm, p⟩ => (step re rm p).mono fun x H1 ⟨xv, m1, S1, re1, rm1, e1, r1, p1⟩ => by
    cases xv with
    | pv _ => exact p1.elim
    | ref n =>
      dsimp only at p1
      split at p1
      · rename_i hd
        obtain ⟨a, rfl, hD⟩ := isD_of rm1 r1 hd
        refine ⟨a, rfl, hD, (step re1 rm1 p1).mono fun y H2 ⟨yv, m2, S2, re2, rm2, e2, r2, p2⟩ => (step re2 rm2 p2).mono fun z H3 ⟨zv, m3, S3, re3, rm3, e3, r3, p3⟩ => ?_⟩
        split at p3
        · rename_i pp hg
          obtain ⟨b, ov, eb, g, g1, g2⟩ := dget_ok rm3 ((e2.trans e3).rv r1) (e3.rv r2) hg
          cases eb
          obtain ⟨v, rfl, rv⟩ := g1 pp rfl
          exact ⟨_, g, p3.at rm3 (show RV X.K X.mg H3 S3 (.pv pp) v from rv)⟩
        · rename_i hg
          obtain ⟨b, ov, eb, g, g1, g2⟩ := dget_ok rm3 ((e2.trans e3).rv r1) (e3.rv r2) hg
          cases eb
          refine ⟨ov, g, ?_⟩
          rw [g2 rfl]
          exact p3.at rm3 r3
        · exact p3.elim
      · exact p1.elim
theorem se_pop {apos cpos : Pos} (ho : PE X o (tD X.K X.mg W φ d)) (hbase : attributeBase o "pop" X.env (eval o X.env) = eval o X.env) (hline : (apos.endLine == cpos.line) = true) :
    PE X (.Call (.Attribute o "pop" apos) [] [] cpos) (tD X.K X.mg W φ (cPop d)) :=
  PE.le (pe_bm0 PySem.F.plainAttrs_list PySem.F.slot_list_pop PySem.F.type_list_pop mt_pop ho hbase hline) fun σ H Q ⟨ρ, m, S, re, rm, p⟩ => (step re rm p).mono fun x H1 ⟨xv, m1, S1, re1, rm1, e1, r1, p1⟩ => by
    cases xv with
    | pv _ => exact p1.elim
    | ref n =>
      dsimp only at p1
      split at p1
      · rename_i xs hm
        split at p1
        · rename_i pp hl
          obtain ⟨a, us, rfl, hv, rvs, put⟩ := rm1.put hm r1
          have hlen := rvs.len
          have hx : xs[xs.length - 1]? = some pp := by rw [← List.getLast?_eq_getElem?]; exact hl
          obtain ⟨v, v1, v2⟩ := rvs.get hx
          have rd : RPs X.K X.mg H1 S1 xs.dropLast us.dropLast := by
            rw [List.dropLast_eq_take, List.dropLast_eq_take, ← hlen]
            exact rvs.take _
          obtain ⟨x1, x2⟩ := put xs.dropLast us.dropLast rd
          exact ⟨.inl ⟨rfl, us, .inl (.inl hv)⟩, a, us, v, rfl, rfl, hv, by rw [← hlen]; exact v1, p1 _ _ S1 x1 x2 (x1.rp v2)⟩
        · exact p1.elim
      · exact p1.elim
end
end Pn

set_option Elab.async false
set_option linter.all false
set_option maxRecDepth 100000
set_option autoImplicit false
set_option maxHeartbeats 1000000
namespace Pn
open PySem PySem.Spec PyProof.Rows L2 HT
/-- one item of the first clause -/
noncomputable def lcTwo (tg : Tgt) (t : TDen) (it1 : IDen) (own1 : List Nat) (tg1 : Tgt) (t1 : TDen) (elt : Den) (φ : Phi) (ρ : Env) (x : PV) (m : Mem) : Res (List PV) := match asgn tg x ρ with
  | none => .bad
  | some ρ => (t φ ρ m).nox.bind fun b m => if b then (it1 φ ρ m).nox.bind fun xg m => if xg.1.length ≤ 4096 then lcL (lcOne tg1 t1 elt φ (wipe ρ own1)) xg.2 xg.1 m else .bad
    else .ok [] m
noncomputable def cLc2 (nw : Bool) (own : List Nat) (it : IDen) (tg : Tgt) (t : TDen) (own1 : List Nat) (it1 : IDen) (tg1 : Tgt) (t1 : TDen) (elt : Den) : Den := fun φ ρ m =>
  (it φ ρ m).bind fun xg m => if xg.1.length ≤ 4095 then (lcL (lcTwo tg t it1 own1 tg1 t1 elt φ (wipe ρ own)) xg.2 xg.1 m).bind fun ys m => lcEnd nw ys m else .bad
section
variable {K : PySem.W.Frag} {mg : Str → Option Value} {W : WX} {φ : Phi}
theorem lcL_noexc {f : PV → Mem → Res (List PV)} {g : Gd} (hf : ∀ x m e m', f x m ≠ .exc e m') : ∀ (xs : List PV) (m : Mem) (e : Exc) (m' : Mem), lcL f g xs m ≠ .exc e m'
  | [], m, e, m' => by unfold lcL; split <;> simp
  | x :: xs, m, e, m' => by
    unfold lcL
    split
    · cases h : f x m with
      | ok c m1 =>
        simp only [Res.bind_ok]
        cases h2 : lcL f g xs m1 with
        | ok ys m2 => simp
        | exc e2 m2 => exact absurd h2 (lcL_noexc hf xs m1 e2 m2)
        | bad => simp
      | exc e2 m2 => exact absurd h (hf x m e2 m2)
      | bad => simp
    · simp
theorem Ext.keyD {H1 : Hp} {S1 : Sg} {D : Addr} {Ha Hb : Hp} {La Lb : List (Option Addr)} (u : Ext H1 S1 Ha ⟨La, S1.Z⟩) (v : Ext Ha ⟨La, D :: S1.Z⟩ Hb ⟨Lb, D :: S1.Z⟩) : Ext H1 S1 Hb ⟨Lb, S1.Z⟩ :=
  ⟨fun a o h n => let ⟨h1, h2⟩ := u.keep a o h n; v.keep a o h1 h2, rfl, fun n o h => by
    obtain ⟨o1, h1, c1⟩ := u.cells n o h
    obtain ⟨o2, h2, c2⟩ := v.cells n o1 h1
    refine ⟨o2, h2, ?_⟩
    rcases c2 with rfl | rfl
    · exact c1
    · exact .inr rfl⟩
theorem bind_assoc' {α β γ : Type} (r : Res α) (f : α → Mem → Res β) (g : β → Mem → Res γ) : (r.bind f).bind g = r.bind fun a m => (f a m).bind g := by cases r <;> rfl
theorem lcL_cons {f : PV → Mem → Res (List PV)} {g : Gd} {x : PV} {xs : List PV} {m : Mem} (h : gOk g m) : lcL f g (x :: xs) m = (f x m).bind fun c m => (lcL f g xs m).bind fun ys m => .ok (c ++ ys) m := by rw [lcL, if_pos h]
theorem lcL_consN {f : PV → Mem → Res (List PV)} {g : Gd} {x : PV} {xs : List PV} {m : Mem} (h : ¬ gOk g m) : lcL f g (x :: xs) m = .bad := by rw [lcL, if_neg h]
theorem lcL_nil {f : PV → Mem → Res (List PV)} {g : Gd} {m : Mem} (h : gOk g m) : lcL f g [] m = .ok [] m := by rw [lcL, if_pos h]
theorem lcL_nilN {f : PV → Mem → Res (List PV)} {g : Gd} {m : Mem} (h : ¬ gOk g m) : lcL f g [] m = .bad := by rw [lcL, if_neg h]
theorem lcOne_some {tg : Tgt} {t : TDen} {elt : Den} {ρ ρ2 : Env} {x : PV} {m : Mem} (h : asgn tg x ρ = some ρ2) : lcOne tg t elt φ ρ x m = (t φ ρ2 m).nox.bind fun b m => if b then (elt φ ρ2 m).nox.bind fun v m => match v with
      | .pv y => .ok [y] m
      | _ => .bad
    else .ok [] m := by unfold lcOne; (rw [h]) <;> rfl
theorem lcOne_none {tg : Tgt} {t : TDen} {elt : Den} {ρ : Env} {x : PV} {m : Mem} (h : asgn tg x ρ = none) : lcOne tg t elt φ ρ x m = .bad := by unfold lcOne; rw [h]
theorem rd_lc2 {nw : Bool} {own own1 : List Nat} {it it1 : IDen} {tg tg1 : Tgt} {t t1 : TDen} {elt : Den} {σ : L2.St} {H : Hp} {Q : VK} (hown : ∀ i ∈ slotsOf tg, i ∈ own) (hown1 : ∀ i ∈ slotsOf tg1, i ∈ own1) (h : tD K mg W φ (cLc2 nw own it tg t own1 it1 tg1 t1 elt) σ H Q) :
    tLc2 (tI K mg W φ it) (gA K mg tg) (tT K mg NoW φ t) (tI K mg NoW φ it1) (gA K mg tg1) (tT K mg NoW φ t1) (tD K mg NoW φ elt) own own1 σ H Q := by
  obtain ⟨ρ, m, S, re, rm, p⟩ := h
  refine (step re rm p).mono fun J H1 ⟨⟨xs, g⟩, m1, S1, re1, rm1, e1, ri, p1⟩ D hD => ?_
  dsimp only at p1
  split at p1
  case isFalse => exact p1.elim
  rename_i hsz
  have hDZ : D ∉ S1.Z := fun z => by obtain ⟨o, e⟩ := rm1.zs D z; rw [hD] at e; cases e
  have noD : ¬ S1.av D := rm1.fresh hD
  refine ⟨fun i mm H => mm = xs.length - i ∧ i ≤ xs.length ∧ ∃ m L acc as, Ext H1 S1 H ⟨L, S1.Z⟩ ∧ RM K mg H ⟨L, D :: S1.Z⟩ m ∧ H D = some (.lst as) ∧ RPs K mg H ⟨L, D :: S1.Z⟩ acc as ∧ acc.length ≤ i * 4096 ∧
    Post K mg (RV K mg) (fun c dd H' => W c dd σ H') H1 S1 Q ((lcL (lcTwo tg t it1 own1 tg1 t1 elt φ (Pn.wipe ρ own)) g (xs.drop i) m).bind fun ys m => lcEnd nw (acc ++ ys) m), ⟨xs.length, by simp, Nat.zero_le _, m1, S1.L, [], [], Ext.new hD, ?_, upd_same, .nil, Nat.zero_le _, p1⟩, ?_⟩
  · have e0 : Exw H1 S1 H1 ⟨S1.L, D :: S1.Z⟩ := Ext.toD (L := S1.L) Ext.refl hD
    refine ⟨rm1.len, fun n a h => ?_, rm1.inj, rm1.dead, fun z hz => ?_⟩
    · obtain ⟨h1, c, h2, h3⟩ := rm1.at_ n a h
      refine ⟨fun z => ?_, c, h2, ?_⟩
      · rcases List.mem_cons.mp z with z | z
        · exact noD (.inl (z ▸ List.mem_of_getElem? h))
        · exact h1 z
      · have h4 := (h3.ext' e0)
        cases c with
        | lst xs =>
          obtain ⟨vs, q1, q2⟩ := h4
          exact ⟨vs, by rw [upd_ne (ne_of_none q1 hD)]; exact q1, Exw.updD.rps q2⟩
        | dk xs =>
          obtain ⟨vs, q1, q2⟩ := h4
          exact ⟨vs, by rw [upd_ne (ne_of_none q1 hD)]; exact q1, q2.k Exw.updD.k⟩
        | dt xs =>
          obtain ⟨vs, q1, q2⟩ := h4
          exact ⟨vs, by rw [upd_ne (ne_of_none q1 hD)]; exact q1, q2.k Exw.updD.k⟩
        | dead => exact h4
    · rcases List.mem_cons.mp hz with z | z
      · exact ⟨_, by rw [z]; exact upd_same⟩
      · obtain ⟨o, e⟩ := rm1.zs _ z
        exact ⟨o, by rw [upd_ne (ne_of_none e hD)]; exact e⟩
  · rintro i mm H ⟨rfl, hi, m, L, acc, as, ex, rm, hHD, ra, hacc, p⟩
    have exw := Ext.toD ex hD
    have lacc := ra.len
    by_cases hlt : i < xs.length
    · have hx : xs[i]? = some xs[i] := List.getElem?_eq_getElem hlt
      rw [List.drop_eq_getElem_cons hlt] at p
      unfold lcL at p
      split at p
      case isFalse => exact p.elim
      rename_i hg
      obtain ⟨hgo, hy⟩ := (ri H ⟨L, D :: S1.Z⟩ m exw rm hg i).1 hlt
      refine .inr ⟨hgo, fun H => ∃ m L acc as, Ext H1 S1 H ⟨L, S1.Z⟩ ∧ RM K mg H ⟨L, D :: S1.Z⟩ m ∧ H D = some (.lst as) ∧ RPs K mg H ⟨L, D :: S1.Z⟩ acc as ∧ acc.length ≤ (i + 1) * 4096 ∧
        Post K mg (RV K mg) (fun c dd H' => W c dd σ H') H1 S1 Q ((lcL (lcTwo tg t it1 own1 tg1 t1 elt φ (Pn.wipe ρ own)) g (xs.drop (i + 1)) m).bind fun ys m => lcEnd nw (acc ++ ys) m), fun H' hN => ⟨_, by omega, rfl, hlt, hN⟩, fun x H2 hyl => ?_⟩
      obtain ⟨px, hpx, ey, rmy, rpy⟩ := hy x H2 hyl
      obtain rfl : xs[i] = px := by
        have : xs[i]? = some px := hpx
        rw [hx] at this
        exact Option.some.inj this
      unfold lcTwo at p
      cases ea : asgn tg xs[i] (Pn.wipe ρ own) with
      | none => rw [ea] at p; exact p.elim
      | some ρ' =>
        rw [ea] at p
        dsimp only at p
        refine ⟨Pn.wipe ρ own, ⟨L, D :: S1.Z⟩, xs[i], ρ', ((exw.trans ey.w).re re1).wipe own, rpy, ea, fun σ' re' hw => ⟨?_, ?_⟩⟩
        · rw [hw own hown, wipe_wipe]
        refine ⟨ρ', m, ⟨L, D :: S1.Z⟩, re', rmy, ?_⟩
        cases et : t φ ρ' m with
        | exc _ _ => rw [et] at p; exact p.elim
        | bad => rw [et] at p; exact p.elim
        | ok b m2 =>
          rw [et] at p
          intro b' H3 S3 e3 rm3 rb
          cases rb
          obtain ⟨L3, Z3⟩ := S3
          obtain rfl : Z3 = D :: S1.Z := e3.z
          have ex3 := Ext.keyD ex (ey.trans e3)
          have keepD : ∀ {Hb : Hp} {Lb : List (Option Addr)}, Ext H ⟨L, D :: S1.Z⟩ Hb ⟨Lb, D :: S1.Z⟩ → Hb D = some (.lst as) := fun v => (v.keep D _ hHD rm.noD).1
          cases b with
          | false =>
            rw [if_neg Bool.false_ne_true]
            refine ⟨m2, L3, acc, as, ex3, rm3, keepD (ey.trans e3), (ey.trans e3).rps ra, by omega, ?_⟩
            simp only [Res.nox_ok, Res.bind_ok, Bool.false_eq_true, if_false, List.nil_append] at p
            have e0 : ∀ r : Res (List PV), (r.bind fun ys m => Res.ok ys m) = r := fun r => by cases r <;> rfl
            rw [e0] at p
            exact p
          | true =>
            rw [if_pos rfl]
            simp only [Res.nox_ok, Res.bind_ok, if_true] at p
            refine ⟨ρ', m2, ⟨L3, D :: S1.Z⟩, e3.re re', rm3, ?_⟩
            cases ei : it1 φ ρ' m2 with
            | exc _ _ => rw [ei] at p; exact p.elim
            | bad => rw [ei] at p; exact p.elim
            | ok xg m3 =>
              obtain ⟨xs1, g1⟩ := xg
              rw [ei] at p
              simp only [Res.nox_ok, Res.bind_ok] at p
              intro J1 H4 S4 e4 rm4 ri1
              obtain ⟨L4, Z4⟩ := S4
              obtain rfl : Z4 = D :: S1.Z := e4.z
              split at p
              case isFalse => exact p.elim
              rename_i hsz1
              have et4 := (ey.trans e3).trans e4
              rw [bind_assoc'] at p
              simp only [bind_assoc', Res.bind_ok] at p
              -- the inner loop
              refine ⟨fun j k H => k = xs1.length - j ∧ j ≤ xs1.length ∧ ∃ m L acc as, Ext H1 S1 H ⟨L, S1.Z⟩ ∧ Exw H4 ⟨L4, D :: S1.Z⟩ H ⟨L, D :: S1.Z⟩ ∧ RM K mg H ⟨L, D :: S1.Z⟩ m ∧ H D = some (.lst as) ∧ RPs K mg H ⟨L, D :: S1.Z⟩ acc as ∧ acc.length ≤ i * 4096 + j ∧
                Post K mg (RV K mg) (fun c dd H' => W c dd σ H') H1 S1 Q ((lcL (lcOne tg1 t1 elt φ (Pn.wipe ρ' own1)) g1 (xs1.drop j) m).bind fun ys m => (lcL (lcTwo tg t it1 own1 tg1 t1 elt φ (Pn.wipe ρ own)) g (xs.drop (i + 1)) m).bind fun zs m => lcEnd nw (acc ++ (ys ++ zs)) m),
                ⟨xs1.length, by simp, Nat.zero_le _, m3, L4, acc, as, Ext.keyD ex et4, Exw.refl, rm4, keepD et4, et4.rps ra, by omega, p⟩, ?_⟩
              clear p rm4 ra hacc hHD
              rintro j kk H5 ⟨rfl, hj, m5, L5, acc5, as5, ex5, ew5, rm5, hD5, ra5, hacc5, p⟩
              have lacc5 := ra5.len
              by_cases hlt1 : j < xs1.length
              · have hx1 : xs1[j]? = some xs1[j] := List.getElem?_eq_getElem hlt1
                rw [List.drop_eq_getElem_cons hlt1] at p
                by_cases hg1 : gOk g1 m5
                case neg => rw [lcL_consN hg1] at p; exact p.elim
                rw [lcL_cons hg1] at p
                obtain ⟨hgo1, hy1⟩ := (ri1 H5 ⟨L5, D :: S1.Z⟩ m5 ew5 rm5 hg1 j).1 hlt1
                refine .inr ⟨hgo1, fun H => ∃ m L acc as, Ext H1 S1 H ⟨L, S1.Z⟩ ∧ Exw H4 ⟨L4, D :: S1.Z⟩ H ⟨L, D :: S1.Z⟩ ∧ RM K mg H ⟨L, D :: S1.Z⟩ m ∧ H D = some (.lst as) ∧ RPs K mg H ⟨L, D :: S1.Z⟩ acc as ∧ acc.length ≤ i * 4096 + (j + 1) ∧
                  Post K mg (RV K mg) (fun c dd H' => W c dd σ H') H1 S1 Q ((lcL (lcOne tg1 t1 elt φ (Pn.wipe ρ' own1)) g1 (xs1.drop (j + 1)) m).bind fun ys m => (lcL (lcTwo tg t it1 own1 tg1 t1 elt φ (Pn.wipe ρ own)) g (xs.drop (i + 1)) m).bind fun zs m => lcEnd nw (acc ++ (ys ++ zs)) m), fun H' hN => ⟨_, by omega, rfl, hlt1, hN⟩, fun x1 H6 hyl1 => ?_⟩
                obtain ⟨px1, hpx1, ey1, rmy1, rpy1⟩ := hy1 x1 H6 hyl1
                obtain rfl : xs1[j] = px1 := by
                  have : xs1[j]? = some px1 := hpx1
                  rw [hx1] at this
                  exact Option.some.inj this
                cases ea1 : asgn tg1 xs1[j] (Pn.wipe ρ' own1) with
                | none => rw [lcOne_none ea1] at p; exact p.elim
                | some ρ2 =>
                  rw [lcOne_some ea1] at p
                  have reI : RE K mg H6 ⟨L5, D :: S1.Z⟩ ρ' σ' := ey1.re (ew5.re (e4.re (e3.re re')))
                  refine ⟨Pn.wipe ρ' own1, ⟨L5, D :: S1.Z⟩, xs1[j], ρ2, reI.wipe own1, rpy1, ea1, fun σ2 re2 hw2 => ⟨?_, ?_⟩⟩
                  · rw [hw2 own1 hown1, wipe_wipe]
                  refine ⟨ρ2, m5, ⟨L5, D :: S1.Z⟩, re2, rmy1, ?_⟩
                  cases et1 : t1 φ ρ2 m5 with
                  | exc _ _ => rw [et1] at p; exact p.elim
                  | bad => rw [et1] at p; exact p.elim
                  | ok b m6 =>
                    rw [et1] at p
                    intro b' H7 S7 e7 rm7 rb
                    cases rb
                    obtain ⟨L7, Z7⟩ := S7
                    obtain rfl : Z7 = D :: S1.Z := e7.z
                    have ex7 := Ext.keyD ex5 (ey1.trans e7)
                    have keepD5 : ∀ {Hb : Hp} {Lb : List (Option Addr)}, Ext H5 ⟨L5, D :: S1.Z⟩ Hb ⟨Lb, D :: S1.Z⟩ → Hb D = some (.lst as5) := fun v => (v.keep D _ hD5 rm5.noD).1
                    cases b with
                    | false =>
                      rw [if_neg Bool.false_ne_true]
                      refine ⟨m6, L7, acc5, as5, ex7, ew5.trans (ey1.trans e7).w, rm7, keepD5 (ey1.trans e7), (ey1.trans e7).rps ra5, by omega, ?_⟩
                      simp only [Res.nox_ok, Res.bind_ok, Bool.false_eq_true, if_false, List.nil_append] at p
                      have e0 : ∀ r : Res (List PV), (r.bind fun ys m => Res.ok ys m) = r := fun r => by cases r <;> rfl
                      rw [e0] at p
                      exact p
                    | true =>
                      rw [if_pos rfl]
                      refine ⟨ρ2, m6, ⟨L7, D :: S1.Z⟩, e7.re re2, rm7, ?_⟩
                      simp only [Res.nox_ok, Res.bind_ok, if_true] at p
                      cases ee : elt φ ρ2 m6 with
                      | exc _ _ => rw [ee] at p; exact p.elim
                      | bad => rw [ee] at p; exact p.elim
                      | ok v m7 =>
                        rw [ee] at p
                        simp only [Res.nox_ok, Res.bind_ok] at p
                        cases v with
                        | ref n => exact p.elim
                        | pv y =>
                          intro y' H8 S8 e8 rm8 ry
                          obtain ⟨L8, Z8⟩ := S8
                          obtain rfl : Z8 = D :: S1.Z := e8.z
                          have et8 := (ey1.trans e7).trans e8
                          refine ⟨as5, keepD5 et8, by rw [line]; omega, m7, L8, acc5 ++ [y], as5 ++ [y'], Ext.upd (Ext.keyD ex5 et8) hD, (ew5.trans et8.w).trans Exw.updD, rm8.updD, upd_same, Exw.updD.rps ((et8.rps ra5).app (.cons ry .nil)), by simp; omega, ?_⟩
                          simp only [Res.bind_ok, bind_assoc'] at p
                          simpa using p
              · have hn : j = xs1.length := by omega
                subst hn
                rw [List.drop_length] at p
                by_cases hg1 : gOk g1 m5
                case neg => rw [lcL_nilN hg1] at p; exact p.elim
                rw [lcL_nil hg1] at p
                refine .inl ⟨(ri1 H5 ⟨L5, D :: S1.Z⟩ m5 ew5 rm5 hg1 _).2 (Nat.le_refl _), m5, L5, acc5, as5, ex5, rm5, hD5, ra5, by omega, ?_⟩
                simpa using p
    · have hn : i = xs.length := by omega
      subst hn
      rw [List.drop_length] at p
      unfold lcL at p
      split at p
      case isFalse => exact p.elim
      rename_i hg
      refine .inl ⟨(ri H ⟨L, D :: S1.Z⟩ m exw rm hg _).2 (Nat.le_refl _), ?_⟩
      rw [Res.bind_ok, List.append_nil] at p
      unfold lcEnd at p
      cases nw with
      | false =>
        rw [if_neg Bool.false_ne_true] at p
        obtain ⟨x1, x2⟩ := rm.dropD
        exact p _ H _ ex x2 (.lst ⟨.inl hHD, fun z => z.elim rm.noD hDZ⟩ (x1.rps ra))
      | true =>
        rw [if_pos rfl] at p
        obtain ⟨x1, x2⟩ := rm.pushD hHD ra hDZ
        refine p _ H ⟨L ++ [some D], S1.Z⟩ ⟨fun a o h n => ?_, rfl, fun n o h => ?_⟩ x1 x2
        · obtain ⟨h1, h2⟩ := ex.keep a o h n
          refine ⟨h1, fun z => ?_⟩
          rcases List.mem_append.mp z with z | z
          · exact h2 z
          · simp at z; subst z; rw [hD] at h; cases h
        · obtain ⟨o', h1, h2⟩ := ex.cells n o h
          exact ⟨o', by show (L ++ [some D])[n]? = some o'; rw [List.getElem?_append_left (List.getElem?_eq_some_iff.mp h1).1]; exact h1, h2⟩
end
end Pn

set_option Elab.async false
set_option linter.all false
set_option maxRecDepth 100000
set_option autoImplicit false
set_option maxHeartbeats 1000000
namespace Pn
open PySem PySem.Spec PyProof.Rows L2 HT
/-! sorted(a list of whole numbers | of texts) -/
def insB {α : Type} (le : α → α → Bool) (x : α) : List α → List α
  | [] => [x]
  | y :: r => if le x y = true then x :: y :: r else y :: insB le x r
def srtB {α : Type} (le : α → α → Bool) : List α → List α
  | [] => []
  | x :: r => insB le x (srtB le r)
theorem insB_perm {α : Type} {le : α → α → Bool} {x : α} : ∀ {l : List α}, (insB le x l).Perm (x :: l)
  | [] => .refl _
  | y :: r => by
    unfold insB
    split
    · exact .refl _
    · exact (insB_perm.cons y).trans (.swap x y r)
theorem srtB_perm {α : Type} {le : α → α → Bool} : ∀ {l : List α}, (srtB le l).Perm l
  | [] => .refl _
  | x :: r => by unfold srtB; exact insB_perm.trans (srtB_perm.cons x)
theorem insB_srt {α : Type} {le : α → α → Bool} (ht : ∀ a b c, le a b = true → le b c = true → le a c = true) (hl : ∀ a b, le a b = false → le b a = true) {x : α} : ∀ {l : List α}, l.Pairwise (fun a b => le a b = true) → (insB le x l).Pairwise (fun a b => le a b = true)
  | [], _ => by simp [insB]
  | y :: r, h => by
    obtain ⟨h1, h2⟩ := List.pairwise_cons.mp h
    unfold insB
    split
    · rename_i c
      refine List.pairwise_cons.mpr ⟨fun z hz => ?_, h⟩
      rcases List.mem_cons.mp hz with rfl | hz
      · exact c
      · exact ht _ _ _ c (h1 z hz)
    · rename_i c
      refine List.pairwise_cons.mpr ⟨fun z hz => ?_, insB_srt ht hl h2⟩
      rcases List.mem_cons.mp (insB_perm.mem_iff.mp hz) with rfl | hz
      · exact hl _ _ (by simpa using c)
      · exact h1 z hz
theorem srtB_srt {α : Type} {le : α → α → Bool} (ht : ∀ a b c, le a b = true → le b c = true → le a c = true) (hl : ∀ a b, le a b = false → le b a = true) : ∀ {l : List α}, (srtB le l).Pairwise (fun a b => le a b = true)
  | [] => .nil
  | x :: r => insB_srt ht hl (srtB_srt ht hl)
def leI (a b : Int) : Bool := decide (a ≤ b)
def leS (a b : Str) : Bool := !decide (b.cps.toList < a.cps.toList)
theorem leI_t (a b c : Int) (h : leI a b = true) (h' : leI b c = true) : leI a c = true := by
  unfold leI at *; simp at *; omega
theorem leI_l (a b : Int) (h : leI a b = false) : leI b a = true := by
  unfold leI at *; simp at *; omega
theorem leS_t (a b c : Str) (h : leS a b = true) (h' : leS b c = true) : leS a c = true := by
  unfold leS at *
  simp only [Bool.not_eq_true', decide_eq_false_iff_not, List.not_lt] at *
  exact List.le_trans h h'
theorem leS_l (a b : Str) (h : leS a b = false) : leS b a = true := by
  unfold leS at *
  simp only [Bool.not_eq_true', Bool.not_eq_false', decide_eq_true_eq, decide_eq_false_iff_not, List.not_lt] at *
  exact List.le_of_lt h
theorem leS_a (a b : Str) (h : leS a b = true) (h' : leS b a = true) : a = b := by
  unfold leS at *
  simp only [Bool.not_eq_true', decide_eq_false_iff_not, List.not_lt] at *
  have := List.le_antisymm h h'
  obtain ⟨⟨x⟩⟩ := a
  obtain ⟨⟨y⟩⟩ := b
  have e : x = y := this
  rw [e]
theorem srtI_eq {l ns : List Int} (hp : l.Perm ns) (hs : l.Pairwise (· ≤ ·)) : l = srtB leI ns := by
  refine List.Perm.eq_of_pairwise (le := fun a b => leI a b = true) (fun a b _ _ h h' => ?_) (hs.imp fun h => by unfold leI; simpa using h) (srtB_srt leI_t leI_l) (hp.trans srtB_perm.symm)
  unfold leI at *; simp at *; omega
theorem sortedS_pw : ∀ {l : List Str} {p : Str}, risingS p l = true → (p :: l).Pairwise fun a b => leS a b = true
  | [], p, _ => by simp
  | x :: r, p, h => by
    unfold risingS at h
    obtain ⟨h1, h2⟩ := Bool.and_eq_true_iff.mp h
    have ih := sortedS_pw h2
    have h1 : leS p x = true := by rw [ltCps_eq] at h1; exact h1
    refine List.pairwise_cons.mpr ⟨fun z hz => ?_, ih⟩
    rcases List.mem_cons.mp hz with rfl | hz
    · exact h1
    · exact leS_t _ _ _ h1 ((List.pairwise_cons.mp ih).1 z hz)
theorem srtS_eq {l ns : List Str} (hp : l.Perm ns) (hs : sortedS l = true) : l = srtB leS ns := by
  refine List.Perm.eq_of_pairwise (le := fun a b => leS a b = true) (fun a b _ _ h h' => leS_a a b h h') ?_ (srtB_srt leS_t leS_l) (hp.trans srtB_perm.symm)
  cases l with
  | nil => exact .nil
  | cons x r => exact sortedS_pw hs
def strsOf : List PV → Option (List Str)
  | [] => some []
  | .str i :: r => (strsOf r).map (i :: ·)
  | _ :: _ => none
def bSrt : BFn
  | m, [v] => (litems m v).bind fun xs => match intsOf xs with
    | some ns => if ns.length < 64 then some (.pv (.lst ((srtB leI ns).map PV.int))) else none
    | none => match strsOf xs with
      | some ss => if ss.length < 64 then some (.pv (.lst ((srtB leS ss).map PV.str))) else none
      | none => none
  | _, _ => none
section
variable {X : Cx}
theorem strsOf_rv {H : Hp} {S : Sg} : ∀ {xs : List PV} {ns : List Str} {vs : List V}, RPs X.K X.mg H S xs vs → strsOf xs = some ns → vs = ns.map V.str
  | [], ns, vs, r, h => by cases h; cases r; rfl
  | x :: xs, ns, vs, r, h => by
    cases x <;> first | (unfold strsOf at h; cases h; done) | skip
    rename_i i
    have e : (strsOf xs).map (i :: ·) = some ns := h
    obtain ⟨k, h1, rfl⟩ := Option.map_eq_some_iff.mp e
    cases r with
    | cons a t =>
      cases a
      rw [strsOf_rv t h1]
      rfl
theorem rp_ints {H : Hp} {S : Sg} : ∀ ns : List Int, RPs X.K X.mg H S (ns.map PV.int) (ns.map V.int)
  | [] => .nil
  | n :: ns => .cons (.int n) (rp_ints ns)
theorem rp_strs {H : Hp} {S : Sg} : ∀ ns : List Str, RPs X.K X.mg H S (ns.map PV.str) (ns.map V.str)
  | [] => .nil
  | n :: ns => .cons (.str n) (rp_strs ns)
theorem b_srt : CallR X (.builtin "sorted") (rC X.K X.mg bSrt) := by
  intro pins s σ H vs us Q I r h
  obtain ⟨m, S, xs, rm, rv, v, e, q⟩ := h
  unfold bSrt at e
  split at e
  · obtain ⟨v, rfl, r1⟩ := rvs1 rv
    obtain ⟨ys, hy, e⟩ := Option.bind_eq_some_iff.mp e
    obtain ⟨a, vs, rfl, hs, rs⟩ := litems_sq rm r1 hy
    split at e
    · rename_i ns hn
      split at e
      · rename_i hz
        cases e
        cases intsOf_rv rs hn
        exact cr_sorted pins s σ H _ us Q I r ⟨a, ns, rfl, .inl hs, hz, fun l p hp hs hn => by
          rw [srtI_eq hp hs]
          exact q _ _ S (Ext.new hn) (rm.new hn) (RP.newLst rm hn (rp_ints _))⟩
      · cases e
    · split at e
      · rename_i ns hn
        split at e
        · rename_i hz
          cases e
          cases strsOf_rv rs hn
          exact cr_sortedS pins s σ H _ us Q I r ⟨a, ns, rfl, .inl hs, hz, fun l p hp hs hn => by
            rw [srtS_eq hp hs]
            exact q _ _ S (Ext.new hn) (rm.new hn) (RP.newLst rm hn (rp_strs _))⟩
        · cases e
      · cases e
  · cases e
end
end Pn

set_option Elab.async false
set_option linter.all false
set_option maxRecDepth 100000
set_option autoImplicit false
set_option maxHeartbeats 1000000
namespace Pn
open PySem PySem.Spec PyProof.Rows L2 HT
/-- s.join(e) -/
def cJoin (s : Str) (a : Den) : Den := fun φ ρ m => (a φ ρ m).bind fun y m => match (items m y).bind strsOf with
  | some ss => if (ss.map (·.length)).sum + ss.length * s.length ≤ 16777216 then .ok (.pv (.str (Txt.join s ss))) m else .bad
  | none => .bad
section
variable {X : Cx} {W : WX} {φ : Phi} {e : Expr} {d : Den} {s : Str} {kk : Option Str} {p : Pos}
theorem se_join {o : Expr} {apos cpos : Pos} (ho : PE X o (tC (.str s))) (he : PE X e (tD X.K X.mg W φ d)) (hbase : attributeBase o "join" X.env (eval o X.env) = eval o X.env) (hline : (apos.endLine == cpos.line) = true) (hs : starEach [e] X.env = [(false, eval e X.env)]) :
    PE X (.Call (.Attribute o "join" apos) [e] [] cpos) (tD X.K X.mg W φ (cJoin s d)) :=
  PE.le (pe_join ho he hs hbase hline) fun σ H Q ⟨ρ, m, S, re, rm, p⟩ => ⟨⟨_, rfl⟩, (step re rm p).mono fun y H1 ⟨yv, m1, S1, re1, rm1, e1, r1, p1⟩ => by
    split at p1
    · rename_i ss hss
      obtain ⟨xs, hx, hy⟩ := Option.bind_eq_some_iff.mp hss
      obtain ⟨a, vs, rfl, h1, rs⟩ := items_sq rm1 r1 hx
      cases strsOf_rv rs hy
      split at p1
      · rename_i hz
        exact ⟨s, a, ss, rfl, rfl, h1, hz, p1.at rm1 (.str _)⟩
      · exact p1.elim
    · exact p1.elim⟩
end
end Pn

set_option Elab.async false
set_option linter.all false
set_option maxRecDepth 100000
set_option autoImplicit false
set_option maxHeartbeats 1000000
namespace Pn
open PySem PySem.Spec PyProof.Rows L2 HT
/-- repr(x) of a bool, of None -/
def bRep : BFn
  | _, [.pv (.bl b)] => some (.pv (.str (if b then "True" else "False")))
  | _, [.pv .non] => some (.pv (.str "None"))
  | _, _ => none
/-- xs.index(i), xs whole numbers, i one of them -/
def ixB (m : Mem) (x : Val) : List Val → Option Val
  | [.pv (.int k)] => ((litems m x).bind intsOf).bind fun ns => if k ∈ ns then some (.pv (.int (ns.idxOf k : Nat))) else none
  | _ => none
def cIxO (o : Den) (a : ADen) : Den := fun φ ρ m => (o φ ρ m).bind fun x m => if (litems m x).isSome then (a φ ρ m).bind fun ys m => .of (ixB m x ys) m else .bad
section
variable {X : Cx} {W : WX} {φ : Phi} {o e : Expr} {d : Den} {ad : ADen}
theorem b_rep : CallR X (.builtin "repr") (rC X.K X.mg bRep) := by
  intro pins s σ H vs us Q I r h
  obtain ⟨m, S, xs, rm, rv, v, e, q⟩ := h
  unfold bRep at e
  split at e
  · obtain ⟨v, rfl, r1⟩ := rvs1 rv
    cases e
    cases r1
    obtain ⟨u, rfl, ru⟩ := vals1 r
    cases ru
    exact PySem.P.repr_of_bool ⟨.str _, H, I.tok _, ⟨_, rfl⟩, q _ H S Ext.refl rm (.str _)⟩
  · obtain ⟨v, rfl, r1⟩ := rvs1 rv
    cases e
    cases r1
    obtain ⟨u, rfl, ru⟩ := vals1 r
    cases ru
    exact PySem.P.repr_of_none ⟨.str _, H, I.tok _, ⟨_, rfl⟩, q _ H S Ext.refl rm (.str _)⟩
  · cases e
theorem idx_le : ∀ (ns : List Int) (k : Int) (j : Nat) (h : j < ns.length), ns[j] = k → ns.idxOf k ≤ j
  | [], k, j, h, _ => by simp at h
  | n :: ns, k, 0, h, e => by
    have : n = k := e
    subst this
    rw [List.idxOf_cons_self]
    exact Nat.le_refl _
  | n :: ns, k, j + 1, h, e => by
    have ih := idx_le ns k j (by simpa using h) (by simpa using e)
    rw [List.idxOf_cons]
    cases hb : n == k
    · simp only [cond_false]; omega
    · simp only [cond_true]; omega
theorem ints_at {ns : List Int} {k : Int} (h : k ∈ ns) : (ns.map V.int)[ns.idxOf k]? = some (V.int k) ∧ ∀ (j : Nat) (z : V), j < ns.idxOf k → (ns.map V.int)[j]? = some z → L2.eqV z (V.int k) = false := by
  have hl : ns.idxOf k < ns.length := List.idxOf_lt_length_of_mem h
  constructor
  · rw [List.getElem?_map, List.getElem?_eq_getElem hl, List.getElem_idxOf hl]; rfl
  · intro j z hj hz
    have hj' : j < ns.length := by omega
    rw [List.getElem?_map, List.getElem?_eq_getElem hj'] at hz
    cases hz
    show (ns[j] == k) = false
    have : ns[j] ≠ k := fun he => by
      have := idx_le ns k j hj' he
      omega
    simpa using this
theorem se_ixo {apos cpos : Pos} (ho : PE X o (tD X.K X.mg W φ d)) (ha : PA X [e] (tAr X.K X.mg W φ ad)) (hbase : attributeBase o "index" X.env (eval o X.env) = eval o X.env) (hline : (apos.endLine == cpos.line) = true) (hs : starEach [e] X.env = (false, eval e X.env) :: starEach [] X.env) :
    PE X (.Call (.Attribute o "index" apos) [e] [] cpos) (tD X.K X.mg W φ (cIxO d ad)) :=
  PE.le (pe_bm PySem.F.plainAttrs_list PySem.F.slot_list_index PySem.F.type_list_index mt_index ho ha hbase (by rw [hs]; rfl) hline hs rfl) fun σ H Q ⟨ρ, m, S, re, rm, p⟩ => (step re rm p).mono fun x H1 ⟨xv, m1, S1, re1, rm1, e1, r1, p1⟩ => by
    split at p1
    · rename_i hl
      obtain ⟨xs, hxs⟩ := Option.isSome_iff_exists.mp hl
      obtain ⟨a, vs, rfl, h1, _⟩ := litems_sq rm1 r1 hxs
      refine ⟨.inl ⟨rfl, vs, .inl h1⟩, (step re1 rm1 p1).mono fun ws H2 ⟨yv, m2, S2, re2, rm2, e2, r2, p2⟩ => ?_⟩
      obtain ⟨rr, hr, hq⟩ := p2.of
      unfold ixB at hr
      split at hr
      · rename_i k
        obtain ⟨w, rfl, rw1⟩ := rvs1 r2
        cases rw1
        obtain ⟨ns, hn, hr⟩ := Option.bind_eq_some_iff.mp hr
        obtain ⟨ys, hy, hi⟩ := Option.bind_eq_some_iff.mp hn
        obtain ⟨a', us, ea, h2, rs⟩ := litems_sq rm2 (e2.rv r1) hy
        cases ea
        cases intsOf_rv rs hi
        split at hr
        · rename_i hk
          cases hr
          obtain ⟨i1, i2⟩ := ints_at hk
          exact ⟨a, _, .int k, _, .int k, rfl, rfl, .inl h2, rfl, by simp [flatV], i1, by simp [L2.eqV], fun j z hj hz => i2 j z hj hz, hq _ H2 S2 Ext.refl rm2 (.int _)⟩
        · cases hr
      · cases hr
    · exact p1.elim
end
end Pn

set_option Elab.async false
set_option linter.all false
set_option maxRecDepth 100000
set_option autoImplicit false
set_option maxHeartbeats 1000000
namespace Pn
open PySem PySem.Spec PyProof.Rows L2 HT

/-! ### from the text to its meaning -/
inductive GK where
  | fn (np : Nat) | con (p : PV) | free
structure TC where
  N : List Str
  sc : Scope
  st : List Str
  G : List (Str × GK)
  mu : List Str
  rn : Bool
def slotAt : List Str → Str → Nat → Option Nat
  | [], _, _ => none
  | y :: r, x, k => if y = x then some k else slotAt r x (k + 1)
theorem slotAt_ok : ∀ {N : List Str} {x : Str} {k i : Nat}, slotAt N x k = some i → ∃ j, i = k + j ∧ N[j]? = some x
  | [], _, _, _, h => by cases h
  | y :: r, x, k, i, h => by
    unfold slotAt at h
    split at h
    · rename_i e
      cases h
      exact ⟨0, rfl, by simp [e]⟩
    · obtain ⟨j, h1, h2⟩ := slotAt_ok h
      exact ⟨j + 1, by omega, by simpa using h2⟩
def slot (N : List Str) (x : Str) : Option Nat := slotAt N x 0
theorem slot_ok {N : List Str} {x : Str} {i : Nat} (h : slot N x = some i) : N[i]? = some x := by
  obtain ⟨j, h1, h2⟩ := slotAt_ok h
  rw [h1, Nat.zero_add]; exact h2
def odd : List Str := ["__debug__", "__classdict__", "__name__"]
def plainN (x : Str) : Bool := !(odd.contains x)
theorem plainN_ok {x : Str} (h : plainN x = true) : (x == ("__debug__" : Str)) = false ∧ (x == ("__classdict__" : Str)) = false ∧ x ≠ "__name__" := by
  have e : (odd.contains x) = ((x == ("__debug__" : Str)) || ((x == ("__classdict__" : Str)) || ((x == ("__name__" : Str)) || false))) := rfl
  unfold plainN at h
  rw [e] at h
  simp only [Bool.not_eq_true', Bool.or_eq_false_iff] at h
  exact ⟨h.1, h.2.1, fun z => by rw [z] at h; simp at h⟩
def nostar : Expr → Bool
  | .Starred .. => false
  | _ => true
def nocomp : Expr → Bool
  | .ListComp .. => false
  | .SetComp .. => false
  | .DictComp .. => false
  | _ => true
def noslice : Expr → Bool
  | .Slice .. => false
  | _ => true
def noset : Expr → Bool
  | .Set .. => false
  | _ => true
theorem star_cons {e : Expr} {es : List Expr} {env : PySem.Env} (h : nostar e = true) : starEach (e :: es) env = (false, eval e env) :: starEach es env := by
  cases e <;> first | rfl | (cases h)
theorem star_all {env : PySem.Env} {pos : Pos} : ∀ {es : List Expr}, es.all nostar = true → (backTo pos (starEach es env)).any (·.1) = false
  | [], _ => rfl
  | e :: es, h => by
    simp only [List.all_cons, Bool.and_eq_true] at h
    rw [star_cons h.1]
    show (false || (backTo pos (starEach es env)).any (·.1)) = false
    rw [star_all h.2]; rfl
theorem asgn_cons {e : Expr} {es : List Expr} {env : PySem.Env} (h : nostar e = true) : assignEach (e :: es) env = (false, assign e env) :: assignEach es env := by
  cases e <;> first | rfl | (cases h)
theorem asgn_all {env : PySem.Env} : ∀ {es : List Expr}, es.all nostar = true → (assignEach es env).length = es.length ∧ (assignEach es env).findIdx? (·.1) = none
  | [], _ => ⟨rfl, rfl⟩
  | e :: es, h => by
    simp only [List.all_cons, Bool.and_eq_true] at h
    rw [asgn_cons h.1]
    obtain ⟨h1, h2⟩ := asgn_all (env := env) h.2
    refine ⟨by rw [List.length_cons, List.length_cons, h1], ?_⟩
    rw [List.findIdx?_cons]
    simp [h2]
theorem sw_no {e : Expr} {t : Option Expr} {l : Nat} {env : PySem.Env} (h : nocomp e = true) : swapsWith e t l env = pure false := by
  cases e <;> first | rfl | (cases h)
theorem folded_no {e : Expr} {env : PySem.Env} {x : Value} (h : noset e = true) : foldedSetIterable e env x = pure x := by
  cases e <;> first | rfl | (cases h)
theorem plainIx {b : Expr} (h : noslice b = true) : PlainIx b := fun o i => by
  cases b <;> first | rfl | (cases h)
/-- a test that is its value's truth -/
def plainT : Expr → Bool
  | .UnaryOp .Not _ _ => false
  | .BoolOp .. => false
  | .IfExp .. => false
  | .Compare .. => false
  | _ => true
theorem plainT_ok {e : Expr} {env : PySem.Env} {whole : Sem Value} (h : plainT e = true) : isTrue e env whole = (do let v ← whole; standAt e.pos; holding [v] (truthy v)) := by
  cases e with
  | UnaryOp op a pos => cases op <;> first | rfl | (cases h)
  | BoolOp => cases h
  | IfExp => cases h
  | Compare => cases h
  | _ => rfl

/-! built-in functions -/
structure BE where
  name : Str
  argc : Nat
  ty : Bool
  id : String
  fn : BFn
def bTab : List BE := [⟨"abs", 1, false, "abs", bAbs⟩, ⟨"len", 1, false, "len", bLen⟩, ⟨"int", 1, true, "int", bInt⟩, ⟨"str", 1, true, "str", bStr⟩, ⟨"max", 2, false, "max", bMax2⟩, ⟨"min", 2, false, "min", bMin2⟩, ⟨"max", 4, false, "max", bMax4⟩,
  ⟨"sum", 1, false, "sum", bSum⟩, ⟨"all", 1, false, "all", bAll⟩, ⟨"any", 1, false, "any", bAny⟩, ⟨"tuple", 1, true, "tuple", bTup⟩, ⟨"list", 1, true, "list", bLst⟩, ⟨"min", 1, false, "min", bMinD⟩, ⟨"max", 1, false, "max", bMax1⟩, ⟨"isinstance", 2, false, "isinstance", bIsi⟩, ⟨"sorted", 1, false, "sorted", bSrt⟩, ⟨"repr", 1, false, "repr", bRep⟩]
def BE.val (b : BE) : Value := if b.ty then .type b.id else .builtin b.id
theorem bTab_boot : ∀ b ∈ bTab, bootBuiltins b.name = some b.val := by
  have h : bTab.all (fun b => bootBuiltins b.name == some b.val) = true := by decide +kernel
  intro b hb
  have := List.all_eq_true.mp h b hb
  exact eq_of_beq this
theorem bTab_call {X : Cx} (hc : X.calm = true) (hu : X.A.units + 64 < cLine) : ∀ b ∈ bTab, CallR X b.val (rC X.K X.mg b.fn) := by
  intro b hb
  simp only [bTab, List.mem_cons, List.not_mem_nil, or_false] at hb
  rcases hb with rfl | rfl | rfl | rfl | rfl | rfl | rfl | rfl | rfl | rfl | rfl | rfl | rfl | rfl | rfl | rfl | rfl
  · exact b_abs
  · exact b_len
  · exact b_int
  · exact b_str
  · exact b_max2 hc
  · exact b_min2 hc
  · exact b_max4 hc
  · exact b_sum hc
  · exact b_all hc
  · exact b_any hc
  · exact b_tup
  · exact b_lst
  · exact b_minD hc hu
  · exact b_max1 hc
  · exact b_isi
  · exact b_srt
  · exact b_rep
def bFind (x : Str) (n : Nat) : Option BE := bTab.find? fun b => b.name == x && b.argc == n
theorem bFind_ok {x : Str} {n : Nat} {b : BE} (h : bFind x n = some b) : b ∈ bTab ∧ b.name = x ∧ b.argc = n := by
  have h1 := List.find?_some h
  have h2 := List.mem_of_find?_eq_some h
  simp only [Bool.and_eq_true, beq_iff_eq] at h1
  exact ⟨h2, h1⟩
def tyTab : List (Str × String) := [("int", "int"), ("bool", "bool"), ("str", "str"), ("tuple", "tuple"), ("list", "list"), ("dict", "dict")]
theorem tyTab_boot : ∀ p ∈ tyTab, bootBuiltins p.1 = some (.type p.2) := by
  have h : tyTab.all (fun p => bootBuiltins p.1 == some (.type p.2)) = true := by decide +kernel
  intro b hb
  exact eq_of_beq (List.all_eq_true.mp h b hb)

/-! the translators, one level on another -/
structure Tr where
  E : TC → Expr → Den
  T : TC → Expr → TDen
  G : TC → Expr → Option Tgt
  I : TC → Expr → Expr → IDen
  S : TC → Stmt → SDen
def aBad : ADen := fun _ _ _ => .bad
def tBad : TDen := fun _ _ _ => .bad
def iBad : IDen := fun _ _ _ => .bad
def Tr.bad : Tr := ⟨fun _ _ => cBad, fun _ _ => tBad, fun _ _ => none, fun _ _ _ => iBad, fun _ _ => sBad⟩
def trName (C : TC) (x : Str) : Den := if plainN x = true then match C.sc.names.lookup x with
    | some .local | some .cell | some .free => match slot C.N x with
      | some i => cVar i
      | none => cBad
    | some .globalImplicit => match C.G.lookup x with
      | some (.con p) => cC p
      | some .free => match tyTab.lookup x with
        | some t => cC (.ty t)
        | none => cBad
      | _ => cBad
    | _ => cBad
  else cBad
def trConst : Const → Den
  | .none => cC .non
  | .bool b => cC (.bl b)
  | .int i => cC (.int i)
  | .str s => cC (.str s)
  | _ => cBad
def trA (r : Tr) (C : TC) : List Expr → ADen
  | [] => aNil
  | e :: es => if nostar e = true then aCons (r.E C e) (trA r C es) else aBad
def trAnd (r : Tr) (C : TC) : List Expr → Den
  | [] => cBad
  | [a] => r.E C a
  | a :: b :: es => cAnd (r.E C a) (trAnd r C (b :: es))
def trOr (r : Tr) (C : TC) : List Expr → Den
  | [] => cBad
  | [a] => r.E C a
  | a :: b :: es => cOr (r.E C a) (trOr r C (b :: es))
def trTAnd (r : Tr) (C : TC) : List Expr → TDen
  | [] => tBad
  | [a] => r.T C a
  | a :: b :: es => tAnd (r.T C a) (trTAnd r C (b :: es))
def trTOr (r : Tr) (C : TC) : List Expr → TDen
  | [] => tBad
  | [a] => r.T C a
  | a :: b :: es => tOr (r.T C a) (trTOr r C (b :: es))
def trO (r : Tr) (C : TC) : Option Expr → ODen
  | none => oNone
  | some e => oSome (r.E C e)
def isGlob (C : TC) (x : Str) : Bool := plainN x && C.sc.names.lookup x == some .globalImplicit
def trCall (r : Tr) (C : TC) (f : Str) (args : List Expr) : Den :=
  if isGlob C f && args.all nostar && !args.isEmpty then match C.G.lookup f with
    | some (.fn np) => if np = args.length then cCall f (trA r C args) else cBad
    | some .free => match bFind f args.length with
      | some b => cB b.fn (trA r C args)
      | none => cBad
    | _ => cBad
  else cBad
def blkOwn (N : List Str) (sc : Scope) : List (Str × Nat) := sc.names.filterMap fun (n, k) => if k == .local || k == .cell then (slot N n).map fun i => (n, i) else none
def blkB (N : List Str) (sc scope : Scope) : Bool :=
  scope.kind == .function && scope.names.all (fun y => scope.names.lookup y.1 == some y.2)
    && scope.names.all (fun y => y.2 != .free || sc.names.lookup y.1 == some .cell || sc.names.lookup y.1 == some .free)
    && scope.names.all (fun y => !(y.2 == .local || y.2 == .cell) || ((blkOwn N scope).map (·.1)).contains y.1 || !N.contains y.1)
def blkC (C : TC) (scope : Scope) : TC := { C with sc := relS scope C.sc, st := (blkOwn C.N scope).map (·.1) }
def trIfs (r : Tr) (C : TC) : List Expr → TDen
  | [] => tYes
  | [c] => r.T C c
  | _ => tBad
mutual
def slotsIn : Tgt → List Nat → Bool
  | .name i, vs => vs.contains i
  | .tup ts, vs => slotsIns ts vs
def slotsIns : List Tgt → List Nat → Bool
  | [], _ => true
  | t :: ts, vs => slotsIn t vs && slotsIns ts vs
end
noncomputable def trLc (r : Tr) (nw : Bool) (C : TC) (elt tg it : Expr) (ifs : List Expr) (scope : Scope) : Den :=
  if blkB C.N C.sc scope && noset it then match r.G (blkC C scope) tg with
    | some g => if slotsIn g ((blkOwn C.N scope).map (·.2)) then cLc nw ((blkOwn C.N scope).map (·.2)) (r.I C tg it) g (trIfs r (blkC C scope) ifs) (r.E (blkC C scope) elt) else cBad
    | none => cBad
  else cBad
noncomputable def trLc2 (r : Tr) (nw : Bool) (C : TC) (elt tg it : Expr) (ifs : List Expr) (tg1 it1 : Expr) (ifs1 : List Expr) (scope : Scope) : Den :=
  if blkB C.N C.sc scope && noset it && noset it1 then match r.G (blkC C scope) tg, r.G (blkC C scope) tg1 with
    | some g, some g1 => if slotsIn g ((blkOwn C.N scope).map (·.2)) && slotsIn g1 ((blkOwn C.N scope).map (·.2)) then
        cLc2 nw ((blkOwn C.N scope).map (·.2)) (r.I C tg it) g (trIfs r (blkC C scope) ifs) (slotsOf g1) (r.I (blkC C scope) tg1 it1) g1 (trIfs r (blkC C scope) ifs1) (r.E (blkC C scope) elt) else cBad
    | _, _ => cBad
  else cBad
noncomputable def trE (r : Tr) (C : TC) : Expr → Den
  | .Name x _ => trName C x
  | .Constant c _ _ => trConst c
  | .BinOp a op b _ => match opOf op with
    | some o => cBin o (r.E C a) (r.E C b)
    | none => cBad
  | .UnaryOp .USub a _ => cNeg (r.E C a)
  | .UnaryOp .Not a _ => cNot (r.E C a)
  | .BoolOp .And es _ => trAnd r C es
  | .BoolOp .Or es _ => trOr r C es
  | .IfExp t a b _ => cIf (r.T C t) (r.E C a) (r.E C b)
  | .Compare a [op] [b] _ => match copOf op with
    | some o => if behindInMarks op b = true then cBad else cCmp o (r.E C a) (r.E C b)
    | none => cBad
  | .Compare a [op, op'] [b, c] _ => match copOf op, copOf op' with
    | some o, some o' => if behindInMarks op' c = true then cBad else cChain o o' (r.E C a) (r.E C b) (r.E C c)
    | _, _ => cBad
  | .Subscript a (.Slice lo hi none _) _ => cSlc (r.E C a) (trO r C lo) (trO r C hi)
  | .Subscript a (.Slice none none (some (.UnaryOp .USub (.Constant (.int i) _ _) _)) _) _ => if i = 1 then cRev (r.E C a) else cBad
  | .Subscript a b _ => if noslice b = true then cIdx (r.E C a) (r.E C b) else cBad
  | .Tuple es _ _ => cTup (trA r C es)
  | .List es _ => cLst (trA r C es)
  | .Dict [] [] _ => cDct (C.mu.contains "{t")
  | .Call (.Name f _) args [] _ => trCall r C f args
  | .Call (.Attribute (.Name x p) mn apos) [e] [] pos => if mn = "append" then (if nostar e && (apos.endLine == pos.line) then cApp (r.E C (.Name x p)) (trA r C [e]) else cBad)
      else if mn = "get" then (if nostar e && (apos.endLine == pos.line) then cDGet1 (r.E C (.Name x p)) (r.E C e) else cBad)
      else if mn = "index" then (if nostar e && (apos.endLine == pos.line) then cIxO (r.E C (.Name x p)) (trA r C [e]) else cBad) else cBad
  | .Call (.Attribute (.Call (.Name f p1) (a :: as) [] p2) mn apos) [e] [] pos => if mn = "get" then (if nostar e && (apos.endLine == pos.line) then cDGet1 (r.E C (.Call (.Name f p1) (a :: as) [] p2)) (r.E C e) else cBad) else cBad
  | .Call (.Attribute (.Name x p) mn apos) [e, f] [] pos => if mn = "get" then (if nostar e && nostar f && (apos.endLine == pos.line) then cDGet2 (r.E C (.Name x p)) (r.E C e) (r.E C f) else cBad) else cBad
  | .Call (.Attribute (.Name x p) mn apos) [] [] pos => if mn = "pop" then (if (apos.endLine == pos.line) then cPop (r.E C (.Name x p)) else cBad) else cBad
  | .Call (.Attribute (.Constant (.str s) kk p) mn apos) [e] [] pos => if mn = "join" then (if nostar e && (apos.endLine == pos.line) then cJoin s (r.E C e) else cBad) else cBad
  | .ListComp elt [⟨tg, it, ifs, as⟩] scope _ => if as = 0 then trLc r false C elt tg it ifs scope else cBad
  | .ListComp elt [⟨tg, it, ifs, as⟩, ⟨tg1, it1, ifs1, as1⟩] scope _ => if as = 0 then (if as1 = 0 then trLc2 r false C elt tg it ifs tg1 it1 ifs1 scope else cBad) else cBad
  | _ => cBad
noncomputable def trT (r : Tr) (C : TC) : Expr → TDen
  | .UnaryOp .Not a _ => tNot (r.T C a)
  | .BoolOp .And es _ => trTAnd r C es
  | .BoolOp .Or es _ => trTOr r C es
  | .Compare a [op] [b] _ => match copOf op with
    | some o => if behindInMarks op b = true then tBad else tTru (cCmp o (r.E C a) (r.E C b))
    | none => tBad
  | .Compare a [op, op'] [b, c] _ => match copOf op, copOf op' with
    | some o, some o' => if behindInMarks op' c = true then tBad else tTru (cChain o o' (r.E C a) (r.E C b) (r.E C c))
    | _, _ => tBad
  | e => if plainT e = true then tTru (r.E C e) else tBad
def trGs (r : Tr) (C : TC) : List Expr → Option (List Tgt)
  | [] => some []
  | e :: es => if nostar e = true then match r.G C e, trGs r C es with
      | some t, some ts => some (t :: ts)
      | _, _ => none
    else none
def trG (r : Tr) (C : TC) : Expr → Option Tgt
  | .Name x _ => if C.st.contains x then (slot C.N x).map .name else none
  | .Tuple es _ _ => (trGs r C es).map .tup
  | _ => none
def isTup : Expr → Bool
  | .Tuple .. => true
  | _ => false
def isFree (C : TC) (f : Str) : Bool := match C.G.lookup f with
  | some .free => true
  | _ => false
theorem isFree_ok {C : TC} {f : Str} (h : isFree C f = true) : C.G.lookup f = some .free := by
  unfold isFree at h
  split at h
  · assumption
  · cases h
def trI (r : Tr) (C : TC) (tg : Expr) : Expr → IDen
  | .Call (.Name f p) args [] pos => if isGlob C f && args.all nostar && isFree C f then
      if f = "range" then (if args.length = 1 then iB rngB1 (trA r C args) else if args.length = 2 then iB rngB2 (trA r C args) else iBad)
      else if f = "enumerate" then (if args.length = 1 && isTup tg then iB enumB (trA r C args) else iBad)
      else if f = "zip" then (if args.length = 2 && isTup tg then iB zipB (trA r C args) else iBad)
      else iSeq (r.E C (.Call (.Name f p) args [] pos))
    else iSeq (r.E C (.Call (.Name f p) args [] pos))
  | e => iSeq (r.E C e)
end Pn

set_option Elab.async false
set_option linter.all false
set_option maxRecDepth 100000
set_option autoImplicit false
set_option maxHeartbeats 1000000
namespace Pn
open PySem PySem.Spec PyProof.Rows L2 HT

/-! ### the translation is right -/
def GOk (X : Cx) (φ : Phi) (n : Nat) (G : List (Str × GK)) : Prop := ∀ x k, G.lookup x = some k → match k with
  | .free => X.mg x = none
  | .con p => ∃ v u, X.mg x = some u ∧ RelV v u ∧ ∀ H S m, RM X.K X.mg H S m → RP X.K X.mg H S p v
  | .fn np => ∃ f fd ps, X.mg x = some (.ref f) ∧ PySem.W.keepIn X.K (.ref f) = true ∧ Binds X.K fd ps [] ∧ FnOk X.prog X.w X.K X.mg X.base (CX X.prog X.w) n f fd ps (spOf X.K X.mg np (φ x))
structure SOk (X : Cx) (W : WX) (φ : Phi) (n : Nat) (C : TC) : Prop where
  N : X.N = C.N
  nd : C.N.Nodup
  sc : X.env.scope = C.sc
  kd : C.sc.kind = .function
  calm : X.calm = true
  room : Room n X.A
  tk : Takes X W
  po : PassesOwn (model X.prog X.w) X.A X.env X.xe
  st : ∀ x ∈ C.st, L2.Loc C.sc x ∧ (X.fn x = true ∨ C.sc.names.lookup x = some .local)
  glo : GOk X φ n C.G
structure TrOk (r : Tr) : Prop where
  E : ∀ {X W φ n C} (e : Expr), SOk X W φ n C → PE X e (tD X.K X.mg W φ (r.E C e))
  T : ∀ {X W φ n C} (e : Expr), SOk X W φ n C → PT X e (tT X.K X.mg W φ (r.T C e))
  G : ∀ {X W φ n C} (e : Expr) (t : Tgt), SOk X W φ n C → r.G C e = some t → PG X e (gA X.K X.mg t)
  I : ∀ {X W φ n C} (tg e : Expr), SOk X W φ n C → PI X tg e (tI X.K X.mg W φ (r.I C tg e))
  S : ∀ {X W φ n C} (s : Stmt), SOk X W φ n C → PS X s (tSt X.K X.mg W φ (r.S C s))
theorem tG_bad {α β : Type} {K : PySem.W.Frag} {mg : Str → Option Value} {R : Hp → Sg → α → β → Prop} {W : WX} {φ : Phi} {σ : L2.St} {H : Hp} {Q : β → Hp → Prop} (h : tG K mg R W φ (fun _ _ _ => .bad) σ H Q) : False := by
  obtain ⟨_, _, _, _, _, p⟩ := h; exact p
section
variable {X : Cx} {W : WX} {φ : Phi} {n : Nat} {C : TC} {r : Tr}
theorem pe_bad' {e : Expr} : PE X e (tD X.K X.mg W φ cBad) := pe_bad
theorem pt_bad' {e : Expr} : PT X e (tT X.K X.mg W φ tBad) := ⟨fun _ _ _ _ _ _ h => (tG_bad h).elim⟩
theorem pw_bad' {e : Expr} : PW X e (tT X.K X.mg W φ tBad) := ⟨fun _ _ _ _ _ _ _ h => (tG_bad h).elim⟩
theorem pa_bad' {es : List Expr} : PA X es (tAr X.K X.mg W φ aBad) := ⟨fun _ _ _ _ _ _ _ h => (tG_bad h).elim⟩
theorem pi_bad' {tg e : Expr} : PI X tg e (tI X.K X.mg W φ iBad) := ⟨fun _ _ _ _ _ _ h => (tG_bad h).elim⟩
theorem Gl_of {x : Str} (o : SOk X W φ n C) (h : C.sc.names.lookup x = some .globalImplicit) : Gl X x := by
  show X.env.scope.names.lookup x = _
  rw [o.sc]; exact h
theorem isGlob_ok {x : Str} (o : SOk X W φ n C) (h : isGlob C x = true) : Gl X x ∧ (x == ("__debug__" : Str)) = false ∧ x ≠ "__name__" := by
  unfold isGlob at h
  simp only [Bool.and_eq_true, beq_iff_eq] at h
  obtain ⟨h1, _, h3⟩ := plainN_ok h.1
  exact ⟨Gl_of o h.2, h1, h3⟩
theorem name_ok (o : SOk X W φ n C) (x : Str) (pos : Pos) : PE X (.Name x pos) (tD X.K X.mg W φ (trName C x)) := by
  unfold trName
  split
  · rename_i hp
    obtain ⟨h1, h2, h3⟩ := plainN_ok hp
    have var : (C.sc.names.lookup x = some .local ∨ C.sc.names.lookup x = some .cell ∨ C.sc.names.lookup x = some .free) → PE X (.Name x pos) (tD X.K X.mg W φ (match slot C.N x with | some i => cVar i | none => cBad)) := fun hv => by
      split
      · rename_i i hs
        exact se_var (by rw [o.N]; exact slot_ok hs) (by unfold Vis; rw [o.sc]; exact hv) h1 h2
      · exact pe_bad
    split
    · rename_i e; exact var (.inl e)
    · rename_i e; exact var (.inr (.inl e))
    · rename_i e; exact var (.inr (.inr e))
    · rename_i e
      split
      · rename_i p hg
        obtain ⟨v, u, a1, a2, a3⟩ := o.glo x _ hg
        exact se_con (pe_glob (Gl_of o e) a1 a2 h1) a3
      · rename_i hg
        split
        · rename_i t ht
          have hb := tyTab_boot (x, t) (PySem.mem_of_lookup ht)
          exact se_con (pe_bltn (v := .ty t) (Gl_of o e) (o.glo x _ hg) hb rfl h3 h1) fun _ _ _ _ => .ty t
        · exact pe_bad
      · exact pe_bad
    · exact pe_bad
  · exact pe_bad
theorem const_ok (c : Const) (j : Nat) (pos : Pos) : PE X (.Constant c j pos) (tD X.K X.mg W φ (trConst c)) := by
  unfold trConst
  split
  · exact se_con pe_non fun _ _ _ _ => .non
  · exact se_con pe_bl fun _ _ _ _ => .bl _
  · exact se_con pe_int fun _ _ _ _ => .int _
  · exact se_con pe_str fun _ _ _ _ => .str _
  · exact pe_bad
theorem args_ok (k : TrOk r) (o : SOk X W φ n C) : ∀ es : List Expr, PA X es (tAr X.K X.mg W φ (trA r C es))
  | [] => sa_nil
  | e :: es => by
    unfold trA
    split
    · rename_i h
      exact sa_cons (k.E e o) (args_ok k o es) (star_cons h)
    · exact pa_bad'
theorem and_ok (k : TrOk r) (o : SOk X W φ n C) (pos : Pos) : ∀ es : List Expr, PE X (.BoolOp .And es pos) (tD X.K X.mg W φ (trAnd r C es))
  | [] => pe_bad
  | [a] => pe_one (k.E a o)
  | a :: b :: es => se_and (k.E a o) (and_ok k o pos (b :: es))
theorem or_ok (k : TrOk r) (o : SOk X W φ n C) (pos : Pos) : ∀ es : List Expr, PE X (.BoolOp .Or es pos) (tD X.K X.mg W φ (trOr r C es))
  | [] => pe_bad
  | [a] => pe_one (k.E a o)
  | a :: b :: es => se_or (k.E a o) (or_ok k o pos (b :: es))
theorem tand_ok (k : TrOk r) (o : SOk X W φ n C) (pos : Pos) : ∀ es : List Expr, PW X (.BoolOp .And es pos) (tT X.K X.mg W φ (trTAnd r C es))
  | [] => pw_bad'
  | [a] => pw_and1 (k.T a o)
  | a :: b :: es => sw_and (k.T a o) (tand_ok k o pos (b :: es))
theorem tor_ok (k : TrOk r) (o : SOk X W φ n C) (pos : Pos) : ∀ es : List Expr, PW X (.BoolOp .Or es pos) (tT X.K X.mg W φ (trTOr r C es))
  | [] => pw_bad'
  | [a] => pw_or1 (k.T a o)
  | a :: b :: es => sw_or (k.T a o) (tor_ok k o pos (b :: es))
theorem part_ok (k : TrOk r) (o : SOk X W φ n C) : ∀ e : Option Expr, PO X e (tOp' X.K X.mg W φ (trO r C e))
  | none => so_none
  | some e => so_some (k.E e o)
theorem trA_len : ∀ {es : List Expr} {ρ : Env} {m m' : Mem} {vs : List Val}, trA r C es φ ρ m = .ok vs m' → vs.length = es.length
  | [], _, _, _, _, h => by cases h; rfl
  | e :: es, ρ, m, m', vs, h => by
    unfold trA at h
    split at h
    · unfold aCons at h
      cases h1 : r.E C e φ ρ m with
      | ok v m1 =>
        rw [h1, Res.bind_ok] at h
        cases h2 : trA r C es φ ρ m1 with
        | ok ws m2 =>
          rw [h2, Res.bind_ok] at h
          cases h
          rw [List.length_cons, List.length_cons, trA_len h2]
        | exc _ _ => rw [h2] at h; cases h
        | bad => rw [h2] at h; cases h
      | exc _ _ => rw [h1] at h; cases h
      | bad => rw [h1] at h; cases h
    · cases h
theorem call_ok (k : TrOk r) (o : SOk X W φ n C) (f : Str) (p pos : Pos) (args : List Expr) : PE X (.Call (.Name f p) args [] pos) (tD X.K X.mg W φ (trCall r C f args)) := by
  unfold trCall
  split
  · rename_i h
    simp only [Bool.and_eq_true] at h
    obtain ⟨⟨h1, h2⟩, h3⟩ := h
    obtain ⟨g1, g2, g3⟩ := isGlob_ok o h1
    cases args with
    | nil => cases h3
    | cons e es =>
      have hs := star_cons (env := X.env) (es := es) (by simp only [List.all_cons, Bool.and_eq_true] at h2; exact h2.1 : nostar e = true)
      have hp := star_all (env := X.env) (pos := pos) (es := es) (by simp only [List.all_cons, Bool.and_eq_true] at h2; exact h2.2)
      split
      · rename_i np hg
        split
        · rename_i hn
          obtain ⟨fa, fd, ps, a1, a2, a3, a4⟩ := o.glo f _ hg
          exact se_call a4 o.room g1 a1 a2 a3 o.tk hn (fun h => trA_len h) (args_ok k o (e :: es)) g2 hs hp
        · exact pe_bad
      · rename_i hg
        split
        · rename_i b hb
          obtain ⟨b1, b2, b3⟩ := bFind_ok hb
          have boot := bTab_boot b b1
          have call := bTab_call (X := X) o.calm o.room.units b b1
          rw [b2] at boot
          unfold BE.val at boot call
          cases hty : b.ty with
          | true =>
            rw [hty, if_pos rfl] at boot call
            exact se_callTy call g1 (o.glo f _ hg) boot (args_ok k o (e :: es)) g3 g2 hs hp
          | false =>
            rw [hty, if_neg Bool.false_ne_true] at boot call
            exact se_callB call g1 (o.glo f _ hg) boot (args_ok k o (e :: es)) g3 g2 hs hp
        · exact pe_bad
      · exact pe_bad
  · exact pe_bad
theorem blk_ok {N : List Str} {sc scope : Scope} (h : blkB N sc scope = true) : BlkOk N sc scope (blkOwn N scope) := by
  unfold blkB at h
  simp only [Bool.and_eq_true, beq_iff_eq, List.all_eq_true] at h
  obtain ⟨⟨⟨h1, h2⟩, h3⟩, h4⟩ := h
  refine ⟨h1, fun y hy => h2 y hy, fun p hp => ?_, fun y hy e => ?_, fun y hy e => ?_⟩
  · unfold blkOwn at hp
    obtain ⟨⟨x, kk⟩, hx, he⟩ := List.mem_filterMap.mp hp
    dsimp only at he
    split at he
    · cases hs : slot N x with
      | none => rw [hs] at he; cases he
      | some i => rw [hs] at he; cases he; exact slot_ok hs
    · cases he
  · have := h3 y hy
    rw [e] at this
    simpa using this
  · have := h4 y hy
    rcases e with e | e
    · rw [e] at this
      simp at this
      rcases this with t | t
      · left; simpa using t
      · exact .inr t
    · rw [e] at this
      simp at this
      rcases this with t | t
      · left; simpa using t
      · exact .inr t
mutual
theorem slotsIn_ok : ∀ {t : Tgt} {vs : List Nat}, slotsIn t vs = true → ∀ i ∈ slotsOf t, i ∈ vs
  | .name j, vs, h, i, hi => by
    unfold slotsOf at hi
    unfold slotsIn at h
    have : i = j := by simpa using hi
    subst this
    simpa using h
  | .tup ts, vs, h, i, hi => by
    unfold slotsOf at hi
    unfold slotsIn at h
    exact slotsIns_ok h i hi
theorem slotsIns_ok : ∀ {ts : List Tgt} {vs : List Nat}, slotsIns ts vs = true → ∀ i ∈ slotsOfs ts, i ∈ vs
  | [], _, _, i, hi => by unfold slotsOfs at hi; cases hi
  | t :: ts, vs, h, i, hi => by
    unfold slotsOfs at hi
    unfold slotsIns at h
    simp only [Bool.and_eq_true] at h
    rcases List.mem_append.mp hi with hi | hi
    · exact slotsIn_ok h.1 i hi
    · exact slotsIns_ok h.2 i hi
end
/-- the context of a block -/
theorem blk_sok {scope : Scope} (o : SOk X W φ n C) (h : blkB C.N C.sc scope = true) (s : Shared) (H : Hp) (A : Addr) (cl : List (Str × Addr)) (fp : List Addr) : SOk (X.blk s H scope (compEnvC scope cl A X.env) fp) NoW φ n (blkC C scope) := by
  have b := blk_ok h
  have hsc : (compEnvC scope cl A X.env).scope = relS scope X.env.scope := rfl
  refine ⟨o.N, o.nd, by show (compEnvC scope cl A X.env).scope = relS scope C.sc; rw [hsc, o.sc], b.kind, o.calm, o.room, LamX.takes0, PassesOwn.never, fun x hx => ?_, o.glo⟩
  have hx : x ∈ (blkOwn C.N scope).map (·.1) := hx
  obtain ⟨⟨x', i⟩, hp, rfl⟩ := List.mem_map.mp hx
  unfold blkOwn at hp
  obtain ⟨⟨y, kk⟩, hy, he⟩ := List.mem_filterMap.mp hp
  dsimp only at he
  split at he
  · rename_i hk
    cases hs : slot C.N y with
    | none => rw [hs] at he; cases he
    | some j =>
      rw [hs] at he
      obtain ⟨rfl, rfl⟩ : y = x' ∧ j = i := by cases he; exact ⟨rfl, rfl⟩
      have u := b.uniq _ hy
      have hk : kk = .local ∨ kk = .cell := by simpa using hk
      show L2.Loc (relS scope C.sc) y ∧ ((scope.names.lookup y == some NameKind.cell) = true ∨ (relS scope C.sc).names.lookup y = some .local)
      rcases hk with rfl | rfl
      · have := lookup_relS_keep (sc := C.sc) (by decide : NameKind.local ≠ .free) u
        exact ⟨.inl this, .inr this⟩
      · have := lookup_relS_keep (sc := C.sc) (by decide : NameKind.cell ≠ .free) u
        exact ⟨.inr this, .inl (by rw [u]; rfl)⟩
  · cases he
theorem PTs.le {X : Cx} {es : List Expr} {t t' : TT} (h : PTs X es t) (q : ∀ σ H Q, t' σ H Q → t σ H Q) : PTs X es t' := ⟨fun pins s σ H Q I hw => h.run pins s σ H Q I (q σ H Q hw)⟩
theorem pts_bad' {es : List Expr} : PTs X es (tT X.K X.mg W φ tBad) := ⟨fun _ _ _ _ _ _ h => (tG_bad h).elim⟩
theorem ifs_ok (k : TrOk r) (o : SOk X W φ n C) (ifs : List Expr) : PTs X ifs (tT X.K X.mg W φ (trIfs r C ifs)) := by
  unfold trIfs
  split
  · exact PTs.le pts_nil fun σ H Q ⟨ρ, m, S, re, rm, p⟩ => p true H S Ext.refl rm rfl
  · exact pts_one (k.T _ o)
  · exact pts_bad'
theorem lc_ok (k : TrOk r) (o : SOk X W φ n C) (nw : Bool) {elt tg it : Expr} {ifs : List Expr} {scope : Scope} {P : TE → Prop} (hbad : ∀ t : TE, (∀ σ H Q, t σ H Q → False) → P t) (hle : ∀ t t' : TE, P t → (∀ σ H Q, t' σ H Q → t σ H Q) → P t')
    (hP : ∀ (wi : TI) (g : TG) (tt : TT) (te : TE), PI X tg it wi → BlkOk X.N X.env.scope scope (blkOwn C.N scope) → (∀ (s : Shared) (H : Hp) (C : Addr) (cl : List (Str × Addr)) (fp : List Addr), PG (X.blk s H scope (compEnvC scope cl C X.env) fp) tg g) →
      (∀ (s : Shared) (H : Hp) (C : Addr) (cl : List (Str × Addr)) (fp : List Addr), PTs (X.blk s H scope (compEnvC scope cl C X.env) fp) ifs tt) → (∀ (s : Shared) (H : Hp) (C : Addr) (cl : List (Str × Addr)) (fp : List Addr), PE (X.blk s H scope (compEnvC scope cl C X.env) fp) elt te) →
      (∀ x, foldedSetIterable it X.env x = pure x) → P (tLc wi g tt te ((blkOwn C.N scope).map (·.2)))) : P (tD X.K X.mg W φ (trLc r nw C elt tg it ifs scope)) := by
  have bad : P (tD X.K X.mg W φ cBad) := hbad _ fun _ _ _ h => tG_bad h
  unfold trLc
  split
  · rename_i h
    simp only [Bool.and_eq_true] at h
    split
    · rename_i g hg
      split
      · rename_i hs
        refine hle _ _ (hP (tI X.K X.mg W φ (r.I C tg it)) (gA X.K X.mg g) (tT X.K X.mg NoW φ (trIfs r (blkC C scope) ifs)) (tD X.K X.mg NoW φ (r.E (blkC C scope) elt)) (k.I tg it o) (by rw [o.N, o.sc]; exact blk_ok h.1) (fun s H A cl fp => ?_) (fun s H A cl fp => ?_) (fun s H A cl fp => ?_) (fun x => folded_no h.2))
          fun σ H Q hq => rd_lc (slotsIn_ok hs) hq
        · exact k.G (X := X.blk s H scope (compEnvC scope cl A X.env) fp) tg g (blk_sok o h.1 s H A cl fp) hg
        · exact ifs_ok (X := X.blk s H scope (compEnvC scope cl A X.env) fp) k (blk_sok o h.1 s H A cl fp) ifs
        · exact k.E (X := X.blk s H scope (compEnvC scope cl A X.env) fp) elt (blk_sok o h.1 s H A cl fp)
      · exact bad
    · exact bad
  · exact bad
theorem lc2_ok (k : TrOk r) (o : SOk X W φ n C) (nw : Bool) {elt tg it tg1 it1 : Expr} {ifs ifs1 : List Expr} {scope : Scope} {P : TE → Prop} (hbad : ∀ t : TE, (∀ σ H Q, t σ H Q → False) → P t) (hle : ∀ t t' : TE, P t → (∀ σ H Q, t' σ H Q → t σ H Q) → P t')
    (hP : ∀ (wi wi1 : TI) (g g1 : TG) (tt tt1 : TT) (te : TE) (vs1 : List Nat), PI X tg it wi → BlkOk X.N X.env.scope scope (blkOwn C.N scope) → (∀ i ∈ vs1, i ∈ (blkOwn C.N scope).map (·.2)) → (∀ (s : Shared) (H : Hp) (C : Addr) (cl : List (Str × Addr)) (fp : List Addr), PG (X.blk s H scope (compEnvC scope cl C X.env) fp) tg g) →
      (∀ (s : Shared) (H : Hp) (C : Addr) (cl : List (Str × Addr)) (fp : List Addr), PTs (X.blk s H scope (compEnvC scope cl C X.env) fp) ifs tt) → (∀ (s : Shared) (H : Hp) (C : Addr) (cl : List (Str × Addr)) (fp : List Addr), PI (X.blk s H scope (compEnvC scope cl C X.env) fp) tg1 it1 wi1) →
      (∀ (s : Shared) (H : Hp) (C : Addr) (cl : List (Str × Addr)) (fp : List Addr), PG (X.blk s H scope (compEnvC scope cl C X.env) fp) tg1 g1) → (∀ (s : Shared) (H : Hp) (C : Addr) (cl : List (Str × Addr)) (fp : List Addr), PTs (X.blk s H scope (compEnvC scope cl C X.env) fp) ifs1 tt1) →
      (∀ (s : Shared) (H : Hp) (C : Addr) (cl : List (Str × Addr)) (fp : List Addr), PE (X.blk s H scope (compEnvC scope cl C X.env) fp) elt te) →
      (∀ x, foldedSetIterable it X.env x = pure x) → (∀ env x, foldedSetIterable it1 env x = pure x) → P (tLc2 wi g tt wi1 g1 tt1 te ((blkOwn C.N scope).map (·.2)) vs1)) : P (tD X.K X.mg W φ (trLc2 r nw C elt tg it ifs tg1 it1 ifs1 scope)) := by
  have bad : P (tD X.K X.mg W φ cBad) := hbad _ fun _ _ _ h => tG_bad h
  unfold trLc2
  split
  · rename_i h
    simp only [Bool.and_eq_true] at h
    obtain ⟨⟨h1, h2⟩, h3⟩ := h
    split
    · rename_i g g1 hg hg1
      split
      · rename_i hs
        simp only [Bool.and_eq_true] at hs
        have so := fun s H A cl fp => blk_sok o h1 s H A cl fp
        refine hle _ _ (hP (tI X.K X.mg W φ (r.I C tg it)) (tI X.K X.mg NoW φ (r.I (blkC C scope) tg1 it1)) (gA X.K X.mg g) (gA X.K X.mg g1) (tT X.K X.mg NoW φ (trIfs r (blkC C scope) ifs)) (tT X.K X.mg NoW φ (trIfs r (blkC C scope) ifs1)) (tD X.K X.mg NoW φ (r.E (blkC C scope) elt)) (slotsOf g1) (k.I tg it o) (by rw [o.N, o.sc]; exact blk_ok h1) (slotsIn_ok hs.2)
          (fun s H A cl fp => ?_) (fun s H A cl fp => ?_) (fun s H A cl fp => ?_) (fun s H A cl fp => ?_) (fun s H A cl fp => ?_) (fun s H A cl fp => ?_) (fun x => folded_no h2) (fun env x => folded_no h3))
          fun σ H Q hq => rd_lc2 (slotsIn_ok hs.1) (fun i hi => hi) hq
        · exact k.G (X := X.blk s H scope (compEnvC scope cl A X.env) fp) tg g (so s H A cl fp) hg
        · exact ifs_ok (X := X.blk s H scope (compEnvC scope cl A X.env) fp) k (so s H A cl fp) ifs
        · exact k.I (X := X.blk s H scope (compEnvC scope cl A X.env) fp) tg1 it1 (so s H A cl fp)
        · exact k.G (X := X.blk s H scope (compEnvC scope cl A X.env) fp) tg1 g1 (so s H A cl fp) hg1
        · exact ifs_ok (X := X.blk s H scope (compEnvC scope cl A X.env) fp) k (so s H A cl fp) ifs1
        · exact k.E (X := X.blk s H scope (compEnvC scope cl A X.env) fp) elt (so s H A cl fp)
      · exact bad
    · exact bad
  · exact bad
theorem lcE2_ok (k : TrOk r) (o : SOk X W φ n C) (nw : Bool) (elt tg it : Expr) (ifs : List Expr) (tg1 it1 : Expr) (ifs1 : List Expr) (scope : Scope) (pos : Pos) : PE X (.ListComp elt [⟨tg, it, ifs, 0⟩, ⟨tg1, it1, ifs1, 0⟩] scope pos) (tD X.K X.mg W φ (trLc2 r nw C elt tg it ifs tg1 it1 ifs1 scope)) :=
  lc2_ok k o nw (P := fun t => PE X (.ListComp elt [⟨tg, it, ifs, 0⟩, ⟨tg1, it1, ifs1, 0⟩] scope pos) t) (fun t h => ⟨fun _ _ _ _ _ _ q => (h _ _ _ q).elim⟩) (fun t t' h q => PE.le h q) fun wi wi1 g g1 tt tt1 te vs1 h1 h2 h3 h4 h5 h6 h7 h8 h9 h10 h11 => pe_lc2 o.calm (by rw [o.N]; exact o.nd) h1 h2 h3 h4 h5 h6 h7 h8 h9 h10 h11
theorem lcE_ok (k : TrOk r) (o : SOk X W φ n C) (nw : Bool) (elt tg it : Expr) (ifs : List Expr) (scope : Scope) (pos : Pos) : PE X (.ListComp elt [⟨tg, it, ifs, 0⟩] scope pos) (tD X.K X.mg W φ (trLc r nw C elt tg it ifs scope)) :=
  lc_ok k o nw (P := fun t => PE X (.ListComp elt [⟨tg, it, ifs, 0⟩] scope pos) t) (fun t h => ⟨fun _ _ _ _ _ _ q => (h _ _ _ q).elim⟩) (fun t t' h q => PE.le h q) fun wi g tt te h1 h2 h3 h4 h5 h6 => pe_lc o.calm (by rw [o.N]; exact o.nd) h1 h2 h3 h4 h5 h6
theorem m1_ok {ob e : Expr} {mn : Str} {apos cpos : Pos} (hb : attributeBase ob mn X.env (eval ob X.env) = eval ob X.env) (h : nostar e = true) (hl : (apos.endLine == cpos.line) = true) : M1 X ob mn apos e cpos := by
  have hs : starEach [e] X.env = [(false, eval e X.env)] := star_cons h
  have ht : backTo cpos (starEach [e] X.env) = [(false, eval e X.env)] := by rw [hs]; rfl
  exact ⟨hb, by rw [ht]; rfl, hl, ht⟩
theorem m2_ok {ob e f : Expr} {mn : Str} {apos cpos : Pos} (hb : attributeBase ob mn X.env (eval ob X.env) = eval ob X.env) (h : nostar e = true) (h' : nostar f = true) (hl : (apos.endLine == cpos.line) = true) : M2 X ob mn apos e f cpos := by
  have hs2 : starEach [f] X.env = [(false, eval f X.env)] := star_cons h'
  have hs : starEach [e, f] X.env = [(false, eval e X.env), (false, eval f X.env)] := by rw [star_cons h, hs2]
  have ht : backTo cpos (starEach [e, f] X.env) = [(false, eval e X.env), (false, eval f X.env)] := by
    rw [hs]
    unfold backTo
    simp
  exact ⟨hb, by rw [ht]; rfl, hl, ht⟩
theorem E_ok (k : TrOk r) (o : SOk X W φ n C) (e : Expr) : PE X e (tD X.K X.mg W φ (trE r C e)) := by
  have hu := o.room.units
  unfold trE
  split
  · exact name_ok o _ _
  · exact const_ok _ _ _
  · split
    · rename_i h
      exact se_bin h (k.E _ o) (k.E _ o)
    · exact pe_bad
  · exact se_neg (k.E _ o)
  · exact se_not (k.E _ o)
  · exact and_ok k o _ _
  · exact or_ok k o _ _
  · exact se_ifx (k.T _ o) (k.E _ o) (k.E _ o)
  · split
    · rename_i h
      split
      · exact pe_bad
      · rename_i hb
        exact se_cmp hu h (k.E _ o) (k.E _ o) (by simpa using hb)
    · exact pe_bad
  · split
    · rename_i h h'
      split
      · exact pe_bad
      · rename_i hb
        exact se_chain hu h h' (k.E _ o) (k.E _ o) (k.E _ o) (by simpa [lastMarks] using hb)
    · exact pe_bad
  · exact se_slc (k.E _ o) (part_ok k o _) (part_ok k o _)
  · split
    · rename_i h
      subst h
      exact se_rev (k.E _ o)
    · exact pe_bad
  · split
    · rename_i h
      exact se_idx hu (k.E _ o) (k.E _ o) (plainIx h)
    · exact pe_bad
  · exact se_tup (args_ok k o _)
  · exact se_lst (args_ok k o _)
  · exact se_dct
  · exact call_ok k o _ _ _ _
  · split
    · rename_i h
      subst h
      split
      · rename_i h
        simp only [Bool.and_eq_true] at h
        exact se_app (k.E _ o) (args_ok k o _) rfl h.2 (star_cons h.1)
      · exact pe_bad
    · split
      · rename_i h
        subst h
        split
        · rename_i h
          simp only [Bool.and_eq_true] at h
          exact se_dget1 hu (k.E _ o) (k.E _ o) (m1_ok rfl h.1 h.2)
        · exact pe_bad
      · split
        · rename_i h
          subst h
          split
          · rename_i h
            simp only [Bool.and_eq_true] at h
            exact se_ixo (k.E _ o) (args_ok k o _) rfl h.2 (star_cons h.1)
          · exact pe_bad
        · exact pe_bad
  · split
    · rename_i h
      subst h
      split
      · rename_i h
        simp only [Bool.and_eq_true] at h
        exact se_dget1 hu (k.E _ o) (k.E _ o) (m1_ok rfl h.1 h.2)
      · exact pe_bad
    · exact pe_bad
  · split
    · rename_i h
      subst h
      split
      · rename_i h
        simp only [Bool.and_eq_true] at h
        exact se_dget2 hu (k.E _ o) (k.E _ o) (k.E _ o) (m2_ok rfl h.1.1 h.1.2 h.2)
      · exact pe_bad
    · exact pe_bad
  · split
    · rename_i h
      subst h
      split
      · rename_i h
        exact se_pop (k.E _ o) rfl h
      · exact pe_bad
    · exact pe_bad
  · split
    · rename_i h
      subst h
      split
      · rename_i h
        simp only [Bool.and_eq_true] at h
        exact se_join pe_str (k.E _ o) rfl h.2 (star_cons h.1)
      · exact pe_bad
    · exact pe_bad
  · split
    · rename_i h
      subst h
      exact lcE_ok k o _ _ _ _ _ _ _
    · exact pe_bad
  · split
    · rename_i h
      subst h
      split
      · rename_i h
        subst h
        exact lcE2_ok k o _ _ _ _ _ _ _ _ _ _
      · exact pe_bad
    · exact pe_bad
  · exact pe_bad
theorem T_ok (k : TrOk r) (o : SOk X W φ n C) (e : Expr) : PT X e (tT X.K X.mg W φ (trT r C e)) := by
  have hu := o.room.units
  unfold trT
  split
  · exact st_not (k.T _ o)
  · exact (tand_ok k o _ _).pt
  · exact (tor_ok k o _ _).pt
  · split
    · rename_i h
      split
      · exact pt_bad'
      · rename_i hb
        exact st_cmp hu h (k.E _ o) (k.E _ o) (by simpa using hb)
    · exact pt_bad'
  · split
    · rename_i h h'
      split
      · exact pt_bad'
      · rename_i hb
        exact st_chain hu h h' (k.E _ o) (k.E _ o) (k.E _ o) (by simpa [lastMarks] using hb)
    · exact pt_bad'
  · split
    · rename_i h
      exact st_tru (k.E _ o) fun _ => plainT_ok h
    · exact pt_bad'
theorem Gs_len : ∀ {es : List Expr} {ts : List Tgt}, trGs r C es = some ts → ts.length = es.length ∧ es.all nostar = true
  | [], ts, h => by cases h; exact ⟨rfl, rfl⟩
  | e :: es, ts, h => by
    unfold trGs at h
    split at h
    · rename_i hs
      split at h
      · rename_i t ts' h1 h2
        cases h
        obtain ⟨a1, a2⟩ := Gs_len h2
        exact ⟨by rw [List.length_cons, List.length_cons, a1], by rw [List.all_cons, hs, a2]; rfl⟩
      · cases h
    · cases h
theorem asgns_len : ∀ {ts : List Tgt} {ps : List PV} {ρ ρ' : Env}, asgns ts ps ρ = some ρ' → ps.length = ts.length
  | [], [], _, _, _ => rfl
  | [], _ :: _, _, _, h => by cases h
  | _ :: _, [], _, _, h => by cases h
  | t :: ts, p :: ps, ρ, ρ', h => by
    unfold asgns at h
    cases e : asgn t p ρ with
    | none => rw [e] at h; cases h
    | some ρ1 =>
      rw [e] at h
      rw [List.length_cons, List.length_cons, asgns_len (ts := ts) h]
theorem Gs_ok (k : TrOk r) (o : SOk X W φ n C) : ∀ {es : List Expr} {ts : List Tgt}, trGs r C es = some ts → PGs X es (gAs X.K X.mg ts)
  | [], ts, h => by cases h; exact sgs_nil
  | e :: es, ts, h => by
    unfold trGs at h
    split at h
    · rename_i hs
      split at h
      · rename_i t ts' h1 h2
        cases h
        exact sgs_cons (k.G e t o h1) (Gs_ok k o h2) (by rw [asgn_cons hs]; rfl)
      · cases h
    · cases h
theorem G_ok (k : TrOk r) (o : SOk X W φ n C) (e : Expr) (t : Tgt) (h : trG r C e = some t) : PG X e (gA X.K X.mg t) := by
  unfold trG at h
  split at h
  · split at h
    · rename_i hs
      rename_i x _ _
      obtain ⟨i, hi, rfl⟩ := Option.map_eq_some_iff.mp h
      obtain ⟨s1, s2⟩ := o.st _ (by simpa using hs)
      exact sg_name (by rw [o.N]; exact o.nd) (by rw [o.N]; exact slot_ok hi) (by rw [o.sc]; exact s1) (by rw [o.sc]; exact s2)
    · cases h
  · obtain ⟨ts, hts, rfl⟩ := Option.map_eq_some_iff.mp h
    obtain ⟨l1, l2⟩ := Gs_len hts
    obtain ⟨a1, a2⟩ := asgn_all (env := X.env) l2
    exact sg_tup o.calm (Gs_ok k o hts) (fun h => by rw [asgns_len h, l1]) a1 a2
  · cases h
theorem I_ok (k : TrOk r) (o : SOk X W φ n C) (tg e : Expr) : PI X tg e (tI X.K X.mg W φ (trI r C tg e)) := by
  unfold trI
  split
  · rename_i f p args pos
    split
    · rename_i h
      simp only [Bool.and_eq_true] at h
      obtain ⟨⟨h1, h2⟩, h3⟩ := h
      obtain ⟨g1, g2, g3⟩ := isGlob_ok o h1
      have hm : X.mg f = none := o.glo f _ (isFree_ok h3)
      split
      · rename_i hf
        subst hf
        split
        · rename_i hl
          obtain ⟨a, rfl⟩ := List.length_eq_one_iff.mp hl
          exact si_rng1 g1 hm (args_ok k o [a]) (star_cons (by simpa using h2))
        · split
          · rename_i hl
            obtain ⟨a, b, rfl⟩ : ∃ a b, args = [a, b] := by
              cases args with
              | nil => cases hl
              | cons a as =>
                cases as with
                | nil => cases hl
                | cons b bs =>
                  cases bs with
                  | nil => exact ⟨a, b, rfl⟩
                  | cons _ _ => simp at hl
            simp only [List.all_cons, List.all_nil, Bool.and_true, Bool.and_eq_true] at h2
            have e1 : starEach [b] X.env = [(false, eval b X.env)] := star_cons h2.2
            exact si_rng2 g1 hm (args_ok k o [a, b]) (by rw [star_cons h2.1, e1]) e1
          · exact pi_bad'
      · split
        · rename_i hf
          subst hf
          split
          · rename_i hl
            simp only [Bool.and_eq_true, decide_eq_true_eq] at hl
            obtain ⟨a, rfl⟩ := List.length_eq_one_iff.mp hl.1
            cases tg with
            | Tuple es kk tpos => exact si_enum g1 hm (args_ok k o [a]) (star_cons (by simpa using h2))
            | _ => exact absurd hl.2 Bool.false_ne_true
          · exact pi_bad'
        split
        · rename_i hf
          subst hf
          split
          · rename_i hl
            simp only [Bool.and_eq_true, decide_eq_true_eq] at hl
            obtain ⟨a, b, rfl⟩ : ∃ a b, args = [a, b] := by
              cases args with
              | nil => simp at hl
              | cons a as =>
                cases as with
                | nil => simp at hl
                | cons b bs =>
                  cases bs with
                  | nil => exact ⟨a, b, rfl⟩
                  | cons _ _ => simp at hl
            simp only [List.all_cons, List.all_nil, Bool.and_true, Bool.and_eq_true] at h2
            cases tg with
            | Tuple es kk tpos => exact si_zip g1 hm (args_ok k o [a, b]) (star_cons h2.1) (star_all (es := [b]) (by simp [h2.2]))
            | _ => exact absurd hl.2 Bool.false_ne_true
          · exact pi_bad'
        · exact si_seq (k.E _ o)
    · exact si_seq (k.E _ o)
  · exact si_seq (k.E _ o)
end
end Pn

set_option Elab.async false
set_option linter.all false
set_option maxRecDepth 100000
set_option autoImplicit false
set_option maxHeartbeats 1000000
namespace Pn
open PySem PySem.Spec PyProof.Rows L2 HT

/-! ### statements -/
def trSs (f : Stmt → SDen) : List Stmt → SDen
  | [] => sPass
  | [s] => f s
  | s :: r => sSeq (f s) (trSs f r)
/-- a list that is to be a cell -/
noncomputable def trNew (r : Tr) (C : TC) (e : Expr) : Den := match e with
  | .List es _ => cNew (trA r C es)
  | .ListComp elt [⟨tg, it, ifs, as⟩] scope _ => if as = 0 then trLc r true C elt tg it ifs scope else cBad
  | .ListComp elt [⟨tg, it, ifs, as⟩, ⟨tg1, it1, ifs1, as1⟩] scope _ => if as = 0 then (if as1 = 0 then trLc2 r true C elt tg it ifs tg1 it1 ifs1 scope else cBad) else cBad
  | e => if nocomp e = true then r.E C e else cBad
noncomputable def trKeep (r : Tr) (C : TC) (e : Expr) : Den := match e with
  | .ListComp elt [⟨tg, it, ifs, as⟩] scope _ => if as = 0 then trLc r false C elt tg it ifs scope else cBad
  | .ListComp elt [⟨tg, it, ifs, as⟩, ⟨tg1, it1, ifs1, as1⟩] scope _ => if as = 0 then (if as1 = 0 then trLc2 r false C elt tg it ifs tg1 it1 ifs1 scope else cBad) else cBad
  | e => if nocomp e = true then r.E C e else cBad
noncomputable def trRet (r : Tr) (C : TC) (e : Expr) : SDen :=
  if C.rn = true then sRet (trNew r C e) else match e with
    | .Name x _ => if C.mu.contains x = true then sRetF (r.E C e) else sRet (r.E C e)
    | e => sRet (r.E C e)
/-- a local name on that line -/
def locN (C : TC) (line : Nat) : Expr → Bool
  | .Name x p => C.sc.names.lookup x == some .local && p.line == line
  | _ => false
def folded (vs : List Expr) : Bool := vs.all (foldedForSure 8) || vs.all (constantsAlone 8)
noncomputable def trPA (r : Tr) (C : TC) : List (Str × Expr) → ADen
  | [] => aNil
  | (x, e) :: es => if nostar e = true then aCons (if C.mu.contains x = true then trNew r C e else r.E C e) (trPA r C es) else aBad
noncomputable def par2 (r : Tr) (C : TC) (x y : Str) (a b : Expr) : SDen :=
  if nostar a && nostar b && !(x == y) then match slot C.N x, slot C.N y with
    | some i, some j => sPar [i, j] (trPA r C [(x, a), (y, b)])
    | _, _ => sBad
  else sBad
noncomputable def par3 (r : Tr) (C : TC) (x y z : Str) (a b c : Expr) : SDen :=
  if nostar a && nostar b && nostar c && !(x == y) && !(x == z) && !(y == z) then match slot C.N x, slot C.N y, slot C.N z with
    | some i, some j, some l => sPar [i, j, l] (trPA r C [(x, a), (y, b), (z, c)])
    | _, _, _ => sBad
  else sBad
def headLine (ts : List Expr) : Nat := (ts.head?.map (·.pos.line)).getD 0
def nmSlots (C : TC) : List Expr → Option (List Nat)
  | [] => some []
  | .Name x _ :: es => if C.st.contains x then match slot C.N x, nmSlots C es with
      | some i, some is => some (i :: is)
      | _, _ => none
    else none
  | _ :: _ => none
def nmOf : Expr → Str
  | .Name x _ => x
  | _ => ""
/-- names = values, by a tuple that is made -/
noncomputable def nmTup (r : Tr) (C : TC) (ts vs : List Expr) (plain : SDen) : SDen := match nmSlots C ts with
  | some is => if ts.length = vs.length ∧ ts.length ≤ 1000 then sPar is (trPA r C ((ts.zip vs).map fun p => (nmOf p.1, p.2))) else plain
  | none => plain
noncomputable def trTup (r : Tr) (C : TC) (t : Expr) (ts : List Expr) (e : Expr) : SDen :=
  let plain : SDen := match trG r C t with
    | some (.tup gs) => sTup gs (r.E C e)
    | _ => sBad
  match e with
  | .Tuple vs _ _ => if ts.all (locN C (headLine ts)) then
      if folded vs then (if vs.all (foldedForSure 8) then plain else sBad) else match ts, vs with
        | [.Name x _, .Name y _], [a, b] => par2 r C x y a b
        | [.Name x _, .Name y _, .Name z _], [a, b, c] => par3 r C x y z a b c
        | _, _ => if 4 ≤ ts.length then nmTup r C ts vs plain else sBad
    else nmTup r C ts vs plain
  | e => plain
noncomputable def trS (r : Tr) (C : TC) : Stmt → SDen
  | .Pass _ => sPass
  | .Expr e _ => match e with
    | .Constant (.str _) _ _ => sPass
    | e => if nocomp e then sExp (r.E C e) else sBad
  | .Return none _ => sRet (cC .non)
  | .Return (some e) _ => trRet r C e
  | .If c a b _ => sIf (r.T C c) (trSs (r.S C) a) (trSs (r.S C) b)
  | .Assign [.Name x _] e _ => if C.st.contains x then match slot C.N x with
      | some i => sSet i (if C.mu.contains x = true then trNew r C e else trKeep r C e)
      | none => sBad
    else sBad
  | .Assign [.Tuple ts k p] e _ => trTup r C (.Tuple ts k p) ts e
  | .Assign [.Subscript o i _] e _ => if noslice i && nocomp e then sPut (r.E C o) (r.E C i) (r.E C e) else sBad
  | .For tg it body [] _ => match r.G C tg with
    | some g => if noset it then sFor g (r.I C tg it) (trSs (r.S C) body) else sBad
    | none => sBad
  | .While c body [] _ => sWhile (r.T C c) (trSs (r.S C) body)
  | _ => sBad
noncomputable def Tr.next (r : Tr) : Tr := ⟨trE r, trT r, trG r, trI r, trS r⟩
noncomputable def trs : Nat → Tr
  | 0 => Tr.bad
  | n + 1 => (trs n).next
theorem bad_ok : TrOk Tr.bad := ⟨fun {X W φ n C} _ _ => pe_bad, fun {X W φ n C} _ _ => pt_bad', fun {X W φ n C} _ _ _ h => (nomatch (show none = some _ from h)), fun {X W φ n C} _ _ _ => pi_bad', fun {X W φ n C} _ _ => ss_bad⟩
section
variable {X : Cx} {W : WX} {φ : Phi} {n : Nat} {C : TC} {r : Tr}
theorem Ss_ok (k : TrOk r) (o : SOk X W φ n C) : ∀ ss : List Stmt, PSs X ss (tSt X.K X.mg W φ (trSs (r.S C) ss))
  | [] => ss_nil
  | [s] => ss_one (k.S s o)
  | s :: s' :: rest => ss_cons (k.S s o) (Ss_ok k o (s' :: rest))
theorem swComp {elt : Expr} {gs : List Comprehension} {scope : Scope} {pos py : Pos} {y : Str} {l : Nat} {env : PySem.Env} (hk : env.scope.kind = .function) :
    ∃ b, swapsWith (.ListComp elt gs scope pos) (some (.Name y py)) l env = pure b ∧ (b = true → env.scope.names.lookup y = some .local) := by
  have hb : env.blockKind = .function := by unfold Env.blockKind; rw [hk]; rfl
  refine ⟨env.blockKind == .function && env.kindOf y == some .local && py.line == pos.line && !(scope.names.any fun (n, k) => n == y && (k == .local || k == .cell)), rfl, fun h => ?_⟩
  simp only [Bool.and_eq_true, beq_iff_eq] at h
  exact h.1.1.2
theorem kd_of (o : SOk X W φ n C) : X.env.scope.kind = .function := by rw [o.sc]; exact o.kd
theorem setLc_ok (k : TrOk r) (o : SOk X W φ n C) (nw : Bool) {x : Str} {i : Nat} {px pos spos : Pos} (hx : x ∈ C.st) (hi : slot C.N x = some i) (elt tg it : Expr) (ifs : List Expr) (scope : Scope) :
    PS X (.Assign [.Name x px] (.ListComp elt [⟨tg, it, ifs, 0⟩] scope pos) spos) (tAsg (tD X.K X.mg W φ (trLc r nw C elt tg it ifs scope)) (gName i)) := by
  obtain ⟨s1, s2⟩ := o.st x hx
  have hN : X.N.Nodup := by rw [o.N]; exact o.nd
  have hi' : X.N[i]? = some x := by rw [o.N]; exact slot_ok hi
  refine lc_ok k o nw (P := fun t => PS X (.Assign [.Name x px] (.ListComp elt [⟨tg, it, ifs, 0⟩] scope pos) spos) (tAsg t (gName i))) (fun t h => ⟨fun _ _ _ _ _ _ q => (h _ _ _ q).elim⟩) (fun t t' h q => PS.le h fun D σ H z => q σ H _ z) fun wi g tt te h1 h2 h3 h4 h5 h6 => ?_
  obtain ⟨b, hb, hl⟩ := swComp (elt := elt) (gs := [⟨tg, it, ifs, 0⟩]) (scope := scope) (pos := pos) (py := px) (y := x) (l := spos.line) (kd_of o)
  cases b with
  | true => exact ps_setLc o.calm hN hi' (hl rfl) hb h1 h2 h3 h4 h5 h6
  | false => exact ps_set hN hi' (by rw [o.sc]; exact s1) (pe_lc o.calm hN h1 h2 h3 h4 h5 h6) hb (by rw [o.sc]; exact s2)
theorem setLc2_ok (k : TrOk r) (o : SOk X W φ n C) (nw : Bool) {x : Str} {i : Nat} {px pos spos : Pos} (hx : x ∈ C.st) (hi : slot C.N x = some i) (elt tg it : Expr) (ifs : List Expr) (tg1 it1 : Expr) (ifs1 : List Expr) (scope : Scope) :
    PS X (.Assign [.Name x px] (.ListComp elt [⟨tg, it, ifs, 0⟩, ⟨tg1, it1, ifs1, 0⟩] scope pos) spos) (tAsg (tD X.K X.mg W φ (trLc2 r nw C elt tg it ifs tg1 it1 ifs1 scope)) (gName i)) := by
  obtain ⟨s1, s2⟩ := o.st x hx
  have hN : X.N.Nodup := by rw [o.N]; exact o.nd
  have hi' : X.N[i]? = some x := by rw [o.N]; exact slot_ok hi
  refine lc2_ok k o nw (P := fun t => PS X (.Assign [.Name x px] (.ListComp elt [⟨tg, it, ifs, 0⟩, ⟨tg1, it1, ifs1, 0⟩] scope pos) spos) (tAsg t (gName i))) (fun t h => ⟨fun _ _ _ _ _ _ q => (h _ _ _ q).elim⟩) (fun t t' h q => PS.le h fun D σ H z => q σ H _ z) fun wi wi1 g g1 tt tt1 te vs1 h1 h2 h3 h4 h5 h6 h7 h8 h9 h10 h11 => ?_
  obtain ⟨b, hb, hl⟩ := swComp (elt := elt) (gs := [⟨tg, it, ifs, 0⟩, ⟨tg1, it1, ifs1, 0⟩]) (scope := scope) (pos := pos) (py := px) (y := x) (l := spos.line) (kd_of o)
  cases b with
  | true => exact ps_setLc2 o.calm hN hi' (hl rfl) hb h1 h2 h3 h4 h5 h6 h7 h8 h9 h10 h11
  | false => exact ps_set hN hi' (by rw [o.sc]; exact s1) (pe_lc2 o.calm hN h1 h2 h3 h4 h5 h6 h7 h8 h9 h10 h11) hb (by rw [o.sc]; exact s2)
theorem set_ok (k : TrOk r) (o : SOk X W φ n C) {x : Str} {i : Nat} {px spos : Pos} {e : Expr} {d : Den} (hx : x ∈ C.st) (hi : slot C.N x = some i) (hn : nocomp e = true) (he : PE X e (tD X.K X.mg W φ d)) :
    PS X (.Assign [.Name x px] e spos) (tAsg (tD X.K X.mg W φ d) (gName i)) := by
  obtain ⟨s1, s2⟩ := o.st x hx
  exact ps_set (by rw [o.N]; exact o.nd) (by rw [o.N]; exact slot_ok hi) (by rw [o.sc]; exact s1) he (sw_no hn) (by rw [o.sc]; exact s2)
theorem new_ok (k : TrOk r) (o : SOk X W φ n C) (e : Expr) : PE X e (tD X.K X.mg W φ (trNew r C e)) := by
  unfold trNew
  split
  · exact se_new (args_ok k o _)
  · split
    · rename_i h; subst h; exact lcE_ok k o _ _ _ _ _ _ _
    · exact pe_bad
  · split
    · rename_i h; subst h
      split
      · rename_i h; subst h; exact lcE2_ok k o _ _ _ _ _ _ _ _ _ _
      · exact pe_bad
    · exact pe_bad
  · split
    · exact k.E _ o
    · exact pe_bad
theorem bad_set {st : Stmt} {i : Nat} (φ : Phi) : PS X st (tAsg (tD X.K X.mg W φ cBad) (gName i)) := ⟨fun _ _ _ _ _ _ q => (tG_bad (φ := φ) q).elim⟩
theorem setNew_ok (k : TrOk r) (o : SOk X W φ n C) {x : Str} {i : Nat} {px spos : Pos} (e : Expr) (hx : x ∈ C.st) (hi : slot C.N x = some i) : PS X (.Assign [.Name x px] e spos) (tAsg (tD X.K X.mg W φ (trNew r C e)) (gName i)) := by
  unfold trNew
  split
  · exact set_ok k o hx hi rfl (se_new (args_ok k o _))
  · split
    · rename_i h; subst h; exact setLc_ok k o _ hx hi _ _ _ _ _
    · exact bad_set φ
  · split
    · rename_i h; subst h
      split
      · rename_i h; subst h; exact setLc2_ok k o _ hx hi _ _ _ _ _ _ _ _
      · exact bad_set φ
    · exact bad_set φ
  · split
    · rename_i h; exact set_ok k o hx hi h (k.E _ o)
    · exact bad_set φ
theorem setKeep_ok (k : TrOk r) (o : SOk X W φ n C) {x : Str} {i : Nat} {px spos : Pos} (e : Expr) (hx : x ∈ C.st) (hi : slot C.N x = some i) : PS X (.Assign [.Name x px] e spos) (tAsg (tD X.K X.mg W φ (trKeep r C e)) (gName i)) := by
  unfold trKeep
  split
  · split
    · rename_i h; subst h; exact setLc_ok k o _ hx hi _ _ _ _ _
    · exact bad_set φ
  · split
    · rename_i h; subst h
      split
      · rename_i h; subst h; exact setLc2_ok k o _ hx hi _ _ _ _ _ _ _ _
      · exact bad_set φ
    · exact bad_set φ
  · split
    · rename_i h; exact set_ok k o hx hi h (k.E _ o)
    · exact bad_set φ
theorem ret_ok (k : TrOk r) (o : SOk X W φ n C) (e : Expr) (pos : Pos) : PS X (.Return (some e) pos) (tSt X.K X.mg W φ (trRet r C e)) := by
  unfold trRet
  split
  · exact ss_ret (new_ok k o e)
  · split
    · split
      · exact ss_retF (k.E _ o)
      · exact ss_ret (k.E _ o)
    · exact ss_ret (k.E _ o)
theorem fm_lt {α β : Type} {f : α → Option β} : ∀ {l : List α}, (∃ a ∈ l, f a = none) → (l.filterMap f).length < l.length
  | [], ⟨_, h, _⟩ => nomatch h
  | a :: l, ⟨b, hb, e⟩ => by
    have le : (l.filterMap f).length ≤ l.length := List.length_filterMap_le _ _
    cases h : f a with
    | none => rw [List.filterMap_cons_none h, List.length_cons]; omega
    | some c =>
      rw [List.filterMap_cons_some h, List.length_cons, List.length_cons]
      rcases List.mem_cons.mp hb with rfl | hb
      · rw [h] at e; cases e
      · have := fm_lt (f := f) ⟨b, hb, e⟩
        omega
def namesOf (env : PySem.Env) (line : Nat) (ts : List Expr) : List Str := ts.filterMap fun
    | .Name id pos => if env.kindOf id == some .local && pos.line == line then some id else none
    | _ => none
theorem namesOf_lt (o : SOk X W φ n C) {line : Nat} {ts : List Expr} (h : ts.all (locN C line) = false) : (namesOf X.env line ts).length < ts.length := by
  refine fm_lt ?_
  obtain ⟨e, he, hl⟩ := List.all_eq_false.mp h
  refine ⟨e, he, ?_⟩
  cases e with
  | Name id p =>
    have : ¬ (X.env.kindOf id == some .local && p.line == line) = true := by
      show ¬ (X.env.scope.names.lookup id == some .local && p.line == line) = true
      rw [o.sc]; exact hl
    dsimp only
    rw [if_neg this]
  | _ => rfl
theorem swapped_none (o : SOk X W φ n C) {ts vs : List Expr} {k1 k2 : Nat} {p1 p2 : Pos} (h : ts.all (locN C (headLine ts)) = false) : swappedStores [.Tuple ts k1 p1] (.Tuple vs k2 p2) X.env = pure none := by
  have hl := namesOf_lt o h
  have e : (namesOf X.env (headLine ts) ts).length != ts.length := by simp; omega
  unfold swappedStores
  dsimp only
  by_cases c1 : (!(ts.length == 2 || ts.length == 3) || vs.length != ts.length || X.env.blockKind != .function) = true
  · rw [if_pos c1]
  · rw [if_neg c1]
    split
    · rfl
    · have e' : ((namesOf X.env (headLine ts) ts).length != ts.length || (namesOf X.env (headLine ts) ts).eraseDups.length != (namesOf X.env (headLine ts) ts).length) = true := by rw [e]; rfl
      exact if_pos e'
theorem swapped_other {ts : List Expr} {e : Expr} {k1 : Nat} {p1 : Pos} {env : PySem.Env} (h : isTup e = false) : swappedStores [.Tuple ts k1 p1] e env = pure none := by
  cases e <;> first | rfl | (cases h)
theorem star_any : ∀ {vs : List Expr}, vs.all nostar = true → (vs.any fun | .Starred .. => true | _ => false) = false
  | [], _ => rfl
  | e :: vs, h => by
    simp only [List.all_cons, Bool.and_eq_true] at h
    rw [List.any_cons, star_any h.2]
    cases e <;> first | rfl | (cases h.1)
theorem swapped_folded {ts vs : List Expr} {k1 k2 : Nat} {p1 p2 : Pos} {env : PySem.Env} (h : vs.all (foldedForSure 8) = true) : swappedStores [.Tuple ts k1 p1] (.Tuple vs k2 p2) env = pure none := by
  unfold swappedStores
  dsimp only
  by_cases c1 : (!(ts.length == 2 || ts.length == 3) || vs.length != ts.length || env.blockKind != .function) = true
  · rw [if_pos c1]
  · rw [if_neg c1]
    have key : ∀ (c : Prop) [Decidable c] (a b : Sem (Option (List Str))), b = a → (if c then a else b) = a := fun c _ a b e => by
      by_cases hc : c
      · rw [if_pos hc]
      · rw [if_neg hc, e]
    refine key _ _ _ ?_
    refine key _ _ _ ?_
    exact if_pos h
theorem swapped_two (o : SOk X W φ n C) {x y : Str} {px py p1 p2 : Pos} {a b : Expr} {k1 k2 : Nat} (h : [Expr.Name x px, .Name y py].all (locN C (headLine [.Name x px, .Name y py])) = true) (hf : folded [a, b] = false) (hs : nostar a = true) (hs' : nostar b = true) (hxy : ¬ x = y) :
    swappedStores [.Tuple [.Name x px, .Name y py] k1 p1] (.Tuple [a, b] k2 p2) X.env = pure (some [x, y]) ∧ C.sc.names.lookup x = some .local ∧ C.sc.names.lookup y = some .local := by
  simp only [List.all_cons, List.all_nil, Bool.and_true, Bool.and_eq_true, locN, beq_iff_eq] at h
  obtain ⟨⟨h1, h2⟩, h3, h4⟩ := h
  refine ⟨?_, h1, h3⟩
  have hb : X.env.blockKind = .function := by unfold Env.blockKind; rw [kd_of o]; rfl
  have kx : X.env.kindOf x = some .local := by show X.env.scope.names.lookup x = _; rw [o.sc]; exact h1
  have ky : X.env.kindOf y = some .local := by show X.env.scope.names.lookup y = _; rw [o.sc]; exact h3
  unfold folded at hf
  simp only [Bool.or_eq_false_iff] at hf
  have st : ([a, b].any fun | .Starred .. => true | _ => false) = false := by
    exact star_any (vs := [a, b]) (by simp [hs, hs'])
  have nm : namesOf X.env (headLine [.Name x px, .Name y py]) [.Name x px, .Name y py] = [x, y] := by
    unfold namesOf
    simp [kx, ky, h2, h4]
  have ed : [x, y].eraseDups = [x, y] := by
    have e1 : (y == x) = false := by simpa using fun z => hxy z.symm
    simp [List.eraseDups_cons, e1]
  unfold swappedStores
  dsimp only
  rw [if_neg (by rw [hb]; simp)]
  refine Eq.trans (if_neg ?_) ?_
  · intro z
    have z : ([a, b].any fun | .Starred .. => true | _ => false) = true := z
    rw [st] at z; cases z
  refine Eq.trans (if_neg ?_) ?_
  · intro z
    have z : ((namesOf X.env (headLine [.Name x px, .Name y py]) [.Name x px, .Name y py]).length != 2 || (namesOf X.env (headLine [.Name x px, .Name y py]) [.Name x px, .Name y py]).eraseDups.length != (namesOf X.env (headLine [.Name x px, .Name y py]) [.Name x px, .Name y py]).length) = true := z
    rw [nm, ed] at z
    simp at z
  refine Eq.trans (if_neg ?_) ?_
  · intro z; rw [hf.1] at z; cases z
  refine Eq.trans (if_neg ?_) ?_
  · intro z; rw [hf.2] at z; cases z
  show pure (some (namesOf X.env (headLine [.Name x px, .Name y py]) [.Name x px, .Name y py])) = _
  rw [nm]
theorem swapped_three (o : SOk X W φ n C) {x y w : Str} {px py pw p1 p2 : Pos} {a b c : Expr} {k1 k2 : Nat} (h : [Expr.Name x px, .Name y py, .Name w pw].all (locN C (headLine [.Name x px, .Name y py, .Name w pw])) = true) (hf : folded [a, b, c] = false) (hs : nostar a = true) (hs' : nostar b = true) (hs2 : nostar c = true)
    (hxy : ¬ x = y) (hxw : ¬ x = w) (hyw : ¬ y = w) :
    swappedStores [.Tuple [.Name x px, .Name y py, .Name w pw] k1 p1] (.Tuple [a, b, c] k2 p2) X.env = pure (some [x, y, w]) ∧ C.sc.names.lookup x = some .local ∧ C.sc.names.lookup y = some .local ∧ C.sc.names.lookup w = some .local := by
  simp only [List.all_cons, List.all_nil, Bool.and_true, Bool.and_eq_true, locN, beq_iff_eq] at h
  obtain ⟨⟨h1, h2⟩, ⟨h3, h4⟩, h5, h6⟩ := h
  refine ⟨?_, h1, h3, h5⟩
  have hb : X.env.blockKind = .function := by unfold Env.blockKind; rw [kd_of o]; rfl
  have kx : X.env.kindOf x = some .local := by show X.env.scope.names.lookup x = _; rw [o.sc]; exact h1
  have ky : X.env.kindOf y = some .local := by show X.env.scope.names.lookup y = _; rw [o.sc]; exact h3
  have kw : X.env.kindOf w = some .local := by show X.env.scope.names.lookup w = _; rw [o.sc]; exact h5
  unfold folded at hf
  simp only [Bool.or_eq_false_iff] at hf
  have st : ([a, b, c].any fun | .Starred .. => true | _ => false) = false := by
    exact star_any (vs := [a, b, c]) (by simp [hs, hs', hs2])
  have nm : namesOf X.env (headLine [.Name x px, .Name y py, .Name w pw]) [.Name x px, .Name y py, .Name w pw] = [x, y, w] := by
    unfold namesOf
    simp [kx, ky, kw, h2, h4, h6]
  have ed : [x, y, w].eraseDups = [x, y, w] := by
    have e1 : (y == x) = false := by simpa using fun z => hxy z.symm
    have e2 : (w == x) = false := by simpa using fun z => hxw z.symm
    have e3 : (w == y) = false := by simpa using fun z => hyw z.symm
    simp [List.eraseDups_cons, e1, e2, e3]
  unfold swappedStores
  dsimp only
  rw [if_neg (by rw [hb]; simp)]
  refine Eq.trans (if_neg ?_) ?_
  · intro z
    have z : ([a, b, c].any fun | .Starred .. => true | _ => false) = true := z
    rw [st] at z; cases z
  refine Eq.trans (if_neg ?_) ?_
  · intro z
    have z : ((namesOf X.env (headLine [.Name x px, .Name y py, .Name w pw]) [.Name x px, .Name y py, .Name w pw]).length != 3 || (namesOf X.env (headLine [.Name x px, .Name y py, .Name w pw]) [.Name x px, .Name y py, .Name w pw]).eraseDups.length != (namesOf X.env (headLine [.Name x px, .Name y py, .Name w pw]) [.Name x px, .Name y py, .Name w pw]).length) = true := z
    rw [nm, ed] at z
    simp at z
  refine Eq.trans (if_neg ?_) ?_
  · intro z; rw [hf.1] at z; cases z
  refine Eq.trans (if_neg ?_) ?_
  · intro z; rw [hf.2] at z; cases z
  show pure (some (namesOf X.env (headLine [.Name x px, .Name y py, .Name w pw]) [.Name x px, .Name y py, .Name w pw])) = _
  rw [nm]
theorem swSole {t e : Expr} {l : Nat} {env : PySem.Env} (h : nocomp e = true) : swapsWithSole [t] e l env = pure false := sw_no h
theorem pargs_ok (k : TrOk r) (o : SOk X W φ n C) : ∀ es : List (Str × Expr), PA X (es.map (·.2)) (tAr X.K X.mg W φ (trPA r C es))
  | [] => sa_nil
  | (x, e) :: es => by
    unfold trPA
    split
    · rename_i h
      refine sa_cons ?_ (pargs_ok k o es) (star_cons h)
      split
      · exact new_ok k o e
      · exact k.E e o
    · exact pa_bad'
theorem par2_ok (k : TrOk r) (o : SOk X W φ n C) {x y : Str} {px py p1 p2 pos : Pos} {a b : Expr} {k1 k2 : Nat} (h : [Expr.Name x px, .Name y py].all (locN C (headLine [.Name x px, .Name y py])) = true) (hf : folded [a, b] = false) :
    PS X (.Assign [.Tuple [.Name x px, .Name y py] k1 p1] (.Tuple [a, b] k2 p2) pos) (tSt X.K X.mg W φ (par2 r C x y a b)) := by
  unfold par2
  split
  · rename_i hh
    simp only [Bool.and_eq_true, Bool.not_eq_true', beq_eq_false_iff_ne] at hh
    obtain ⟨⟨h1, h2⟩, h3⟩ := hh
    split
    · rename_i i j hi hj
      obtain ⟨sw, lx, ly⟩ := swapped_two (k1 := k1) (k2 := k2) (p1 := p1) (p2 := p2) o h hf h1 h2 h3
      have ei := slot_ok hi
      have ej := slot_ok hj
      refine ss_par (ps_par o.calm (by rw [o.N]; exact o.nd) (by rw [o.N]; exact ei) (by rw [o.N]; exact ej) (fun z => ?_) (by rw [o.sc]; exact lx) (by rw [o.sc]; exact ly) (pargs_ok k o [(x, a), (y, b)]) sw rfl)
      subst z
      rw [ei] at ej
      exact h3 (Option.some.inj ej)
    · exact ss_bad
  · exact ss_bad
theorem par3_ok (k : TrOk r) (o : SOk X W φ n C) {x y w : Str} {px py pw p1 p2 pos : Pos} {a b c : Expr} {k1 k2 : Nat} (h : [Expr.Name x px, .Name y py, .Name w pw].all (locN C (headLine [.Name x px, .Name y py, .Name w pw])) = true) (hf : folded [a, b, c] = false) :
    PS X (.Assign [.Tuple [.Name x px, .Name y py, .Name w pw] k1 p1] (.Tuple [a, b, c] k2 p2) pos) (tSt X.K X.mg W φ (par3 r C x y w a b c)) := by
  unfold par3
  split
  · rename_i hh
    simp only [Bool.and_eq_true, Bool.not_eq_true', beq_eq_false_iff_ne] at hh
    obtain ⟨⟨⟨⟨⟨h1, h2⟩, h3⟩, h4⟩, h5⟩, h6⟩ := hh
    split
    · rename_i i j l hi hj hl
      obtain ⟨sw, lx, ly, lw⟩ := swapped_three (k1 := k1) (k2 := k2) (p1 := p1) (p2 := p2) o h hf h1 h2 h3 h4 h5 h6
      have ei := slot_ok hi
      have ej := slot_ok hj
      have el := slot_ok hl
      refine ss_par3 (ps_par3 o.calm (by rw [o.N]; exact o.nd) (by rw [o.N]; exact ei) (by rw [o.N]; exact ej) (by rw [o.N]; exact el) (fun z => ?_) (fun z => ?_) (fun z => ?_) (by rw [o.sc]; exact lx) (by rw [o.sc]; exact ly) (by rw [o.sc]; exact lw) (pargs_ok k o [(x, a), (y, b), (w, c)]) sw rfl)
      · subst z; rw [ei] at ej; exact h4 (Option.some.inj ej)
      · subst z; rw [ei] at el; exact h5 (Option.some.inj el)
      · subst z; rw [ej] at el; exact h6 (Option.some.inj el)
    · exact ss_bad
  · exact ss_bad
def gNs : List Nat → TGs
  | [] => gNil
  | i :: is => gCons (gName i) (gNs is)
theorem gNs_sets {K : PySem.W.Frag} {mg : Str → Option Value} {H : Hp} {S : Sg} : ∀ {is : List Nat} {xs : List Val} {vs : List V} {ρ ρ' : Env} {σ : L2.St} {Q : L2.St → Hp → Prop}, RE K mg H S ρ σ → RVs K mg H S xs vs → sets is xs ρ = some ρ' → (∀ σ', RE K mg H S ρ' σ' → Q σ' H) → gNs is vs σ H Q
  | [], [], _, ρ, ρ', σ, Q, re, r, e, q => by
    cases r
    cases e
    exact ⟨rfl, q σ re⟩
  | [], _ :: _, _, _, _, _, _, _, _, e, _ => by cases e
  | _ :: _, [], _, _, _, _, _, _, _, e, _ => by cases e
  | i :: is, x :: xs, _, ρ, ρ', σ, Q, re, r, e, q => by
    cases r with
    | cons r t =>
      exact ⟨_, _, rfl, gNs_sets (is := is) (re.set r i) t (show sets is xs (ρ.set i (some x)) = some ρ' from e) q⟩
theorem sets_len : ∀ {is : List Nat} {xs : List Val} {ρ ρ' : Env}, sets is xs ρ = some ρ' → xs.length = is.length
  | [], [], _, _, _ => rfl
  | [], _ :: _, _, _, h => by cases h
  | _ :: _, [], _, _, h => by cases h
  | i :: is, x :: xs, ρ, ρ', h => by
    have := sets_len (is := is) (xs := xs) (show sets is xs (ρ.set i (some x)) = some ρ' from h)
    simp [this]
theorem nm_len : ∀ {es : List Expr} {is : List Nat}, nmSlots C es = some is → is.length = es.length ∧ es.all nostar = true
  | [], is, h => by cases h; exact ⟨rfl, rfl⟩
  | e :: es, is, h => by
    cases e <;> first | (unfold nmSlots at h; cases h; done) | skip
    rename_i x p
    unfold nmSlots at h
    split at h
    · split at h
      · rename_i i is' h1 h2
        cases h
        obtain ⟨l1, l2⟩ := nm_len h2
        exact ⟨by simp [l1], by simp [l2, nostar]⟩
      · cases h
    · cases h
theorem nm_pgs (o : SOk X W φ n C) : ∀ {es : List Expr} {is : List Nat}, nmSlots C es = some is → PGs X es (gNs is)
  | [], is, h => by cases h; exact pgs_nil
  | e :: es, is, h => by
    cases e <;> first | (unfold nmSlots at h; cases h; done) | skip
    rename_i x p
    unfold nmSlots at h
    split at h
    · rename_i hs
      split at h
      · rename_i i is' h1 h2
        cases h
        obtain ⟨s1, s2⟩ := o.st _ (by simpa using hs)
        exact pgs_cons (pg_name (by rw [o.N]; exact o.nd) (by rw [o.N]; exact slot_ok h1) (by rw [o.sc]; exact s1) (by rw [o.sc]; exact s2)) (nm_pgs o h2) rfl
      · cases h
    · cases h
theorem swapped_long {ts vs : List Expr} {k1 k2 : Nat} {p1 p2 : Pos} {env : PySem.Env} (h : 4 ≤ ts.length) : swappedStores [.Tuple ts k1 p1] (.Tuple vs k2 p2) env = pure none := by
  unfold swappedStores
  dsimp only
  have c1 : (!(ts.length == 2 || ts.length == 3) || vs.length != ts.length || env.blockKind != .function) = true := by
    have e1 : (ts.length == 2) = false := by rw [beq_eq_false_iff_ne]; omega
    have e2 : (ts.length == 3) = false := by rw [beq_eq_false_iff_ne]; omega
    simp [e1, e2]
  rw [if_pos c1]
theorem nmTup_ok (k : TrOk r) (o : SOk X W φ n C) {ts vs : List Expr} {k1 k2 : Nat} {p1 p2 pos : Pos} {plain : SDen} (hp : PS X (.Assign [.Tuple ts k1 p1] (.Tuple vs k2 p2) pos) (tSt X.K X.mg W φ plain)) (hw : swappedStores [.Tuple ts k1 p1] (.Tuple vs k2 p2) X.env = pure none) :
    PS X (.Assign [.Tuple ts k1 p1] (.Tuple vs k2 p2) pos) (tSt X.K X.mg W φ (nmTup r C ts vs plain)) := by
  unfold nmTup
  split
  · rename_i is his
    split
    · rename_i hl
      obtain ⟨l1, l2⟩ := nm_len his
      obtain ⟨a1, a2⟩ := asgn_all (env := X.env) l2
      have ha := pargs_ok k o ((ts.zip vs).map fun p => (nmOf p.1, p.2))
      have em : ((ts.zip vs).map fun p => (nmOf p.1, p.2)).map (·.2) = vs := by
        rw [List.map_map]
        show (ts.zip vs).map Prod.snd = vs
        exact List.map_snd_zip (by have := hl.1; omega)
      rw [em] at ha
      refine PS.le (ps_asg (pe_tup ha) (pg_tup o.calm (nm_pgs o his) a1 a2) (swSole rfl) hw rfl) fun D σ H ⟨ρ, m, S, re, rm, p⟩ => (stepS re rm p).mono fun us H1 ⟨xs, m1, S1, re1, rm1, e1, r1, p1⟩ => ?_
      split at p1
      · rename_i ρ' ea
        have hlen := sets_len ea
        refine ⟨by rw [← r1.len, line]; have := hl.2; omega, fun q hq => ⟨q, us, rfl, .inl (.inl upd_same), by rw [← r1.len]; omega, ?_⟩⟩
        have x1 : Ext H1 S1 (upd H1 q (.tup us)) S1 := Ext.new hq
        exact gNs_sets (x1.re re1) (x1.rvs r1) ea fun σ' re' => p1 σ' _ S1 x1 (rm1.new hq) re'
      · exact p1.elim
    · exact hp
  · exact hp
theorem swSoleT {ts : List Expr} {k1 : Nat} {p1 : Pos} {e : Expr} {l : Nat} {env : PySem.Env} : swapsWithSole [.Tuple ts k1 p1] e l env = pure false := by
  show swapsWith e (some (.Tuple ts k1 p1)) l env = pure false
  cases e <;> rfl
theorem tup_ok (k : TrOk r) (o : SOk X W φ n C) (ts : List Expr) (k1 : Nat) (p1 : Pos) (e : Expr) (pos : Pos) : PS X (.Assign [.Tuple ts k1 p1] e pos) (tSt X.K X.mg W φ (trTup r C (.Tuple ts k1 p1) ts e)) := by
  have plain : swappedStores [.Tuple ts k1 p1] e X.env = pure none → PS X (.Assign [.Tuple ts k1 p1] e pos) (tSt X.K X.mg W φ (match trG r C (.Tuple ts k1 p1) with | some (.tup gs) => sTup gs (r.E C e) | _ => sBad)) := fun hw => by
    split
    · rename_i gs hg
      exact ss_asg (k.E e o) (G_ok k o _ _ hg) swSoleT hw rfl
    · exact ss_bad
  unfold trTup
  dsimp only
  split
  · rename_i vs k2 p2
    split
    · rename_i hl
      split
      · split
        · rename_i hall
          exact plain (swapped_folded hall)
        · exact ss_bad
      · rename_i hf
        have hf : folded vs = false := by simpa using hf
        split
        · exact par2_ok k o hl hf
        · exact par3_ok k o hl hf
        · split
          · rename_i h4
            exact nmTup_ok k o (plain (swapped_long h4)) (swapped_long h4)
          · exact ss_bad
    · rename_i hl
      have hw := swapped_none (k1 := k1) (k2 := k2) (p1 := p1) (p2 := p2) (vs := vs) o (by simpa using hl)
      exact nmTup_ok k o (plain hw) hw
  · rename_i hne
    refine plain (swapped_other ?_)
    cases e with
    | Tuple vs k2 p2 => exact (hne vs k2 p2 rfl).elim
    | _ => rfl
theorem S_ok (k : TrOk r) (o : SOk X W φ n C) (s : Stmt) : PS X s (tSt X.K X.mg W φ (trS r C s)) := by
  unfold trS
  split
  · exact ss_pass ps_pass
  · split
    · exact ss_pass ps_doc
    · split
      · rename_i h
        exact ss_exp (k.E _ o) (sw_no h)
      · exact ss_bad
  · exact ss_retN
  · exact ret_ok k o _ _
  · exact ss_if (k.T _ o) (Ss_ok k o _) (Ss_ok k o _)
  · split
    · rename_i hx
      split
      · rename_i i hi
        split
        · exact ss_set' (setNew_ok k o _ (by simpa using hx) hi)
        · exact ss_set' (setKeep_ok k o _ (by simpa using hx) hi)
      · exact ss_bad
    · exact ss_bad
  · exact tup_ok k o _ _ _ _ _
  · split
    · rename_i h
      simp only [Bool.and_eq_true] at h
      rename_i oo i tp e pos
      refine ss_put o.room.units (k.E _ o) (k.E _ o) (k.E _ o) (fun v => ?_) (swSole h.2) ?_ rfl
      · cases i <;> first | rfl | (cases h.1)
      · cases e <;> rfl
    · exact ss_bad
  · split
    · rename_i g hg
      split
      · rename_i h
        exact ss_for o.po o.calm (k.I _ _ o) (k.G _ _ o hg) (Ss_ok k o _) fun x => folded_no h
      · exact ss_bad
    · exact ss_bad
  · exact ss_while o.po (k.T _ o) (Ss_ok k o _)
  · exact ss_bad
end
theorem next_ok {r : Tr} (k : TrOk r) : TrOk r.next := ⟨fun {X W φ n C} e o => E_ok k o e, fun {X W φ n C} e o => T_ok k o e, fun {X W φ n C} e t o h => G_ok k o e t h, fun {X W φ n C} tg e o => I_ok k o tg e, fun {X W φ n C} s o => S_ok k o s⟩
theorem trs_ok : ∀ n, TrOk (trs n)
  | 0 => bad_ok
  | n + 1 => next_ok (trs_ok n)
end Pn

set_option Elab.async false
set_option linter.all false
set_option maxRecDepth 100000
set_option autoImplicit false
set_option maxHeartbeats 1000000
namespace Pn
open PySem PySem.Spec PyProof.Rows L2 HT

section
variable {K : PySem.W.Frag} {mg : Str → Option Value} {H H' : Hp} {S S' : Sg} {m m' : Mem}
theorem COk.ext2 (e : Exk H S H S') {a : Addr} {c : Cell} (h : COk K mg H S a c) : COk K mg H S' a c := by
  cases c with
  | lst xs => obtain ⟨vs, h1, h2⟩ := h; exact ⟨vs, h1, e.rps h2⟩
  | dk xs => obtain ⟨vs, h1, h2⟩ := h; exact ⟨vs, h1, h2.k e⟩
  | dt xs => obtain ⟨vs, h1, h2⟩ := h; exact ⟨vs, h1, h2.k e⟩
  | dead => exact h
theorem RX.w (e : Exk H S H S') {x : Exc} {c : Value} {d : Option Addr} (h : RX K mg H S x c d) : RX K mg H S' x c d := by
  obtain ⟨a, h1, h2, h3⟩ := h
  refine ⟨a, h1, h2, ?_⟩
  rcases h3 with h3 | ⟨dd, vs, q1, q2, q3, q4⟩
  · exact .inl h3
  · exact .inr ⟨dd, vs, q1, q2, q3, e.rps q4⟩
theorem take_get {L : List (Option Addr)} {k n : Nat} {o : Option Addr} (h : (L.take k)[n]? = some o) : n < k ∧ L[n]? = some o := by
  have hn : n < k := by
    have := (List.getElem?_eq_some_iff.mp h).1
    rw [List.length_take] at this
    omega
  rw [List.getElem?_take_of_lt hn] at h
  exact ⟨hn, h⟩
theorem Ext.lenle (e : Ext H S H' S') (rm : RM K mg H S m) (rm' : RM K mg H' S' m') : m.length ≤ m'.length := by
  cases hz : m.length with
  | zero => exact Nat.zero_le _
  | succ k =>
    have hk : k < S.L.length := by rw [rm.len]; omega
    obtain ⟨o', h1, _⟩ := e.cells k _ (List.getElem?_eq_getElem hk)
    have := (List.getElem?_eq_some_iff.mp h1).1
    rw [rm'.len] at this
    omega
/-- the cells beyond k go -/
theorem RM.trunc (e : Ext H S H' S') (rm : RM K mg H S m) (rm' : RM K mg H' S' m') :
    Exk H' S' H' ⟨S'.L.take m.length, S'.Z⟩ ∧ Ext H S H' ⟨S'.L.take m.length, S'.Z⟩ ∧ RM K mg H' ⟨S'.L.take m.length, S'.Z⟩ (m'.take m.length) := by
  have sub : ∀ a, some a ∈ S'.L.take m.length → some a ∈ S'.L := fun a h => List.mem_of_mem_take h
  have w : Exk H' S' H' ⟨S'.L.take m.length, S'.Z⟩ := ⟨fun a o h n => ⟨h, fun z => n (z.elim (fun z => .inl (sub a z)) .inr)⟩⟩
  refine ⟨w, ⟨fun a o h n => let ⟨h1, h2⟩ := e.keep a o h n; ⟨h1, fun z => h2 (sub a z)⟩, e.z, fun n o h => ?_⟩, ⟨?_, fun n a h => ?_, fun i j a h1 h2 => rm'.inj i j a (take_get h1).2 (take_get h2).2, fun n h => ?_, rm'.zs⟩⟩
  · obtain ⟨o', h1, h2⟩ := e.cells n o h
    have hn : n < m.length := by rw [← rm.len]; exact (List.getElem?_eq_some_iff.mp h).1
    exact ⟨o', by show (S'.L.take m.length)[n]? = _; rw [List.getElem?_take_of_lt hn]; exact h1, h2⟩
  · show (S'.L.take m.length).length = _
    rw [List.length_take, List.length_take, rm'.len]
  · obtain ⟨hn, h⟩ := take_get h
    obtain ⟨h1, c, h2, h3⟩ := rm'.at_ n a h
    exact ⟨h1, c, by rw [List.getElem?_take_of_lt hn]; exact h2, h3.ext2 w⟩
  · obtain ⟨hn, h⟩ := take_get h
    rw [List.getElem?_take_of_lt hn]
    exact rm'.dead n h
/-- one cell beyond k is handed out -/
theorem RM.trunc1 (e : Ext H S H' S') (rm : RM K mg H S m) (rm' : RM K mg H' S' m') {n : Nat} {o : Option Addr} {c : Cell} (hn : m.length ≤ n) (ho : S'.L[n]? = some o) (hc : m'[n]? = some c) :
    Ext H S H' ⟨S'.L.take m.length ++ [o], S'.Z⟩ ∧ RM K mg H' ⟨S'.L.take m.length ++ [o], S'.Z⟩ (m'.take m.length ++ [c]) ∧ (S'.L.take m.length ++ [o])[m.length]? = some o := by
  have hle := e.lenle rm rm'
  have hl1 : (S'.L.take m.length).length = m.length := by rw [List.length_take, rm'.len]; omega
  have hl2 : (m'.take m.length).length = m.length := by rw [List.length_take]; omega
  have last : (S'.L.take m.length ++ [o])[m.length]? = some o := by
    rw [List.getElem?_append_right (by omega), hl1]; simp
  have cs : ∀ {j : Nat} {p : Option Addr}, (S'.L.take m.length ++ [o])[j]? = some p → (j < m.length ∧ S'.L[j]? = some p) ∨ (j = m.length ∧ p = o) := fun {j p} h => by
    by_cases hj : j < m.length
    · rw [List.getElem?_append_left (by omega)] at h
      exact .inl (take_get h)
    · by_cases hj2 : j = m.length
      · subst hj2; rw [last] at h; exact .inr ⟨rfl, (Option.some.inj h).symm⟩
      · rw [List.getElem?_eq_none (by simp; omega)] at h; cases h
  have sub : ∀ a, some a ∈ S'.L.take m.length ++ [o] → some a ∈ S'.L := fun a h => by
    rcases List.mem_append.mp h with h | h
    · exact List.mem_of_mem_take h
    · have : some a = o := by simpa using h
      rw [this]; exact List.mem_of_getElem? ho
  have w : Exk H' S' H' ⟨S'.L.take m.length ++ [o], S'.Z⟩ := ⟨fun a o h n => ⟨h, fun z => n (z.elim (fun z => .inl (sub a z)) .inr)⟩⟩
  have mcs : ∀ {j : Nat} {x : Cell}, j < m.length → m'[j]? = some x → (m'.take m.length ++ [c])[j]? = some x := fun {j x} hj h => by
    rw [List.getElem?_append_left (by omega), List.getElem?_take_of_lt hj]; exact h
  have mlast : (m'.take m.length ++ [c])[m.length]? = some c := by
    rw [List.getElem?_append_right (by omega), hl2]; simp
  refine ⟨⟨fun a o h n => let ⟨h1, h2⟩ := e.keep a o h n; ⟨h1, fun z => h2 (sub a z)⟩, e.z, fun j p h => ?_⟩, ⟨?_, fun j a h => ?_, fun i j a h1 h2 => ?_, fun j h => ?_, rm'.zs⟩, last⟩
  · obtain ⟨o', h1, h2⟩ := e.cells j p h
    have hj : j < m.length := by rw [← rm.len]; exact (List.getElem?_eq_some_iff.mp h).1
    exact ⟨o', by show (S'.L.take m.length ++ [o])[j]? = _; rw [List.getElem?_append_left (by omega), List.getElem?_take_of_lt hj]; exact h1, h2⟩
  · show (S'.L.take m.length ++ [o]).length = _
    rw [List.length_append, List.length_append, hl1, hl2]; rfl
  · rcases cs h with ⟨hj, h⟩ | ⟨rfl, f⟩
    · obtain ⟨h1, x, h2, h3⟩ := rm'.at_ j a h
      exact ⟨h1, x, mcs hj h2, h3.ext2 w⟩
    · have ho' : S'.L[n]? = some (some a) := by rw [f]; exact ho
      obtain ⟨h1, x, h2, h3⟩ := rm'.at_ n a ho'
      rw [hc] at h2
      cases h2
      exact ⟨h1, c, mlast, h3.ext2 w⟩
  · rcases cs h1 with ⟨hi, f1⟩ | ⟨rfl, f1⟩
    · rcases cs h2 with ⟨hj, f2⟩ | ⟨rfl, f2⟩
      · exact rm'.inj i j a f1 f2
      · have := rm'.inj i n a f1 (by rw [f2]; exact ho)
        omega
    · rcases cs h2 with ⟨hj, f2⟩ | ⟨rfl, f2⟩
      · have := rm'.inj j n a f2 (by rw [f1]; exact ho)
        omega
      · rfl
  · rcases cs h with ⟨hj, f⟩ | ⟨rfl, f⟩
    · exact mcs hj (rm'.dead j f)
    · have := rm'.dead n (by rw [f]; exact ho)
      rw [hc] at this
      cases this
      exact mlast
theorem fin_post {E : XK} {Q : VK} {r : SRes} (rm : RM K mg H S m) (h : Post K mg (RV K mg) E H S Q (fin m.length r)) : PostS K mg (fun c d _ H' => E c d H') H S { nx := fun _ H' => Q .non H', rt := Q } r := by
  cases r with
  | next ρ m' =>
    intro σ' H' S' e rm' re
    obtain ⟨_, x2, x3⟩ := RM.trunc e rm rm'
    exact h .non H' _ x2 x3 .non
  | exc x ρ m' =>
    intro σ' c d H' S' e rm' rx re
    obtain ⟨x1, x2, x3⟩ := RM.trunc e rm rm'
    exact h c d H' _ x2 x3 (rx.w x1)
  | bad => exact h
  | ret v m' =>
    cases v with
    | pv p =>
      intro u H' S' e rm' rv
      obtain ⟨x1, x2, x3⟩ := RM.trunc e rm rm'
      exact h u H' _ x2 x3 (x1.rp rv)
    | ref n =>
      intro u H' S' e rm' rv
      unfold fin at h
      dsimp only at h
      obtain ⟨o, ho, hq⟩ := rv
      split at h
      · rename_i hn
        obtain ⟨x1, x2, x3⟩ := RM.trunc e rm rm'
        exact h u H' _ x2 x3 ⟨o, by show (S'.L.take m.length)[n]? = _; rw [List.getElem?_take_of_lt hn]; exact ho, hq⟩
      · rename_i hn
        split at h
        · rename_i c hc
          obtain ⟨x1, x2, x3⟩ := RM.trunc1 e rm rm' (by omega) ho hc
          exact h u H' _ x1 x2 ⟨o, x3, hq⟩
        · exact h.elim
end
end Pn

set_option Elab.async false
set_option linter.all false
set_option maxRecDepth 100000
set_option autoImplicit false
set_option maxHeartbeats 1000000
namespace Pn
open PySem PySem.Spec PyProof.Rows L2 HT

/-! ### functions -/
structure FI where
  d : He.DefD
  N : List Str
  ps : List Str
  mu : List Str := []
  rn : Bool := false
def storable (sc : Scope) : List Str := (sc.names.map (·.1)).filter fun x => sc.names.lookup x == some .local || sc.names.lookup x == some .cell
def FI.tc (G : List (Str × GK)) (i : FI) : TC := ⟨i.N, i.d.scope, storable i.d.scope, G, i.mu, i.rn⟩
noncomputable def FI.fnd (lv : Nat) (G : List (Str × GK)) (i : FI) : FnD := ⟨i.N.length, i.ps.length, trSs ((trs lv).S (i.tc G)) i.d.body⟩
def fFind (fs : List FI) (x : Str) : Option FI := fs.find? fun i => i.d.name == x
noncomputable def tbl (lv : Nat) (G : List (Str × GK)) (fs : List FI) : Tbl := fun x => (fFind fs x).map (·.fnd lv G)
/-- what is written of the global names -/
def GFact (K : PySem.W.Frag) (mg : Str → Option Value) (fs : List FI) : GK → Str → Prop
  | .free, x => mg x = none
  | .con p, x => ∃ v u, mg x = some u ∧ RelV v u ∧ ∀ H S m, RM K mg H S m → RP K mg H S p v
  | .fn np, x => ∃ i, fFind fs x = some i ∧ i.ps.length = np ∧ mg x = some (.ref (He.fAd K i.d.at_))
def FOk (K : PySem.W.Frag) (i : FI) : Prop := ∃ fd, FunD K i.d.name i.d.qual i.d.params i.d.body i.d.scope [] [] (He.fAd K i.d.at_) fd ∧ Binds K fd i.ps []
theorem start_re {K : PySem.W.Frag} {mg : Str → Option Value} {H : Hp} {S : Sg} {xs : List Val} {vs : List V} (r : RVs K mg H S xs vs) (N : List Str) : RE K mg H S (start N.length xs) (L2.start N vs) := by
  have hl := r.len
  have key : ∀ {xs : List Val} {vs : List V}, RVs K mg H S xs vs → ∀ (i : Nat) (x : Val), xs[i]? = some x → ∃ v, vs[i]? = some v ∧ RV K mg H S x v := by
    intro xs vs r
    induction r with
    | nil => intro i x e; simp at e
    | cons r t ih =>
      intro i x e
      cases i with
      | zero => simp at e; subst e; exact ⟨_, rfl, r⟩
      | succ i =>
        obtain ⟨v, h1, h2⟩ := ih i x (by simpa using e)
        exact ⟨v, by simpa using h1, h2⟩
  unfold start L2.start
  refine ⟨by simp [hl], fun i x e => ?_⟩
  by_cases h : i < xs.length
  · rw [List.getElem?_append_left (by simpa using h), List.getElem?_map] at e
    cases hx : xs[i]? with
    | none => rw [hx] at e; cases e
    | some y =>
      rw [hx] at e
      cases e
      obtain ⟨v, h1, h2⟩ := key r i _ hx
      exact ⟨v, by rw [List.getElem?_append_left (by simp; omega), List.getElem?_map, h1]; rfl, h2⟩
  · rw [List.getElem?_append_right (by simpa using Nat.le_of_not_lt h)] at e
    rw [List.getElem?_replicate] at e
    split at e
    · cases e
    · cases e
section
variable {P : Program} {w : World} {K : PySem.W.Frag} {mg : Str → Option Value} {base : Heap} {fs : List FI} {G : List (Str × GK)} {lv : Nat}
theorem fFind_name {x : Str} {i : FI} (h : fFind fs x = some i) : i ∈ fs ∧ i.d.name = x := by
  have h1 := List.find?_some h
  exact ⟨List.mem_of_find?_eq_some h, by simpa using h1⟩
theorem fns_ok (hf : ∀ i ∈ fs, FOk K i) (hS : ∀ i ∈ fs, FnScope i.N i.ps i.d.scope) (hG : ∀ x k, G.lookup x = some k → GFact K mg fs k x) :
    ∀ n i, fFind fs i.d.name = some i → ∀ fd, FunD K i.d.name i.d.qual i.d.params i.d.body i.d.scope [] [] (He.fAd K i.d.at_) fd →
      FnOk P w K mg base (CX P w) n (He.fAd K i.d.at_) fd i.ps (spOf K mg i.ps.length (phi (tbl lv G fs) n i.d.name)) := by
  intro n
  induction n with
  | zero =>
    intro i hi fd F
    exact ⟨fun vs H Q E h => h.1, fun A outer s H args us vs Q E hr he hb hv hs => by
      obtain ⟨_, m, S, xs, _, _, p⟩ := hs
      exact p.elim⟩
  | succ n ih =>
    intro i hi fd F
    obtain ⟨hmem, _⟩ := fFind_name hi
    have S := hS i hmem
    refine F.ok S (fun vs H Q E h => h.1) fun cdv A outer s H vs Q E hr h => ⟨tSt K mg (fun c d _ H' => E c d H') (phi (tbl lv G fs) n) (trSs ((trs lv).S (i.tc G)) i.d.body), ?_, ?_⟩
    · have o : SOk (cxOf (CX P w) P w K mg base i.N i.d.qual i.d.scope (He.fAd K i.d.at_) cdv A outer s H E) (fun c d _ H' => E c d H') (phi (tbl lv G fs) n) n (i.tc G) := by
        refine ⟨rfl, S.nd, rfl, S.kind, rfl, hr, takes_of rfl rfl rfl rfl, passes_of rfl, fun x hx => ?_, fun x k hk => ?_⟩
        · have hx : x ∈ storable i.d.scope := hx
          unfold storable at hx
          have h2 := (List.mem_filter.mp hx).2
          simp only [Bool.or_eq_true, beq_iff_eq] at h2
          exact ⟨h2, .inl rfl⟩
        · have g := hG x k hk
          cases k with
          | free => exact g
          | con p => exact g
          | fn np =>
            obtain ⟨j, h1, h2, h3⟩ := g
            obtain ⟨m1, m2⟩ := fFind_name h1
            obtain ⟨fdj, Fj, Bj⟩ := hf j m1
            refine ⟨He.fAd K j.d.at_, fdj, j.ps, h3, Fj.kp, Bj, ?_⟩
            have := ih j (by rw [m2]; exact h1) fdj Fj
            rw [m2, h2] at this
            exact this
      exact Ss_ok (X := cxOf (CX P w) P w K mg base i.N i.d.qual i.d.scope (He.fAd K i.d.at_) cdv A outer s H E) (trs_ok lv) o i.d.body
    · obtain ⟨hlen, m, S', xs, rm, rv, p⟩ := h
      refine ⟨start i.N.length xs, m, S', start_re rv i.N, rm, fin_post rm ?_⟩
      have e : phi (tbl lv G fs) (n + 1) i.d.name xs m = fin m.length ((i.fnd lv G).body (phi (tbl lv G fs) n) (start (i.fnd lv G).slots xs) m) := by
        unfold phi
        have ht : tbl lv G fs i.d.name = some (i.fnd lv G) := by unfold tbl; rw [hi]; rfl
        rw [ht]
        dsimp only
        rw [if_pos (by rw [rv.len, hlen]; rfl)]
      rw [e] at p
      exact p
theorem rps_ints {H : Hp} {S : Sg} : ∀ ns : List Int, RPs K mg H S (ns.map PV.int) (ns.map V.int)
  | [] => .nil
  | n :: ns => .cons (.int n) (rps_ints ns)
theorem law_sp {T : Tbl} {k : Nat} {x : Str} {ns : List Int} {m' : Mem} {a : Addr} {H : Hp} (h : phi T k x [.pv (.scr (ns.map PV.int))] [] = .ok (.pv (.bl true)) m') (hs : SqL K H a (ns.map V.int)) :
    spOf K mg 1 (phi T k x) [.ref a] H (fun v _ => v = .bl true) (fun _ _ _ => False) := by
  have no : ∀ b, ¬ (Sg.mk [] []).av b := fun b z => by
    rcases z with z | z <;> cases z
  refine ⟨rfl, [], ⟨[], []⟩, [.pv (.scr (ns.map PV.int))], ⟨rfl, fun n a h => by simp at h, fun i j a h => by simp at h, fun n h => by simp at h, fun z hz => by cases hz⟩, .cons ?_ .nil, ?_⟩
  · refine RP.scr ?_ (rps_ints ns)
    rcases hs with hs | hs
    · exact .inl ⟨hs, no a⟩
    · exact .inr hs
  · rw [h]
    intro b H' S' _ _ r
    cases r
    rfl
def spTop (K : PySem.W.Frag) (mg : Str → Option Value) (f : List Val → Mem → Res Val) : Sp := fun vs H Q _ => spOf K mg 1 f vs H Q fun _ _ _ => False
theorem fn_top {n : Nat} {f : Addr} {fd : FuncData} {ps : List Str} {g : List Val → Mem → Res Val} (F : FnOk P w K mg base (CX P w) n f fd ps (spOf K mg 1 g)) : FnOk P w K mg base L2.CX0 n f fd ps (spTop K mg g) :=
  ⟨fun vs H Q E h => F.len vs H Q (fun _ _ _ => False) h, fun A outer s H args us vs Q E hr he hb hv hs => codeAny_mono (F.run A outer s H args us vs Q (fun _ _ _ => False) hr he hb hv hs) fun r s' h => by
    cases r with
    | error e =>
      obtain ⟨a, B, H', cls, d, _, _, _, _, _, _, _, z⟩ := h
      exact z.elim
    | ok fl => cases fl <;> exact h⟩
end
theorem all_nil {α : Type} {P : α → Prop} : ∀ i ∈ ([] : List α), P i := fun _ h => nomatch h
theorem all_cons {α : Type} {P : α → Prop} {a : α} {l : List α} (h : P a) (t : ∀ i ∈ l, P i) : ∀ i ∈ a :: l, P i := fun i hi => by
  rcases List.mem_cons.mp hi with rfl | hi
  · exact h
  · exact t i hi
end Pn

set_option Elab.async false
set_option linter.all false
set_option maxRecDepth 100000
set_option autoImplicit false
set_option maxHeartbeats 1000000
namespace Pn
open PySem
open L2 (ixN atI)
theorem phi_eq {T : Tbl} {n k p : Nat} {b : SDen} {f : Str} {vs : List Val} {m : Mem} (h : T f = some ⟨k, p, b⟩) (hl : vs.length = p) : phi T (n + 1) f vs m = fin m.length (b (phi T n) (start k vs) m) := by
  unfold phi
  rw [h]
  dsimp only
  rw [if_pos hl]
/-! ### to run a meaning -/
section
variable {φ : Phi} {ρ : Env} {m : Mem} {a b c d : Den} {x y z v : Val} {e : Exc}
def vr : Option (Option Val) → Mem → Res Val
  | some (some v), m => .ok v m
  | _, _ => .bad
@[simp] theorem e_vr : vr (some (some v)) m = .ok v m := (rfl)
@[simp] theorem e_var {i : Nat} : cVar i φ ρ m = vr ρ[i]? m := by
  unfold cVar vr; split <;> simp_all
@[simp] theorem e_con {p : PV} : cC p φ ρ m = .ok (.pv p) m := (rfl)
@[simp] theorem e_nil : aNil φ ρ m = .ok [] m := (rfl)
def cons2 (v : Val) : Res (List Val) → Res (List Val)
  | .ok vs m => .ok (v :: vs) m
  | .exc e m => .exc e m
  | .bad => .bad
def cons1 (r : ADen) (φ : Phi) (ρ : Env) : Res Val → Res (List Val)
  | .ok v m => cons2 v (r φ ρ m)
  | .exc e m => .exc e m
  | .bad => .bad
@[simp] theorem e_cons {r : ADen} : aCons d r φ ρ m = cons1 r φ ρ (d φ ρ m) := by
  unfold aCons cons1; cases d φ ρ m with
  | ok v m1 => simp only [Res.bind_ok]; unfold cons2; cases r φ ρ m1 <;> rfl
  | exc e m1 => rfl
  | bad => rfl
@[simp] theorem e_cons1 {r : ADen} : cons1 r φ ρ (.ok v m) = cons2 v (r φ ρ m) := (rfl)
@[simp] theorem e_cons1x {r : ADen} : cons1 r φ ρ (.exc e m) = .exc e m := (rfl)
@[simp] theorem e_cons2 {vs : List Val} : cons2 v (.ok vs m) = .ok (v :: vs) m := (rfl)
@[simp] theorem e_cons2x : cons2 v (.exc e m) = .exc e m := (rfl)
def tup1 : Res (List Val) → Res Val
  | .ok vs m => match pvs vs with
    | some ps => if ps.length ≤ 16777216 then .ok (.pv (.tup ps)) m else .bad
    | none => .bad
  | .exc e m => .exc e m
  | .bad => .bad
def lst1 : Res (List Val) → Res Val
  | .ok vs m => match pvs vs with
    | some ps => if ps.length ≤ 16777216 then .ok (.pv (.lst ps)) m else .bad
    | none => .bad
  | .exc e m => .exc e m
  | .bad => .bad
def new1 : Res (List Val) → Res Val
  | .ok vs m => match pvs vs with
    | some ps => if ps.length ≤ 16777216 then .ok (.ref m.length) (m ++ [.lst ps]) else .bad
    | none => .bad
  | .exc e m => .exc e m
  | .bad => .bad
@[simp] theorem e_tup {r : ADen} : cTup r φ ρ m = tup1 (r φ ρ m) := by unfold cTup tup1; cases r φ ρ m <;> rfl
@[simp] theorem e_lst {r : ADen} : cLst r φ ρ m = lst1 (r φ ρ m) := by unfold cLst lst1; cases r φ ρ m <;> rfl
@[simp] theorem e_new {r : ADen} : cNew r φ ρ m = new1 (r φ ρ m) := by unfold cNew new1; cases r φ ρ m <;> rfl
@[simp] theorem e_tup1x : tup1 (.exc e m) = .exc e m := (rfl)
@[simp] theorem e_lst1x : lst1 (.exc e m) = .exc e m := (rfl)
theorem tup1_ok {vs : List Val} {ps : List PV} (h : pvs vs = some ps) (hl : ps.length ≤ 16777216) : tup1 (.ok vs m) = .ok (.pv (.tup ps)) m := by unfold tup1; dsimp only; rw [h]; dsimp only; rw [if_pos hl]
theorem lst1_ok {vs : List Val} {ps : List PV} (h : pvs vs = some ps) (hl : ps.length ≤ 16777216) : lst1 (.ok vs m) = .ok (.pv (.lst ps)) m := by unfold lst1; dsimp only; rw [h]; dsimp only; rw [if_pos hl]
theorem new1_ok {vs : List Val} {ps : List PV} (h : pvs vs = some ps) (hl : ps.length ≤ 16777216) : new1 (.ok vs m) = .ok (.ref m.length) (m ++ [.lst ps]) := by unfold new1; dsimp only; rw [h]; dsimp only; rw [if_pos hl]
def pvL (l : List PV) : List Val := l.map Val.pv
@[simp] theorem pvs_map (l : List PV) : pvs (l.map Val.pv) = some l := by
  induction l with
  | nil => rfl
  | cons a l ih => rw [List.map_cons, pvs_cons, ih]; rfl
@[simp] theorem e_tup1_0 : tup1 (.ok [] m) = .ok (.pv (.tup [])) m := (rfl)
@[simp] theorem e_tup1_1 {p1 : PV} : tup1 (.ok [.pv p1] m) = .ok (.pv (.tup [p1])) m := (rfl)
@[simp] theorem e_tup1_2 {p1 p2 : PV} : tup1 (.ok [.pv p1, .pv p2] m) = .ok (.pv (.tup [p1, p2])) m := (rfl)
@[simp] theorem e_tup1_3 {p1 p2 p3 : PV} : tup1 (.ok [.pv p1, .pv p2, .pv p3] m) = .ok (.pv (.tup [p1, p2, p3])) m := (rfl)
@[simp] theorem e_tup1_4 {p1 p2 p3 p4 : PV} : tup1 (.ok [.pv p1, .pv p2, .pv p3, .pv p4] m) = .ok (.pv (.tup [p1, p2, p3, p4])) m := (rfl)
@[simp] theorem e_tup1_5 {p1 p2 p3 p4 p5 : PV} : tup1 (.ok [.pv p1, .pv p2, .pv p3, .pv p4, .pv p5] m) = .ok (.pv (.tup [p1, p2, p3, p4, p5])) m := (rfl)
@[simp] theorem e_tup1_6 {p1 p2 p3 p4 p5 p6 : PV} : tup1 (.ok [.pv p1, .pv p2, .pv p3, .pv p4, .pv p5, .pv p6] m) = .ok (.pv (.tup [p1, p2, p3, p4, p5, p6])) m := (rfl)
@[simp] theorem e_tup1_7 {p1 p2 p3 p4 p5 p6 p7 : PV} : tup1 (.ok [.pv p1, .pv p2, .pv p3, .pv p4, .pv p5, .pv p6, .pv p7] m) = .ok (.pv (.tup [p1, p2, p3, p4, p5, p6, p7])) m := (rfl)
@[simp] theorem e_tup1_8 {p1 p2 p3 p4 p5 p6 p7 p8 : PV} : tup1 (.ok [.pv p1, .pv p2, .pv p3, .pv p4, .pv p5, .pv p6, .pv p7, .pv p8] m) = .ok (.pv (.tup [p1, p2, p3, p4, p5, p6, p7, p8])) m := (rfl)
@[simp] theorem e_lst1_0 : lst1 (.ok [] m) = .ok (.pv (.lst [])) m := (rfl)
@[simp] theorem e_lst1_1 {p1 : PV} : lst1 (.ok [.pv p1] m) = .ok (.pv (.lst [p1])) m := (rfl)
@[simp] theorem e_lst1_2 {p1 p2 : PV} : lst1 (.ok [.pv p1, .pv p2] m) = .ok (.pv (.lst [p1, p2])) m := (rfl)
@[simp] theorem e_lst1_3 {p1 p2 p3 : PV} : lst1 (.ok [.pv p1, .pv p2, .pv p3] m) = .ok (.pv (.lst [p1, p2, p3])) m := (rfl)
@[simp] theorem e_new1_2 {p1 p2 : PV} : new1 (.ok [.pv p1, .pv p2] m) = .ok (.ref m.length) (m ++ [.lst [p1, p2]]) := (rfl)
def bin2 (op : Bop) (x : Val) : Res Val → Res Val
  | .ok y m => .of (bin op m x y) m
  | .exc e m => .exc e m
  | .bad => .bad
def bin1 (op : Bop) (b : Den) (φ : Phi) (ρ : Env) : Res Val → Res Val
  | .ok x m => bin2 op x (b φ ρ m)
  | .exc e m => .exc e m
  | .bad => .bad
@[simp] theorem e_bin {op : Bop} : cBin op a b φ ρ m = bin1 op b φ ρ (a φ ρ m) := by
  unfold cBin bin1; cases a φ ρ m with
  | ok v m1 => simp only [Res.bind_ok]; unfold bin2; cases b φ ρ m1 <;> rfl
  | exc e m1 => rfl
  | bad => rfl
@[simp] theorem e_bin1 {op : Bop} : bin1 op b φ ρ (.ok x m) = bin2 op x (b φ ρ m) := (rfl)
@[simp] theorem e_bin2 {op : Bop} : bin2 op x (.ok y m) = .of (bin op m x y) m := (rfl)
@[simp] theorem e_bin1x {op : Bop} : bin1 op b φ ρ (.exc e m) = .exc e m := (rfl)
@[simp] theorem e_bin2x {op : Bop} : bin2 op x (.exc e m) = .exc e m := (rfl)
def cmp2 (op : Cop) (x : Val) : Res Val → Res Val
  | .ok y m => .of (cmp op m x y) m
  | .exc e m => .exc e m
  | .bad => .bad
def cmp1 (op : Cop) (b : Den) (φ : Phi) (ρ : Env) : Res Val → Res Val
  | .ok x m => cmp2 op x (b φ ρ m)
  | .exc e m => .exc e m
  | .bad => .bad
@[simp] theorem e_cmp {op : Cop} : cCmp op a b φ ρ m = cmp1 op b φ ρ (a φ ρ m) := by
  unfold cCmp cmp1; cases a φ ρ m with
  | ok v m1 => simp only [Res.bind_ok]; unfold cmp2; cases b φ ρ m1 <;> rfl
  | exc e m1 => rfl
  | bad => rfl
@[simp] theorem e_cmp1 {op : Cop} : cmp1 op b φ ρ (.ok x m) = cmp2 op x (b φ ρ m) := (rfl)
@[simp] theorem e_cmp2 {op : Cop} : cmp2 op x (.ok y m) = .of (cmp op m x y) m := (rfl)
def chain3 (o2 : Cop) (y : Val) (c : Den) (φ : Phi) (ρ : Env) (m : Mem) : Option Val → Res Val
  | some (.pv (.bl true)) => cmp2 o2 y (c φ ρ m)
  | some (.pv (.bl false)) => .ok (.pv (.bl false)) m
  | _ => .bad
def chain2 (o1 o2 : Cop) (x : Val) (c : Den) (φ : Phi) (ρ : Env) : Res Val → Res Val
  | .ok y m => chain3 o2 y c φ ρ m (cmp o1 m x y)
  | .exc e m => .exc e m
  | .bad => .bad
def chain1 (o1 o2 : Cop) (b c : Den) (φ : Phi) (ρ : Env) : Res Val → Res Val
  | .ok x m => chain2 o1 o2 x c φ ρ (b φ ρ m)
  | .exc e m => .exc e m
  | .bad => .bad
@[simp] theorem e_chain {o1 o2 : Cop} : cChain o1 o2 a b c φ ρ m = chain1 o1 o2 b c φ ρ (a φ ρ m) := by
  unfold cChain chain1; cases a φ ρ m with
  | ok v m1 =>
    simp only [Res.bind_ok]; unfold chain2; cases b φ ρ m1 with
    | ok y m2 =>
      simp only [Res.bind_ok]
      generalize cmp o1 m2 v y = q
      cases q with
      | none => rfl
      | some q =>
        cases q with
        | ref _ => rfl
        | pv q =>
          cases q <;> first | rfl | skip
          rename_i k
          cases k with
          | false => rfl
          | true => show Res.bind _ _ = cmp2 _ _ _; unfold cmp2; cases c φ ρ m2 <;> rfl
    | exc e m1 => rfl
    | bad => rfl
  | exc e m1 => rfl
  | bad => rfl
@[simp] theorem e_chain1 {o1 o2 : Cop} : chain1 o1 o2 b c φ ρ (.ok x m) = chain2 o1 o2 x c φ ρ (b φ ρ m) := (rfl)
@[simp] theorem e_chain2 {o1 o2 : Cop} : chain2 o1 o2 x c φ ρ (.ok y m) = chain3 o2 y c φ ρ m (cmp o1 m x y) := (rfl)
def ch4 (o2 : Cop) (y : Val) (c : Den) (φ : Phi) (ρ : Env) (m : Mem) (k : Bool) : Res Val := if k = true then cmp2 o2 y (c φ ρ m) else .ok (.pv (.bl false)) m
@[simp] theorem e_chain3 {o2 : Cop} {k : Bool} : chain3 o2 y c φ ρ m (some (.pv (.bl k))) = if k = true then cmp2 o2 y (c φ ρ m) else .ok (.pv (.bl false)) m := by cases k <;> rfl
def neg1 : Res Val → Res Val
  | .ok (.pv (.int i)) m => .ok (.pv (.int (-i))) m
  | .exc e m => .exc e m
  | _ => .bad
@[simp] theorem e_neg : cNeg a φ ρ m = neg1 (a φ ρ m) := by unfold cNeg neg1; cases a φ ρ m <;> simp <;> split <;> simp_all
@[simp] theorem e_neg1 {i : Int} : neg1 (.ok (.pv (.int i)) m) = .ok (.pv (.int (-i))) m := (rfl)
def tru1 : Res Val → Res Bool
  | .ok x m => .of (truth m x) m
  | .exc e m => .exc e m
  | .bad => .bad
@[simp] theorem e_tru : tTru a φ ρ m = tru1 (a φ ρ m) := by unfold tTru tru1; cases a φ ρ m <;> rfl
@[simp] theorem e_tru1 : tru1 (.ok x m) = .of (truth m x) m := (rfl)
@[simp] theorem e_tru1x : tru1 (.exc e m) = .exc e m := (rfl)
def not1 : Res Val → Res Val
  | .ok x m => .of ((truth m x).map fun b => .pv (.bl (!b))) m
  | .exc e m => .exc e m
  | .bad => .bad
@[simp] theorem e_not : cNot a φ ρ m = not1 (a φ ρ m) := by unfold cNot not1; cases a φ ρ m <;> rfl
@[simp] theorem e_not1 : not1 (.ok x m) = .of ((truth m x).map fun b => .pv (.bl (!b))) m := (rfl)
def and2 (b : Den) (φ : Phi) (ρ : Env) (x : Val) (m : Mem) : Option Bool → Res Val
  | some true => b φ ρ m
  | some false => .ok x m
  | none => .bad
def and1 (b : Den) (φ : Phi) (ρ : Env) : Res Val → Res Val
  | .ok x m => and2 b φ ρ x m (truth m x)
  | .exc e m => .exc e m
  | .bad => .bad
@[simp] theorem e_and : cAnd a b φ ρ m = and1 b φ ρ (a φ ρ m) := by
  unfold cAnd and1; cases a φ ρ m with
  | ok x m1 => simp only [Res.bind_ok]; unfold and2; cases truth m1 x with
    | none => rfl
    | some k => cases k <;> rfl
  | exc e m1 => rfl
  | bad => rfl
@[simp] theorem e_and1 : and1 b φ ρ (.ok x m) = and2 b φ ρ x m (truth m x) := (rfl)
@[simp] theorem e_and1x : and1 b φ ρ (.exc e m) = .exc e m := (rfl)
@[simp] theorem e_and2t : and2 b φ ρ x m (some true) = b φ ρ m := (rfl)
@[simp] theorem e_and2f : and2 b φ ρ x m (some false) = .ok x m := (rfl)
def or2 (b : Den) (φ : Phi) (ρ : Env) (x : Val) (m : Mem) : Option Bool → Res Val
  | some true => .ok x m
  | some false => b φ ρ m
  | none => .bad
def or1 (b : Den) (φ : Phi) (ρ : Env) : Res Val → Res Val
  | .ok x m => or2 b φ ρ x m (truth m x)
  | .exc e m => .exc e m
  | .bad => .bad
@[simp] theorem e_or : cOr a b φ ρ m = or1 b φ ρ (a φ ρ m) := by
  unfold cOr or1; cases a φ ρ m with
  | ok x m1 => simp only [Res.bind_ok]; unfold or2; cases truth m1 x with
    | none => rfl
    | some k => cases k <;> rfl
  | exc e m1 => rfl
  | bad => rfl
@[simp] theorem e_or1 : or1 b φ ρ (.ok x m) = or2 b φ ρ x m (truth m x) := (rfl)
@[simp] theorem e_or1x : or1 b φ ρ (.exc e m) = .exc e m := (rfl)
@[simp] theorem e_or2t : or2 b φ ρ x m (some true) = .ok x m := (rfl)
@[simp] theorem e_or2f : or2 b φ ρ x m (some false) = b φ ρ m := (rfl)
def tand1 (b : TDen) (φ : Phi) (ρ : Env) : Res Bool → Res Bool
  | .ok true m => b φ ρ m
  | .ok false m => .ok false m
  | .exc e m => .exc e m
  | .bad => .bad
def tor1 (b : TDen) (φ : Phi) (ρ : Env) : Res Bool → Res Bool
  | .ok true m => .ok true m
  | .ok false m => b φ ρ m
  | .exc e m => .exc e m
  | .bad => .bad
def tnot1 : Res Bool → Res Bool
  | .ok k m => .ok (!k) m
  | .exc e m => .exc e m
  | .bad => .bad
variable {s t : TDen} {k : Bool}
@[simp] theorem e_tand : tAnd s t φ ρ m = tand1 t φ ρ (s φ ρ m) := by
  unfold tAnd tand1; cases s φ ρ m with
  | ok x m1 => cases x <;> rfl
  | exc e m1 => rfl
  | bad => rfl
@[simp] theorem e_tor : tOr s t φ ρ m = tor1 t φ ρ (s φ ρ m) := by
  unfold tOr tor1; cases s φ ρ m with
  | ok x m1 => cases x <;> rfl
  | exc e m1 => rfl
  | bad => rfl
@[simp] theorem e_tnot : tNot s φ ρ m = tnot1 (s φ ρ m) := by unfold tNot tnot1; cases s φ ρ m <;> rfl
@[simp] theorem e_tand1t : tand1 t φ ρ (.ok true m) = t φ ρ m := (rfl)
@[simp] theorem e_tand1f : tand1 t φ ρ (.ok false m) = .ok false m := (rfl)
@[simp] theorem e_tor1t : tor1 t φ ρ (.ok true m) = .ok true m := (rfl)
@[simp] theorem e_tor1f : tor1 t φ ρ (.ok false m) = t φ ρ m := (rfl)
@[simp] theorem e_tnot1 : tnot1 (.ok k m) = .ok (!k) m := (rfl)
def cif1 (a b : Den) (φ : Phi) (ρ : Env) : Res Bool → Res Val
  | .ok true m => a φ ρ m
  | .ok false m => b φ ρ m
  | .exc e m => .exc e m
  | .bad => .bad
@[simp] theorem e_cif : cIf t a b φ ρ m = cif1 a b φ ρ (t φ ρ m) := by
  unfold cIf cif1; cases t φ ρ m with
  | ok x m1 => cases x <;> rfl
  | exc e m1 => rfl
  | bad => rfl
@[simp] theorem e_cif1t : cif1 a b φ ρ (.ok true m) = a φ ρ m := (rfl)
@[simp] theorem e_cif1f : cif1 a b φ ρ (.ok false m) = b φ ρ m := (rfl)
def idx2 (x : Val) : Res Val → Res Val
  | .ok y m => .of (idx m x y) m
  | .exc e m => .exc e m
  | .bad => .bad
def idx1 (b : Den) (φ : Phi) (ρ : Env) : Res Val → Res Val
  | .ok x m => idx2 x (b φ ρ m)
  | .exc e m => .exc e m
  | .bad => .bad
@[simp] theorem e_idx : cIdx a b φ ρ m = idx1 b φ ρ (a φ ρ m) := by
  unfold cIdx idx1; cases a φ ρ m with
  | ok v m1 => simp only [Res.bind_ok]; unfold idx2; cases b φ ρ m1 <;> rfl
  | exc e m1 => rfl
  | bad => rfl
@[simp] theorem e_idx1 : idx1 b φ ρ (.ok x m) = idx2 x (b φ ρ m) := (rfl)
@[simp] theorem e_idx2 : idx2 x (.ok y m) = .of (idx m x y) m := (rfl)
def osome1 : Res Val → Res (Option Int)
  | .ok (.pv (.int i)) m => .ok (some i) m
  | .exc e m => .exc e m
  | _ => .bad
@[simp] theorem e_onone : oNone φ ρ m = .ok none m := (rfl)
@[simp] theorem e_osome : oSome a φ ρ m = osome1 (a φ ρ m) := by unfold oSome osome1; cases a φ ρ m <;> simp <;> split <;> simp_all
@[simp] theorem e_osome1 {i : Int} : osome1 (.ok (.pv (.int i)) m) = .ok (some i) m := (rfl)
def slc3 (x : Val) (l : Option Int) : Res (Option Int) → Res Val
  | .ok h m => .of (slc m x l h) m
  | .exc e m => .exc e m
  | .bad => .bad
def slc2 (hi : ODen) (x : Val) (φ : Phi) (ρ : Env) : Res (Option Int) → Res Val
  | .ok l m => slc3 x l (hi φ ρ m)
  | .exc e m => .exc e m
  | .bad => .bad
def slc1 (lo hi : ODen) (φ : Phi) (ρ : Env) : Res Val → Res Val
  | .ok x m => slc2 hi x φ ρ (lo φ ρ m)
  | .exc e m => .exc e m
  | .bad => .bad
@[simp] theorem e_slc {lo hi : ODen} : cSlc a lo hi φ ρ m = slc1 lo hi φ ρ (a φ ρ m) := by
  unfold cSlc slc1; cases a φ ρ m with
  | ok v m1 =>
    simp only [Res.bind_ok]; unfold slc2; cases lo φ ρ m1 with
    | ok l m2 => simp only [Res.bind_ok]; unfold slc3; cases hi φ ρ m2 <;> rfl
    | exc e m1 => rfl
    | bad => rfl
  | exc e m1 => rfl
  | bad => rfl
@[simp] theorem e_slc1 {lo hi : ODen} : slc1 lo hi φ ρ (.ok x m) = slc2 hi x φ ρ (lo φ ρ m) := (rfl)
@[simp] theorem e_slc2 {hi : ODen} {l : Option Int} : slc2 hi x φ ρ (.ok l m) = slc3 x l (hi φ ρ m) := (rfl)
@[simp] theorem e_slc3 {l h : Option Int} : slc3 x l (.ok h m) = .of (slc m x l h) m := (rfl)
def revV (m : Mem) : Val → Option Val
  | .pv (.tup xs) => some (.pv (.tup xs.reverse))
  | .pv (.lst xs) => some (.pv (.lst xs.reverse))
  | x => (litems m x).map fun xs => .pv (.lst xs.reverse)
def rev1 : Res Val → Res Val
  | .ok x m => .of (revV m x) m
  | .exc e m => .exc e m
  | .bad => .bad
@[simp] theorem e_rev : cRev a φ ρ m = rev1 (a φ ρ m) := by
  unfold cRev rev1; cases a φ ρ m with
  | ok v m1 =>
    simp only [Res.bind_ok]
    cases v with
    | ref n =>
      show (match litems m1 (.ref n) with | some xs => _ | none => _) = Res.of ((litems m1 (.ref n)).map _) _
      cases litems m1 (.ref n) <;> rfl
    | pv p => cases p <;> rfl
  | exc e m1 => rfl
  | bad => rfl
@[simp] theorem e_rev1 : rev1 (.ok x m) = .of (revV m x) m := (rfl)
@[simp] theorem e_revT {xs : List PV} : revV m (.pv (.tup xs)) = some (.pv (.tup xs.reverse)) := (rfl)
def call1 (f : Str) (φ : Phi) : Res (List Val) → Res Val
  | .ok vs m => φ f vs m
  | .exc e m => .exc e m
  | .bad => .bad
@[simp] theorem e_call {f : Str} {r : ADen} : cCall f r φ ρ m = call1 f φ (r φ ρ m) := by unfold cCall call1; cases r φ ρ m <;> rfl
@[simp] theorem e_call1 {f : Str} {vs : List Val} : call1 f φ (.ok vs m) = φ f vs m := (rfl)
def blt1 (f : BFn) : Res (List Val) → Res Val
  | .ok vs m => .of (f m vs) m
  | .exc e m => .exc e m
  | .bad => .bad
@[simp] theorem e_blt {f : BFn} {r : ADen} : cB f r φ ρ m = blt1 f (r φ ρ m) := by unfold cB blt1; cases r φ ρ m <;> rfl
@[simp] theorem e_blt1 {f : BFn} {vs : List Val} : blt1 f (.ok vs m) = .of (f m vs) m := (rfl)
@[simp] theorem e_tyes : tYes φ ρ m = .ok true m := (rfl)
/-! what is walked -/
def seq1 : Res Val → Res (List PV × Gd)
  | .ok x m => .of (iOf m x) m
  | .exc e m => .exc e m
  | .bad => .bad
@[simp] theorem e_seq : iSeq a φ ρ m = seq1 (a φ ρ m) := by unfold iSeq seq1; cases a φ ρ m <;> rfl
@[simp] theorem e_seq1 : seq1 (.ok x m) = .of (iOf m x) m := (rfl)
@[simp] theorem e_iOfT {xs : List PV} : iOf m (.pv (.tup xs)) = some (xs, []) := (rfl)
@[simp] theorem e_iOfS {z : Str} : iOf m (.pv (.str z)) = some (chrs z, []) := (rfl)
@[simp] theorem e_iOfL {xs : List PV} : iOf m (.pv (.lst xs)) = some (xs, []) := (rfl)
def ib1 (f : Mem → List Val → Option (List PV × Gd)) : Res (List Val) → Res (List PV × Gd)
  | .ok vs m => .of (f m vs) m
  | .exc e m => .exc e m
  | .bad => .bad
@[simp] theorem e_ib {f : Mem → List Val → Option (List PV × Gd)} {r : ADen} : iB f r φ ρ m = ib1 f (r φ ρ m) := by unfold iB ib1; cases r φ ρ m <;> rfl
@[simp] theorem e_ib1 {f : Mem → List Val → Option (List PV × Gd)} {vs : List Val} : ib1 f (.ok vs m) = .of (f m vs) m := (rfl)
theorem rng1_ok {j : Int} (h : -(2 ^ 62) ≤ j ∧ j < 2 ^ 62) : rngB1 m [.pv (.int j)] = some (rngP 0 j.toNat, []) := by unfold rngB1; exact if_pos h
theorem rng1_ok' {j : Int} (h0 : -1000000000 ≤ j) (h1 : j ≤ 1000000000) : rngB1 m [.pv (.int j)] = some (rngP 0 j.toNat, []) := by
  have e : (2 : Int) ^ 62 = 4611686018427387904 := by decide +kernel
  exact rng1_ok (by rw [e]; omega)
@[simp] theorem e_zipT {xs ys : List PV} : zipB m [.pv (.tup xs), .pv (.tup ys)] = some (zipP xs ys, []) := (rfl)
/-! comprehensions -/
noncomputable def lc2 (nw : Bool) : Res (List PV) → Res Val
  | .ok ys m => lcEnd nw ys m
  | .exc e m => .exc e m
  | .bad => .bad
noncomputable def lc1 (nw : Bool) (tg : Tgt) (t : TDen) (d : Den) (φ : Phi) (ρ : Env) : Res (List PV × Gd) → Res Val
  | .ok xg m => if xg.1.length < 16777216 then lc2 nw (lcL (lcOne tg t d φ ρ) xg.2 xg.1 m) else .bad
  | .exc e m => .exc e m
  | .bad => .bad
@[simp] theorem e_lc {nw : Bool} {own : List Nat} {it : IDen} {tg : Tgt} : cLc nw own it tg t d φ ρ m = lc1 nw tg t d φ (wipe ρ own) (it φ ρ m) := by
  unfold cLc lc1; cases it φ ρ m with
  | ok v m1 =>
    simp only [Res.bind_ok]
    split
    · unfold lc2; cases lcL (lcOne tg t d φ (wipe ρ own)) v.2 v.1 m1 <;> rfl
    · rfl
  | exc e m1 => rfl
  | bad => rfl
theorem lc1_ok {nw : Bool} {tg : Tgt} {xg : List PV × Gd} (h : xg.1.length < 16777216) : lc1 nw tg t d φ ρ (.ok xg m) = lc2 nw (lcL (lcOne tg t d φ ρ) xg.2 xg.1 m) := if_pos h
@[simp] theorem e_lc2f {ys : List PV} : lc2 false (.ok ys m) = .ok (.pv (.lst ys)) m := (rfl)
def app2 (c : List PV) : Res (List PV) → Res (List PV)
  | .ok ys m => .ok (c ++ ys) m
  | .exc e m => .exc e m
  | .bad => .bad
noncomputable def app1 (f : PV → Mem → Res (List PV)) (g : Gd) (xs : List PV) : Res (List PV) → Res (List PV)
  | .ok c m => app2 c (lcL f g xs m)
  | .exc e m => .exc e m
  | .bad => .bad
@[simp] theorem e_lcL0 {f : PV → Mem → Res (List PV)} : lcL f [] [] m = .ok [] m := by unfold lcL; rw [if_pos (by simp)]
@[simp] theorem e_lcL1 {f : PV → Mem → Res (List PV)} {x : PV} {xs : List PV} : lcL f [] (x :: xs) m = app1 f [] xs (f x m) := by
  rw [lcL, if_pos (by simp)]
  unfold app1; cases f x m with
  | ok c m1 => simp only [Res.bind_ok]; unfold app2; cases lcL f [] xs m1 <;> rfl
  | exc e m1 => rfl
  | bad => rfl
@[simp] theorem e_app1 {f : PV → Mem → Res (List PV)} {g : Gd} {xs c : List PV} : app1 f g xs (.ok c m) = app2 c (lcL f g xs m) := (rfl)
@[simp] theorem e_app2 {c ys : List PV} : app2 c (.ok ys m) = .ok (c ++ ys) m := (rfl)
def one3 : Res Val → Res (List PV)
  | .ok (.pv y) m => .ok [y] m
  | _ => .bad
def one2 (d : Den) (φ : Phi) (ρ : Env) : Res Bool → Res (List PV)
  | .ok true m => one3 (d φ ρ m)
  | .ok false m => .ok [] m
  | _ => .bad
def one1 (t : TDen) (d : Den) (φ : Phi) (m : Mem) : Option Env → Res (List PV)
  | some ρ => one2 d φ ρ (t φ ρ m)
  | none => .bad
@[simp] theorem e_one {tg : Tgt} {p : PV} : lcOne tg t d φ ρ p m = one1 t d φ m (asgn tg p ρ) := by
  unfold lcOne one1
  cases asgn tg p ρ with
  | none => rfl
  | some ρ1 =>
    dsimp only
    unfold one2
    cases t φ ρ1 m with
    | ok k m1 =>
      cases k with
      | false => rfl
      | true =>
        simp only [Res.nox_ok, Res.bind_ok, if_true]
        unfold one3
        cases d φ ρ1 m1 with
        | ok v m2 => cases v <;> rfl
        | exc e m1 => rfl
        | bad => rfl
    | exc e m1 => rfl
    | bad => rfl
@[simp] theorem e_one1 : one1 t d φ m (some ρ) = one2 d φ ρ (t φ ρ m) := (rfl)
@[simp] theorem e_one2t : one2 d φ ρ (.ok true m) = one3 (d φ ρ m) := (rfl)
@[simp] theorem e_one2f : one2 d φ ρ (.ok false m) = .ok [] m := (rfl)
@[simp] theorem e_one3 {p : PV} : one3 (.ok (.pv p) m) = .ok [p] m := (rfl)
@[simp] theorem e_asgnN {i : Nat} {p : PV} : asgn (.name i) p ρ = some (ρ.set i (some (.pv p))) := (rfl)
@[simp] theorem e_asgnT {ts : List Tgt} {xs : List PV} : asgn (.tup ts) (.tup xs) ρ = asgns ts xs ρ := (rfl)
@[simp] theorem e_asgnL {ts : List Tgt} {xs : List PV} : asgn (.tup ts) (.lst xs) ρ = asgns ts xs ρ := (rfl)
@[simp] theorem e_asgns0 : asgns [] [] ρ = some ρ := (rfl)
@[simp] theorem e_asgns1 {i : Nat} {ts : List Tgt} {p : PV} {xs : List PV} : asgns (.name i :: ts) (p :: xs) ρ = asgns ts xs (ρ.set i (some (.pv p))) := (rfl)
/-! statements -/
variable {u w : SDen}
@[simp] theorem e_pass : sPass φ ρ m = .next ρ m := (rfl)
@[simp] theorem e_sbad : sBad φ ρ m = .bad := (rfl)
def seq2 (w : SDen) (φ : Phi) : SRes → SRes
  | .next ρ m => w φ ρ m
  | r => r
@[simp] theorem e_sseq : sSeq u w φ ρ m = seq2 w φ (u φ ρ m) := by unfold sSeq seq2; cases u φ ρ m <;> rfl
@[simp] theorem e_seq2n : seq2 w φ (.next ρ m) = w φ ρ m := (rfl)
@[simp] theorem e_seq2r : seq2 w φ (.ret v m) = .ret v m := (rfl)
@[simp] theorem e_seq2x : seq2 w φ (.exc e ρ m) = .exc e ρ m := (rfl)
def set1 (i : Nat) (ρ : Env) : Res Val → SRes
  | .ok v m => .next (ρ.set i (some v)) m
  | .exc e m => .exc e ρ m
  | .bad => .bad
@[simp] theorem e_set {i : Nat} : sSet i d φ ρ m = set1 i ρ (d φ ρ m) := by unfold sSet set1; cases d φ ρ m <;> rfl
@[simp] theorem e_set1 {i : Nat} : set1 i ρ (.ok v m) = .next (ρ.set i (some v)) m := (rfl)
@[simp] theorem e_set1x {i : Nat} : set1 i ρ (.exc e m) = .exc e ρ m := (rfl)
def tupA2 (m : Mem) : Option Env → SRes
  | some ρ => .next ρ m
  | none => .bad
def tupA1 (ts : List Tgt) (ρ : Env) : Res Val → SRes
  | .ok (.pv p) m => tupA2 m (asgn (.tup ts) p ρ)
  | .exc e m => .exc e ρ m
  | _ => .bad
@[simp] theorem e_stup {ts : List Tgt} : sTup ts d φ ρ m = tupA1 ts ρ (d φ ρ m) := by
  unfold sTup tupA1; cases d φ ρ m with
  | ok v m1 => cases v with
    | pv p => simp only [Res.stm_ok]; unfold tupA2; cases asgn (.tup ts) p ρ <;> rfl
    | ref n => rfl
  | exc e m1 => rfl
  | bad => rfl
@[simp] theorem e_tupA1 {ts : List Tgt} {p : PV} : tupA1 ts ρ (.ok (.pv p) m) = tupA2 m (asgn (.tup ts) p ρ) := (rfl)
@[simp] theorem e_tupA2 : tupA2 m (some ρ) = .next ρ m := (rfl)
def par1 (is : List Nat) (ρ : Env) : Res (List Val) → SRes
  | .ok vs m => tupA2 m (sets is vs ρ)
  | .exc e m => .exc e ρ m
  | .bad => .bad
@[simp] theorem e_par {is : List Nat} {r : ADen} : sPar is r φ ρ m = par1 is ρ (r φ ρ m) := by
  unfold sPar par1; cases r φ ρ m with
  | ok v m1 => simp only [Res.stm_ok]; unfold tupA2; cases sets is v ρ <;> rfl
  | exc e m1 => rfl
  | bad => rfl
@[simp] theorem e_par1 {is : List Nat} {vs : List Val} : par1 is ρ (.ok vs m) = tupA2 m (sets is vs ρ) := (rfl)
@[simp] theorem e_sets0 : sets [] [] ρ = some ρ := (rfl)
@[simp] theorem e_sets1 {i : Nat} {is : List Nat} {vs : List Val} : sets (i :: is) (v :: vs) ρ = sets is vs (ρ.set i (some v)) := (rfl)
def ret1 (ρ : Env) : Res Val → SRes
  | .ok v m => .ret v m
  | .exc e m => .exc e ρ m
  | .bad => .bad
@[simp] theorem e_ret : sRet d φ ρ m = ret1 ρ (d φ ρ m) := by unfold sRet ret1; cases d φ ρ m <;> rfl
@[simp] theorem e_ret1 : ret1 ρ (.ok v m) = .ret v m := (rfl)
@[simp] theorem e_ret1x : ret1 ρ (.exc e m) = .exc e ρ m := (rfl)
def exp1 (ρ : Env) : Res Val → SRes
  | .ok v m => .next ρ m
  | .exc e m => .exc e ρ m
  | .bad => .bad
@[simp] theorem e_exp : sExp d φ ρ m = exp1 ρ (d φ ρ m) := by unfold sExp exp1; cases d φ ρ m <;> rfl
@[simp] theorem e_exp1 : exp1 ρ (.ok v m) = .next ρ m := (rfl)
@[simp] theorem e_exp1x : exp1 ρ (.exc e m) = .exc e ρ m := (rfl)
def sif1 (u w : SDen) (φ : Phi) (ρ : Env) : Res Bool → SRes
  | .ok true m => u φ ρ m
  | .ok false m => w φ ρ m
  | .exc e m => .exc e ρ m
  | .bad => .bad
@[simp] theorem e_sif : sIf t u w φ ρ m = sif1 u w φ ρ (t φ ρ m) := by
  unfold sIf sif1; cases t φ ρ m with
  | ok k m1 => cases k <;> rfl
  | exc e m1 => rfl
  | bad => rfl
@[simp] theorem e_sif1t : sif1 u w φ ρ (.ok true m) = u φ ρ m := (rfl)
@[simp] theorem e_sif1f : sif1 u w φ ρ (.ok false m) = w φ ρ m := (rfl)
@[simp] theorem e_sif1x : sif1 u w φ ρ (.exc e m) = .exc e ρ m := (rfl)
def put3 (p : PV) (n : Nat) (k : Val) (ρ : Env) (m : Mem) (c : Option Cell) : SRes := match putC c k p with
  | some c => .next ρ (m.set n c)
  | none => .bad
theorem e_put {o i : Den} {p : PV} {n : Nat} {k : Val} {m1 m2 m3 : Mem} (h1 : d φ ρ m = .ok (.pv p) m1) (h2 : o φ ρ m1 = .ok (.ref n) m2) (h3 : i φ ρ m2 = .ok k m3) : sPut o i d φ ρ m = put3 p n k ρ m3 m3[n]? := by
  unfold sPut put3
  rw [h1]
  simp only [Res.stm_ok]
  rw [h2]
  simp only [Res.stm_ok]
  rw [h3]
  rfl
noncomputable def for1 (tg : Tgt) (u : SDen) (φ : Phi) (ρ : Env) : Res (List PV × Gd) → SRes
  | .ok xg m => forL tg (u φ) xg.2 xg.1 ρ m
  | .exc e m => .exc e ρ m
  | .bad => .bad
@[simp] theorem e_for {tg : Tgt} {it : IDen} : sFor tg it u φ ρ m = for1 tg u φ ρ (it φ ρ m) := by unfold sFor for1; cases it φ ρ m <;> rfl
@[simp] theorem e_for1 {tg : Tgt} {xg : List PV × Gd} : for1 tg u φ ρ (.ok xg m) = forL tg (u φ) xg.2 xg.1 ρ m := (rfl)
noncomputable def forB (tg : Tgt) (f : Env → Mem → SRes) (g : Gd) (xs : List PV) : SRes → SRes
  | .next ρ m => forL tg f g xs ρ m
  | r => r
noncomputable def forA (tg : Tgt) (f : Env → Mem → SRes) (g : Gd) (xs : List PV) (m : Mem) : Option Env → SRes
  | some ρ => forB tg f g xs (f ρ m)
  | none => .bad
@[simp] theorem e_forL0 {tg : Tgt} {f : Env → Mem → SRes} : forL tg f [] [] ρ m = .next ρ m := by rw [forL, if_pos (by simp)]
@[simp] theorem e_forL1 {tg : Tgt} {f : Env → Mem → SRes} {p : PV} {xs : List PV} : forL tg f [] (p :: xs) ρ m = forA tg f [] xs m (asgn tg p ρ) := by
  rw [forL, if_pos (by simp)]
  cases asgn tg p ρ with
  | none => rfl
  | some ρ1 => unfold forA forB; dsimp only; cases f ρ1 m <;> rfl
@[simp] theorem e_forA {tg : Tgt} {f : Env → Mem → SRes} {g : Gd} {xs : List PV} : forA tg f g xs m (some ρ) = forB tg f g xs (f ρ m) := (rfl)
@[simp] theorem e_forBn {tg : Tgt} {f : Env → Mem → SRes} {g : Gd} {xs : List PV} : forB tg f g xs (.next ρ m) = forL tg f g xs ρ m := (rfl)
@[simp] theorem e_forBr {tg : Tgt} {f : Env → Mem → SRes} {g : Gd} {xs : List PV} : forB tg f g xs (.ret v m) = .ret v m := (rfl)
/-! the end of a function -/
@[simp] theorem e_finN {n : Nat} : fin n (.next ρ m) = .ok (.pv .non) (m.take n) := (rfl)
@[simp] theorem e_finP {n : Nat} {p : PV} : fin n (.ret (.pv p) m) = .ok (.pv p) (m.take n) := (rfl)
@[simp] theorem e_finX {n : Nat} : fin n (.exc e ρ m) = .exc e (m.take n) := (rfl)
@[simp] theorem e_takeL : List.take m.length m = m := List.take_length
/-! values -/
@[simp] theorem v_truN : truth m (.pv .non) = some false := (rfl)
@[simp] theorem v_truB {b : Bool} : truth m (.pv (.bl b)) = some b := (rfl)
@[simp] theorem v_truI {i : Int} : truth m (.pv (.int i)) = some (i != 0) := (rfl)
@[simp] theorem v_truT {xs : List PV} : truth m (.pv (.tup xs)) = some (!xs.isEmpty) := (rfl)
@[simp] theorem v_truL {xs : List PV} : truth m (.pv (.lst xs)) = some (!xs.isEmpty) := (rfl)
@[simp] theorem v_addI {i j : Int} : bin .add m (.pv (.int i)) (.pv (.int j)) = some (.pv (.int (i + j))) := (rfl)
theorem v_addT {xs ys : List PV} (h : xs.length + ys.length ≤ 16777216) : bin .add m (.pv (.tup xs)) (.pv (.tup ys)) = some (.pv (.tup (xs ++ ys))) := if_pos h
theorem v_addL {xs ys : List PV} (h : xs.length + ys.length ≤ 16777216) : bin .add m (.pv (.lst xs)) (.pv (.lst ys)) = some (.pv (.lst (xs ++ ys))) := if_pos h
@[simp] theorem v_subI {i j : Int} : bin .sub m (.pv (.int i)) (.pv (.int j)) = some (.pv (.int (i - j))) := (rfl)
theorem v_mulI {i j : Int} (h : (smallI i || smallI j) = true) : bin .mul m (.pv (.int i)) (.pv (.int j)) = some (.pv (.int (i * j))) := if_pos h
theorem v_mulT {xs : List PV} {j : Int} (h : 0 ≤ j ∧ j ≤ 1000 ∧ xs.length ≤ 1000) : bin .mul m (.pv (.tup xs)) (.pv (.int j)) = some (.pv (.tup (List.replicate j.toNat xs).flatten)) := if_pos h
theorem v_divI {i j : Int} (h : 0 < j ∧ j < 1073741824) : bin .fdiv m (.pv (.int i)) (.pv (.int j)) = some (.pv (.int (i / j))) := if_pos h
theorem v_modI {i j : Int} (h : 0 < j) : bin .mod m (.pv (.int i)) (.pv (.int j)) = some (.pv (.int (i % j))) := if_pos h
theorem v_powI {i j : Int} (h : 0 ≤ j ∧ j ≤ 1000000 ∧ smallI i = true) : bin .pow m (.pv (.int i)) (.pv (.int j)) = some (.pv (.int (i ^ j.toNat))) := if_pos h
@[simp] theorem v_lt {i j : Int} : cmp .lt m (.pv (.int i)) (.pv (.int j)) = some (.pv (.bl (decide (i < j)))) := (rfl)
@[simp] theorem v_le {i j : Int} : cmp .le m (.pv (.int i)) (.pv (.int j)) = some (.pv (.bl (decide (i ≤ j)))) := (rfl)
@[simp] theorem v_gt {i j : Int} : cmp .gt m (.pv (.int i)) (.pv (.int j)) = some (.pv (.bl (decide (j < i)))) := (rfl)
@[simp] theorem v_ge {i j : Int} : cmp .ge m (.pv (.int i)) (.pv (.int j)) = some (.pv (.bl (decide (j ≤ i)))) := (rfl)
@[simp] theorem v_eqI {i j : Int} : cmp .eq m (.pv (.int i)) (.pv (.int j)) = some (.pv (.bl (i == j))) := (rfl)
@[simp] theorem v_neI {i j : Int} : cmp .ne m (.pv (.int i)) (.pv (.int j)) = some (.pv (.bl (!(i == j)))) := (rfl)
theorem v_eq {p q : PV} (h1 : p.okD 60 = true) (h2 : q.okD 60 = true) : cmp .eq m (.pv p) (.pv q) = some (.pv (.bl (eqP p q))) := by
  show (eqV m (.pv p) (.pv q)).map _ = _
  unfold eqV
  simp [h1, h2]
theorem v_ne {p q : PV} (h1 : p.okD 60 = true) (h2 : q.okD 60 = true) : cmp .ne m (.pv p) (.pv q) = some (.pv (.bl (!(eqP p q)))) := by
  show (eqV m (.pv p) (.pv q)).map _ = _
  unfold eqV
  simp [h1, h2]
@[simp] theorem v_isN {p : PV} : cmp .is m (.pv p) (.pv .non) = some (.pv (.bl (isNon (.pv p)))) := (rfl)
@[simp] theorem v_isB {p : PV} {b : Bool} : cmp .is m (.pv p) (.pv (.bl b)) = some (.pv (.bl (isBl b (.pv p)))) := (rfl)
@[simp] theorem v_isnN {p : PV} : cmp .isnot m (.pv p) (.pv .non) = some (.pv (.bl (!isNon (.pv p)))) := (rfl)
@[simp] theorem v_isnB {p : PV} {b : Bool} : cmp .isnot m (.pv p) (.pv (.bl b)) = some (.pv (.bl (!isBl b (.pv p)))) := (rfl)
@[simp] theorem v_isBl {b c : Bool} : isBl b (.pv (.bl c)) = (c == b) := (rfl)
@[simp] theorem v_isNon : isNon (.pv .non) = true := (rfl)
@[simp] theorem e_start {n : Nat} {vs : List Val} : start n vs = vs.map some ++ List.replicate (n - vs.length) none := (rfl)
@[simp] theorem v_isiN {t : String} : bIsi m [.pv .non, .pv (.ty t)] = if t ∈ isTypes then some (.pv (.bl (isSub "NoneType" t))) else none := (rfl)
@[simp] theorem v_isiB {t : String} {b : Bool} : bIsi m [.pv (.bl b), .pv (.ty t)] = if t ∈ isTypes then some (.pv (.bl (isSub "bool" t))) else none := (rfl)
@[simp] theorem v_isiI {t : String} {i : Int} : bIsi m [.pv (.int i), .pv (.ty t)] = if t ∈ isTypes then some (.pv (.bl (isSub "int" t))) else none := (rfl)
@[simp] theorem v_isiS {t : String} {i : Str} : bIsi m [.pv (.str i), .pv (.ty t)] = if t ∈ isTypes then some (.pv (.bl (isSub "str" t))) else none := (rfl)
@[simp] theorem v_isiT {t : String} {xs : List PV} : bIsi m [.pv (.tup xs), .pv (.ty t)] = if t ∈ isTypes then some (.pv (.bl (isSub "tuple" t))) else none := (rfl)
@[simp] theorem v_isiL {t : String} {xs : List PV} : bIsi m [.pv (.lst xs), .pv (.ty t)] = if t ∈ isTypes then some (.pv (.bl (isSub "list" t))) else none := (rfl)
@[simp] theorem ts_int : ("int" ∈ isTypes) = True := by decide
@[simp] theorem ts_bool : ("bool" ∈ isTypes) = True := by decide
@[simp] theorem ts_tuple : ("tuple" ∈ isTypes) = True := by decide
@[simp] theorem ts_str : ("str" ∈ isTypes) = True := by decide
@[simp] theorem ts_list : ("list" ∈ isTypes) = True := by decide
@[simp] theorem su_def {k t : String} : isSub k t = (k == t || (k == "bool" && t == "int")) := (rfl)
theorem v_isi {t k : String} (ht : t ∈ isTypes) (hk : kind m x = some k) : bIsi m [x, .pv (.ty t)] = some (.pv (.bl (isSub k t))) := by
  unfold bIsi
  simp only [ht, hk, if_true, Option.map_some]
@[simp] theorem v_len_T {xs : List PV} : bLen m [.pv (.tup xs)] = some (.pv (.int xs.length)) := (rfl)
@[simp] theorem v_len_L {xs : List PV} : bLen m [.pv (.lst xs)] = some (.pv (.int xs.length)) := (rfl)
@[simp] theorem v_tup_L {xs : List PV} : bTup m [.pv (.lst xs)] = some (.pv (.tup xs)) := (rfl)
@[simp] theorem v_tup_T {xs : List PV} : bTup m [.pv (.tup xs)] = some (.pv (.tup xs)) := (rfl)
@[simp] theorem v_lst_S {xs : List PV} : bLst m [.pv (.scr xs)] = some (.pv (.lst xs)) := (rfl)
@[simp] theorem v_lst_T {xs : List PV} : bLst m [.pv (.tup xs)] = some (.pv (.lst xs)) := (rfl)
@[simp] theorem v_lst_L {xs : List PV} : bLst m [.pv (.lst xs)] = some (.pv (.lst xs)) := (rfl)
@[simp] theorem v_abs {i : Int} : bAbs m [.pv (.int i)] = some (.pv (.int (if i < 0 then -i else i))) := (rfl)
@[simp] theorem v_int {i : Int} : bInt m [.pv (.int i)] = some (.pv (.int i)) := (rfl)
@[simp] theorem v_max2 {i j : Int} : bMax2 m [.pv (.int i), .pv (.int j)] = some (.pv (.int (max i j))) := (rfl)
@[simp] theorem v_min2 {i j : Int} : bMin2 m [.pv (.int i), .pv (.int j)] = some (.pv (.int (min i j))) := (rfl)
@[simp] theorem v_max4 {i j k l : Int} : bMax4 m [.pv (.int i), .pv (.int j), .pv (.int k), .pv (.int l)] = some (.pv (.int (max (max (max i j) k) l))) := (rfl)
@[simp] theorem v_ints {l : List Int} : intsOf (l.map PV.int) = some l := by
  induction l with
  | nil => rfl
  | cons a l ih => rw [List.map_cons]; show (intsOf (l.map PV.int)).map (a :: ·) = _; rw [ih]; rfl
@[simp] theorem v_bls {l : List Bool} : blsOf (l.map PV.bl) = some l := by
  induction l with
  | nil => rfl
  | cons a l ih => rw [List.map_cons]; show (blsOf (l.map PV.bl)).map (a :: ·) = _; rw [ih]; rfl
theorem v_sum {xs : List PV} {l : List Int} (h : xs = l.map PV.int) : bSum m [.pv (.lst xs)] = some (.pv (.int l.sum)) := by subst h; show ((some (l.map PV.int)).bind intsOf).map _ = _; simp
theorem v_all {xs : List PV} {l : List Bool} (h : xs = l.map PV.bl) : bAll m [.pv (.lst xs)] = some (.pv (.bl (l.all id))) := by subst h; show ((some (l.map PV.bl)).bind blsOf).map _ = _; simp
theorem v_idxT {xs : List PV} {i : Int} {p : PV} (h : atI xs i = some p) : idx m (.pv (.tup xs)) (.pv (.int i)) = some (.pv p) := by
  show (match items m (.pv (.tup xs)) with | some xs => (atI xs i).map Val.pv | none => none) = _
  show (atI xs i).map Val.pv = _
  rw [h]; rfl
theorem v_idxL {xs : List PV} {i : Int} {p : PV} (h : atI xs i = some p) : idx m (.pv (.lst xs)) (.pv (.int i)) = some (.pv p) := by
  show (atI xs i).map Val.pv = _
  rw [h]; rfl
theorem atI_nat {α : Type} {xs : List α} {i : Nat} {x : α} (h : xs[i]? = some x) : atI xs (i : Int) = some x := by
  have hl := (List.getElem?_eq_some_iff.mp h).1
  unfold L2.atI L2.ixN
  rw [if_pos (by omega), if_pos (by omega)]
  simpa using h
@[simp] theorem v_idxR {n : Nat} {xs : List PV} {i : Int} (h : m[n]? = some (.lst xs)) : idx m (.ref n) (.pv (.int i)) = (atI xs i).map Val.pv := by
  have this : items m (.ref n) = some xs := by unfold items; dsimp only; rw [h]
  unfold idx
  dsimp only
  rw [this]
/-- d[k] of a dict -/
theorem v_idxD {n : Nat} {k : Val} {p : PV} (h : dget m[n]? k = some (some p)) : idx m (.ref n) k = some (.pv p) := by
  have this : items m (.ref n) = none := by
    unfold items
    dsimp only
    cases hc : m[n]? with
    | none => rfl
    | some c =>
      cases c with
      | lst xs => rw [hc] at h; cases h
      | _ => rfl
  unfold idx
  dsimp only
  rw [this]
  dsimp only
  rw [h]
theorem dat_ref_none {n : Nat} {k : Val} {o : Option PV} (h : dget m[n]? k = some o) : dat m (.ref n) = none := by
  unfold dat
  dsimp only
  cases hc : m[n]? with
  | none => rfl
  | some c =>
    cases c with
    | lst xs => rw [hc] at h; cases h
    | _ => rfl
/-- k in d of a dict -/
theorem v_inD {n : Nat} {k : Val} {o : Option PV} (h : dget m[n]? k = some o) : cmp .isin m k (.ref n) = some (.pv (.bl o.isSome)) := by
  show (inV m k (.ref n)).map _ = _
  have : inV m k (.ref n) = some o.isSome := by
    unfold inV
    split
    · rename_i e
      cases e
    · rename_i x y _
      rw [dat_ref_none h]
      cases dat m x <;> simp [h]
  rw [this]; rfl
theorem v_ninD {n : Nat} {k : Val} {o : Option PV} (h : dget m[n]? k = some o) : cmp .notin m k (.ref n) = some (.pv (.bl (!o.isSome))) := by
  show (inV m k (.ref n)).map _ = _
  have : inV m k (.ref n) = some o.isSome := by
    unfold inV
    split
    · rename_i e
      cases e
    · rename_i x y _
      rw [dat_ref_none h]
      cases dat m x <;> simp [h]
  rw [this]; rfl
@[simp] theorem e_dct {t : Bool} : cDct t φ ρ m = .ok (.ref m.length) (m ++ [if t then .dt [] else .dk []]) := (rfl)
@[simp] theorem e_enumT {xs : List PV} : enumB m [.pv (.tup xs)] = some (enumP xs, []) := (rfl)
@[simp] theorem e_enumL {xs : List PV} : enumB m [.pv (.lst xs)] = some (enumP xs, []) := (rfl)
theorem lcL_pure {f : PV → Mem → Res (List PV)} {h : PV → List PV} : ∀ {xs : List PV}, (∀ x ∈ xs, f x m = .ok (h x) m) → lcL f [] xs m = .ok (xs.flatMap h) m
  | [], _ => by simp
  | x :: xs, hh => by
    rw [e_lcL1, hh x List.mem_cons_self, e_app1, lcL_pure fun y hy => hh y (List.mem_cons_of_mem _ hy), e_app2, List.flatMap_cons]
theorem lcL_map {f : PV → Mem → Res (List PV)} {h : PV → PV} : ∀ {xs : List PV}, (∀ x ∈ xs, f x m = .ok [h x] m) → lcL f [] xs m = .ok (xs.map h) m
  | [], _ => by simp
  | x :: xs, hh => by
    rw [e_lcL1, hh x List.mem_cons_self, e_app1, lcL_map fun y hy => hh y (List.mem_cons_of_mem _ hy), e_app2]
    rfl
theorem lcL_mapf {α : Type} {f : PV → Mem → Res (List PV)} {g : α → PV} {h : α → PV} : ∀ {l : List α}, (∀ x ∈ l, f (g x) m = .ok [h x] m) → lcL f [] (l.map g) m = .ok (l.map h) m
  | [], _ => by simp
  | x :: xs, hh => by
    rw [List.map_cons, e_lcL1, hh x List.mem_cons_self, e_app1, lcL_mapf fun y hy => hh y (List.mem_cons_of_mem _ hy), e_app2]
    rfl
theorem cut1 {α : Type} (xs : List α) : cut xs (some 1) none = xs.drop 1 := by
  unfold cut HT.sIx
  cases xs with
  | nil => rfl
  | cons x xs => simp
@[simp] theorem v_slcT {xs : List PV} {l h : Option Int} : slc m (.pv (.tup xs)) l h = some (.pv (.tup (cut xs l h))) := (rfl)
@[simp] theorem v_slcL {xs : List PV} {l h : Option Int} : slc m (.pv (.lst xs)) l h = some (.pv (.lst (cut xs l h))) := (rfl)
theorem rng0 (n : Nat) : rngP 0 n = (List.range n).map fun (i : Nat) => PV.int (i : Int) := by unfold rngP; simp
theorem lcL_none {f : PV → Mem → Res (List PV)} : ∀ {xs : List PV}, (∀ x ∈ xs, f x m = .ok [] m) → lcL f [] xs m = .ok [] m
  | [], _ => by simp
  | x :: xs, hh => by
    rw [e_lcL1, hh x List.mem_cons_self, e_app1, lcL_none fun y hy => hh y (List.mem_cons_of_mem _ hy), e_app2]
    rfl
/-! min of one list -/
theorem v_minD {xs : List PV} {r : Val} (h : bMin1 m [.pv (.lst xs)] = some r) : bMinD m [.pv (.lst xs)] = some r := by
  unfold bMinD
  rw [h]
theorem v_minP {x : PV} {xs : List PV} (h0 : bMin1 m [.pv (.lst (x :: xs))] = none) (h : (okDs 30 (x :: xs) && alikeB (x :: xs)) = true) : bMinD m [.pv (.lst (x :: xs))] = some (.pv (minP x xs)) := by
  unfold bMinD
  rw [h0]
  have e : litems m (.pv (.lst (x :: xs))) = some (x :: xs) := rfl
  dsimp only
  rw [e]
  dsimp only
  rw [if_pos h]
/-! while -/
theorem whileL_mono {c : Env → Mem → Res Bool} {body : Env → Mem → SRes} : ∀ {n k : Nat} {ρ : Env} {m : Mem}, n ≤ k → whileL c body n ρ m ≠ .bad → whileL c body k ρ m = whileL c body n ρ m
  | 0, _, _, _, _, h => absurd rfl h
  | n + 1, 0, _, _, hk, _ => absurd hk (by omega)
  | n + 1, k + 1, ρ, m, hk, h => by
    unfold whileL at h ⊢
    cases hc : c ρ m with
    | exc e m1 => rfl
    | bad => rfl
    | ok b m1 =>
      rw [hc] at h
      simp only [Res.stm_ok] at h ⊢
      cases b with
      | false => rfl
      | true =>
        simp only [if_true] at h ⊢
        cases hb : body ρ m1 with
        | next ρ1 m2 =>
          rw [hb] at h
          simp only [SRes.thn_next] at h ⊢
          exact whileL_mono (by omega) h
        | ret v m2 => rfl
        | exc e ρ1 m2 => rfl
        | bad => rfl
theorem whileR_of {c : Env → Mem → Res Bool} {body : Env → Mem → SRes} {n : Nat} {r : SRes} (h : whileL c body n ρ m = r) (hr : r ≠ .bad) : whileR c body ρ m = r := by
  have ex : ∃ n, whileL c body n ρ m ≠ .bad := ⟨n, by rw [h]; exact hr⟩
  unfold whileR
  rw [dif_pos ex]
  have hs := ex.choose_spec
  have hn : whileL c body n ρ m ≠ .bad := by rw [h]; exact hr
  rcases Nat.le_total ex.choose n with hle | hle
  · rw [← whileL_mono hle hs]; exact h
  · rw [whileL_mono hle hn]; exact h
theorem e_while {c : TDen} {n : Nat} {r : SRes} (h : whileL (c φ) (u φ) n ρ m = r) (hr : r ≠ .bad) : sWhile c u φ ρ m = r := whileR_of h hr
theorem e_wh1 {c : Env → Mem → Res Bool} {body : Env → Mem → SRes} {n : Nat} {m1 : Mem} {ρ1 : Env} {m2 : Mem} (hc : c ρ m = .ok true m1) (hb : body ρ m1 = .next ρ1 m2) : whileL c body (n + 1) ρ m = whileL c body n ρ1 m2 := by
  rw [whileL, hc]
  simp only [Res.stm_ok, if_true, hb, SRes.thn_next]
theorem e_wh0 {c : Env → Mem → Res Bool} {body : Env → Mem → SRes} {n : Nat} {m1 : Mem} (hc : c ρ m = .ok false m1) : whileL c body (n + 1) ρ m = .next ρ m1 := by
  rw [whileL, hc]
  rfl
end
end Pn

set_option Elab.async false
set_option linter.all false
set_option maxRecDepth 100000
set_option autoImplicit false
set_option maxHeartbeats 1000000
namespace Pn
open PySem L2
/-! texts -/
section
variable {φ : Phi} {ρ : Env} {m : Mem} {s t : Str}
theorem v_truS (h : s.length ≤ 16777216) : truth m (.pv (.str s)) = some ((s.length : Int) != 0) := if_pos h
theorem v_len_S (h : s.length ≤ 16777216) : bLen m [.pv (.str s)] = some (.pv (.int s.length)) := if_pos h
theorem v_slcS {l r : Option Int} (h : s.length ≤ 16777216) : slc m (.pv (.str s)) l r = some (.pv (.str (L2.cutS s l r))) := if_pos h
theorem v_idxS {i : Int} {c : Nat} (h : s.length ≤ 16777216) (hc : atI s.cps.toList i = some c) : idx m (.pv (.str s)) (.pv (.int i)) = some (.pv (.str ⟨#[c]⟩)) := by
  show (if s.length ≤ 16777216 then (atI s.cps.toList i).map fun c => Val.pv (.str ⟨#[c]⟩) else none) = _
  rw [if_pos h, hc]; rfl
@[simp] theorem v_ltS : cmp .lt m (.pv (.str s)) (.pv (.str t)) = some (.pv (.bl (decide (s.cps.toList < t.cps.toList)))) := (rfl)
@[simp] theorem v_eqS : cmp .eq m (.pv (.str s)) (.pv (.str t)) = some (.pv (.bl (s == t))) := by
  rw [v_eq (by simp [PV.okD]) (by simp [PV.okD])]; simp [eqP]
@[simp] theorem v_neS : cmp .ne m (.pv (.str s)) (.pv (.str t)) = some (.pv (.bl (!(s == t)))) := by
  rw [v_ne (by simp [PV.okD]) (by simp [PV.okD])]; simp [eqP]
theorem v_inS {c : Nat} (h : s.cps.toList = [c]) : cmp .isin m (.pv (.str s)) (.pv (.str t)) = some (.pv (.bl (decide (c ∈ t.cps.toList)))) := by
  show (inV m (.pv (.str s)) (.pv (.str t))).map _ = _
  have : inV m (.pv (.str s)) (.pv (.str t)) = some (decide (c ∈ t.cps.toList)) := by unfold inV; dsimp only; rw [h]
  rw [this]; rfl
theorem v_ninS {c : Nat} (h : s.cps.toList = [c]) : cmp .notin m (.pv (.str s)) (.pv (.str t)) = some (.pv (.bl (!decide (c ∈ t.cps.toList)))) := by
  show (inV m (.pv (.str s)) (.pv (.str t))).map _ = _
  have : inV m (.pv (.str s)) (.pv (.str t)) = some (decide (c ∈ t.cps.toList)) := by unfold inV; dsimp only; rw [h]
  rw [this]; rfl
@[simp] theorem v_strS : bStr m [.pv (.str s)] = some (.pv (.str s)) := (rfl)
theorem v_addS (h : s.length + t.length ≤ 16777216) : bin .add m (.pv (.str s)) (.pv (.str t)) = some (.pv (.str (s ++ t))) := if_pos h
theorem v_mulS {k : Int} (h : 2 ≤ k ∧ k ≤ 1000 ∧ 1 ≤ s.length ∧ s.length ≤ 1000) : bin .mul m (.pv (.str s)) (.pv (.int k)) = some (.pv (.str ⟨(List.replicate k.toNat s.cps).foldl (· ++ ·) #[]⟩)) := if_pos h
@[simp] theorem e_zipL {xs ys : List PV} : zipB m [.pv (.lst xs), .pv (.lst ys)] = some (zipP xs ys, []) := (rfl)
@[simp] theorem strsOf_map (l : List Str) : strsOf (l.map PV.str) = some l := by
  induction l with
  | nil => rfl
  | cons a l ih => rw [List.map_cons]; show (strsOf (l.map PV.str)).map (a :: ·) = _; rw [ih]; rfl
theorem v_srtS {l : List Str} (h : l.length < 64) : bSrt m [.pv (.lst (l.map PV.str))] = some (.pv (.lst ((srtB leS l).map PV.str))) := by
  cases l with
  | nil => rfl
  | cons a l =>
    have e : intsOf ((a :: l).map PV.str) = none := rfl
    have e2 : litems m (.pv (.lst ((a :: l).map PV.str))) = some ((a :: l).map PV.str) := rfl
    unfold bSrt
    dsimp only
    rw [e2, Option.bind_some, e]
    dsimp only
    rw [strsOf_map]
    dsimp only
    rw [if_pos h]
def join2 (s : Str) (m : Mem) : Option (List Str) → Res Val
  | some ss => if (ss.map (·.length)).sum + ss.length * s.length ≤ 16777216 then .ok (.pv (.str (Txt.join s ss))) m else .bad
  | none => .bad
def join1 (s : Str) : Res Val → Res Val
  | .ok y m => join2 s m ((items m y).bind strsOf)
  | .exc e m => .exc e m
  | .bad => .bad
@[simp] theorem e_join {d : Den} : cJoin s d φ ρ m = join1 s (d φ ρ m) := by
  unfold cJoin join1; cases d φ ρ m with
  | ok y m1 => simp only [Res.bind_ok]; unfold join2; rfl
  | exc e m1 => rfl
  | bad => rfl
theorem join1_ok {l : List Str} (h : (l.map (·.length)).sum + l.length * s.length ≤ 16777216) : join1 s (.ok (.pv (.lst (l.map PV.str))) m) = .ok (.pv (.str (Txt.join s l))) m := by
  show join2 s m ((some (l.map PV.str)).bind strsOf) = _
  rw [Option.bind_some, strsOf_map]
  exact if_pos h
end
/-- a sign, a text by its signs -/
def sg (c : Nat) : Str := ⟨#[c]⟩
def wd (w : List Nat) : Str := ⟨w.toArray⟩
theorem sg_l {c : Nat} : (sg c).cps.toList = [c] := rfl
theorem wd_l {w : List Nat} : (wd w).cps.toList = w := by simp [wd]
theorem len_sg {c : Nat} : (sg c).length = 1 := rfl
theorem len_wd {w : List Nat} : (wd w).length = w.length := by simp [wd, Str.length]
theorem sg_eq {c d : Nat} : (sg c == sg d) = (c == d) := by
  have : (sg c = sg d) ↔ (c = d) := ⟨fun h => by have := congrArg (fun s => s.cps.toList) h; simpa [sg] using this, fun h => by rw [h]⟩
  rw [Bool.eq_iff_iff, beq_iff_eq, beq_iff_eq]
  exact this
theorem chrs_wd {w : List Nat} : chrs (wd w) = w.map fun c => PV.str (sg c) := by
  unfold chrs
  rw [wd_l]; rfl
theorem cut_wd {w : List Nat} {i : Nat} : L2.cutS (wd w) none (some (i : Int)) = wd (w.take i) := by
  unfold L2.cutS
  rw [wd_l, len_wd]
  have e0 : HT.sIx w.length 0 none = 0 := rfl
  have e1 : HT.sIx w.length w.length (some (i : Int)) = min i w.length := HT.sIx_nat _ _ _
  rw [e0, e1, Nat.sub_zero, List.drop_zero]
  unfold wd
  congr 2
  exact List.take_eq_take_iff.mpr (by omega)
theorem add_wd {a b : List Nat} : wd a ++ wd b = wd (a ++ b) := by
  show (⟨a.toArray ++ b.toArray⟩ : Str) = ⟨(a ++ b).toArray⟩
  rw [List.append_toArray]
theorem join_sg : ∀ (w : List Nat), Txt.join (Str.ofString "") (w.map sg) = wd w := by
  intro w
  show Builtin.Str.glued (Str.ofString "") _ = _
  rw [StrLaws.glued_eq_join]
  have e0 : Str.ofString "" = wd [] := by decide +kernel
  rw [e0]
  induction w with
  | nil => rfl
  | cons c w ih =>
    cases w with
    | nil => rfl
    | cons d w =>
      show sg c ++ wd [] ++ Str.join (wd []) ((d :: w).map sg) = _
      rw [ih]
      show wd [c] ++ wd [] ++ wd (d :: w) = _
      rw [add_wd, add_wd]; rfl
theorem len_ones {w : List Nat} : ((w.map sg).map (·.length)).sum = w.length := by
  induction w with
  | nil => rfl
  | cons c w ih => simp only [List.map_cons, List.sum_cons, ih, len_sg, List.length_cons]; omega
/-! dicts asked, lists shortened -/
section
variable {φ : Phi} {ρ : Env} {m m1 m2 m3 : Mem} {o e f : Den} {n : Nat} {y z : Val}
theorem e_get1 {oo : Option PV} (h1 : o φ ρ m = .ok (.ref n) m1) (hd : isDct m1[n]? = true) (h2 : e φ ρ m1 = .ok y m2) (hg : dget m2[n]? y = some oo) : cDGet1 o e φ ρ m = .ok (.pv (oo.getD .non)) m2 := by
  unfold cDGet1
  rw [h1]
  simp only [Res.bind_ok]
  rw [if_pos hd, h2]
  simp only [Res.bind_ok]
  rw [hg]
theorem e_get2s {p : PV} (h1 : o φ ρ m = .ok (.ref n) m1) (hd : isDct m1[n]? = true) (h2 : e φ ρ m1 = .ok y m2) (h3 : f φ ρ m2 = .ok z m3) (hg : dget m3[n]? y = some (some p)) : cDGet2 o e f φ ρ m = .ok (.pv p) m3 := by
  unfold cDGet2
  rw [h1]
  simp only [Res.bind_ok]
  rw [if_pos hd, h2]
  simp only [Res.bind_ok]
  rw [h3]
  simp only [Res.bind_ok]
  rw [hg]
theorem e_get2n (h1 : o φ ρ m = .ok (.ref n) m1) (hd : isDct m1[n]? = true) (h2 : e φ ρ m1 = .ok y m2) (h3 : f φ ρ m2 = .ok z m3) (hg : dget m3[n]? y = some none) : cDGet2 o e f φ ρ m = .ok z m3 := by
  unfold cDGet2
  rw [h1]
  simp only [Res.bind_ok]
  rw [if_pos hd, h2]
  simp only [Res.bind_ok]
  rw [h3]
  simp only [Res.bind_ok]
  rw [hg]
theorem e_pop {xs : List PV} {p : PV} (h1 : o φ ρ m = .ok (.ref n) m1) (hm : m1[n]? = some (.lst (xs ++ [p]))) : cPop o φ ρ m = .ok (.pv p) (m1.set n (.lst xs)) := by
  unfold cPop
  rw [h1]
  simp only [Res.bind_ok]
  rw [hm]
  simp
@[simp] theorem e_zipTL {m : Mem} {xs ys : List PV} : zipB m [.pv (.tup xs), .pv (.lst ys)] = some (zipP xs ys, []) := (rfl)
@[simp] theorem e_zipLT {m : Mem} {xs ys : List PV} : zipB m [.pv (.lst xs), .pv (.tup ys)] = some (zipP xs ys, []) := (rfl)
@[simp] theorem v_rep {m : Mem} {b : Bool} : bRep m [.pv (.bl b)] = some (.pv (.str (if b then "True" else "False"))) := (rfl)
@[simp] theorem v_repN {m : Mem} : bRep m [.pv .non] = some (.pv (.str "None")) := (rfl)
theorem e_ixo {φ : Phi} {ρ : Env} {m m1 m2 : Mem} {o : Den} {a : ADen} {x : Val} {ys : List PV} {ns : List Int} {k : Int} (h1 : o φ ρ m = .ok x m1) (hl : litems m1 x = some ys) (h2 : a φ ρ m1 = .ok [.pv (.int k)] m2) (hm : litems m2 x = some (ns.map PV.int)) (hk : k ∈ ns) : cIxO o a φ ρ m = .ok (.pv (.int (ns.idxOf k : Nat))) m2 := by
  unfold cIxO
  rw [h1]
  simp only [Res.bind_ok]
  rw [if_pos (by rw [hl]; rfl), h2]
  simp only [Res.bind_ok]
  have : ixB m2 x [.pv (.int k)] = some (.pv (.int (ns.idxOf k : Nat))) := by
    show (((litems m2 x).bind intsOf).bind fun ns => if k ∈ ns then some (Val.pv (.int (ns.idxOf k : Nat))) else none) = _
    rw [hm, Option.bind_some, v_ints, Option.bind_some, if_pos hk]
  rw [this, Res.of_some]
end
end Pn

set_option Elab.async false
set_option linter.all false
set_option maxRecDepth 100000
set_option maxHeartbeats 0
namespace L_k36
open PySem PySem.Spec PyProof.Rows L2 HT Pn
def top (i : Nat) : Stmt := PySem.Challenge.pw_penstrokes_k36_whole_least_sums_of_coupl.main.body.getD i (.Pass ⟨0, 0, 0, 0⟩)
def d_is_whole : He.DefD := ⟨("is_whole", none), "is_whole", "is_whole", defArgs (top 7), defBody (top 7), defScope (top 7), [], []⟩
def d_is_tuple_of : He.DefD := ⟨("is_tuple_of", none), "is_tuple_of", "is_tuple_of", defArgs (top 8), defBody (top 8), defScope (top 8), [], []⟩
def d_fits_point : He.DefD := ⟨("fits_point", none), "fits_point", "fits_point", defArgs (top 9), defBody (top 9), defScope (top 9), [], []⟩
def d_fits_stroke : He.DefD := ⟨("fits_stroke", none), "fits_stroke", "fits_stroke", defArgs (top 10), defBody (top 10), defScope (top 10), [], []⟩
def d_need_stroke : He.DefD := ⟨("need_stroke", none), "need_stroke", "need_stroke", defArgs (top 11), defBody (top 11), defScope (top 11), [], []⟩
def d_far : He.DefD := ⟨("far", none), "far", "far", defArgs (top 12), defBody (top 12), defScope (top 12), [], []⟩
def d_need_loose : He.DefD := ⟨("need_loose", none), "need_loose", "need_loose", defArgs (top 15), defBody (top 15), defScope (top 15), [], []⟩
def d_need_pair : He.DefD := ⟨("need_pair", none), "need_pair", "need_pair", defArgs (top 16), defBody (top 16), defScope (top 16), [], []⟩
def d_ahead_of : He.DefD := ⟨("ahead_of", none), "ahead_of", "ahead_of", defArgs (top 17), defBody (top 17), defScope (top 17), [], []⟩
def d_fits_coupling : He.DefD := ⟨("fits_coupling", none), "fits_coupling", "fits_coupling", defArgs (top 18), defBody (top 18), defScope (top 18), [], []⟩
def d_fits_pairs : He.DefD := ⟨("fits_pairs", none), "fits_pairs", "fits_pairs", defArgs (top 19), defBody (top 19), defScope (top 19), [], []⟩
def d_is_coupling : He.DefD := ⟨("is_coupling", none), "is_coupling", "is_coupling", defArgs (top 20), defBody (top 20), defScope (top 20), [], []⟩
def d_need_lag : He.DefD := ⟨("need_lag", none), "need_lag", "need_lag", defArgs (top 23), defBody (top 23), defScope (top 23), [], []⟩
def d_need_both : He.DefD := ⟨("need_both", none), "need_both", "need_both", defArgs (top 24), defBody (top 24), defScope (top 24), [], []⟩
def d_sums_in : He.DefD := ⟨("sums_in", none), "sums_in", "sums_in", defArgs (top 25), defBody (top 25), defScope (top 25), [], []⟩
def d_sum_in : He.DefD := ⟨("sum_in", none), "sum_in", "sum_in", defArgs (top 26), defBody (top 26), defScope (top 26), [], []⟩
def d_need_bound : He.DefD := ⟨("need_bound", none), "need_bound", "need_bound", defArgs (top 27), defBody (top 27), defScope (top 27), [], []⟩
def d_least_sum : He.DefD := ⟨("least_sum", none), "least_sum", "least_sum", defArgs (top 28), defBody (top 28), defScope (top 28), [], []⟩
def d_sum_coupling : He.DefD := ⟨("sum_coupling", none), "sum_coupling", "sum_coupling", defArgs (top 29), defBody (top 29), defScope (top 29), [], []⟩
def d_sum_of : He.DefD := ⟨("sum_of", none), "sum_of", "sum_of", defArgs (top 30), defBody (top 30), defScope (top 30), [], []⟩
def d_need_all : He.DefD := ⟨("need_all", none), "need_all", "need_all", defArgs (top 31), defBody (top 31), defScope (top 31), [], []⟩
def d_sum_paper : He.DefD := ⟨("sum_paper", none), "sum_paper", "sum_paper", defArgs (top 32), defBody (top 32), defScope (top 32), [], []⟩
def d_is_sum_paper : He.DefD := ⟨("is_sum_paper", none), "is_sum_paper", "is_sum_paper", defArgs (top 33), defBody (top 33), defScope (top 33), [], []⟩
def d__law_cup : He.DefD := ⟨("_law_cup", none), "_law_cup", "_law_cup", defArgs (top 35), defBody (top 35), defScope (top 35), [], []⟩
def d__law_roll : He.DefD := ⟨("_law_roll", none), "_law_roll", "_law_roll", defArgs (top 36), defBody (top 36), defScope (top 36), [], []⟩
def d__law_some : He.DefD := ⟨("_law_some", none), "_law_some", "_law_some", defArgs (top 37), defBody (top 37), defScope (top 37), [], []⟩
def d__law_same : He.DefD := ⟨("_law_same", none), "_law_same", "_law_same", defArgs (top 38), defBody (top 38), defScope (top 38), [], []⟩
def d__law_stroke : He.DefD := ⟨("_law_stroke", none), "_law_stroke", "_law_stroke", defArgs (top 39), defBody (top 39), defScope (top 39), [], []⟩
def d__law_far : He.DefD := ⟨("_law_far", none), "_law_far", "_law_far", defArgs (top 40), defBody (top 40), defScope (top 40), [], []⟩
def d__law_couplings : He.DefD := ⟨("_law_couplings", none), "_law_couplings", "_law_couplings", defArgs (top 41), defBody (top 41), defScope (top 41), [], []⟩
def d__law_price : He.DefD := ⟨("_law_price", none), "_law_price", "_law_price", defArgs (top 42), defBody (top 42), defScope (top 42), [], []⟩
def d__law_is_paper : He.DefD := ⟨("_law_is_paper", none), "_law_is_paper", "_law_is_paper", defArgs (top 43), defBody (top 43), defScope (top 43), [], []⟩
def d__law_right : He.DefD := ⟨("_law_right", none), "_law_right", "_law_right", defArgs (top 44), defBody (top 44), defScope (top 44), [], []⟩
def d_law : He.DefD := ⟨("law", none), "law", "law", defArgs (top 45), defBody (top 45), defScope (top 45), [], []⟩
def fn : List He.DefD := ([d_is_whole, d_is_tuple_of, d_fits_point, d_fits_stroke, d_need_stroke, d_far, d_need_loose, d_need_pair, d_ahead_of, d_fits_coupling, d_fits_pairs, d_is_coupling, d_need_lag, d_need_both, d_sums_in, d_sum_in, d_need_bound, d_least_sum, d_sum_coupling, d_sum_of] : List He.DefD) ++ ([d_need_all, d_sum_paper, d_is_sum_paper, d__law_cup, d__law_roll, d__law_some, d__law_same, d__law_stroke, d__law_far, d__law_couplings, d__law_price, d__law_is_paper, d__law_right, d_law] : List He.DefD)
def fa : List He.Fa := ([.glo "is_whole", .glo "is_tuple_of", .glo "fits_point", .glo "fits_stroke", .glo "need_stroke", .glo "far", .glo "need_loose", .glo "need_pair", .glo "ahead_of", .glo "fits_coupling", .glo "fits_pairs", .glo "is_coupling", .glo "need_lag", .glo "need_both", .glo "sums_in", .glo "sum_in", .glo "need_bound", .glo "least_sum", .glo "sum_coupling", .glo "sum_of"] : List He.Fa) ++ ([.glo "need_all", .glo "sum_paper", .glo "is_sum_paper", .glo "_law_cup", .glo "_law_roll", .glo "_law_some", .glo "_law_same", .glo "_law_stroke", .glo "_law_far", .glo "_law_couplings", .glo "_law_price", .glo "_law_is_paper", .glo "_law_right", .glo "law", .glo "StrokeError", .glo "InvalidStroke", .glo "InvalidNumber", .int "SIDE" 10000, .int "POINTS" 127, .int "LOOSE" 20000] : List He.Fa) ++ ([.int "BOUND" 100000000, .free "abs", .free "all", .free "any", .free "enumerate", .free "int", .free "isinstance", .free "len", .free "list", .free "max", .free "min", .free "range", .free "repr", .free "str", .free "sum", .free "tuple", .free "zip", .free "bool"] : List He.Fa)
def loose : List PySem.Str := (["StrokeError", "InvalidStroke", "InvalidNumber", "SIDE", "POINTS", "is_whole", "is_tuple_of", "fits_point", "fits_stroke", "need_stroke", "far", "LOOSE", "need_loose", "need_pair", "ahead_of", "fits_coupling", "fits_pairs", "is_coupling", "BOUND", "need_lag"] : List PySem.Str) ++ (["need_both", "sums_in", "sum_in", "need_bound", "least_sum", "sum_coupling", "sum_of", "need_all", "sum_paper", "is_sum_paper", "_law_cup", "_law_roll", "_law_some", "_law_same", "_law_stroke", "_law_far", "_law_couplings", "_law_price", "_law_is_paper", "_law_right"] : List PySem.Str)
abbrev R : PySem.W.OpenRow := PySem.W.OpenLaw.row PySem.Challenge.rw_penstrokes_k36_whole_least_sums_of_coupl
abbrev hk : PySem.W.Hook := He.hookD 4 fa fn
def ob (s : PySem.W.SharedT) : He.AlD := He.obsDG 4 fa fn (HandSHeadRun.getT s)
theorem ob_eq (s : PySem.W.SharedT) : ob s = hk.obs s.abs := He.obsDG_eq (HandSHeadRun.getT_eq s)
theorem run (w : World) : HandSHeadRun.RunEq R (PySem.W.view R.prog [45]) hk ob 4000 loose w := by
  intro os
  kernel_rfl
def i_is_whole : FI := ⟨d_is_whole, ["value", "low", "high"], ["value", "low", "high"], [], false⟩
def i_is_tuple_of : FI := ⟨d_is_tuple_of, ["value", "low", "high"], ["value", "low", "high"], [], false⟩
def i_fits_point : FI := ⟨d_fits_point, ["value"], ["value"], [], false⟩
def i_fits_stroke : FI := ⟨d_fits_stroke, ["value", "one"], ["value"], [], false⟩
def i_need_stroke : FI := ⟨d_need_stroke, ["stroke"], ["stroke"], [], false⟩
def i_far : FI := ⟨d_far, ["one", "other"], ["one", "other"], [], false⟩
def i_need_loose : FI := ⟨d_need_loose, ["loose"], ["loose"], [], false⟩
def i_need_pair : FI := ⟨d_need_pair, ["one", "other", "loose"], ["one", "other", "loose"], [], false⟩
def i_ahead_of : FI := ⟨d_ahead_of, ["at", "by", "own", "its"], ["at", "by"], [], false⟩
def i_fits_coupling : FI := ⟨d_fits_coupling, ["one", "other", "loose", "value", "pair", "later", "at", "by"], ["one", "other", "loose", "value"], [], false⟩
def i_fits_pairs : FI := ⟨d_fits_pairs, ["one", "other", "value", "pair", "at", "by"], ["one", "other", "value"], [], false⟩
def i_is_coupling : FI := ⟨d_is_coupling, ["one", "other", "loose", "value"], ["one", "other", "loose", "value"], [], false⟩
def i_need_lag : FI := ⟨d_need_lag, ["lag"], ["lag"], [], false⟩
def i_need_both : FI := ⟨d_need_both, ["one", "other", "lag"], ["one", "other", "lag"], [], false⟩
def i_sums_in : FI := ⟨d_sums_in, ["one", "other", "lag", "found", "at", "point", "by", "rows", "pair"], ["one", "other", "lag"], ["{t"], false⟩
def i_sum_in : FI := ⟨d_sum_in, ["one", "other", "lag"], ["one", "other", "lag"], [], false⟩
def i_need_bound : FI := ⟨d_need_bound, ["bound"], ["bound"], [], false⟩
def i_least_sum : FI := ⟨d_least_sum, ["one", "other", "lag"], ["one", "other", "lag"], [], false⟩
def i_sum_coupling : FI := ⟨d_sum_coupling, ["one", "other", "lag", "sums", "pair", "found", "rows", "own"], ["one", "other", "lag"], ["found"], false⟩
def i_sum_of : FI := ⟨d_sum_of, ["one", "other", "lag", "value", "at", "by"], ["one", "other", "lag", "value"], [], false⟩
def i_need_all : FI := ⟨d_need_all, ["one", "other", "lag", "bound"], ["one", "other", "lag", "bound"], [], false⟩
def i_sum_paper : FI := ⟨d_sum_paper, ["one", "other", "lag", "bound", "least", "sums", "at", "by"], ["one", "other", "lag", "bound"], [], false⟩
def i_is_sum_paper : FI := ⟨d_is_sum_paper, ["one", "other", "lag", "bound", "value", "many", "row", "own", "at", "by", "rows", "mine", "its"], ["one", "other", "lag", "bound", "value"], [], false⟩
def i__law_cup : FI := ⟨d__law_cup, ["script", "cell"], ["script"], [], true⟩
def i__law_roll : FI := ⟨d__law_roll, ["cup", "many", "found", "deep"], ["cup", "many"], [], false⟩
def i__law_some : FI := ⟨d__law_some, ["cup", "things"], ["cup", "things"], [], false⟩
def i__law_same : FI := ⟨d__law_same, ["told", "due", "at"], ["told", "due"], [], false⟩
def i__law_stroke : FI := ⟨d__law_stroke, ["cup", "most", "wide", "point"], ["cup", "most", "wide"], [], false⟩
def i__law_far : FI := ⟨d__law_far, ["one", "other", "across", "up"], ["one", "other"], [], false⟩
def i__law_couplings : FI := ⟨d__law_couplings, ["many", "its", "wide", "line", "found", "turn", "later", "row", "pair", "at", "by"], ["many", "its", "wide"], ["later"], false⟩
def i__law_price : FI := ⟨d__law_price, ["one", "other", "row", "at", "by"], ["one", "other", "row"], [], false⟩
def i__law_is_paper : FI := ⟨d__law_is_paper, ["one", "other", "wide", "bound", "value", "at", "by", "ahead", "pair"], ["one", "other", "wide", "bound", "value"], [], false⟩
def i__law_right : FI := ⟨d__law_right, ["cup", "most", "far_v", "one", "other", "wide", "rows", "sums", "row", "least", "best", "turn", "at", "value", "bound", "paper", "due", "by", "good", "odds", "odd"], ["cup", "most", "far_v"], [], false⟩
def i_law : FI := ⟨d_law, ["script", "cup", "one", "other", "told", "odds", "odd", "rows", "value", "most", "far_v"], ["script"], [], false⟩
def fs : List FI := ([i_is_whole, i_is_tuple_of, i_fits_point, i_fits_stroke, i_need_stroke, i_far, i_need_loose, i_need_pair, i_ahead_of, i_fits_coupling, i_fits_pairs, i_is_coupling, i_need_lag, i_need_both, i_sums_in, i_sum_in, i_need_bound, i_least_sum, i_sum_coupling, i_sum_of] : List FI) ++ ([i_need_all, i_sum_paper, i_is_sum_paper, i__law_cup, i__law_roll, i__law_some, i__law_same, i__law_stroke, i__law_far, i__law_couplings, i__law_price, i__law_is_paper, i__law_right, i_law] : List FI)
def G : List (Str × GK) := ([("SIDE", .con (.int 10000)), ("POINTS", .con (.int 127)), ("is_whole", .fn 3), ("is_tuple_of", .fn 3), ("fits_point", .fn 1), ("fits_stroke", .fn 1), ("need_stroke", .fn 1), ("far", .fn 2), ("LOOSE", .con (.int 20000)), ("need_loose", .fn 1), ("need_pair", .fn 3), ("ahead_of", .fn 2), ("fits_coupling", .fn 4), ("fits_pairs", .fn 3), ("is_coupling", .fn 4), ("BOUND", .con (.int 100000000)), ("need_lag", .fn 1), ("need_both", .fn 3), ("sums_in", .fn 3), ("sum_in", .fn 3)] : List (Str × GK)) ++ ([("need_bound", .fn 1), ("least_sum", .fn 3), ("sum_coupling", .fn 3), ("sum_of", .fn 4), ("need_all", .fn 4), ("sum_paper", .fn 4), ("is_sum_paper", .fn 5), ("_law_cup", .fn 1), ("_law_roll", .fn 2), ("_law_some", .fn 2), ("_law_same", .fn 2), ("_law_stroke", .fn 3), ("_law_far", .fn 2), ("_law_couplings", .fn 3), ("_law_price", .fn 3), ("_law_is_paper", .fn 5), ("_law_right", .fn 3), ("law", .fn 1), ("abs", .free), ("all", .free)] : List (Str × GK)) ++ ([("any", .free), ("enumerate", .free), ("int", .free), ("isinstance", .free), ("len", .free), ("list", .free), ("max", .free), ("min", .free), ("range", .free), ("repr", .free), ("str", .free), ("sum", .free), ("tuple", .free), ("zip", .free), ("bool", .free)] : List (Str × GK))
noncomputable abbrev T : Tbl := tbl 30 G fs
noncomputable def m_is_whole : SDen := sRet (cAnd (cB bIsi (aCons (cVar 0) (aCons (cC (.ty "int")) (aNil)))) (cAnd (cNot (cB bIsi (aCons (cVar 0) (aCons (cC (.ty "bool")) (aNil))))) (cChain .le .le (cVar 1) (cVar 0) (cVar 2))))
noncomputable def m_is_tuple_of : SDen := sRet (cAnd (cB bIsi (aCons (cVar 0) (aCons (cC (.ty "tuple")) (aNil)))) (cChain .le .le (cVar 1) (cB bLen (aCons (cVar 0) (aNil))) (cVar 2)))
noncomputable def m_fits_point : SDen := sRet (cAnd (cCall "is_tuple_of" (aCons (cVar 0) (aCons (cC (.int 2)) (aCons (cC (.int 2)) (aNil))))) (cAnd (cCall "is_whole" (aCons (cIdx (cVar 0) (cC (.int 0))) (aCons (cNeg (cC (.int 10000))) (aCons (cC (.int 10000)) (aNil))))) (cCall "is_whole" (aCons (cIdx (cVar 0) (cC (.int 1))) (aCons (cNeg (cC (.int 10000))) (aCons (cC (.int 10000)) (aNil)))))))
noncomputable def m_fits_stroke : SDen := sRet (cAnd (cCall "is_tuple_of" (aCons (cVar 0) (aCons (cC (.int 1)) (aCons (cC (.int 127)) (aNil))))) (cB bAll (aCons (cLc false [1] (iSeq (cVar 0)) (.name 1) (tYes) (cCall "fits_point" (aCons (cVar 1) (aNil)))) (aNil))))
noncomputable def m_need_stroke : SDen := sIf (tNot (tTru (cCall "fits_stroke" (aCons (cVar 0) (aNil))))) (sBad) (sPass)
noncomputable def m_far : SDen := sRet (cB bMax2 (aCons (cB bAbs (aCons (cBin .sub (cIdx (cVar 0) (cC (.int 0))) (cIdx (cVar 1) (cC (.int 0)))) (aNil))) (aCons (cB bAbs (aCons (cBin .sub (cIdx (cVar 0) (cC (.int 1))) (cIdx (cVar 1) (cC (.int 1)))) (aNil))) (aNil))))
noncomputable def m_need_loose : SDen := sIf (tNot (tTru (cCall "is_whole" (aCons (cVar 0) (aCons (cC (.int 0)) (aCons (cC (.int 20000)) (aNil))))))) (sBad) (sPass)
noncomputable def m_need_pair : SDen := sSeq (sExp (cCall "need_stroke" (aCons (cVar 0) (aNil)))) (sSeq (sExp (cCall "need_stroke" (aCons (cVar 1) (aNil)))) (sExp (cCall "need_loose" (aCons (cVar 2) (aNil)))))
noncomputable def m_ahead_of : SDen := sRet (cLc false [2, 3] (iSeq (cTup (aCons (cTup (aCons (cBin .sub (cVar 0) (cC (.int 1))) (aCons (cBin .sub (cVar 1) (cC (.int 1))) (aNil)))) (aCons (cTup (aCons (cBin .sub (cVar 0) (cC (.int 1))) (aCons (cVar 1) (aNil)))) (aCons (cTup (aCons (cVar 0) (aCons (cBin .sub (cVar 1) (cC (.int 1))) (aNil)))) (aNil)))))) (.tup [.name 2, .name 3]) (tAnd (tTru (cCmp .ge (cVar 2) (cC (.int 0)))) (tTru (cCmp .ge (cVar 3) (cC (.int 0))))) (cTup (aCons (cVar 2) (aCons (cVar 3) (aNil)))))
noncomputable def m_fits_coupling : SDen := sSeq (sIf (tOr (tNot (tTru (cCall "fits_pairs" (aCons (cVar 0) (aCons (cVar 1) (aCons (cVar 3) (aNil))))))) (tTru (cCmp .eq (cVar 3) (cTup (aNil))))) (sRet (cC (.bl false))) (sPass)) (sSeq (sIf (tOr (tTru (cCmp .ne (cIdx (cVar 3) (cC (.int 0))) (cTup (aCons (cC (.int 0)) (aCons (cC (.int 0)) (aNil)))))) (tTru (cCmp .ne (cIdx (cVar 3) (cNeg (cC (.int 1)))) (cTup (aCons (cBin .sub (cB bLen (aCons (cVar 0) (aNil))) (cC (.int 1))) (aCons (cBin .sub (cB bLen (aCons (cVar 1) (aNil))) (cC (.int 1))) (aNil))))))) (sRet (cC (.bl false))) (sPass)) (sSeq (sIf (tNot (tTru (cB bAll (aCons (cLc false [4, 5] (iB zipB (aCons (cVar 3) (aCons (cSlc (cVar 3) (oSome (cC (.int 1))) (oNone)) (aNil)))) (.tup [.name 4, .name 5]) (tYes) (cCmp .isin (cVar 4) (cCall "ahead_of" (aCons (cIdx (cVar 5) (cC (.int 0))) (aCons (cIdx (cVar 5) (cC (.int 1))) (aNil)))))) (aNil))))) (sRet (cC (.bl false))) (sPass)) (sRet (cB bAll (aCons (cLc false [6, 7] (iSeq (cVar 3)) (.tup [.name 6, .name 7]) (tYes) (cCmp .le (cCall "far" (aCons (cIdx (cVar 0) (cVar 6)) (aCons (cIdx (cVar 1) (cVar 7)) (aNil)))) (cVar 2))) (aNil))))))
noncomputable def m_fits_pairs : SDen := sSeq (sIf (tOr (tNot (tTru (cB bIsi (aCons (cVar 2) (aCons (cC (.ty "tuple")) (aNil)))))) (tNot (tTru (cB bAll (aCons (cLc false [3] (iSeq (cVar 2)) (.name 3) (tYes) (cCall "is_tuple_of" (aCons (cVar 3) (aCons (cC (.int 2)) (aCons (cC (.int 2)) (aNil)))))) (aNil)))))) (sRet (cC (.bl false))) (sPass)) (sRet (cB bAll (aCons (cLc false [4, 5] (iSeq (cVar 2)) (.tup [.name 4, .name 5]) (tYes) (cAnd (cCall "is_whole" (aCons (cVar 4) (aCons (cC (.int 0)) (aCons (cBin .sub (cB bLen (aCons (cVar 0) (aNil))) (cC (.int 1))) (aNil))))) (cCall "is_whole" (aCons (cVar 5) (aCons (cC (.int 0)) (aCons (cBin .sub (cB bLen (aCons (cVar 1) (aNil))) (cC (.int 1))) (aNil))))))) (aNil))))
noncomputable def m_is_coupling : SDen := sSeq (sExp (cCall "need_pair" (aCons (cVar 0) (aCons (cVar 1) (aCons (cVar 2) (aNil)))))) (sRet (cCall "fits_coupling" (aCons (cVar 0) (aCons (cVar 1) (aCons (cVar 2) (aCons (cVar 3) (aNil)))))))
noncomputable def m_need_lag : SDen := sIf (tNot (tTru (cCall "is_whole" (aCons (cVar 0) (aCons (cC (.int 0)) (aCons (cC (.int 127)) (aNil))))))) (sBad) (sPass)
noncomputable def m_need_both : SDen := sSeq (sExp (cCall "need_stroke" (aCons (cVar 0) (aNil)))) (sSeq (sExp (cCall "need_stroke" (aCons (cVar 1) (aNil)))) (sExp (cCall "need_lag" (aCons (cVar 2) (aNil)))))
noncomputable def m_sums_in : SDen := sSeq (sSet 3 (cDct true)) (sSeq (sFor (.tup [.name 4, .name 5]) (iB enumB (aCons (cVar 0) (aNil))) (sFor (.name 6) (iB rngB2 (aCons (cB bMax2 (aCons (cC (.int 0)) (aCons (cBin .sub (cVar 4) (cVar 2)) (aNil)))) (aCons (cB bMin2 (aCons (cB bLen (aCons (cVar 1) (aNil))) (aCons (cBin .add (cBin .add (cVar 4) (cVar 2)) (cC (.int 1))) (aNil)))) (aNil)))) (sSeq (sSet 7 (cLc false [8] (iSeq (cCall "ahead_of" (aCons (cVar 4) (aCons (cVar 6) (aNil))))) (.name 8) (tTru (cCmp .isin (cVar 8) (cVar 3))) (cIdx (cVar 3) (cVar 8)))) (sIf (tOr (tTru (cCmp .ne (cVar 7) (cLst (aNil)))) (tTru (cCmp .eq (cTup (aCons (cVar 4) (aCons (cVar 6) (aNil)))) (cTup (aCons (cC (.int 0)) (aCons (cC (.int 0)) (aNil))))))) (sPut (cVar 3) (cTup (aCons (cVar 4) (aCons (cVar 6) (aNil)))) (cBin .add (cCall "far" (aCons (cVar 5) (aCons (cIdx (cVar 1) (cVar 6)) (aNil)))) (cIf (tTru (cCmp .ne (cVar 7) (cLst (aNil)))) (cB bMinD (aCons (cVar 7) (aNil))) (cC (.int 0))))) (sPass))))) (sRet (cVar 3)))
noncomputable def m_sum_in : SDen := sRet (cDGet1 (cCall "sums_in" (aCons (cVar 0) (aCons (cVar 1) (aCons (cVar 2) (aNil))))) (cTup (aCons (cBin .sub (cB bLen (aCons (cVar 0) (aNil))) (cC (.int 1))) (aCons (cBin .sub (cB bLen (aCons (cVar 1) (aNil))) (cC (.int 1))) (aNil)))))
noncomputable def m_need_bound : SDen := sIf (tNot (tTru (cCall "is_whole" (aCons (cVar 0) (aCons (cC (.int 0)) (aCons (cC (.int 100000000)) (aNil))))))) (sBad) (sPass)
noncomputable def m_least_sum : SDen := sSeq (sExp (cCall "need_both" (aCons (cVar 0) (aCons (cVar 1) (aCons (cVar 2) (aNil)))))) (sRet (cCall "sum_in" (aCons (cVar 0) (aCons (cVar 1) (aCons (cVar 2) (aNil))))))
noncomputable def m_sum_coupling_0 : SDen := sExp (cCall "need_both" (aCons (cVar 0) (aCons (cVar 1) (aCons (cVar 2) (aNil)))))
noncomputable def m_sum_coupling_1 : SDen := sPar [3, 4] (aCons (cCall "sums_in" (aCons (cVar 0) (aCons (cVar 1) (aCons (cVar 2) (aNil))))) (aCons (cTup (aCons (cBin .sub (cB bLen (aCons (cVar 0) (aNil))) (cC (.int 1))) (aCons (cBin .sub (cB bLen (aCons (cVar 1) (aNil))) (cC (.int 1))) (aNil)))) (aNil)))
noncomputable def m_sum_coupling_2 : SDen := sIf (tTru (cCmp .notin (cVar 4) (cVar 3))) (sRet (cC .non)) (sPass)
noncomputable def m_sum_coupling_3 : SDen := sSet 5 (cNew (aCons (cVar 4) (aNil)))
noncomputable def m_sum_coupling_4 : SDen := sWhile (tTru (cCmp .ne (cIdx (cVar 5) (cNeg (cC (.int 1)))) (cTup (aCons (cC (.int 0)) (aCons (cC (.int 0)) (aNil)))))) (sSeq (sSet 6 (cLc false [7] (iSeq (cCall "ahead_of" (aCons (cIdx (cIdx (cVar 5) (cNeg (cC (.int 1)))) (cC (.int 0))) (aCons (cIdx (cIdx (cVar 5) (cNeg (cC (.int 1)))) (cC (.int 1))) (aNil))))) (.name 7) (tTru (cCmp .isin (cVar 7) (cVar 3))) (cVar 7))) (sExp (cApp (cVar 5) (aCons (cIdx (cB bMinD (aCons (cLc false [7] (iSeq (cVar 6)) (.name 7) (tYes) (cTup (aCons (cIdx (cVar 3) (cVar 7)) (aCons (cVar 7) (aNil))))) (aNil))) (cC (.int 1))) (aNil)))))
noncomputable def m_sum_coupling_5 : SDen := sRet (cB bTup (aCons (cRev (cVar 5)) (aNil)))
noncomputable def m_sum_coupling : SDen := sSeq m_sum_coupling_0 (sSeq m_sum_coupling_1 (sSeq m_sum_coupling_2 (sSeq m_sum_coupling_3 (sSeq m_sum_coupling_4 (m_sum_coupling_5)))))
noncomputable def m_sum_of : SDen := sSeq (sExp (cCall "need_both" (aCons (cVar 0) (aCons (cVar 1) (aCons (cVar 2) (aNil)))))) (sSeq (sIf (tOr (tNot (tTru (cCall "is_coupling" (aCons (cVar 0) (aCons (cVar 1) (aCons (cC (.int 20000)) (aCons (cVar 3) (aNil)))))))) (tTru (cB bAny (aCons (cLc false [4, 5] (iSeq (cVar 3)) (.tup [.name 4, .name 5]) (tYes) (cCmp .gt (cB bAbs (aCons (cBin .sub (cVar 4) (cVar 5)) (aNil))) (cVar 2))) (aNil))))) (sRet (cC .non)) (sPass)) (sRet (cB bSum (aCons (cLc false [4, 5] (iSeq (cVar 3)) (.tup [.name 4, .name 5]) (tYes) (cCall "far" (aCons (cIdx (cVar 0) (cVar 4)) (aCons (cIdx (cVar 1) (cVar 5)) (aNil))))) (aNil)))))
noncomputable def m_need_all : SDen := sSeq (sExp (cCall "need_both" (aCons (cVar 0) (aCons (cVar 1) (aCons (cVar 2) (aNil)))))) (sExp (cCall "need_bound" (aCons (cVar 3) (aNil))))
noncomputable def m_sum_paper : SDen := sSeq (sExp (cCall "need_all" (aCons (cVar 0) (aCons (cVar 1) (aCons (cVar 2) (aCons (cVar 3) (aNil))))))) (sSeq (sSet 4 (cCall "sum_in" (aCons (cVar 0) (aCons (cVar 1) (aCons (cVar 2) (aNil)))))) (sSeq (sIf (tAnd (tTru (cCmp .isnot (cVar 4) (cC .non))) (tTru (cCmp .lt (cVar 4) (cVar 3)))) (sRet (cC .non)) (sPass)) (sSeq (sSet 5 (cCall "sums_in" (aCons (cVar 0) (aCons (cVar 1) (aCons (cVar 2) (aNil)))))) (sRet (cB bTup (aCons (cLc false [6] (iB rngB1 (aCons (cB bLen (aCons (cVar 0) (aNil))) (aNil))) (.name 6) (tYes) (cB bTup (aCons (cLc false [7] (iB rngB1 (aCons (cB bLen (aCons (cVar 1) (aNil))) (aNil))) (.name 7) (tYes) (cDGet2 (cVar 5) (cTup (aCons (cVar 6) (aCons (cVar 7) (aNil)))) (cC (.int 100000000)))) (aNil)))) (aNil)))))))
noncomputable def m_is_sum_paper_0 : SDen := sExp (cCall "need_all" (aCons (cVar 0) (aCons (cVar 1) (aCons (cVar 2) (aCons (cVar 3) (aNil))))))
noncomputable def m_is_sum_paper_1 : SDen := sSet 5 (cB bLen (aCons (cVar 1) (aNil)))
noncomputable def m_is_sum_paper_2 : SDen := sIf (tOr (tNot (tTru (cCall "is_tuple_of" (aCons (cVar 4) (aCons (cB bLen (aCons (cVar 0) (aNil))) (aCons (cB bLen (aCons (cVar 0) (aNil))) (aNil))))))) (tNot (tTru (cB bAll (aCons (cLc false [6] (iSeq (cVar 4)) (.name 6) (tYes) (cCall "is_tuple_of" (aCons (cVar 6) (aCons (cVar 5) (aCons (cVar 5) (aNil)))))) (aNil)))))) (sRet (cC (.bl false))) (sPass)
noncomputable def m_is_sum_paper_3 : SDen := sIf (tOr (tNot (tTru (cB bAll (aCons (cLc2 false [6, 7] (iSeq (cVar 4)) (.name 6) (tYes) [7] (iSeq (cVar 6)) (.name 7) (tYes) (cCall "is_whole" (aCons (cVar 7) (aCons (cC (.int 0)) (aCons (cC (.int 100000000)) (aNil)))))) (aNil))))) (tTru (cCmp .lt (cIdx (cIdx (cVar 4) (cNeg (cC (.int 1)))) (cNeg (cC (.int 1)))) (cVar 3)))) (sRet (cC (.bl false))) (sPass)
noncomputable def m_is_sum_paper_4 : SDen := sFor (.tup [.name 8, .name 6]) (iB enumB (aCons (cVar 4) (aNil))) (sFor (.tup [.name 9, .name 7]) (iB enumB (aCons (cVar 6) (aNil))) (sSeq (sSet 10 (cLc false [11, 12] (iSeq (cCall "ahead_of" (aCons (cVar 8) (aCons (cVar 9) (aNil))))) (.tup [.name 11, .name 12]) (tTru (cCmp .le (cB bAbs (aCons (cBin .sub (cVar 11) (cVar 12)) (aNil))) (cVar 2))) (cIdx (cIdx (cVar 4) (cVar 11)) (cVar 12)))) (sIf (tAnd (tTru (cCmp .le (cB bAbs (aCons (cBin .sub (cVar 8) (cVar 9)) (aNil))) (cVar 2))) (tAnd (tTru (cCmp .ne (cVar 10) (cLst (aNil)))) (tTru (cCmp .gt (cVar 7) (cBin .add (cB bMinD (aCons (cVar 10) (aNil))) (cCall "far" (aCons (cIdx (cVar 0) (cVar 8)) (aCons (cIdx (cVar 1) (cVar 9)) (aNil))))))))) (sRet (cC (.bl false))) (sPass))))
noncomputable def m_is_sum_paper_5 : SDen := sRet (cCmp .le (cIdx (cIdx (cVar 4) (cC (.int 0))) (cC (.int 0))) (cCall "far" (aCons (cIdx (cVar 0) (cC (.int 0))) (aCons (cIdx (cVar 1) (cC (.int 0))) (aNil)))))
noncomputable def m_is_sum_paper : SDen := sSeq m_is_sum_paper_0 (sSeq m_is_sum_paper_1 (sSeq m_is_sum_paper_2 (sSeq m_is_sum_paper_3 (sSeq m_is_sum_paper_4 (m_is_sum_paper_5)))))
noncomputable def m__law_cup : SDen := sSeq (sSet 1 (cB bAbs (aCons (cIdx (cBin .add (cB bLst (aCons (cVar 0) (aNil))) (cLst (aCons (cC (.int 0)) (aNil)))) (cC (.int 0))) (aNil)))) (sRet (cNew (aCons (cIf (tTru (cCmp .ge (cVar 1) (cBin .pow (cC (.int 10)) (cC (.int 18))))) (cBin .fdiv (cVar 1) (cC (.int 457))) (cC (.int 0))) (aCons (cBin .add (cBin .mod (cB bInt (aCons (cBin .add (cBin .mul (cVar 1) (cC (.int 773))) (cC (.int 4759))) (aNil))) (cC (.int 2077504901))) (cC (.int 641))) (aNil)))))
noncomputable def m__law_roll : SDen := sSeq (sIf (tTru (cCmp .gt (cIdx (cVar 0) (cC (.int 0))) (cC (.int 0)))) (sSeq (sSet 2 (cBin .mod (cB bInt (aCons (cIdx (cVar 0) (cC (.int 0))) (aNil))) (cVar 1))) (sSeq (sPut (cVar 0) (cC (.int 0)) (cBin .fdiv (cIdx (cVar 0) (cC (.int 0))) (cVar 1))) (sRet (cVar 2)))) (sPass)) (sSeq (sPut (cVar 0) (cC (.int 1)) (cBin .mod (cB bInt (aCons (cBin .add (cBin .mul (cIdx (cVar 0) (cC (.int 1))) (cC (.int 31991))) (cC (.int 8849))) (aNil))) (cC (.int 2147483399)))) (sSeq (sSet 3 (cBin .mod (cB bInt (aCons (cBin .mul (cIdx (cVar 0) (cC (.int 1))) (cBin .add (cIdx (cVar 0) (cC (.int 1))) (cC (.int 727)))) (aNil))) (cC (.int 2147483563)))) (sRet (cBin .mod (cB bInt (aCons (cBin .fdiv (cVar 3) (cC (.int 1297))) (aNil))) (cVar 1)))))
noncomputable def m__law_some : SDen := sRet (cIdx (cVar 1) (cCall "_law_roll" (aCons (cVar 0) (aCons (cB bLen (aCons (cVar 1) (aNil))) (aNil)))))
noncomputable def m__law_same : SDen := sSeq (sIf (tTru (cB bIsi (aCons (cVar 1) (aCons (cC (.ty "tuple")) (aNil))))) (sSeq (sIf (tOr (tNot (tTru (cB bIsi (aCons (cVar 0) (aCons (cC (.ty "tuple")) (aNil)))))) (tTru (cCmp .ne (cB bLen (aCons (cVar 0) (aNil))) (cB bLen (aCons (cVar 1) (aNil)))))) (sRet (cC (.bl false))) (sPass)) (sRet (cB bAll (aCons (cLc false [2] (iB rngB1 (aCons (cB bLen (aCons (cVar 1) (aNil))) (aNil))) (.name 2) (tYes) (cCall "_law_same" (aCons (cIdx (cVar 0) (cVar 2)) (aCons (cIdx (cVar 1) (cVar 2)) (aNil))))) (aNil))))) (sPass)) (sSeq (sIf (tTru (cCmp .is (cVar 1) (cC .non))) (sRet (cCmp .is (cVar 0) (cC .non))) (sPass)) (sSeq (sIf (tTru (cB bIsi (aCons (cVar 1) (aCons (cC (.ty "bool")) (aNil))))) (sRet (cIf (tTru (cVar 1)) (cCmp .is (cVar 0) (cC (.bl true))) (cCmp .is (cVar 0) (cC (.bl false))))) (sPass)) (sSeq (sIf (tTru (cB bIsi (aCons (cVar 1) (aCons (cC (.ty "int")) (aNil))))) (sRet (cAnd (cB bIsi (aCons (cVar 0) (aCons (cC (.ty "int")) (aNil)))) (cAnd (cNot (cB bIsi (aCons (cVar 0) (aCons (cC (.ty "bool")) (aNil))))) (cCmp .eq (cB bInt (aCons (cVar 0) (aNil))) (cVar 1))))) (sPass)) (sRet (cAnd (cB bIsi (aCons (cVar 0) (aCons (cC (.ty "str")) (aNil)))) (cCmp .eq (cB bStr (aCons (cVar 0) (aNil))) (cVar 1)))))))
noncomputable def m__law_stroke : SDen := sRet (cB bTup (aCons (cLc false [3] (iB rngB1 (aCons (cBin .add (cC (.int 1)) (cCall "_law_roll" (aCons (cVar 0) (aCons (cVar 1) (aNil))))) (aNil))) (.name 3) (tYes) (cTup (aCons (cCall "_law_roll" (aCons (cVar 0) (aCons (cVar 2) (aNil)))) (aCons (cCall "_law_roll" (aCons (cVar 0) (aCons (cC (.int 4)) (aNil)))) (aNil))))) (aNil)))
noncomputable def m__law_far : SDen := sSeq (sPar [2, 3] (aCons (cBin .sub (cIdx (cVar 0) (cC (.int 0))) (cIdx (cVar 1) (cC (.int 0)))) (aCons (cBin .sub (cIdx (cVar 0) (cC (.int 1))) (cIdx (cVar 1) (cC (.int 1)))) (aNil)))) (sRet (cB bMax4 (aCons (cVar 2) (aCons (cBin .sub (cC (.int 0)) (cVar 2)) (aCons (cVar 3) (aCons (cBin .sub (cC (.int 0)) (cVar 3)) (aNil)))))))
noncomputable def m__law_couplings : SDen := sSeq (sPar [3, 4] (aCons (cLst (aCons (cTup (aCons (cTup (aCons (cC (.int 0)) (aCons (cC (.int 0)) (aNil)))) (aNil))) (aNil))) (aCons (cLst (aNil)) (aNil)))) (sSeq (sFor (.name 5) (iB rngB1 (aCons (cBin .add (cVar 0) (cVar 1)) (aNil))) (sSeq (sSet 6 (cNew (aNil))) (sSeq (sFor (.name 7) (iSeq (cVar 3)) (sSeq (sTup [.name 9, .name 10] (cIdx (cVar 7) (cNeg (cC (.int 1))))) (sSeq (sSet 4 (cBin .add (cVar 4) (cIf (tTru (cCmp .eq (cTup (aCons (cVar 9) (aCons (cVar 10) (aNil)))) (cTup (aCons (cBin .sub (cVar 0) (cC (.int 1))) (aCons (cBin .sub (cVar 1) (cC (.int 1))) (aNil)))))) (cLst (aCons (cVar 7) (aNil))) (cLst (aNil))))) (sFor (.name 8) (iSeq (cTup (aCons (cTup (aCons (cBin .add (cVar 9) (cC (.int 1))) (aCons (cVar 10) (aNil)))) (aCons (cTup (aCons (cVar 9) (aCons (cBin .add (cVar 10) (cC (.int 1))) (aNil)))) (aCons (cTup (aCons (cBin .add (cVar 9) (cC (.int 1))) (aCons (cBin .add (cVar 10) (cC (.int 1))) (aNil)))) (aNil)))))) (sIf (tAnd (tTru (cCmp .lt (cIdx (cVar 8) (cC (.int 0))) (cVar 0))) (tAnd (tTru (cCmp .lt (cIdx (cVar 8) (cC (.int 1))) (cVar 1))) (tTru (cCmp .le (cB bAbs (aCons (cBin .sub (cIdx (cVar 8) (cC (.int 0))) (cIdx (cVar 8) (cC (.int 1)))) (aNil))) (cVar 2))))) (sExp (cApp (cVar 6) (aCons (cBin .add (cVar 7) (cTup (aCons (cVar 8) (aNil)))) (aNil)))) (sPass)))))) (sSet 3 (cVar 6))))) (sRet (cVar 4)))
noncomputable def m__law_price : SDen := sRet (cB bSum (aCons (cLc false [3, 4] (iSeq (cVar 2)) (.tup [.name 3, .name 4]) (tYes) (cCall "_law_far" (aCons (cIdx (cVar 0) (cVar 3)) (aCons (cIdx (cVar 1) (cVar 4)) (aNil))))) (aNil)))
noncomputable def m__law_is_paper : SDen := sSeq (sIf (tOr (tTru (cCmp .gt (cIdx (cIdx (cVar 4) (cC (.int 0))) (cC (.int 0))) (cCall "_law_far" (aCons (cIdx (cVar 0) (cC (.int 0))) (aCons (cIdx (cVar 1) (cC (.int 0))) (aNil)))))) (tTru (cCmp .lt (cIdx (cIdx (cVar 4) (cBin .sub (cB bLen (aCons (cVar 0) (aNil))) (cC (.int 1)))) (cBin .sub (cB bLen (aCons (cVar 1) (aNil))) (cC (.int 1)))) (cVar 3)))) (sRet (cC (.bl false))) (sPass)) (sSeq (sFor (.name 5) (iB rngB1 (aCons (cB bLen (aCons (cVar 0) (aNil))) (aNil))) (sFor (.name 6) (iB rngB1 (aCons (cB bLen (aCons (cVar 1) (aNil))) (aNil))) (sSeq (sSet 7 (cLc false [8] (iSeq (cTup (aCons (cTup (aCons (cBin .sub (cVar 5) (cC (.int 1))) (aCons (cVar 6) (aNil)))) (aCons (cTup (aCons (cVar 5) (aCons (cBin .sub (cVar 6) (cC (.int 1))) (aNil)))) (aCons (cTup (aCons (cBin .sub (cVar 5) (cC (.int 1))) (aCons (cBin .sub (cVar 6) (cC (.int 1))) (aNil)))) (aNil)))))) (.name 8) (tAnd (tTru (cCmp .ge (cB bMinD (aCons (cVar 8) (aNil))) (cC (.int 0)))) (tTru (cCmp .le (cB bAbs (aCons (cBin .sub (cIdx (cVar 8) (cC (.int 0))) (cIdx (cVar 8) (cC (.int 1)))) (aNil))) (cVar 2)))) (cVar 8))) (sIf (tAnd (tTru (cCmp .le (cB bAbs (aCons (cBin .sub (cVar 5) (cVar 6)) (aNil))) (cVar 2))) (tTru (cCmp .ne (cLc false [8] (iSeq (cVar 7)) (.name 8) (tTru (cCmp .gt (cIdx (cIdx (cVar 4) (cVar 5)) (cVar 6)) (cBin .add (cIdx (cIdx (cVar 4) (cIdx (cVar 8) (cC (.int 0)))) (cIdx (cVar 8) (cC (.int 1)))) (cCall "_law_far" (aCons (cIdx (cVar 0) (cVar 5)) (aCons (cIdx (cVar 1) (cVar 6)) (aNil))))))) (cVar 8)) (cLst (aNil))))) (sRet (cC (.bl false))) (sPass))))) (sRet (cC (.bl true))))
noncomputable def m__law_right_0 : SDen := sPar [3, 4, 5] (aCons (cCall "_law_stroke" (aCons (cVar 0) (aCons (cVar 1) (aCons (cVar 2) (aNil))))) (aCons (cCall "_law_stroke" (aCons (cVar 0) (aCons (cVar 1) (aCons (cVar 2) (aNil))))) (aCons (cCall "_law_some" (aCons (cVar 0) (aCons (cLst (aCons (cC (.int 0)) (aCons (cC (.int 1)) (aCons (cC (.int 2)) (aCons (cC (.int 127)) (aNil)))))) (aNil)))) (aNil))))
noncomputable def m__law_right_1 : SDen := sSet 6 (cCall "_law_couplings" (aCons (cB bLen (aCons (cVar 3) (aNil))) (aCons (cB bLen (aCons (cVar 4) (aNil))) (aCons (cVar 5) (aNil)))))
noncomputable def m__law_right_2 : SDen := sSet 7 (cLc false [8] (iSeq (cVar 6)) (.name 8) (tYes) (cCall "_law_price" (aCons (cVar 3) (aCons (cVar 4) (aCons (cVar 8) (aNil))))))
noncomputable def m__law_right_3 : SDen := sPar [9, 10] (aCons (cIf (tTru (cCmp .ne (cVar 7) (cLst (aNil)))) (cB bMinD (aCons (cVar 7) (aNil))) (cC .non)) (aCons (cCall "sum_coupling" (aCons (cVar 3) (aCons (cVar 4) (aCons (cVar 5) (aNil))))) (aNil)))
noncomputable def m__law_right_4 : SDen := sIf (tOr (tNot (tTru (cCall "_law_same" (aCons (cTup (aCons (cCall "least_sum" (aCons (cVar 3) (aCons (cVar 4) (aCons (cVar 5) (aNil))))) (aCons (cCall "least_sum" (aCons (cVar 4) (aCons (cVar 3) (aCons (cVar 5) (aNil))))) (aNil)))) (aCons (cTup (aCons (cVar 9) (aCons (cVar 9) (aNil)))) (aNil)))))) (tTru (cCmp .ne (cCmp .is (cVar 10) (cC .non)) (cCmp .is (cVar 9) (cC .non))))) (sRet (cC (.bl false))) (sPass)
noncomputable def m__law_right_5 : SDen := sIf (tAnd (tTru (cCmp .isnot (cVar 10) (cC .non))) (tOr (tTru (cCmp .notin (cVar 10) (cVar 6))) (tNot (tTru (cCall "_law_same" (aCons (cCall "sum_of" (aCons (cVar 3) (aCons (cVar 4) (aCons (cVar 5) (aCons (cVar 10) (aNil)))))) (aCons (cVar 9) (aNil)))))))) (sRet (cC (.bl false))) (sPass)
noncomputable def m__law_right_6 : SDen := sFor (.name 11) (iB rngB1 (aCons (cIf (tTru (cCmp .ne (cVar 6) (cLst (aNil)))) (cC (.int 3)) (cC (.int 0))) (aNil))) (sSeq (sSet 8 (cCall "_law_some" (aCons (cVar 0) (aCons (cVar 6) (aNil))))) (sSeq (sIf (tNot (tTru (cCall "_law_same" (aCons (cCall "sum_of" (aCons (cVar 3) (aCons (cVar 4) (aCons (cVar 5) (aCons (cVar 8) (aNil)))))) (aCons (cCall "_law_price" (aCons (cVar 3) (aCons (cVar 4) (aCons (cVar 8) (aNil))))) (aNil)))))) (sRet (cC (.bl false))) (sPass)) (sSeq (sSet 12 (cCall "_law_roll" (aCons (cVar 0) (aCons (cB bLen (aCons (cVar 8) (aNil))) (aNil))))) (sSeq (sSet 13 (cCall "_law_some" (aCons (cVar 0) (aCons (cLst (aCons (cBin .add (cSlc (cVar 8) (oNone) (oSome (cVar 12))) (cSlc (cVar 8) (oSome (cBin .add (cVar 12) (cC (.int 1)))) (oNone))) (aCons (cBin .add (cBin .add (cSlc (cVar 8) (oNone) (oSome (cVar 12))) (cSlc (cVar 8) (oSome (cVar 12)) (oSome (cBin .add (cVar 12) (cC (.int 1)))))) (cSlc (cVar 8) (oSome (cVar 12)) (oNone))) (aCons (cRev (cVar 8)) (aNil))))) (aNil))))) (sIf (tNot (tTru (cCall "_law_same" (aCons (cCall "sum_of" (aCons (cVar 3) (aCons (cVar 4) (aCons (cVar 5) (aCons (cVar 13) (aNil)))))) (aCons (cIf (tTru (cCmp .isin (cVar 13) (cVar 6))) (cCall "_law_price" (aCons (cVar 3) (aCons (cVar 4) (aCons (cVar 13) (aNil))))) (cC .non)) (aNil)))))) (sRet (cC (.bl false))) (sPass))))))
noncomputable def m__law_right_7 : SDen := sFor (.name 14) (iSeq (cTup (aCons (cC (.int 0)) (aCons (cIf (tTru (cCmp .isnot (cVar 9) (cC .non))) (cVar 9) (cBin .pow (cC (.int 10)) (cC (.int 8)))) (aCons (cB bMin2 (aCons (cBin .pow (cC (.int 10)) (cC (.int 8))) (aCons (cBin .add (cIf (tTru (cCmp .isnot (cVar 9) (cC .non))) (cVar 9) (cC (.int 0))) (cC (.int 1))) (aNil)))) (aCons (cCall "_law_roll" (aCons (cVar 0) (aCons (cC (.int 30)) (aNil)))) (aNil))))))) (sSeq (sSet 15 (cCall "sum_paper" (aCons (cVar 3) (aCons (cVar 4) (aCons (cVar 5) (aCons (cVar 14) (aNil))))))) (sSeq (sIf (tTru (cCmp .ne (cCmp .is (cVar 15) (cC .non)) (cAnd (cCmp .isnot (cVar 9) (cC .non)) (cCmp .lt (cVar 9) (cVar 14))))) (sRet (cC (.bl false))) (sPass)) (sSeq (sIf (tAnd (tTru (cCmp .isnot (cVar 15) (cC .non))) (tOr (tNot (tTru (cCall "_law_is_paper" (aCons (cVar 3) (aCons (cVar 4) (aCons (cVar 5) (aCons (cVar 14) (aCons (cVar 15) (aNil))))))))) (tTru (cCmp .isnot (cCall "is_sum_paper" (aCons (cVar 3) (aCons (cVar 4) (aCons (cVar 5) (aCons (cVar 14) (aCons (cVar 15) (aNil))))))) (cC (.bl true)))))) (sRet (cC (.bl false))) (sPass)) (sFor (.name 11) (iB rngB1 (aCons (cIf (tTru (cCmp .isnot (cVar 15) (cC .non))) (cC (.int 4)) (cC (.int 0))) (aNil))) (sSeq (sPar [12, 17] (aCons (cCall "_law_roll" (aCons (cVar 0) (aCons (cB bLen (aCons (cVar 3) (aNil))) (aNil)))) (aCons (cCall "_law_roll" (aCons (cVar 0) (aCons (cB bLen (aCons (cVar 4) (aNil))) (aNil)))) (aNil)))) (sSeq (sSet 8 (cBin .add (cBin .add (cSlc (cIdx (cVar 15) (cVar 12)) (oNone) (oSome (cVar 17))) (cTup (aCons (cCall "_law_some" (aCons (cVar 0) (aCons (cLst (aCons (cC (.int 0)) (aCons (cB bMax2 (aCons (cC (.int 0)) (aCons (cBin .sub (cIdx (cIdx (cVar 15) (cVar 12)) (cVar 17)) (cC (.int 1))) (aNil)))) (aCons (cB bMin2 (aCons (cBin .pow (cC (.int 10)) (cC (.int 8))) (aCons (cBin .add (cIdx (cIdx (cVar 15) (cVar 12)) (cVar 17)) (cC (.int 1))) (aNil)))) (aCons (cBin .pow (cC (.int 10)) (cC (.int 8))) (aNil)))))) (aNil)))) (aNil)))) (cSlc (cIdx (cVar 15) (cVar 12)) (oSome (cBin .add (cVar 17) (cC (.int 1)))) (oNone)))) (sSeq (sSet 13 (cBin .add (cBin .add (cSlc (cVar 15) (oNone) (oSome (cVar 12))) (cTup (aCons (cVar 8) (aNil)))) (cSlc (cVar 15) (oSome (cBin .add (cVar 12) (cC (.int 1)))) (oNone)))) (sSeq (sSet 16 (cCall "_law_is_paper" (aCons (cVar 3) (aCons (cVar 4) (aCons (cVar 5) (aCons (cVar 14) (aCons (cVar 13) (aNil)))))))) (sIf (tOr (tTru (cCmp .ne (cB bRep (aCons (cCall "is_sum_paper" (aCons (cVar 3) (aCons (cVar 4) (aCons (cVar 5) (aCons (cVar 14) (aCons (cVar 13) (aNil))))))) (aNil))) (cB bRep (aCons (cVar 16) (aNil))))) (tAnd (tTru (cVar 16)) (tAnd (tTru (cCmp .isnot (cVar 9) (cC .non))) (tTru (cCmp .lt (cVar 9) (cVar 14)))))) (sRet (cC (.bl false))) (sPass))))))))))
noncomputable def m__law_right_8 : SDen := sSet 18 (cBin .mul (cTup (aCons (cBin .mul (cTup (aCons (cC (.int 0)) (aNil))) (cB bLen (aCons (cVar 4) (aNil)))) (aNil))) (cB bLen (aCons (cVar 3) (aNil))))
noncomputable def m__law_right_9 : SDen := sSet 19 (cLst (aCons (cC .non) (aCons (cTup (aNil)) (aCons (cB bLst (aCons (cVar 18) (aNil))) (aCons (cSlc (cVar 18) (oSome (cC (.int 1))) (oNone)) (aCons (cBin .add (cVar 18) (cSlc (cVar 18) (oNone) (oSome (cC (.int 1))))) (aCons (cBin .add (cTup (aCons (cB bLst (aCons (cIdx (cVar 18) (cC (.int 0))) (aNil))) (aNil))) (cSlc (cVar 18) (oSome (cC (.int 1))) (oNone))) (aCons (cBin .add (cTup (aCons (cBin .add (cIdx (cVar 18) (cC (.int 0))) (cTup (aCons (cC (.int 0)) (aNil)))) (aNil))) (cSlc (cVar 18) (oSome (cC (.int 1))) (oNone))) (aCons (cBin .add (cTup (aCons (cBin .add (cTup (aCons (cNeg (cC (.int 1))) (aNil))) (cSlc (cIdx (cVar 18) (cC (.int 0))) (oSome (cC (.int 1))) (oNone))) (aNil))) (cSlc (cVar 18) (oSome (cC (.int 1))) (oNone))) (aCons (cBin .add (cTup (aCons (cBin .add (cTup (aCons (cC (.bl false)) (aNil))) (cSlc (cIdx (cVar 18) (cC (.int 0))) (oSome (cC (.int 1))) (oNone))) (aNil))) (cSlc (cVar 18) (oSome (cC (.int 1))) (oNone))) (aNil)))))))))))
noncomputable def m__law_right_10 : SDen := sSet 19 (cBin .add (cVar 19) (cLst (aCons (cBin .add (cSlc (cVar 18) (oNone) (oSome (cNeg (cC (.int 1))))) (cTup (aCons (cBin .add (cSlc (cIdx (cVar 18) (cNeg (cC (.int 1)))) (oNone) (oSome (cNeg (cC (.int 1))))) (cTup (aCons (cBin .add (cBin .pow (cC (.int 10)) (cC (.int 8))) (cC (.int 1))) (aNil)))) (aNil)))) (aCons (cBin .add (cSlc (cVar 18) (oNone) (oSome (cNeg (cC (.int 1))))) (cTup (aCons (cBin .add (cSlc (cIdx (cVar 18) (cNeg (cC (.int 1)))) (oNone) (oSome (cNeg (cC (.int 1))))) (cTup (aCons (cC .non) (aNil)))) (aNil)))) (aCons (cC (.int 5)) (aNil))))))
noncomputable def m__law_right_11 : SDen := sRet (cAnd (cCmp .eq (cLc false [20] (iSeq (cVar 19)) (.name 20) (tTru (cCmp .isnot (cCall "is_sum_paper" (aCons (cVar 3) (aCons (cVar 4) (aCons (cVar 5) (aCons (cC (.int 0)) (aCons (cVar 20) (aNil))))))) (cC (.bl false)))) (cVar 20)) (cLst (aNil))) (cCmp .is (cCall "is_sum_paper" (aCons (cVar 3) (aCons (cVar 4) (aCons (cVar 5) (aCons (cC (.int 0)) (aCons (cVar 18) (aNil))))))) (cC (.bl true))))
noncomputable def m__law_right : SDen := sSeq m__law_right_0 (sSeq m__law_right_1 (sSeq m__law_right_2 (sSeq m__law_right_3 (sSeq m__law_right_4 (sSeq m__law_right_5 (sSeq m__law_right_6 (sSeq m__law_right_7 (sSeq m__law_right_8 (sSeq m__law_right_9 (sSeq m__law_right_10 (m__law_right_11)))))))))))
noncomputable def m_law_0 : SDen := sSet 1 (cCall "_law_cup" (aCons (cVar 0) (aNil)))
noncomputable def m_law_1 : SDen := sPar [2, 3] (aCons (cTup (aCons (cTup (aCons (cC (.int 0)) (aCons (cC (.int 0)) (aNil)))) (aCons (cTup (aCons (cC (.int 2)) (aCons (cC (.int 0)) (aNil)))) (aCons (cTup (aCons (cC (.int 4)) (aCons (cC (.int 0)) (aNil)))) (aNil))))) (aCons (cTup (aCons (cTup (aCons (cC (.int 0)) (aCons (cC (.int 1)) (aNil)))) (aCons (cTup (aCons (cC (.int 4)) (aCons (cC (.int 1)) (aNil)))) (aNil)))) (aNil)))
noncomputable def m_law_2 : SDen := sSet 4 (cTup (aCons (cCall "least_sum" (aCons (cVar 2) (aCons (cVar 3) (aCons (cC (.int 127)) (aNil))))) (aCons (cCall "least_sum" (aCons (cVar 2) (aCons (cVar 3) (aCons (cC (.int 0)) (aNil))))) (aCons (cCall "least_sum" (aCons (cVar 2) (aCons (cVar 2) (aCons (cC (.int 0)) (aNil))))) (aCons (cCall "sum_of" (aCons (cVar 2) (aCons (cVar 3) (aCons (cC (.int 1)) (aCons (cCall "sum_coupling" (aCons (cVar 2) (aCons (cVar 3) (aCons (cC (.int 1)) (aNil))))) (aNil)))))) (aCons (cCall "sum_of" (aCons (cVar 2) (aCons (cVar 3) (aCons (cC (.int 127)) (aCons (cTup (aCons (cTup (aCons (cC (.int 0)) (aCons (cC (.int 0)) (aNil)))) (aCons (cTup (aCons (cC (.int 1)) (aCons (cC (.int 0)) (aNil)))) (aCons (cTup (aCons (cC (.int 1)) (aCons (cC (.int 1)) (aNil)))) (aCons (cTup (aCons (cC (.int 2)) (aCons (cC (.int 1)) (aNil)))) (aNil)))))) (aNil)))))) (aNil)))))))
noncomputable def m_law_3 : SDen := sSet 4 (cBin .add (cVar 4) (cTup (aCons (cCall "sum_of" (aCons (cVar 2) (aCons (cVar 3) (aCons (cC (.int 127)) (aCons (cTup (aCons (cTup (aCons (cC (.int 0)) (aCons (cC (.int 0)) (aNil)))) (aCons (cTup (aCons (cC (.int 2)) (aCons (cC (.int 1)) (aNil)))) (aNil)))) (aNil)))))) (aCons (cCall "sum_paper" (aCons (cVar 2) (aCons (cVar 3) (aCons (cC (.int 127)) (aCons (cC (.int 5)) (aNil)))))) (aCons (cCall "sum_of" (aCons (cVar 2) (aCons (cVar 3) (aCons (cC (.int 0)) (aCons (cTup (aCons (cTup (aCons (cC (.int 0)) (aCons (cC (.int 0)) (aNil)))) (aCons (cTup (aCons (cC (.int 1)) (aCons (cC (.int 1)) (aNil)))) (aCons (cTup (aCons (cC (.int 2)) (aCons (cC (.int 1)) (aNil)))) (aNil))))) (aNil)))))) (aNil))))))
noncomputable def m_law_4 : SDen := sSet 4 (cBin .add (cVar 4) (cTup (aCons (cCall "sum_coupling" (aCons (cVar 2) (aCons (cVar 3) (aCons (cC (.int 0)) (aNil))))) (aCons (cCall "least_sum" (aCons (cVar 3) (aCons (cVar 2) (aCons (cC (.int 127)) (aNil))))) (aNil)))))
noncomputable def m_law_5 : SDen := sIf (tNot (tTru (cCall "_law_same" (aCons (cVar 4) (aCons (cTup (aCons (cC (.int 4)) (aCons (cC .non) (aCons (cC (.int 0)) (aCons (cC (.int 4)) (aCons (cC (.int 6)) (aCons (cC .non) (aCons (cC .non) (aCons (cC .non) (aCons (cC .non) (aCons (cC (.int 4)) (aNil)))))))))))) (aNil)))))) (sRet (cC (.bl false))) (sPass)
noncomputable def m_law_6 : SDen := sSet 5 (cLst (aCons (cLst (aCons (cTup (aCons (cC (.int 0)) (aCons (cC (.int 0)) (aNil)))) (aCons (cTup (aCons (cC (.int 1)) (aCons (cC (.int 0)) (aNil)))) (aCons (cTup (aCons (cC (.int 2)) (aCons (cC (.int 1)) (aNil)))) (aNil))))) (aCons (cTup (aCons (cLst (aCons (cC (.int 0)) (aCons (cC (.int 0)) (aNil)))) (aCons (cTup (aCons (cC (.int 1)) (aCons (cC (.int 0)) (aNil)))) (aCons (cTup (aCons (cC (.int 2)) (aCons (cC (.int 1)) (aNil)))) (aNil))))) (aCons (cTup (aCons (cTup (aCons (cC (.int 0)) (aCons (cC (.bl false)) (aNil)))) (aCons (cTup (aCons (cC (.int 1)) (aCons (cC (.int 0)) (aNil)))) (aCons (cTup (aCons (cC (.int 2)) (aCons (cC (.int 1)) (aNil)))) (aNil))))) (aCons (cTup (aCons (cTup (aCons (cC (.int 0)) (aCons (cC (.int 0)) (aNil)))) (aCons (cTup (aCons (cC (.bl true)) (aCons (cC (.int 0)) (aNil)))) (aCons (cTup (aCons (cC (.int 2)) (aCons (cC (.int 1)) (aNil)))) (aNil))))) (aCons (cTup (aCons (cTup (aCons (cC (.int 0)) (aCons (cC (.int 0)) (aNil)))) (aCons (cTup (aCons (cC (.int 1)) (aCons (cC (.int 0)) (aNil)))) (aCons (cTup (aCons (cC (.int 2)) (aCons (cC (.int 1)) (aNil)))) (aCons (cTup (aCons (cC (.int 2)) (aCons (cC (.int 1)) (aNil)))) (aNil)))))) (aCons (cTup (aCons (cTup (aCons (cC (.int 0)) (aCons (cC (.int 0)) (aCons (cC (.int 0)) (aNil))))) (aCons (cTup (aCons (cC (.int 1)) (aCons (cC (.int 0)) (aNil)))) (aCons (cTup (aCons (cC (.int 2)) (aCons (cC (.int 1)) (aNil)))) (aNil))))) (aCons (cTup (aNil)) (aCons (cC (.int 5)) (aNil))))))))))
noncomputable def m_law_7 : SDen := sIf (tOr (tTru (cCmp .ne (cLc false [6] (iSeq (cVar 5)) (.name 6) (tTru (cCmp .isnot (cCall "sum_of" (aCons (cVar 2) (aCons (cVar 3) (aCons (cC (.int 127)) (aCons (cVar 6) (aNil)))))) (cC .non))) (cVar 6)) (cLst (aNil)))) (tTru (cCmp .ne (cCall "sum_of" (aCons (cVar 2) (aCons (cVar 3) (aCons (cC (.int 127)) (aCons (cTup (aCons (cTup (aCons (cC (.int 0)) (aCons (cC (.int 0)) (aNil)))) (aCons (cTup (aCons (cC (.int 1)) (aCons (cC (.int 0)) (aNil)))) (aCons (cTup (aCons (cC (.int 2)) (aCons (cC (.int 1)) (aNil)))) (aNil))))) (aNil)))))) (cC (.int 4))))) (sRet (cC (.bl false))) (sPass)
noncomputable def m_law_8 : SDen := sSet 7 (cLc false [8] (iSeq (cTup (aCons (cTup (aCons (cTup (aCons (cC (.int 1)) (aCons (cC (.int 5)) (aNil)))) (aCons (cTup (aCons (cC (.int 3)) (aCons (cC (.int 3)) (aNil)))) (aCons (cTup (aCons (cC (.int 7)) (aCons (cC (.int 4)) (aNil)))) (aNil))))) (aCons (cTup (aCons (cTup (aCons (cC (.int 1)) (aCons (cC (.int 5)) (aNil)))) (aCons (cTup (aCons (cC (.int 3)) (aCons (cC (.int 3)) (aNil)))) (aCons (cTup (aCons (cC (.int 7)) (aCons (cC (.int 5)) (aNil)))) (aNil))))) (aCons (cTup (aCons (cTup (aCons (cC (.int 2)) (aCons (cC (.int 5)) (aNil)))) (aCons (cTup (aCons (cC (.int 3)) (aCons (cC (.int 3)) (aNil)))) (aCons (cTup (aCons (cC (.int 7)) (aCons (cC (.int 4)) (aNil)))) (aNil))))) (aCons (cTup (aCons (cTup (aCons (cC (.int 1)) (aCons (cC (.int 5)) (aNil)))) (aCons (cTup (aCons (cC (.int 3)) (aCons (cC (.int 3)) (aNil)))) (aCons (cTup (aCons (cC (.int 7)) (aCons (cC (.int 3)) (aNil)))) (aNil))))) (aNil))))))) (.name 8) (tYes) (cCall "is_sum_paper" (aCons (cVar 2) (aCons (cVar 3) (aCons (cC (.int 127)) (aCons (cC (.int 4)) (aCons (cVar 8) (aNil))))))))
noncomputable def m_law_9 : SDen := sIf (tOr (tTru (cCmp .ne (cVar 7) (cLst (aCons (cC (.bl true)) (aCons (cC (.bl false)) (aCons (cC (.bl false)) (aCons (cC (.bl false)) (aNil)))))))) (tTru (cCmp .isnot (cCall "is_sum_paper" (aCons (cVar 2) (aCons (cVar 3) (aCons (cC (.int 0)) (aCons (cBin .pow (cC (.int 10)) (cC (.int 8))) (aCons (cTup (aCons (cTup (aCons (cC (.int 0)) (aCons (cC (.int 0)) (aNil)))) (aCons (cTup (aCons (cC (.int 0)) (aCons (cC (.int 0)) (aNil)))) (aCons (cTup (aCons (cC (.int 0)) (aCons (cBin .pow (cC (.int 10)) (cC (.int 8))) (aNil)))) (aNil))))) (aNil))))))) (cC (.bl true))))) (sRet (cC (.bl false))) (sPass)
noncomputable def m_law_10 : SDen := sFor (.tup [.name 9, .name 10]) (iSeq (cTup (aCons (cTup (aCons (cC (.int 1)) (aCons (cC (.int 4)) (aNil)))) (aCons (cTup (aCons (cC (.int 3)) (aCons (cC (.int 6)) (aNil)))) (aCons (cTup (aCons (cC (.int 4)) (aCons (cC (.int 9)) (aNil)))) (aCons (cTup (aCons (cC (.int 4)) (aCons (cC (.int 20)) (aNil)))) (aNil))))))) (sIf (tNot (tTru (cCall "_law_right" (aCons (cVar 1) (aCons (cVar 9) (aCons (cVar 10) (aNil))))))) (sRet (cC (.bl false))) (sPass))
noncomputable def m_law_11 : SDen := sRet (cCmp .eq (cCall "least_sum" (aCons (cBin .mul (cTup (aCons (cTup (aCons (cNeg (cBin .pow (cC (.int 10)) (cC (.int 4)))) (aCons (cC (.int 0)) (aNil)))) (aNil))) (cC (.int 127))) (aCons (cBin .mul (cTup (aCons (cTup (aCons (cBin .pow (cC (.int 10)) (cC (.int 4))) (aCons (cC (.int 0)) (aNil)))) (aNil))) (cC (.int 127))) (aCons (cC (.int 127)) (aNil))))) (cBin .mul (cBin .mul (cC (.int 127)) (cC (.int 2))) (cBin .pow (cC (.int 10)) (cC (.int 4)))))
noncomputable def m_law : SDen := sSeq m_law_0 (sSeq m_law_1 (sSeq m_law_2 (sSeq m_law_3 (sSeq m_law_4 (sSeq m_law_5 (sSeq m_law_6 (sSeq m_law_7 (sSeq m_law_8 (sSeq m_law_9 (sSeq m_law_10 (m_law_11)))))))))))
theorem t_is_whole : T "is_whole" = some ⟨3, 3, m_is_whole⟩ := by kernel_rfl
theorem t_is_tuple_of : T "is_tuple_of" = some ⟨3, 3, m_is_tuple_of⟩ := by kernel_rfl
theorem t_fits_point : T "fits_point" = some ⟨1, 1, m_fits_point⟩ := by kernel_rfl
theorem t_fits_stroke : T "fits_stroke" = some ⟨2, 1, m_fits_stroke⟩ := by kernel_rfl
theorem t_need_stroke : T "need_stroke" = some ⟨1, 1, m_need_stroke⟩ := by kernel_rfl
theorem t_far : T "far" = some ⟨2, 2, m_far⟩ := by kernel_rfl
theorem t_need_loose : T "need_loose" = some ⟨1, 1, m_need_loose⟩ := by kernel_rfl
theorem t_need_pair : T "need_pair" = some ⟨3, 3, m_need_pair⟩ := by kernel_rfl
theorem t_ahead_of : T "ahead_of" = some ⟨4, 2, m_ahead_of⟩ := by kernel_rfl
theorem t_fits_coupling : T "fits_coupling" = some ⟨8, 4, m_fits_coupling⟩ := by kernel_rfl
theorem t_fits_pairs : T "fits_pairs" = some ⟨6, 3, m_fits_pairs⟩ := by kernel_rfl
theorem t_is_coupling : T "is_coupling" = some ⟨4, 4, m_is_coupling⟩ := by kernel_rfl
theorem t_need_lag : T "need_lag" = some ⟨1, 1, m_need_lag⟩ := by kernel_rfl
theorem t_need_both : T "need_both" = some ⟨3, 3, m_need_both⟩ := by kernel_rfl
theorem t_sums_in : T "sums_in" = some ⟨9, 3, m_sums_in⟩ := by kernel_rfl
theorem t_sum_in : T "sum_in" = some ⟨3, 3, m_sum_in⟩ := by kernel_rfl
theorem t_need_bound : T "need_bound" = some ⟨1, 1, m_need_bound⟩ := by kernel_rfl
theorem t_least_sum : T "least_sum" = some ⟨3, 3, m_least_sum⟩ := by kernel_rfl
theorem t_sum_coupling : T "sum_coupling" = some ⟨8, 3, m_sum_coupling⟩ := by kernel_rfl
theorem t_sum_of : T "sum_of" = some ⟨6, 4, m_sum_of⟩ := by kernel_rfl
theorem t_need_all : T "need_all" = some ⟨4, 4, m_need_all⟩ := by kernel_rfl
theorem t_sum_paper : T "sum_paper" = some ⟨8, 4, m_sum_paper⟩ := by kernel_rfl
theorem t_is_sum_paper : T "is_sum_paper" = some ⟨13, 5, m_is_sum_paper⟩ := by kernel_rfl
theorem t__law_cup : T "_law_cup" = some ⟨2, 1, m__law_cup⟩ := by kernel_rfl
theorem t__law_roll : T "_law_roll" = some ⟨4, 2, m__law_roll⟩ := by kernel_rfl
theorem t__law_some : T "_law_some" = some ⟨2, 2, m__law_some⟩ := by kernel_rfl
theorem t__law_same : T "_law_same" = some ⟨3, 2, m__law_same⟩ := by kernel_rfl
theorem t__law_stroke : T "_law_stroke" = some ⟨4, 3, m__law_stroke⟩ := by kernel_rfl
theorem t__law_far : T "_law_far" = some ⟨4, 2, m__law_far⟩ := by kernel_rfl
theorem t__law_couplings : T "_law_couplings" = some ⟨11, 3, m__law_couplings⟩ := by kernel_rfl
theorem t__law_price : T "_law_price" = some ⟨5, 3, m__law_price⟩ := by kernel_rfl
theorem t__law_is_paper : T "_law_is_paper" = some ⟨9, 5, m__law_is_paper⟩ := by kernel_rfl
theorem t__law_right : T "_law_right" = some ⟨21, 3, m__law_right⟩ := by kernel_rfl
theorem t_law : T "law" = some ⟨11, 1, m_law⟩ := by kernel_rfl
theorem fo_is_whole {K : PySem.W.Frag} (c : He.SaysD fa fn K) : FOk K i_is_whole := by
  obtain ⟨fd, F⟩ := c.def_ 0 (d := d_is_whole) rfl
  exact ⟨fd, F, F.bindsN fun _ _ _ _ _ _ us hl => match us, hl with | [_, _, _], _ => rfl⟩
theorem sc_is_whole : FnScope i_is_whole.N i_is_whole.ps i_is_whole.d.scope := ⟨rfl, rfl, rfl, by decide +kernel, rfl, by decide +kernel, by decide +kernel⟩
theorem fo_is_tuple_of {K : PySem.W.Frag} (c : He.SaysD fa fn K) : FOk K i_is_tuple_of := by
  obtain ⟨fd, F⟩ := c.def_ 1 (d := d_is_tuple_of) rfl
  exact ⟨fd, F, F.bindsN fun _ _ _ _ _ _ us hl => match us, hl with | [_, _, _], _ => rfl⟩
theorem sc_is_tuple_of : FnScope i_is_tuple_of.N i_is_tuple_of.ps i_is_tuple_of.d.scope := ⟨rfl, rfl, rfl, by decide +kernel, rfl, by decide +kernel, by decide +kernel⟩
theorem fo_fits_point {K : PySem.W.Frag} (c : He.SaysD fa fn K) : FOk K i_fits_point := by
  obtain ⟨fd, F⟩ := c.def_ 2 (d := d_fits_point) rfl
  exact ⟨fd, F, F.bindsN fun _ _ _ _ _ _ us hl => match us, hl with | [_], _ => rfl⟩
theorem sc_fits_point : FnScope i_fits_point.N i_fits_point.ps i_fits_point.d.scope := ⟨rfl, rfl, rfl, by decide +kernel, rfl, by decide +kernel, by decide +kernel⟩
theorem fo_fits_stroke {K : PySem.W.Frag} (c : He.SaysD fa fn K) : FOk K i_fits_stroke := by
  obtain ⟨fd, F⟩ := c.def_ 3 (d := d_fits_stroke) rfl
  exact ⟨fd, F, F.bindsN fun _ _ _ _ _ _ us hl => match us, hl with | [_], _ => rfl⟩
theorem sc_fits_stroke : FnScope i_fits_stroke.N i_fits_stroke.ps i_fits_stroke.d.scope := ⟨rfl, rfl, rfl, by decide +kernel, rfl, by decide +kernel, by decide +kernel⟩
theorem fo_need_stroke {K : PySem.W.Frag} (c : He.SaysD fa fn K) : FOk K i_need_stroke := by
  obtain ⟨fd, F⟩ := c.def_ 4 (d := d_need_stroke) rfl
  exact ⟨fd, F, F.bindsN fun _ _ _ _ _ _ us hl => match us, hl with | [_], _ => rfl⟩
theorem sc_need_stroke : FnScope i_need_stroke.N i_need_stroke.ps i_need_stroke.d.scope := ⟨rfl, rfl, rfl, by decide +kernel, rfl, by decide +kernel, by decide +kernel⟩
theorem fo_far {K : PySem.W.Frag} (c : He.SaysD fa fn K) : FOk K i_far := by
  obtain ⟨fd, F⟩ := c.def_ 5 (d := d_far) rfl
  exact ⟨fd, F, F.bindsN fun _ _ _ _ _ _ us hl => match us, hl with | [_, _], _ => rfl⟩
theorem sc_far : FnScope i_far.N i_far.ps i_far.d.scope := ⟨rfl, rfl, rfl, by decide +kernel, rfl, by decide +kernel, by decide +kernel⟩
theorem fo_need_loose {K : PySem.W.Frag} (c : He.SaysD fa fn K) : FOk K i_need_loose := by
  obtain ⟨fd, F⟩ := c.def_ 6 (d := d_need_loose) rfl
  exact ⟨fd, F, F.bindsN fun _ _ _ _ _ _ us hl => match us, hl with | [_], _ => rfl⟩
theorem sc_need_loose : FnScope i_need_loose.N i_need_loose.ps i_need_loose.d.scope := ⟨rfl, rfl, rfl, by decide +kernel, rfl, by decide +kernel, by decide +kernel⟩
theorem fo_need_pair {K : PySem.W.Frag} (c : He.SaysD fa fn K) : FOk K i_need_pair := by
  obtain ⟨fd, F⟩ := c.def_ 7 (d := d_need_pair) rfl
  exact ⟨fd, F, F.bindsN fun _ _ _ _ _ _ us hl => match us, hl with | [_, _, _], _ => rfl⟩
theorem sc_need_pair : FnScope i_need_pair.N i_need_pair.ps i_need_pair.d.scope := ⟨rfl, rfl, rfl, by decide +kernel, rfl, by decide +kernel, by decide +kernel⟩
theorem fo_ahead_of {K : PySem.W.Frag} (c : He.SaysD fa fn K) : FOk K i_ahead_of := by
  obtain ⟨fd, F⟩ := c.def_ 8 (d := d_ahead_of) rfl
  exact ⟨fd, F, F.bindsN fun _ _ _ _ _ _ us hl => match us, hl with | [_, _], _ => rfl⟩
theorem sc_ahead_of : FnScope i_ahead_of.N i_ahead_of.ps i_ahead_of.d.scope := ⟨rfl, rfl, rfl, by decide +kernel, rfl, by decide +kernel, by decide +kernel⟩
theorem fo_fits_coupling {K : PySem.W.Frag} (c : He.SaysD fa fn K) : FOk K i_fits_coupling := by
  obtain ⟨fd, F⟩ := c.def_ 9 (d := d_fits_coupling) rfl
  exact ⟨fd, F, F.bindsN fun _ _ _ _ _ _ us hl => match us, hl with | [_, _, _, _], _ => rfl⟩
theorem sc_fits_coupling : FnScope i_fits_coupling.N i_fits_coupling.ps i_fits_coupling.d.scope := ⟨rfl, rfl, rfl, by decide +kernel, rfl, by decide +kernel, by decide +kernel⟩
theorem fo_fits_pairs {K : PySem.W.Frag} (c : He.SaysD fa fn K) : FOk K i_fits_pairs := by
  obtain ⟨fd, F⟩ := c.def_ 10 (d := d_fits_pairs) rfl
  exact ⟨fd, F, F.bindsN fun _ _ _ _ _ _ us hl => match us, hl with | [_, _, _], _ => rfl⟩
theorem sc_fits_pairs : FnScope i_fits_pairs.N i_fits_pairs.ps i_fits_pairs.d.scope := ⟨rfl, rfl, rfl, by decide +kernel, rfl, by decide +kernel, by decide +kernel⟩
theorem fo_is_coupling {K : PySem.W.Frag} (c : He.SaysD fa fn K) : FOk K i_is_coupling := by
  obtain ⟨fd, F⟩ := c.def_ 11 (d := d_is_coupling) rfl
  exact ⟨fd, F, F.bindsN fun _ _ _ _ _ _ us hl => match us, hl with | [_, _, _, _], _ => rfl⟩
theorem sc_is_coupling : FnScope i_is_coupling.N i_is_coupling.ps i_is_coupling.d.scope := ⟨rfl, rfl, rfl, by decide +kernel, rfl, by decide +kernel, by decide +kernel⟩
theorem fo_need_lag {K : PySem.W.Frag} (c : He.SaysD fa fn K) : FOk K i_need_lag := by
  obtain ⟨fd, F⟩ := c.def_ 12 (d := d_need_lag) rfl
  exact ⟨fd, F, F.bindsN fun _ _ _ _ _ _ us hl => match us, hl with | [_], _ => rfl⟩
theorem sc_need_lag : FnScope i_need_lag.N i_need_lag.ps i_need_lag.d.scope := ⟨rfl, rfl, rfl, by decide +kernel, rfl, by decide +kernel, by decide +kernel⟩
theorem fo_need_both {K : PySem.W.Frag} (c : He.SaysD fa fn K) : FOk K i_need_both := by
  obtain ⟨fd, F⟩ := c.def_ 13 (d := d_need_both) rfl
  exact ⟨fd, F, F.bindsN fun _ _ _ _ _ _ us hl => match us, hl with | [_, _, _], _ => rfl⟩
theorem sc_need_both : FnScope i_need_both.N i_need_both.ps i_need_both.d.scope := ⟨rfl, rfl, rfl, by decide +kernel, rfl, by decide +kernel, by decide +kernel⟩
theorem fo_sums_in {K : PySem.W.Frag} (c : He.SaysD fa fn K) : FOk K i_sums_in := by
  obtain ⟨fd, F⟩ := c.def_ 14 (d := d_sums_in) rfl
  exact ⟨fd, F, F.bindsN fun _ _ _ _ _ _ us hl => match us, hl with | [_, _, _], _ => rfl⟩
theorem sc_sums_in : FnScope i_sums_in.N i_sums_in.ps i_sums_in.d.scope := ⟨rfl, rfl, rfl, by decide +kernel, rfl, by decide +kernel, by decide +kernel⟩
theorem fo_sum_in {K : PySem.W.Frag} (c : He.SaysD fa fn K) : FOk K i_sum_in := by
  obtain ⟨fd, F⟩ := c.def_ 15 (d := d_sum_in) rfl
  exact ⟨fd, F, F.bindsN fun _ _ _ _ _ _ us hl => match us, hl with | [_, _, _], _ => rfl⟩
theorem sc_sum_in : FnScope i_sum_in.N i_sum_in.ps i_sum_in.d.scope := ⟨rfl, rfl, rfl, by decide +kernel, rfl, by decide +kernel, by decide +kernel⟩
theorem fo_need_bound {K : PySem.W.Frag} (c : He.SaysD fa fn K) : FOk K i_need_bound := by
  obtain ⟨fd, F⟩ := c.def_ 16 (d := d_need_bound) rfl
  exact ⟨fd, F, F.bindsN fun _ _ _ _ _ _ us hl => match us, hl with | [_], _ => rfl⟩
theorem sc_need_bound : FnScope i_need_bound.N i_need_bound.ps i_need_bound.d.scope := ⟨rfl, rfl, rfl, by decide +kernel, rfl, by decide +kernel, by decide +kernel⟩
theorem fo_least_sum {K : PySem.W.Frag} (c : He.SaysD fa fn K) : FOk K i_least_sum := by
  obtain ⟨fd, F⟩ := c.def_ 17 (d := d_least_sum) rfl
  exact ⟨fd, F, F.bindsN fun _ _ _ _ _ _ us hl => match us, hl with | [_, _, _], _ => rfl⟩
theorem sc_least_sum : FnScope i_least_sum.N i_least_sum.ps i_least_sum.d.scope := ⟨rfl, rfl, rfl, by decide +kernel, rfl, by decide +kernel, by decide +kernel⟩
theorem fo_sum_coupling {K : PySem.W.Frag} (c : He.SaysD fa fn K) : FOk K i_sum_coupling := by
  obtain ⟨fd, F⟩ := c.def_ 18 (d := d_sum_coupling) rfl
  exact ⟨fd, F, F.bindsN fun _ _ _ _ _ _ us hl => match us, hl with | [_, _, _], _ => rfl⟩
theorem sc_sum_coupling : FnScope i_sum_coupling.N i_sum_coupling.ps i_sum_coupling.d.scope := ⟨rfl, rfl, rfl, by decide +kernel, rfl, by decide +kernel, by decide +kernel⟩
theorem fo_sum_of {K : PySem.W.Frag} (c : He.SaysD fa fn K) : FOk K i_sum_of := by
  obtain ⟨fd, F⟩ := c.def_ 19 (d := d_sum_of) rfl
  exact ⟨fd, F, F.bindsN fun _ _ _ _ _ _ us hl => match us, hl with | [_, _, _, _], _ => rfl⟩
theorem sc_sum_of : FnScope i_sum_of.N i_sum_of.ps i_sum_of.d.scope := ⟨rfl, rfl, rfl, by decide +kernel, rfl, by decide +kernel, by decide +kernel⟩
theorem fo_need_all {K : PySem.W.Frag} (c : He.SaysD fa fn K) : FOk K i_need_all := by
  obtain ⟨fd, F⟩ := c.def_ 20 (d := d_need_all) rfl
  exact ⟨fd, F, F.bindsN fun _ _ _ _ _ _ us hl => match us, hl with | [_, _, _, _], _ => rfl⟩
theorem sc_need_all : FnScope i_need_all.N i_need_all.ps i_need_all.d.scope := ⟨rfl, rfl, rfl, by decide +kernel, rfl, by decide +kernel, by decide +kernel⟩
theorem fo_sum_paper {K : PySem.W.Frag} (c : He.SaysD fa fn K) : FOk K i_sum_paper := by
  obtain ⟨fd, F⟩ := c.def_ 21 (d := d_sum_paper) rfl
  exact ⟨fd, F, F.bindsN fun _ _ _ _ _ _ us hl => match us, hl with | [_, _, _, _], _ => rfl⟩
theorem sc_sum_paper : FnScope i_sum_paper.N i_sum_paper.ps i_sum_paper.d.scope := ⟨rfl, rfl, rfl, by decide +kernel, rfl, by decide +kernel, by decide +kernel⟩
theorem fo_is_sum_paper {K : PySem.W.Frag} (c : He.SaysD fa fn K) : FOk K i_is_sum_paper := by
  obtain ⟨fd, F⟩ := c.def_ 22 (d := d_is_sum_paper) rfl
  exact ⟨fd, F, F.bindsN fun _ _ _ _ _ _ us hl => match us, hl with | [_, _, _, _, _], _ => rfl⟩
theorem sc_is_sum_paper : FnScope i_is_sum_paper.N i_is_sum_paper.ps i_is_sum_paper.d.scope := ⟨rfl, rfl, rfl, by decide +kernel, rfl, by decide +kernel, by decide +kernel⟩
theorem fo__law_cup {K : PySem.W.Frag} (c : He.SaysD fa fn K) : FOk K i__law_cup := by
  obtain ⟨fd, F⟩ := c.def_ 23 (d := d__law_cup) rfl
  exact ⟨fd, F, F.bindsN fun _ _ _ _ _ _ us hl => match us, hl with | [_], _ => rfl⟩
theorem sc__law_cup : FnScope i__law_cup.N i__law_cup.ps i__law_cup.d.scope := ⟨rfl, rfl, rfl, by decide +kernel, rfl, by decide +kernel, by decide +kernel⟩
theorem fo__law_roll {K : PySem.W.Frag} (c : He.SaysD fa fn K) : FOk K i__law_roll := by
  obtain ⟨fd, F⟩ := c.def_ 24 (d := d__law_roll) rfl
  exact ⟨fd, F, F.bindsN fun _ _ _ _ _ _ us hl => match us, hl with | [_, _], _ => rfl⟩
theorem sc__law_roll : FnScope i__law_roll.N i__law_roll.ps i__law_roll.d.scope := ⟨rfl, rfl, rfl, by decide +kernel, rfl, by decide +kernel, by decide +kernel⟩
theorem fo__law_some {K : PySem.W.Frag} (c : He.SaysD fa fn K) : FOk K i__law_some := by
  obtain ⟨fd, F⟩ := c.def_ 25 (d := d__law_some) rfl
  exact ⟨fd, F, F.bindsN fun _ _ _ _ _ _ us hl => match us, hl with | [_, _], _ => rfl⟩
theorem sc__law_some : FnScope i__law_some.N i__law_some.ps i__law_some.d.scope := ⟨rfl, rfl, rfl, by decide +kernel, rfl, by decide +kernel, by decide +kernel⟩
theorem fo__law_same {K : PySem.W.Frag} (c : He.SaysD fa fn K) : FOk K i__law_same := by
  obtain ⟨fd, F⟩ := c.def_ 26 (d := d__law_same) rfl
  exact ⟨fd, F, F.bindsN fun _ _ _ _ _ _ us hl => match us, hl with | [_, _], _ => rfl⟩
theorem sc__law_same : FnScope i__law_same.N i__law_same.ps i__law_same.d.scope := ⟨rfl, rfl, rfl, by decide +kernel, rfl, by decide +kernel, by decide +kernel⟩
theorem fo__law_stroke {K : PySem.W.Frag} (c : He.SaysD fa fn K) : FOk K i__law_stroke := by
  obtain ⟨fd, F⟩ := c.def_ 27 (d := d__law_stroke) rfl
  exact ⟨fd, F, F.bindsN fun _ _ _ _ _ _ us hl => match us, hl with | [_, _, _], _ => rfl⟩
theorem sc__law_stroke : FnScope i__law_stroke.N i__law_stroke.ps i__law_stroke.d.scope := ⟨rfl, rfl, rfl, by decide +kernel, rfl, by decide +kernel, by decide +kernel⟩
theorem fo__law_far {K : PySem.W.Frag} (c : He.SaysD fa fn K) : FOk K i__law_far := by
  obtain ⟨fd, F⟩ := c.def_ 28 (d := d__law_far) rfl
  exact ⟨fd, F, F.bindsN fun _ _ _ _ _ _ us hl => match us, hl with | [_, _], _ => rfl⟩
theorem sc__law_far : FnScope i__law_far.N i__law_far.ps i__law_far.d.scope := ⟨rfl, rfl, rfl, by decide +kernel, rfl, by decide +kernel, by decide +kernel⟩
theorem fo__law_couplings {K : PySem.W.Frag} (c : He.SaysD fa fn K) : FOk K i__law_couplings := by
  obtain ⟨fd, F⟩ := c.def_ 29 (d := d__law_couplings) rfl
  exact ⟨fd, F, F.bindsN fun _ _ _ _ _ _ us hl => match us, hl with | [_, _, _], _ => rfl⟩
theorem sc__law_couplings : FnScope i__law_couplings.N i__law_couplings.ps i__law_couplings.d.scope := ⟨rfl, rfl, rfl, by decide +kernel, rfl, by decide +kernel, by decide +kernel⟩
theorem fo__law_price {K : PySem.W.Frag} (c : He.SaysD fa fn K) : FOk K i__law_price := by
  obtain ⟨fd, F⟩ := c.def_ 30 (d := d__law_price) rfl
  exact ⟨fd, F, F.bindsN fun _ _ _ _ _ _ us hl => match us, hl with | [_, _, _], _ => rfl⟩
theorem sc__law_price : FnScope i__law_price.N i__law_price.ps i__law_price.d.scope := ⟨rfl, rfl, rfl, by decide +kernel, rfl, by decide +kernel, by decide +kernel⟩
theorem fo__law_is_paper {K : PySem.W.Frag} (c : He.SaysD fa fn K) : FOk K i__law_is_paper := by
  obtain ⟨fd, F⟩ := c.def_ 31 (d := d__law_is_paper) rfl
  exact ⟨fd, F, F.bindsN fun _ _ _ _ _ _ us hl => match us, hl with | [_, _, _, _, _], _ => rfl⟩
theorem sc__law_is_paper : FnScope i__law_is_paper.N i__law_is_paper.ps i__law_is_paper.d.scope := ⟨rfl, rfl, rfl, by decide +kernel, rfl, by decide +kernel, by decide +kernel⟩
theorem fo__law_right {K : PySem.W.Frag} (c : He.SaysD fa fn K) : FOk K i__law_right := by
  obtain ⟨fd, F⟩ := c.def_ 32 (d := d__law_right) rfl
  exact ⟨fd, F, F.bindsN fun _ _ _ _ _ _ us hl => match us, hl with | [_, _, _], _ => rfl⟩
theorem sc__law_right : FnScope i__law_right.N i__law_right.ps i__law_right.d.scope := ⟨rfl, rfl, rfl, by decide +kernel, rfl, by decide +kernel, by decide +kernel⟩
theorem fo_law {K : PySem.W.Frag} (c : He.SaysD fa fn K) : FOk K i_law := by
  obtain ⟨fd, F⟩ := c.def_ 33 (d := d_law) rfl
  exact ⟨fd, F, F.bindsN fun _ _ _ _ _ _ us hl => match us, hl with | [_], _ => rfl⟩
theorem sc_law : FnScope i_law.N i_law.ps i_law.d.scope := ⟨rfl, rfl, rfl, by decide +kernel, rfl, by decide +kernel, by decide +kernel⟩
theorem fos {K : PySem.W.Frag} (c : He.SaysD fa fn K) : ∀ i ∈ fs, FOk K i :=
  all_cons (fo_is_whole c) (all_cons (fo_is_tuple_of c) (all_cons (fo_fits_point c) (all_cons (fo_fits_stroke c) (all_cons (fo_need_stroke c) (all_cons (fo_far c) (all_cons (fo_need_loose c) (all_cons (fo_need_pair c) (all_cons (fo_ahead_of c) (all_cons (fo_fits_coupling c) (all_cons (fo_fits_pairs c) (all_cons (fo_is_coupling c) (all_cons (fo_need_lag c) (all_cons (fo_need_both c) (all_cons (fo_sums_in c) (all_cons (fo_sum_in c) (all_cons (fo_need_bound c) (all_cons (fo_least_sum c) (all_cons (fo_sum_coupling c) (all_cons (fo_sum_of c) (all_cons (fo_need_all c) (all_cons (fo_sum_paper c) (all_cons (fo_is_sum_paper c) (all_cons (fo__law_cup c) (all_cons (fo__law_roll c) (all_cons (fo__law_some c) (all_cons (fo__law_same c) (all_cons (fo__law_stroke c) (all_cons (fo__law_far c) (all_cons (fo__law_couplings c) (all_cons (fo__law_price c) (all_cons (fo__law_is_paper c) (all_cons (fo__law_right c) (all_cons (fo_law c) (all_nil))))))))))))))))))))))))))))))))))
theorem scs : ∀ i ∈ fs, FnScope i.N i.ps i.d.scope :=
  all_cons (sc_is_whole) (all_cons (sc_is_tuple_of) (all_cons (sc_fits_point) (all_cons (sc_fits_stroke) (all_cons (sc_need_stroke) (all_cons (sc_far) (all_cons (sc_need_loose) (all_cons (sc_need_pair) (all_cons (sc_ahead_of) (all_cons (sc_fits_coupling) (all_cons (sc_fits_pairs) (all_cons (sc_is_coupling) (all_cons (sc_need_lag) (all_cons (sc_need_both) (all_cons (sc_sums_in) (all_cons (sc_sum_in) (all_cons (sc_need_bound) (all_cons (sc_least_sum) (all_cons (sc_sum_coupling) (all_cons (sc_sum_of) (all_cons (sc_need_all) (all_cons (sc_sum_paper) (all_cons (sc_is_sum_paper) (all_cons (sc__law_cup) (all_cons (sc__law_roll) (all_cons (sc__law_some) (all_cons (sc__law_same) (all_cons (sc__law_stroke) (all_cons (sc__law_far) (all_cons (sc__law_couplings) (all_cons (sc__law_price) (all_cons (sc__law_is_paper) (all_cons (sc__law_right) (all_cons (sc_law) (all_nil))))))))))))))))))))))))))))))))))
theorem gos {K : PySem.W.Frag} {h : Heap} {mg : Str → Option Value} (X : K.In h) (Gm : h.Ns mainGlobals mg) (c : He.SaysD fa fn K) : ∀ p ∈ G, GFact K mg fs p.2 p.1 :=
  all_cons (show GFact K mg fs (.con (.int 10000)) "SIDE" from let ⟨t, ht⟩ := He.int_ok X Gm (c.fact 37 (f := .int "SIDE" 10000) rfl); ⟨.int 10000, .int 10000 t, ht, ⟨t, rfl⟩, fun _ _ _ _ => .int 10000⟩) (all_cons (show GFact K mg fs (.con (.int 127)) "POINTS" from let ⟨t, ht⟩ := He.int_ok X Gm (c.fact 38 (f := .int "POINTS" 127) rfl); ⟨.int 127, .int 127 t, ht, ⟨t, rfl⟩, fun _ _ _ _ => .int 127⟩) (all_cons (show GFact K mg fs (.fn 3) "is_whole" from ⟨i_is_whole, by kernel_rfl, rfl, He.glo_ok X Gm (c.fact 0 (f := .glo "is_whole") rfl)⟩) (all_cons (show GFact K mg fs (.fn 3) "is_tuple_of" from ⟨i_is_tuple_of, by kernel_rfl, rfl, He.glo_ok X Gm (c.fact 1 (f := .glo "is_tuple_of") rfl)⟩) (all_cons (show GFact K mg fs (.fn 1) "fits_point" from ⟨i_fits_point, by kernel_rfl, rfl, He.glo_ok X Gm (c.fact 2 (f := .glo "fits_point") rfl)⟩) (all_cons (show GFact K mg fs (.fn 1) "fits_stroke" from ⟨i_fits_stroke, by kernel_rfl, rfl, He.glo_ok X Gm (c.fact 3 (f := .glo "fits_stroke") rfl)⟩) (all_cons (show GFact K mg fs (.fn 1) "need_stroke" from ⟨i_need_stroke, by kernel_rfl, rfl, He.glo_ok X Gm (c.fact 4 (f := .glo "need_stroke") rfl)⟩) (all_cons (show GFact K mg fs (.fn 2) "far" from ⟨i_far, by kernel_rfl, rfl, He.glo_ok X Gm (c.fact 5 (f := .glo "far") rfl)⟩) (all_cons (show GFact K mg fs (.con (.int 20000)) "LOOSE" from let ⟨t, ht⟩ := He.int_ok X Gm (c.fact 39 (f := .int "LOOSE" 20000) rfl); ⟨.int 20000, .int 20000 t, ht, ⟨t, rfl⟩, fun _ _ _ _ => .int 20000⟩) (all_cons (show GFact K mg fs (.fn 1) "need_loose" from ⟨i_need_loose, by kernel_rfl, rfl, He.glo_ok X Gm (c.fact 6 (f := .glo "need_loose") rfl)⟩) (all_cons (show GFact K mg fs (.fn 3) "need_pair" from ⟨i_need_pair, by kernel_rfl, rfl, He.glo_ok X Gm (c.fact 7 (f := .glo "need_pair") rfl)⟩) (all_cons (show GFact K mg fs (.fn 2) "ahead_of" from ⟨i_ahead_of, by kernel_rfl, rfl, He.glo_ok X Gm (c.fact 8 (f := .glo "ahead_of") rfl)⟩) (all_cons (show GFact K mg fs (.fn 4) "fits_coupling" from ⟨i_fits_coupling, by kernel_rfl, rfl, He.glo_ok X Gm (c.fact 9 (f := .glo "fits_coupling") rfl)⟩) (all_cons (show GFact K mg fs (.fn 3) "fits_pairs" from ⟨i_fits_pairs, by kernel_rfl, rfl, He.glo_ok X Gm (c.fact 10 (f := .glo "fits_pairs") rfl)⟩) (all_cons (show GFact K mg fs (.fn 4) "is_coupling" from ⟨i_is_coupling, by kernel_rfl, rfl, He.glo_ok X Gm (c.fact 11 (f := .glo "is_coupling") rfl)⟩) (all_cons (show GFact K mg fs (.con (.int 100000000)) "BOUND" from let ⟨t, ht⟩ := He.int_ok X Gm (c.fact 40 (f := .int "BOUND" 100000000) rfl); ⟨.int 100000000, .int 100000000 t, ht, ⟨t, rfl⟩, fun _ _ _ _ => .int 100000000⟩) (all_cons (show GFact K mg fs (.fn 1) "need_lag" from ⟨i_need_lag, by kernel_rfl, rfl, He.glo_ok X Gm (c.fact 12 (f := .glo "need_lag") rfl)⟩) (all_cons (show GFact K mg fs (.fn 3) "need_both" from ⟨i_need_both, by kernel_rfl, rfl, He.glo_ok X Gm (c.fact 13 (f := .glo "need_both") rfl)⟩) (all_cons (show GFact K mg fs (.fn 3) "sums_in" from ⟨i_sums_in, by kernel_rfl, rfl, He.glo_ok X Gm (c.fact 14 (f := .glo "sums_in") rfl)⟩) (all_cons (show GFact K mg fs (.fn 3) "sum_in" from ⟨i_sum_in, by kernel_rfl, rfl, He.glo_ok X Gm (c.fact 15 (f := .glo "sum_in") rfl)⟩) (all_cons (show GFact K mg fs (.fn 1) "need_bound" from ⟨i_need_bound, by kernel_rfl, rfl, He.glo_ok X Gm (c.fact 16 (f := .glo "need_bound") rfl)⟩) (all_cons (show GFact K mg fs (.fn 3) "least_sum" from ⟨i_least_sum, by kernel_rfl, rfl, He.glo_ok X Gm (c.fact 17 (f := .glo "least_sum") rfl)⟩) (all_cons (show GFact K mg fs (.fn 3) "sum_coupling" from ⟨i_sum_coupling, by kernel_rfl, rfl, He.glo_ok X Gm (c.fact 18 (f := .glo "sum_coupling") rfl)⟩) (all_cons (show GFact K mg fs (.fn 4) "sum_of" from ⟨i_sum_of, by kernel_rfl, rfl, He.glo_ok X Gm (c.fact 19 (f := .glo "sum_of") rfl)⟩) (all_cons (show GFact K mg fs (.fn 4) "need_all" from ⟨i_need_all, by kernel_rfl, rfl, He.glo_ok X Gm (c.fact 20 (f := .glo "need_all") rfl)⟩) (all_cons (show GFact K mg fs (.fn 4) "sum_paper" from ⟨i_sum_paper, by kernel_rfl, rfl, He.glo_ok X Gm (c.fact 21 (f := .glo "sum_paper") rfl)⟩) (all_cons (show GFact K mg fs (.fn 5) "is_sum_paper" from ⟨i_is_sum_paper, by kernel_rfl, rfl, He.glo_ok X Gm (c.fact 22 (f := .glo "is_sum_paper") rfl)⟩) (all_cons (show GFact K mg fs (.fn 1) "_law_cup" from ⟨i__law_cup, by kernel_rfl, rfl, He.glo_ok X Gm (c.fact 23 (f := .glo "_law_cup") rfl)⟩) (all_cons (show GFact K mg fs (.fn 2) "_law_roll" from ⟨i__law_roll, by kernel_rfl, rfl, He.glo_ok X Gm (c.fact 24 (f := .glo "_law_roll") rfl)⟩) (all_cons (show GFact K mg fs (.fn 2) "_law_some" from ⟨i__law_some, by kernel_rfl, rfl, He.glo_ok X Gm (c.fact 25 (f := .glo "_law_some") rfl)⟩) (all_cons (show GFact K mg fs (.fn 2) "_law_same" from ⟨i__law_same, by kernel_rfl, rfl, He.glo_ok X Gm (c.fact 26 (f := .glo "_law_same") rfl)⟩) (all_cons (show GFact K mg fs (.fn 3) "_law_stroke" from ⟨i__law_stroke, by kernel_rfl, rfl, He.glo_ok X Gm (c.fact 27 (f := .glo "_law_stroke") rfl)⟩) (all_cons (show GFact K mg fs (.fn 2) "_law_far" from ⟨i__law_far, by kernel_rfl, rfl, He.glo_ok X Gm (c.fact 28 (f := .glo "_law_far") rfl)⟩) (all_cons (show GFact K mg fs (.fn 3) "_law_couplings" from ⟨i__law_couplings, by kernel_rfl, rfl, He.glo_ok X Gm (c.fact 29 (f := .glo "_law_couplings") rfl)⟩) (all_cons (show GFact K mg fs (.fn 3) "_law_price" from ⟨i__law_price, by kernel_rfl, rfl, He.glo_ok X Gm (c.fact 30 (f := .glo "_law_price") rfl)⟩) (all_cons (show GFact K mg fs (.fn 5) "_law_is_paper" from ⟨i__law_is_paper, by kernel_rfl, rfl, He.glo_ok X Gm (c.fact 31 (f := .glo "_law_is_paper") rfl)⟩) (all_cons (show GFact K mg fs (.fn 3) "_law_right" from ⟨i__law_right, by kernel_rfl, rfl, He.glo_ok X Gm (c.fact 32 (f := .glo "_law_right") rfl)⟩) (all_cons (show GFact K mg fs (.fn 1) "law" from ⟨i_law, by kernel_rfl, rfl, He.glo_ok X Gm (c.fact 33 (f := .glo "law") rfl)⟩) (all_cons (show GFact K mg fs .free "abs" from He.free_ok X Gm (c.fact 41 (f := .free "abs") rfl)) (all_cons (show GFact K mg fs .free "all" from He.free_ok X Gm (c.fact 42 (f := .free "all") rfl)) (all_cons (show GFact K mg fs .free "any" from He.free_ok X Gm (c.fact 43 (f := .free "any") rfl)) (all_cons (show GFact K mg fs .free "enumerate" from He.free_ok X Gm (c.fact 44 (f := .free "enumerate") rfl)) (all_cons (show GFact K mg fs .free "int" from He.free_ok X Gm (c.fact 45 (f := .free "int") rfl)) (all_cons (show GFact K mg fs .free "isinstance" from He.free_ok X Gm (c.fact 46 (f := .free "isinstance") rfl)) (all_cons (show GFact K mg fs .free "len" from He.free_ok X Gm (c.fact 47 (f := .free "len") rfl)) (all_cons (show GFact K mg fs .free "list" from He.free_ok X Gm (c.fact 48 (f := .free "list") rfl)) (all_cons (show GFact K mg fs .free "max" from He.free_ok X Gm (c.fact 49 (f := .free "max") rfl)) (all_cons (show GFact K mg fs .free "min" from He.free_ok X Gm (c.fact 50 (f := .free "min") rfl)) (all_cons (show GFact K mg fs .free "range" from He.free_ok X Gm (c.fact 51 (f := .free "range") rfl)) (all_cons (show GFact K mg fs .free "repr" from He.free_ok X Gm (c.fact 52 (f := .free "repr") rfl)) (all_cons (show GFact K mg fs .free "str" from He.free_ok X Gm (c.fact 53 (f := .free "str") rfl)) (all_cons (show GFact K mg fs .free "sum" from He.free_ok X Gm (c.fact 54 (f := .free "sum") rfl)) (all_cons (show GFact K mg fs .free "tuple" from He.free_ok X Gm (c.fact 55 (f := .free "tuple") rfl)) (all_cons (show GFact K mg fs .free "zip" from He.free_ok X Gm (c.fact 56 (f := .free "zip") rfl)) (all_cons (show GFact K mg fs .free "bool" from He.free_ok X Gm (c.fact 57 (f := .free "bool") rfl)) (all_nil)))))))))))))))))))))))))))))))))))))))))))))))))))))))
end L_k36

set_option Elab.async false
set_option linter.all false
set_option maxRecDepth 100000
set_option autoImplicit false
set_option maxHeartbeats 400000
namespace L_k36
open PySem Pn
def isW : PV → Int → Int → Bool
  | .int v, lo, hi => decide (lo ≤ v) && decide (v ≤ hi)
  | _, _, _ => false
/-- the data that we meet -/
def dataK : PV → Bool
  | .non => true
  | .bl _ => true
  | .int _ => true
  | .str _ => true
  | .tup _ => true
  | .lst _ => true
  | _ => false
@[simp] theorem dataK_tup {xs : List PV} : dataK (.tup xs) = true := by unfold dataK; rfl
@[simp] theorem dataK_int {i : Int} : dataK (.int i) = true := by unfold dataK; rfl
theorem p_is_whole (n : Nat) (m : Mem) (v : PV) (lo hi : Int) (h : dataK v = true) : phi T (n + 1) "is_whole" [.pv v, .pv (.int lo), .pv (.int hi)] m = .ok (.pv (.bl (isW v lo hi))) m := by
  rw [phi_eq t_is_whole rfl]
  cases v <;> first | (cases h; done) | skip
  case int v => 
    by_cases h1 : lo ≤ v <;> by_cases h2 : v ≤ hi <;> simp [m_is_whole, isW, h1, h2]
  all_goals simp [m_is_whole, isW]
def isT : PV → Int → Int → Bool
  | .tup xs, lo, hi => decide (lo ≤ xs.length) && decide ((xs.length : Int) ≤ hi)
  | _, _, _ => false
theorem p_is_tuple_of (n : Nat) (m : Mem) (v : PV) (lo hi : Int) (h : dataK v = true) : phi T (n + 1) "is_tuple_of" [.pv v, .pv (.int lo), .pv (.int hi)] m = .ok (.pv (.bl (isT v lo hi))) m := by
  rw [phi_eq t_is_tuple_of rfl]
  cases v <;> first | (cases h; done) | skip
  case tup v => 
    by_cases h1 : lo ≤ v.length <;> by_cases h2 : (v.length : Int) ≤ hi <;> simp [m_is_tuple_of, isT, h1, h2]
  all_goals simp [m_is_tuple_of, isT]
def dat2 : PV → Bool
  | .tup xs => xs.all dataK
  | v => dataK v
theorem dat2_1 {v : PV} (h : dat2 v = true) : dataK v = true := by cases v <;> first | rfl | cases h
def isP : PV → Bool
  | .tup [a, b] => isW a (-10000) 10000 && isW b (-10000) 10000
  | _ => false
theorem atI0 {α : Type} {x : α} {xs : List α} : L2.atI (x :: xs) 0 = some x := atI_nat (i := 0) rfl
theorem atI1 {α : Type} {x y : α} {xs : List α} : L2.atI (x :: y :: xs) 1 = some y := atI_nat (i := 1) rfl
theorem p_fits_point (n : Nat) (m : Mem) (v : PV) (h : dat2 v = true) : phi T (n + 2) "fits_point" [.pv v] m = .ok (.pv (.bl (isP v))) m := by
  rw [phi_eq t_fits_point rfl]
  have h1 := dat2_1 h
  by_cases ht : isT v 2 2 = true
  · cases v <;> first | (cases ht; done) | skip
    rename_i xs
    obtain ⟨a, b, rfl⟩ : ∃ a b, xs = [a, b] := by
      unfold isT at ht
      simp at ht
      obtain ⟨t1, t2⟩ := ht
      match xs, t1, t2 with
      | [a, b], _, _ => exact ⟨a, b, rfl⟩
      | [], t1, _ => simp at t1
      | [_], t1, _ => simp at t1
      | _ :: _ :: _ :: _, _, t2 => simp at t2; omega
    have ha : dataK a = true ∧ dataK b = true := by simpa [dat2] using h
    cases hw : isW a (-10000) 10000 <;> simp [m_fits_point, p_is_tuple_of, p_is_whole, ht, isP, hw, v_idxT atI0, v_idxT atI1, ha.1, ha.2]
  · have e : isP v = false := by
      unfold isP
      split
      · exact absurd rfl ht
      · rfl
    simp [m_fits_point, p_is_tuple_of, h1, ht, e]
def dat3 : PV → Bool
  | .tup xs => xs.all dat2
  | v => dataK v
theorem dat3_1 {v : PV} (h : dat3 v = true) : dataK v = true := by cases v <;> first | rfl | cases h
def isS : PV → Bool
  | .tup xs => decide (1 ≤ xs.length) && decide (xs.length ≤ 127) && xs.all isP
  | _ => false
theorem p_fits_stroke (n : Nat) (m : Mem) (v : PV) (h : dat3 v = true) : phi T (n + 3) "fits_stroke" [.pv v] m = .ok (.pv (.bl (isS v))) m := by
  rw [phi_eq t_fits_stroke rfl]
  have h1 := dat3_1 h
  by_cases ht : isT v 1 127 = true
  · cases v <;> first | (cases ht; done) | skip
    rename_i xs
    have hl : 1 ≤ xs.length ∧ xs.length ≤ 127 := by
      unfold isT at ht
      simp at ht
      omega
    have hd : ∀ x ∈ xs, dat2 x = true := by simpa [dat3] using h
    simp [m_fits_stroke, p_is_tuple_of, ht, isS, hl]
    rw [lc1_ok (by show xs.length < _; omega), lcL_map (h := fun x => .bl (isP x)) (fun x hx => by simp [wipe, p_fits_point, hd x hx])]
    simp
    rw [v_all (l := xs.map isP) (by simp)]
    simp
  · have e : isS v = false := by
      cases v with
      | tup xs =>
        unfold isT at ht
        simp at ht
        simp only [isS]
        by_cases h1 : 1 ≤ xs.length
        · have : ¬ xs.length ≤ 127 := by have := ht (by omega); omega
          simp [this]
        · simp [h1]
      | _ => rfl
    simp [m_fits_stroke, p_is_tuple_of, h1, ht, e]
abbrev Pt := Int × Int
def pt (p : Pt) : PV := .tup [.int p.1, .int p.2]
def st (l : List Pt) : PV := .tup (l.map pt)
def inB (B : Int) (p : Pt) : Prop := -B ≤ p.1 ∧ p.1 ≤ B ∧ -B ≤ p.2 ∧ p.2 ≤ B
def okS (l : List Pt) : Prop := 1 ≤ l.length ∧ l.length ≤ 127 ∧ ∀ p ∈ l, inB 10000 p
theorem dat2_pt (p : Pt) : dat2 (pt p) = true := by simp [pt, dat2]
theorem dat3_st (l : List Pt) : dat3 (st l) = true := by simp [st, dat3, dat2_pt]
theorem isP_pt {p : Pt} (h : inB 10000 p) : isP (pt p) = true := by
  obtain ⟨h1, h2, h3, h4⟩ := h
  simp [pt, isP, isW, h1, h2, h3, h4]
theorem isS_st {l : List Pt} (h : okS l) : isS (st l) = true := by
  obtain ⟨h1, h2, h3⟩ := h
  simp only [st, isS, List.length_map, h1, h2, decide_true, Bool.true_and, Bool.and_true]
  simp only [List.all_map, List.all_eq_true]
  exact fun p hp => isP_pt (h3 p hp)
variable {n : Nat} {m : Mem}
def ab (i : Int) : Int := if i < 0 then -i else i
def farI (p q : Pt) : Int := max (ab (p.1 - q.1)) (ab (p.2 - q.2))
def hd (l : List Pt) : Pt := l.headD (0, 0)
def wayI (l : List Pt) : Int := ((l.zip (l.drop 1)).map fun pq => farI pq.1 pq.2).sum
theorem zipP_st (l l' : List Pt) : zipP (l.map pt) (l'.map pt) = (l.zip l').map fun pq => PV.tup [pt pq.1, pt pq.2] := by
  unfold zipP
  rw [List.zipWith_map]
  simp [List.zip, List.map_zipWith]

end L_k36

set_option Elab.async false
set_option linter.all false
set_option maxRecDepth 100000
set_option autoImplicit false
set_option maxHeartbeats 400000
namespace L_k36
open PySem Pn
def M (mr : Mem) (a b : Int) : Mem := .lst [.int a, .int b] :: mr
def okM (a b : Int) : Prop := 0 ≤ a ∧ 0 ≤ b ∧ b < 2147483648
variable {mr : Mem}
theorem M_len {a b : Int} : (M mr a b).length = mr.length + 1 := rfl
theorem M_take {a b : Int} : (M mr a b).take (mr.length + 1) = M mr a b := by
  show List.take (M mr a b).length (M mr a b) = _
  exact List.take_length
theorem M_get {a b : Int} : (M mr a b)[0]? = some (.lst [.int a, .int b]) := rfl
theorem M_0 {a b : Int} : idx (M mr a b) (.ref 0) (.pv (.int 0)) = some (.pv (.int a)) := rfl
theorem M_1 {a b : Int} : idx (M mr a b) (.ref 0) (.pv (.int 1)) = some (.pv (.int b)) := rfl
theorem put0 {φ : Phi} {ρ : Pn.Env} {a b c : Int} {d : Den} (h1 : d φ ρ (M mr a b) = .ok (.pv (.int c)) (M mr a b)) (h2 : ρ[0]? = some (some (.ref 0))) : sPut (cVar 0) (cC (.int 0)) d φ ρ (M mr a b) = .next ρ (M mr c b) := by
  rw [e_put h1 (m2 := M mr a b) (n := 0) (by simp [h2]) (m3 := M mr a b) (k := .pv (.int 0)) (by simp), M_get]
  rfl
theorem put1 {φ : Phi} {ρ : Pn.Env} {a b c : Int} {d : Den} (h1 : d φ ρ (M mr a b) = .ok (.pv (.int c)) (M mr a b)) (h2 : ρ[0]? = some (some (.ref 0))) : sPut (cVar 0) (cC (.int 1)) d φ ρ (M mr a b) = .next ρ (M mr a c) := by
  rw [e_put h1 (m2 := M mr a b) (n := 0) (by simp [h2]) (m3 := M mr a b) (k := .pv (.int 1)) (by simp), M_get]
  rfl
theorem small_of {i : Int} (h0 : -2147483648 ≤ i) (h1 : i ≤ 2147483648) : smallI i = true := by
  have e : (2 : Int) ^ 64 = 18446744073709551616 := by decide +kernel
  unfold smallI
  rw [e]
  simp
  omega
variable {n : Nat} {m : Mem}
theorem p_roll {a b k : Int} (hM : okM a b) (h0 : 0 < k) (h1 : k ≤ 1000000) : ∃ r a' b', phi T (n + 1) "_law_roll" [.ref 0, .pv (.int k)] (M mr a b) = .ok (.pv (.int r)) (M mr a' b') ∧ okM a' b' ∧ 0 ≤ r ∧ r < k := by
  rw [phi_eq t__law_roll rfl]
  obtain ⟨ha, hb, hb2⟩ := hM
  generalize phi T n = φ
  by_cases hp : 0 < a
  · refine ⟨a % k, a / k, b, ?_, ⟨Int.ediv_nonneg ha (by omega), hb, hb2⟩, Int.emod_nonneg _ (by omega), Int.emod_lt_of_pos _ h0⟩
    simp [m__law_roll, M_0, hp, v_modI h0]
    rw [put0 (c := a / k) (by simp [M_0, v_divI (show 0 < k ∧ k < 1073741824 by omega)]) (by simp)]
    simp [M_len, M_take]
  · have hz : a = 0 := by omega
    subst hz
    have hb' : 0 ≤ (b * 31991 + 8849) % 2147483399 ∧ (b * 31991 + 8849) % 2147483399 < 2147483399 := ⟨Int.emod_nonneg _ (by omega), Int.emod_lt_of_pos _ (by omega)⟩
    generalize hq : (b * 31991 + 8849) % 2147483399 = q at hb'
    refine ⟨(q * (q + 727)) % 2147483563 / 1297 % k, 0, q, ?_, ⟨by omega, by omega, by omega⟩, Int.emod_nonneg _ (by omega), Int.emod_lt_of_pos _ h0⟩
    have s1 : (smallI b || smallI 31991) = true := by rw [small_of (i := b) (by omega) (by omega)]; rfl
    have s2 : (smallI q || smallI (q + 727)) = true := by rw [small_of (i := q) (by omega) (by omega)]; rfl
    simp [m__law_roll, M_0]
    rw [put1 (c := q) (by simp [M_1, v_mulI s1, v_modI (show (0 : Int) < 2147483399 by omega), hq]) (by simp)]
    simp [M_1, v_mulI s2, v_modI (show (0 : Int) < 2147483563 by omega), v_divI (show (0 : Int) < 1297 ∧ (1297 : Int) < 1073741824 by omega), v_modI h0, M_len, M_take]
theorem p_cup {ns : List Int} (hn : ns.length ≤ 1000) : ∃ a b, phi T (n + 1) "_law_cup" [.pv (.scr (ns.map PV.int))] [] = .ok (.ref 0) (M [] a b) ∧ okM a b := by
  rw [phi_eq t__law_cup rfl]
  generalize phi T n = φ
  obtain ⟨c, hc⟩ : ∃ c, L2.atI (ns.map PV.int ++ [PV.int 0]) 0 = some (.int c) := by
    cases ns with
    | nil => exact ⟨0, atI0⟩
    | cons x xs => exact ⟨x, atI0⟩
  have ha : bin .add [] (.pv (.lst (ns.map PV.int))) (.pv (.lst [.int 0])) = some (.pv (.lst (ns.map PV.int ++ [.int 0]))) := v_addL (by simp; omega)
  have hp : bin .pow [] (.pv (.int 10)) (.pv (.int 18)) = some (.pv (.int 1000000000000000000)) := by
    rw [v_powI (by decide +kernel)]
    rfl
  generalize hcell : (if c < 0 then -c else c) = cell
  have h0 : 0 ≤ cell := by rw [← hcell]; split <;> omega
  have s1 : (smallI cell || smallI 773) = true := by rw [small_of (i := 773) (by omega) (by omega)]; simp
  refine ⟨if 1000000000000000000 ≤ cell then cell / 457 else 0, (cell * 773 + 4759) % 2077504901 + 641, ?_, ?_, ?_, ?_⟩
  · by_cases hge : (1000000000000000000 : Int) ≤ cell
    · simp [m__law_cup, ha, v_idxL hc, hcell, hp, hge, v_divI (show (0 : Int) < 457 ∧ (457 : Int) < 1073741824 by omega), v_mulI s1, v_modI (show (0 : Int) < 2077504901 by omega)]
      rfl
    · simp [m__law_cup, ha, v_idxL hc, hcell, hp, hge, v_divI (show (0 : Int) < 457 ∧ (457 : Int) < 1073741824 by omega), v_mulI s1, v_modI (show (0 : Int) < 2077504901 by omega)]
      rfl
  · split
    · exact Int.ediv_nonneg h0 (by omega)
    · omega
  · have := Int.emod_nonneg (cell * 773 + 4759) (show (2077504901 : Int) ≠ 0 by omega)
    omega
  · have := Int.emod_lt_of_pos (cell * 773 + 4759) (show (0 : Int) < 2077504901 by omega)
    omega
/-- items that are made with an effect -/
theorem lcL_eff {f : PV → Mem → Res (List PV)} {P : Pt → Prop} : ∀ (xs : List PV) (a b : Int), okM a b →
    (∀ x ∈ xs, ∀ a b, okM a b → ∃ p a' b', f x (M mr a b) = .ok [pt p] (M mr a' b') ∧ P p ∧ okM a' b') →
    ∃ (l : List Pt) (a' b' : Int), lcL f [] xs (M mr a b) = .ok (l.map pt) (M mr a' b') ∧ l.length = xs.length ∧ (∀ p ∈ l, P p) ∧ okM a' b'
  | [], a, b, h, _ => ⟨[], a, b, by simp, rfl, fun p hp => (nomatch hp), h⟩
  | x :: xs, a, b, h, hf => by
    obtain ⟨p, a1, b1, e1, h1, o1⟩ := hf x List.mem_cons_self a b h
    obtain ⟨l, a2, b2, e2, h2, h3, o2⟩ := lcL_eff xs a1 b1 o1 fun y hy => hf y (List.mem_cons_of_mem _ hy)
    refine ⟨p :: l, a2, b2, ?_, by simp [h2], fun q hq => ?_, o2⟩
    · rw [e_lcL1, e1, e_app1, e2, e_app2]; rfl
    · rcases List.mem_cons.mp hq with rfl | hq
      · exact h1
      · exact h3 q hq
theorem p_stroke {a b most side : Int} (hM : okM a b) (h0 : 1 ≤ most) (h1 : most ≤ 100) (h2 : 1 ≤ side) (h3 : side ≤ 30) :
    ∃ (l : List Pt) (a' b' : Int), phi T (n + 2) "_law_stroke" [.ref 0, .pv (.int most), .pv (.int side)] (M mr a b) = .ok (.pv (st l)) (M mr a' b') ∧ okM a' b' ∧ 1 ≤ l.length ∧ (l.length : Int) ≤ most ∧ ∀ p ∈ l, inB 30 p := by
  rw [phi_eq t__law_stroke rfl]
  have roll : ∀ {a b k : Int}, okM a b → 0 < k → k ≤ 1000000 → ∃ r a' b', phi T (n + 1) "_law_roll" [.ref 0, .pv (.int k)] (M mr a b) = .ok (.pv (.int r)) (M mr a' b') ∧ okM a' b' ∧ 0 ≤ r ∧ r < k := fun h h0 h1 => p_roll h h0 h1
  generalize phi T (n + 1) = φ at *
  obtain ⟨r, a1, b1, e1, o1, r0, r1⟩ := roll hM (show 0 < most by omega) (by omega)
  have item : ∀ x ∈ rngP 0 (1 + r).toNat, ∀ a b, okM a b → ∃ p a' b', lcOne (.name 3) tYes (cTup (aCons (cCall "_law_roll" (aCons (cVar 0) (aCons (cVar 2) (aNil)))) (aCons (cCall "_law_roll" (aCons (cVar 0) (aCons (cC (.int 4)) (aNil)))) (aNil)))) φ (Pn.wipe [some (.ref 0), some (.pv (.int most)), some (.pv (.int side)), none] [3]) x (M mr a b) = .ok [pt p] (M mr a' b') ∧ inB 30 p ∧ okM a' b' := by
    intro x _ a b o
    obtain ⟨r1, a1, b1, e1, o1, r10, r11⟩ := roll o (show 0 < side by omega) (by omega)
    obtain ⟨r2, a2, b2, e2, o2, r20, r21⟩ := roll o1 (show (0 : Int) < 4 by omega) (by omega)
    refine ⟨(r1, r2), a2, b2, ?_, ⟨by simp; omega, by simp; omega, by simp; omega, by simp; omega⟩, o2⟩
    simp [Pn.wipe, e1, e2, pt]
  obtain ⟨l, a2, b2, e2, hl, hp, o2⟩ := lcL_eff (rngP 0 (1 + r).toNat) a1 b1 o1 item
  rw [rngP_len] at hl
  refine ⟨l, a2, b2, ?_, o2, by omega, by omega, hp⟩
  have er := rng1_ok' (m := M mr a1 b1) (j := 1 + r) (by omega) (by omega)
  simp [m__law_stroke, e1]
  rw [er, Res.of_some, lc1_ok (by show (rngP 0 _).length < _; rw [rngP_len]; omega)]
  simp only
  rw [e2]
  simp [M_len, M_take, st]
variable {n : Nat} {m : Mem}
def gd (l : List Pt) (i : Nat) : Pt := l.getD i (0, 0)
theorem gd_get {l : List Pt} {i : Nat} (h : i < l.length) : l[i]? = some (gd l i) := by
  unfold gd; rw [List.getD_eq_getElem?_getD, List.getElem?_eq_getElem h]; rfl
theorem idx_st {l : List Pt} {i : Nat} (h : i < l.length) : idx m (.pv (st l)) (.pv (.int i)) = some (.pv (pt (gd l i))) :=
  v_idxT (atI_nat (by rw [List.getElem?_map, gd_get h]; rfl))
theorem len_st {l : List Pt} : bLen m [.pv (st l)] = some (.pv (.int l.length)) := by simp [st]
/-! told is due -/
mutual
def fit : Nat → PV → Bool
  | _, .non => true
  | _, .bl _ => true
  | _, .int _ => true
  | d + 1, .tup xs => decide (xs.length ≤ 1000) && fits d xs
  | _, _ => false
def fits : Nat → List PV → Bool
  | _, [] => true
  | d, x :: xs => fit d x && fits d xs
end
theorem fits_mem : ∀ {d : Nat} {xs : List PV}, fits d xs = true → ∀ x ∈ xs, fit d x = true
  | _, [], _, x, h => nomatch h
  | d, y :: ys, hf, x, h => by
    unfold fits at hf
    simp only [Bool.and_eq_true] at hf
    rcases List.mem_cons.mp h with rfl | h
    · exact hf.1
    · exact fits_mem hf.2 x h
theorem p_same : ∀ (d : Nat) (v : PV) (n : Nat) (m : Mem), fit d v = true → phi T (n + d + 1) "_law_same" [.pv v, .pv v] m = .ok (.pv (.bl true)) m := by
  intro d
  induction d with
  | zero =>
    intro v n m h
    rw [phi_eq t__law_same rfl]
    generalize phi T (n + 0) = φ
    cases v <;> first | (unfold fit at h; cases h; done) | skip
    · simp [m__law_same]
    · rename_i b
      cases b <;> simp [m__law_same, isNon]
    · simp [m__law_same, isNon]
  | succ d ih =>
    intro v n m h
    rw [phi_eq t__law_same rfl]
    have ih' : ∀ v, fit d v = true → phi T (n + (d + 1)) "_law_same" [.pv v, .pv v] m = .ok (.pv (.bl true)) m := fun v hv => ih v n m hv
    generalize phi T (n + (d + 1)) = φ at *
    cases v <;> first | (unfold fit at h; cases h; done) | skip
    · simp [m__law_same]
    · rename_i b
      cases b <;> simp [m__law_same, isNon]
    · simp [m__law_same, isNon]
    · rename_i xs
      unfold fit at h
      simp only [Bool.and_eq_true, decide_eq_true_eq] at h
      have er := rng1_ok' (m := m) (j := (xs.length : Int)) (by omega) (by omega)
      rw [Int.toNat_natCast] at er
      simp [m__law_same]
      rw [er, Res.of_some, lc1_ok (by show (rngP 0 _).length < _; rw [rngP_len]; omega)]
      simp only
      rw [rng0, lcL_mapf (h := fun _ => PV.bl true) (fun i hi => ?_)]
      · simp only [e_lc2f, e_cons1, e_nil, e_cons2, e_blt1]
        rw [v_all (l := (List.range xs.length).map fun _ => true) (by simp)]
        simp
      · have hi : i < xs.length := by simpa using hi
        have hx : xs[i]? = some xs[i] := List.getElem?_eq_getElem hi
        have e1 : idx m (.pv (.tup xs)) (.pv (.int i)) = some (.pv xs[i]) := v_idxT (atI_nat hx)
        have e2 := ih' xs[i] (fits_mem h.2 _ (List.getElem_mem hi))
        simp [Pn.wipe, e1, e2]

end L_k36

set_option Elab.async false
set_option linter.all false
set_option maxRecDepth 100000
set_option autoImplicit false
set_option maxHeartbeats 400000
namespace L_k36
open PySem Pn
variable {n : Nat} {m : Mem} {φ : Phi}
theorem iOf_st {l : List Pt} : iOf m (.pv (st l)) = some (l.map pt, []) := rfl
theorem tup_st {l : List Pt} : bTup m [.pv (.lst (l.map pt))] = some (.pv (st l)) := rfl
theorem comp_st {ρ : Pn.Env} {tg : Tgt} {elt : Den} {l : List Pt} {h : Pt → Pt} (hl : l.length ≤ 127) (hs : ∀ p ∈ l, lcOne tg tYes elt φ ρ (pt p) m = .ok [pt (h p)] m) : lc1 false tg tYes elt φ ρ (.ok (l.map pt, []) m) = .ok (.pv (.lst ((l.map h).map pt))) m := by
  rw [lc1_ok (by simp; omega), lcL_mapf (h := fun p => pt (h p)) hs]
  simp [Function.comp_def]
theorem comp_rng {ρ : Pn.Env} {tg : Tgt} {elt : Den} {k : Nat} {h : Nat → Pt} (hl : k ≤ 127) (hs : ∀ i, i < k → lcOne tg tYes elt φ ρ (.int i) m = .ok [pt (h i)] m) : lc1 false tg tYes elt φ ρ (.ok (rngP 0 k, []) m) = .ok (.pv (.lst (((List.range k).map h).map pt))) m := by
  rw [lc1_ok (by show (rngP 0 k).length < _; rw [rngP_len]; omega)]
  simp only
  rw [rng0, lcL_mapf (h := fun i => pt (h i)) fun i hi => hs i (by simpa using hi)]
  simp [Function.comp_def]
theorem range_gd {α : Type} {l : List Pt} (f : Pt → α) : (List.range l.length).map (fun i => f (gd l i)) = l.map f := by
  apply List.ext_getElem
  · simp
  · intro i h1 h2
    have hi : i < l.length := by simpa using h1
    have e1 : gd l i = l[i] := by unfold gd; rw [List.getD_eq_getElem?_getD, List.getElem?_eq_getElem hi]; rfl
    simp [e1]
theorem range_back {l : List Pt} : (List.range l.length).map (fun i => gd l (l.length - 1 - i)) = l.reverse := by
  apply List.ext_getElem
  · simp
  · intro i h1 h2
    have hi : i < l.length := by simpa using h1
    have e1 : gd l (l.length - 1 - i) = l[l.length - 1 - i] := by unfold gd; rw [List.getD_eq_getElem?_getD, List.getElem?_eq_getElem (by omega)]; rfl
    simp [e1]
theorem fit_st {d : Nat} {l : List Pt} (h : l.length ≤ 1000) : fit (d + 2) (st l) = true := by
  unfold st fit
  have : ∀ l : List Pt, fits (d + 1) (l.map pt) = true := by
    intro l
    induction l with
    | nil => rfl
    | cons p r ih => rw [List.map_cons]; unfold fits; rw [ih]; simp [pt, fit, fits]
  simp [this, h]
theorem okD_st {d : Nat} {l : List Pt} : (st l).okD (d + 2) = true := by
  unfold st PV.okD
  induction l with
  | nil => simp [okDs]
  | cons p r ih => simp [okDs, ih, pt, PV.okD]
theorem eqP_st {l : List Pt} : eqP (st l) (st l) = true := by
  unfold st eqP
  induction l with
  | nil => simp [eqPs]
  | cons p r ih => simp [eqPs, ih, pt, eqP]
theorem ne_st {l : List Pt} : cmp .ne m (.pv (st l)) (.pv (st l)) = some (.pv (.bl false)) := by
  rw [v_ne okD_st okD_st, eqP_st]; rfl
theorem ne_nil : cmp .ne m (.pv (.lst [])) (.pv (.lst [])) = some (.pv (.bl false)) := by
  rw [v_ne (by simp [PV.okD, okDs]) (by simp [PV.okD, okDs])]
  simp [eqP, eqPs]
theorem eq_nil : cmp .eq m (.pv (.lst [])) (.pv (.lst [])) = some (.pv (.bl true)) := by
  rw [v_eq (by simp [PV.okD, okDs]) (by simp [PV.okD, okDs])]
  simp [eqP, eqPs]
/-! ways -/
theorem way_map {l : List Pt} {h : Pt → Pt} (hh : ∀ p q, farI (h p) (h q) = farI p q) : wayI (l.map h) = wayI l := by
  unfold wayI
  rw [← List.map_drop, List.zip_map, List.map_map]
  congr 1
  apply List.map_congr_left
  intro pq _
  exact hh _ _
theorem way_cons2 {p q : Pt} {r : List Pt} : wayI (p :: q :: r) = farI p q + wayI (q :: r) := by
  simp [wayI]
theorem way_snoc : ∀ (l : List Pt) (p q : Pt), wayI (l ++ [p, q]) = wayI (l ++ [p]) + farI p q
  | [], p, q => by simp [wayI]
  | [a], p, q => by simp [wayI]
  | a :: b :: r, p, q => by
    have ih := way_snoc (b :: r) p q
    simp only [List.cons_append] at ih ⊢
    rw [way_cons2, way_cons2, ih]; omega
theorem far_symm (p q : Pt) : farI p q = farI q p := by
  have e : ∀ i, ab i = max i (-i) := fun i => by unfold ab; split <;> omega
  simp only [farI, e]; omega
theorem way_rev : ∀ (l : List Pt), wayI l.reverse = wayI l
  | [] => rfl
  | [p] => rfl
  | p :: q :: r => by
    have ih := way_rev (q :: r)
    rw [List.reverse_cons, List.reverse_cons, List.append_assoc]
    show wayI (r.reverse ++ [q, p]) = _
    rw [way_snoc, way_cons2]
    rw [List.reverse_cons] at ih
    rw [ih, far_symm q p]; omega
theorem ab_max (i : Int) : ab i = max i (-i) := by unfold ab; split <;> omega

end L_k36

set_option Elab.async false
set_option linter.all false
set_option maxRecDepth 100000
set_option autoImplicit false
set_option maxHeartbeats 400000
namespace L_k36
open PySem Pn
variable {n : Nat} {m : Mem}
theorem p_need_stroke {l : List Pt} (h : okS l) : phi T (n + 4) "need_stroke" [.pv (st l)] m = .ok (.pv .non) m := by
  rw [phi_eq t_need_stroke rfl]
  simp [m_need_stroke, p_fits_stroke, dat3_st, isS_st h]
theorem p_far {p q : Pt} : phi T (n + 1) "far" [.pv (pt p), .pv (pt q)] m = .ok (.pv (.int (farI p q))) m := by
  rw [phi_eq t_far rfl]
  simp [m_far, pt, v_idxT atI0, v_idxT atI1, farI, ab]
end L_k36

set_option Elab.async false
set_option linter.all false
set_option maxRecDepth 100000
set_option autoImplicit false
set_option maxHeartbeats 400000
namespace L_k36
open PySem Pn
variable {n : Nat} {m : Mem} {φ : Phi}
/-! what stands in a dict -/
theorem valP_put {κ : Type} [DecidableEq κ] (kvs : List (κ × PV)) (k j : κ) (y : PV) : valP (putP kvs k y) j = if j = k then some y else valP kvs j := by
  have hm : ∀ kvs : List (κ × PV), valP (kvs.map fun kv => if kv.1 = k then (kv.1, y) else kv) j = (valP kvs j).map fun x => if j = k then y else x := by
    intro kvs
    induction kvs with
    | nil => rfl
    | cons p r ih =>
      by_cases e : p.1 = j
      · have e1 : valP (p :: r) j = some p.2 := by unfold valP; simp [List.find?_cons, e]
        by_cases ek : p.1 = k
        · have : valP ((p :: r).map fun kv => if kv.1 = k then (kv.1, y) else kv) j = some y := by unfold valP; simp [List.find?_cons, e, ek]; rw [← ek, e]; simp
          rw [this, e1]; simp [← e, ek]
        · have : valP ((p :: r).map fun kv => if kv.1 = k then (kv.1, y) else kv) j = some p.2 := by
            rw [List.map_cons, if_neg ek]
            unfold valP; simp [List.find?_cons, e]
          rw [this, e1]; simp [← e, ek]
      · have e1 : valP (p :: r) j = valP r j := by unfold valP; simp [List.find?_cons, e]
        have e2 : valP ((p :: r).map fun kv => if kv.1 = k then (kv.1, y) else kv) j = valP (r.map fun kv => if kv.1 = k then (kv.1, y) else kv) j := by
          unfold valP
          by_cases ek : p.1 = k
          · have ej : ¬ k = j := fun z => e (ek.trans z)
            simp [List.find?_cons, ek, ej]
          · simp [List.find?_cons, ek, e]
        rw [e1, e2, ih]
  have hany : (kvs.any fun kv => decide (kv.1 = k)) = (valP kvs k).isSome := by
    clear hm
    induction kvs with
    | nil => rfl
    | cons p r ih =>
      by_cases e : p.1 = k
      · unfold valP; simp [List.find?_cons, e]
      · have e1 : valP (p :: r) k = valP r k := by unfold valP; simp [List.find?_cons, e]
        rw [e1, ← ih]; simp [e]
  unfold putP
  rw [hany]
  by_cases h : (valP kvs k).isSome = true
  · rw [if_pos h, hm]
    by_cases e : j = k
    · subst e
      obtain ⟨x, hx⟩ := Option.isSome_iff_exists.mp h
      simp [hx]
    · simp [e]
  · rw [if_neg h]
    have hn : valP kvs k = none := by simpa using h
    clear hm hany h
    induction kvs with
    | nil =>
      by_cases e : j = k
      · unfold valP; simp [e]
      · have : ¬ k = j := fun z => e z.symm
        unfold valP; simp [e, this]
    | cons p r ih =>
      have hk : ¬ p.1 = k := fun z => by unfold valP at hn; simp [List.find?_cons, z] at hn
      have hr : valP r k = none := by
        have e1 : valP (p :: r) k = valP r k := by unfold valP; simp [List.find?_cons, hk]
        rw [← e1]; exact hn
      by_cases ej : p.1 = j
      · have : ¬ j = k := fun z => hk (ej.trans z)
        unfold valP; simp [List.find?_cons, ej, this]
      · have e1 : valP (p :: r) j = valP r j := by unfold valP; simp [List.find?_cons, ej]
        have e2 : valP (p :: r ++ [(k, y)]) j = valP (r ++ [(k, y)]) j := by unfold valP; simp [List.find?_cons, ej]
        rw [e1, e2, ih hr]
theorem putP_len {κ : Type} [DecidableEq κ] (kvs : List (κ × PV)) (k : κ) (y : PV) : (putP kvs k y).length ≤ kvs.length + 1 := by
  unfold putP
  split
  · simp
  · simp
abbrev NP := Nat × Nat
def np (p : NP) : PV := .tup [.int p.1, .int p.2]
def ky (a b : Nat) : List L2.Key := [.inl (a : Int), .inl (b : Int)]
theorem ky_inj {a b c d : Nat} : ky a b = ky c d ↔ a = c ∧ b = d := by
  unfold ky
  constructor
  · intro h
    simp at h
    omega
  · rintro ⟨rfl, rfl⟩; rfl
theorem ky_np {a b : Nat} : keysP (np (a, b)) = some (ky a b) := rfl
def ahead : Nat → Nat → List NP
  | 0, 0 => []
  | a + 1, 0 => [(a, 0)]
  | 0, b + 1 => [(0, b)]
  | a + 1, b + 1 => [(a, b), (a, b + 1), (a + 1, b)]
theorem p_ahead (a b : Nat) : phi T (n + 1) "ahead_of" [.pv (.int a), .pv (.int b)] m = .ok (.pv (.lst ((ahead a b).map np))) m := by
  rw [phi_eq t_ahead_of rfl]
  generalize phi T n = φ
  have e1 : ∀ k : Nat, ((k + 1 : Nat) : Int) - 1 = (k : Int) := fun k => by omega
  have e2 : ((0 : Nat) : Int) - 1 = -1 := by decide
  cases a with
  | zero =>
    cases b with
    | zero =>
      simp [m_ahead_of]
      rw [lc1_ok (by show (3 : Nat) < 16777216; omega)]
      simp [Pn.wipe, ahead]
    | succ b =>
      simp [m_ahead_of]
      rw [lc1_ok (by show (3 : Nat) < 16777216; omega)]
      have e3 : (b : Int) + 1 - 1 = b := by omega
      simp [Pn.wipe, ahead, e3, np]
  | succ a =>
    have e4 : (a : Int) + 1 - 1 = a := by omega
    have e6 : (0 : Int) ≤ (a : Int) + 1 := by omega
    cases b with
    | zero =>
      simp [m_ahead_of]
      rw [lc1_ok (by show (3 : Nat) < 16777216; omega)]
      simp [Pn.wipe, ahead, e4, e6, np]
    | succ b =>
      have e3 : (b : Int) + 1 - 1 = b := by omega
      have e7 : (0 : Int) ≤ (b : Int) + 1 := by omega
      simp [m_ahead_of]
      rw [lc1_ok (by show (3 : Nat) < 16777216; omega)]
      simp [Pn.wipe, ahead, e3, e4, e6, e7, np]
theorem p_need_loose {k : Int} (h0 : 0 ≤ k) (h1 : k ≤ 20000) : phi T (n + 2) "need_loose" [.pv (.int k)] m = .ok (.pv .non) m := by
  rw [phi_eq t_need_loose rfl]
  have e := p_is_whole n m (.int k) 0 20000 (by simp)
  have : isW (.int k) 0 20000 = true := by simp [isW, h0, h1]
  rw [this] at e
  simp [m_need_loose, e]
theorem p_need_pair {l o : List Pt} {k : Int} (hl : okS l) (ho : okS o) (h0 : 0 ≤ k) (h1 : k ≤ 20000) : phi T (n + 5) "need_pair" [.pv (st l), .pv (st o), .pv (.int k)] m = .ok (.pv .non) m := by
  rw [phi_eq t_need_pair rfl]
  simp [m_need_pair, p_need_stroke hl, p_need_stroke ho, p_need_loose h0 h1]
/-! the least looseness -/
def L (d : Nat → Nat → Int) : Nat → Nat → Int
  | 0, 0 => max (d 0 0) 0
  | a + 1, 0 => max (d (a + 1) 0) (L d a 0)
  | 0, b + 1 => max (d 0 (b + 1)) (L d 0 b)
  | a + 1, b + 1 => max (d (a + 1) (b + 1)) (min (min (L d a b) (L d a (b + 1))) (L d (a + 1) b))
termination_by a b => a + b
def mn0 : List Int → Int
  | [] => 0
  | x :: xs => xs.foldl min x
theorem L_eq (d : Nat → Nat → Int) (a b : Nat) : L d a b = max (d a b) (mn0 ((ahead a b).map fun p => L d p.1 p.2)) := by
  cases a <;> cases b <;> rw [L] <;> rfl
def C (d : Nat → Nat → Int) (k : Int) : Nat → Nat → Int
  | 0, 0 => if d 0 0 ≤ k then 1 else 0
  | a + 1, 0 => if d (a + 1) 0 ≤ k then C d k a 0 else 0
  | 0, b + 1 => if d 0 (b + 1) ≤ k then C d k 0 b else 0
  | a + 1, b + 1 => if d (a + 1) (b + 1) ≤ k then C d k a b + C d k a (b + 1) + C d k (a + 1) b else 0
termination_by a b => a + b
theorem C_eq (d : Nat → Nat → Int) (k : Int) (a b : Nat) : C d k a b = if d a b ≤ k then (if (a, b) = (0, 0) then 1 else ((ahead a b).map fun p => C d k p.1 p.2).sum) else 0 := by
  cases a <;> cases b <;> rw [C] <;> simp [ahead, Int.add_assoc]
/-- the dict filled up to (a, b) -/
def Fil (F : Nat → Nat → Int) (W : Nat) (kvs : List (List L2.Key × PV)) (a b : Nat) : Prop :=
  (∀ i j, (i < a ∧ j < W) ∨ (i = a ∧ j < b) → valP kvs (ky i j) = some (.int (F i j))) ∧ kvs.length ≤ a * W + b
theorem Fil.zero {F : Nat → Nat → Int} {W : Nat} : Fil F W [] 0 0 := ⟨fun i j h => by omega, by simp⟩
theorem Fil.put {F : Nat → Nat → Int} {W a b : Nat} {kvs : List (List L2.Key × PV)} (h : Fil F W kvs a b) : Fil F W (putP kvs (ky a b) (.int (F a b))) a (b + 1) := by
  refine ⟨fun i j hij => ?_, by have := putP_len kvs (ky a b) (.int (F a b)); have := h.2; omega⟩
  rw [valP_put]
  by_cases e : ky i j = ky a b
  · obtain ⟨rfl, rfl⟩ := ky_inj.mp e
    rw [if_pos rfl]
  · rw [if_neg e]
    refine h.1 i j ?_
    rw [ky_inj] at e
    omega
theorem Fil.row {F : Nat → Nat → Int} {W a : Nat} {kvs : List (List L2.Key × PV)} (h : Fil F W kvs a W) : Fil F W kvs (a + 1) 0 := by
  refine ⟨fun i j hij => h.1 i j (by omega), ?_⟩
  have := h.2
  rw [Nat.add_mul]; omega
theorem ahead_lt {a b : Nat} {p : NP} (h : p ∈ ahead a b) : (p.1 < a ∧ p.2 ≤ b) ∨ (p.1 = a ∧ p.2 < b) := by
  cases a <;> cases b <;> simp [ahead] at h
  · subst h; simp
  · subst h; simp
  · rcases h with rfl | rfl | rfl <;> simp
theorem mem_D {kvs : List (List L2.Key × PV)} : (m ++ [Cell.dt kvs])[m.length]? = some (.dt kvs) := by simp
theorem idx_D {kvs : List (List L2.Key × PV)} {p : NP} {v : PV} (h : valP kvs (ky p.1 p.2) = some v) : idx (m ++ [.dt kvs]) (.ref m.length) (.pv (np p)) = some (.pv v) := by
  refine v_idxD ?_
  rw [mem_D]
  show (keysP (np p)).map _ = _
  rw [show np p = np (p.1, p.2) from rfl, ky_np]
  exact congrArg some h
theorem rows_comp {F : Nat → Nat → Int} {W a b : Nat} {kvs : List (List L2.Key × PV)} {ρ : Pn.Env} {x y : Nat} (h : Fil F W kvs a b) (hb : b < W) (h2 : ρ[x]? = some (some (.ref m.length))) (hy : y < ρ.length) (hxy : x ≠ y) :
    lcL (lcOne (.name y) tYes (cIdx (cVar x) (cVar y)) φ ρ) [] ((ahead a b).map np) (m ++ [.dt kvs]) = .ok (((ahead a b).map fun p => F p.1 p.2).map PV.int) (m ++ [.dt kvs]) := by
  rw [lcL_mapf (h := fun p => PV.int (F p.1 p.2)) fun p hp => by
    have e := idx_D (m := m) (p := p) (h.1 p.1 p.2 (by have := ahead_lt hp; omega))
    have g1 : (ρ.set y (some (.pv (np p))))[x]? = some (some (.ref m.length)) := by rw [List.getElem?_set_ne (Ne.symm hxy)]; exact h2
    have g2 : (ρ.set y (some (.pv (np p))))[y]? = some (some (.pv (np p))) := List.getElem?_set_self hy
    simp [g1, g2, e]]
  simp [Function.comp_def]
theorem put_D {kvs : List (List L2.Key × PV)} {a b : Nat} {p : PV} {ρ : Pn.Env} {o i d : Den} (h1 : d φ ρ (m ++ [.dt kvs]) = .ok (.pv p) (m ++ [.dt kvs])) (h2 : o φ ρ (m ++ [.dt kvs]) = .ok (.ref m.length) (m ++ [.dt kvs])) (h3 : i φ ρ (m ++ [.dt kvs]) = .ok (.pv (np (a, b))) (m ++ [.dt kvs])) (hl : kvs.length < 16777216) :
    sPut o i d φ ρ (m ++ [.dt kvs]) = .next ρ (m ++ [.dt (putP kvs (ky a b) p)]) := by
  rw [e_put h1 h2 h3, mem_D]
  unfold put3 putC dput
  dsimp only
  rw [ky_np]
  dsimp only
  rw [if_pos hl]
  simp

end L_k36

set_option Elab.async false
set_option linter.all false
set_option maxRecDepth 100000
set_option autoImplicit false
set_option maxHeartbeats 400000
namespace L_k36
open PySem Pn
variable {n : Nat} {m : Mem} {φ : Phi}
def itm (l : List Pt) (i : Nat) : PV := .tup [.int i, pt (gd l i)]
theorem enum_st (l : List Pt) : enumP (l.map pt) = (List.range' 0 l.length).map (itm l) := by
  apply List.ext_getElem
  · simp [enumP, zipP, rngP]
  · intro i h1 h2
    have hi : i < l.length := by simpa using h2
    have e1 : gd l i = l[i] := by unfold gd; rw [List.getD_eq_getElem?_getD, List.getElem?_eq_getElem hi]; rfl
    simp [enumP, zipP, rngP, itm, e1]
def dd (l o : List Pt) (i j : Nat) : Int := farI (gd l i) (gd o j)
theorem okDs_ints {d : Nat} {l : List Int} : okDs d (l.map PV.int) = true := by
  induction l with
  | nil => simp [okDs]
  | cons a l ih => simp [okDs, ih, PV.okD]
theorem ne_ints {l : List Int} : cmp .ne m (.pv (.lst (l.map PV.int))) (.pv (.lst [])) = some (.pv (.bl (!l.isEmpty))) := by
  rw [v_ne (by unfold PV.okD; exact okDs_ints) (by simp [PV.okD, okDs])]
  cases l <;> simp [eqP, eqPs]
theorem min_ints {x : Int} {l : List Int} : bMinD m [.pv (.lst ((x :: l).map PV.int))] = some (.pv (.int (l.foldl min x))) := by
  refine v_minD ?_
  show ((((some ((x :: l).map PV.int)).bind intsOf).bind leastI).map _) = _
  rw [Option.bind_some, v_ints]
  rfl
def rws (F : Nat → Nat → Int) (a b : Nat) : List Int := (ahead a b).map fun p => F p.1 p.2
end L_k36

set_option Elab.async false
set_option linter.all false
set_option maxRecDepth 100000
set_option autoImplicit false
set_option maxHeartbeats 400000
namespace L_k36
open PySem Pn
open PySem.W (dataLt alike)
variable {n : Nat} {m : Mem} {φ : Phi}
/-! how many -/
theorem ne_np {a b : Nat} : cmp .ne m (.pv (.tup [.int a, .int b])) (.pv (.tup [.int 0, .int 0])) = some (.pv (.bl (!decide ((a, b) = ((0 : Nat), (0 : Nat)))))) := by
  rw [v_ne (by simp [PV.okD, okDs]) (by simp [PV.okD, okDs])]
  cases a <;> cases b <;> simp [eqP, eqPs] <;> omega
noncomputable abbrev ccIn : SDen := (sSeq (sSet 8 (cIf (tTru (cCmp .ne (cTup (aCons (cVar 4) (aCons (cVar 6) (aNil)))) (cTup (aCons (cC (.int 0)) (aCons (cC (.int 0)) (aNil)))))) (cB bSum (aCons (cLc false [9] (iSeq (cCall "ahead_of" (aCons (cVar 4) (aCons (cVar 6) (aNil))))) (.name 9) (tYes) (cIdx (cVar 3) (cVar 9))) (aNil))) (cC (.int 1)))) (sPut (cVar 3) (cTup (aCons (cVar 4) (aCons (cVar 6) (aNil)))) (cIf (tTru (cCmp .le (cCall "far" (aCons (cVar 5) (aCons (cVar 7) (aNil)))) (cVar 2))) (cVar 8) (cC (.int 0)))))

end L_k36

set_option Elab.async false
set_option linter.all false
set_option maxRecDepth 100000
set_option autoImplicit false
set_option maxHeartbeats 400000
namespace L_k36
open PySem Pn
open PySem.W (dataLt alike)
variable {n : Nat} {m : Mem} {φ : Phi}
/-! a coupling found back -/
def chain : List NP → Prop
  | [] => False
  | [p] => p = (0, 0)
  | p :: q :: r => q ∈ ahead p.1 p.2 ∧ chain (q :: r)
def gq (F : Nat → Nat → Int) (q : NP) : PV := .tup [.int (F q.1 q.2), np q]
theorem lt_gq {F : Nat → Nat → Int} {p q : NP} : (ltD (gq F p) (gq F q) = true → F p.1 p.2 ≤ F q.1 q.2) ∧ (ltD (gq F p) (gq F q) = false → F q.1 q.2 ≤ F p.1 p.2) := by
  have ha : alike (.int (F p.1 p.2)) (.int (F q.1 q.2)) = true := by simp [alike]
  have e : ltD (gq F p) (gq F q) = PyProof.Rows.lexLt PyProof.Rows.itemOrd (PySem.W.keyToksAll [.int (F p.1 p.2), (np p).toD]) (PySem.W.keyToksAll [.int (F q.1 q.2), (np q).toD]) := by
    unfold ltD gq PV.toD toDs toDs toDs PV.toD
    exact PySem.W.dataLt_tuple _ _
  by_cases h : F p.1 p.2 = F q.1 q.2
  · exact ⟨fun _ => by omega, fun _ => by omega⟩
  · have hv : PyData.eqv (.int (F p.1 p.2)) (.int (F q.1 q.2)) = false := by
      simp [PyData.eqv, h]
    rw [PySem.W.dataLt_all_no ha hv, PySem.W.dataLt_int] at e
    rw [e]
    exact ⟨fun h => by have := of_decide_eq_true h; omega, fun h => by have := of_decide_eq_false h; omega⟩
theorem pick {F : Nat → Nat → Int} : ∀ (qs : List NP) (q0 : NP), ∃ q ∈ q0 :: qs, minP (gq F q0) (qs.map (gq F)) = gq F q ∧ ∀ q' ∈ q0 :: qs, F q.1 q.2 ≤ F q'.1 q'.2
  | [], q0 => ⟨q0, by simp, rfl, fun q' h => by simp at h; subst h; exact Int.le_refl _⟩
  | q1 :: qs, q0 => by
    have e : minP (gq F q0) ((q1 :: qs).map (gq F)) = minP (if ltD (gq F q1) (gq F q0) = true then gq F q1 else gq F q0) (qs.map (gq F)) := rfl
    obtain ⟨l1, l2⟩ := lt_gq (F := F) (p := q1) (q := q0)
    cases hb : ltD (gq F q1) (gq F q0) with
    | true =>
      obtain ⟨q, h1, h2, h3⟩ := pick (F := F) qs q1
      refine ⟨q, by simp at h1 ⊢; rcases h1 with h1 | h1 <;> simp [h1], by rw [e, hb]; exact h2, fun q' h => ?_⟩
      have := h3 q1 (by simp)
      have := l1 hb
      rcases List.mem_cons.mp h with rfl | h
      · omega
      · exact h3 q' h
    | false =>
      obtain ⟨q, h1, h2, h3⟩ := pick (F := F) qs q0
      refine ⟨q, by simp at h1 ⊢; rcases h1 with h1 | h1 <;> simp [h1], by rw [e, hb]; exact h2, fun q' h => ?_⟩
      have := h3 q0 (by simp)
      have := l2 hb
      rcases List.mem_cons.mp h with rfl | h
      · omega
      · rcases List.mem_cons.mp h with rfl | h
        · omega
        · exact h3 q' (List.mem_cons_of_mem _ h)
theorem mn0_le : ∀ {l : List Int} {x : Int}, x ∈ l → mn0 l ≤ x
  | [], x, h => nomatch h
  | y :: l, x, h => by
    have key : ∀ (l : List Int) (y : Int), l.foldl min y ≤ y ∧ ∀ x ∈ l, l.foldl min y ≤ x := by
      intro l
      induction l with
      | nil => intro y; exact ⟨Int.le_refl _, fun x h => nomatch h⟩
      | cons z l ih =>
        intro y
        obtain ⟨h1, h2⟩ := ih (min y z)
        refine ⟨by simp only [List.foldl_cons]; omega, fun x hx => ?_⟩
        simp only [List.foldl_cons]
        rcases List.mem_cons.mp hx with rfl | hx
        · omega
        · exact h2 x hx
    rcases List.mem_cons.mp h with rfl | h
    · exact (key l x).1
    · exact (key l y).2 x h
theorem mn0_mem : ∀ {l : List Int}, l ≠ [] → mn0 l ∈ l
  | [], h => absurd rfl h
  | y :: l, _ => by
    have key : ∀ (l : List Int) (y : Int), l.foldl min y = y ∨ l.foldl min y ∈ l := by
      intro l
      induction l with
      | nil => intro y; exact .inl rfl
      | cons z l ih =>
        intro y
        simp only [List.foldl_cons]
        rcases ih (min y z) with h | h
        · rw [h]
          by_cases hh : y ≤ z
          · rw [Int.min_eq_left hh]; exact .inl rfl
          · rw [Int.min_eq_right (by omega)]; exact .inr (by simp)
        · exact .inr (List.mem_cons_of_mem _ h)
    rcases key l y with h | h
    · show l.foldl min y ∈ _; rw [h]; simp
    · exact List.mem_cons_of_mem _ h
theorem L_d (d : Nat → Nat → Int) (a b : Nat) : d a b ≤ L d a b := by rw [L_eq]; omega
theorem L_ge {d : Nat → Nat → Int} {a b : Nat} {q : NP} (h : q ∈ ahead a b) : mn0 (rws (L d) a b) ≤ L d a b := by rw [L_eq d a b]; exact Int.le_max_right _ _
theorem ahead_ne {a b : Nat} (h : ¬ (a, b) = ((0 : Nat), (0 : Nat))) : ∃ q qs, ahead a b = q :: qs := by
  cases a with
  | zero => cases b with
    | zero => exact absurd rfl h
    | succ b => exact ⟨_, _, rfl⟩
  | succ a => cases b with
    | zero => exact ⟨_, _, rfl⟩
    | succ b => exact ⟨_, _, rfl⟩
theorem idx_D' {M : Mem} {r : Nat} {kvs : List (List L2.Key × PV)} {p : NP} {v : PV} (hM : M[r]? = some (.dt kvs)) (h : valP kvs (ky p.1 p.2) = some v) : idx M (.ref r) (.pv (np p)) = some (.pv v) := by
  refine v_idxD ?_
  rw [hM]
  show (keysP (np p)).map _ = _
  rw [show np p = np (p.1, p.2) from rfl, ky_np]
  exact congrArg some h
theorem atI_last {α : Type} {xs : List α} {x : α} : L2.atI (xs ++ [x]) (-1) = some x := by
  unfold L2.atI L2.ixN
  have e : (-1 + ((xs.length : Int) + 1)).toNat = xs.length := by omega
  simp
  rw [if_pos (by omega)]
  simp [e]
abbrev MM (m : Mem) (kvs : List (List L2.Key × PV)) (acc : List NP) : Mem := (m ++ [.dt kvs]) ++ [.lst (acc.map np)]
theorem MM_1 {kvs : List (List L2.Key × PV)} {acc : List NP} : (MM m kvs acc)[m.length]? = some (.dt kvs) := by
  have h : m.length < (m ++ [Cell.dt kvs]).length := by simp
  rw [MM, List.getElem?_append_left h]; simp
theorem MM_2 {kvs : List (List L2.Key × PV)} {acc : List NP} : (MM m kvs acc)[m.length + 1]? = some (.lst (acc.map np)) := by
  have h : (m ++ [Cell.dt kvs]).length = m.length + 1 := by simp
  rw [MM, ← h]; simp
theorem MM_last {kvs : List (List L2.Key × PV)} {acc : List NP} {p : NP} : idx (MM m kvs (acc ++ [p])) (.ref (m.length + 1)) (.pv (.int (-1))) = some (.pv (np p)) := by
  rw [v_idxR MM_2, List.map_append]
  show (L2.atI (acc.map np ++ [np p]) (-1)).map Val.pv = _
  rw [atI_last]; rfl
theorem np_0 {p : NP} : idx m (.pv (np p)) (.pv (.int 0)) = some (.pv (.int p.1)) := v_idxT atI0
theorem np_1 {p : NP} : idx m (.pv (np p)) (.pv (.int 1)) = some (.pv (.int p.2)) := v_idxT atI1
theorem app_MM {ρ : Pn.Env} {d : Den} {i : Nat} {kvs : List (List L2.Key × PV)} {acc : List NP} {p : NP} (h1 : ρ[i]? = some (some (.ref (m.length + 1)))) (h2 : d φ ρ (MM m kvs acc) = .ok (.pv (np p)) (MM m kvs acc)) (hl : acc.length < 16777216) :
    cApp (cVar i) (aCons d aNil) φ ρ (MM m kvs acc) = .ok (.pv .non) (MM m kvs (acc ++ [p])) := by
  have hs : (MM m kvs acc).set (m.length + 1) (.lst (acc.map np ++ [np p])) = MM m kvs (acc ++ [p]) := by
    have h : (m ++ [Cell.dt kvs]).length = m.length + 1 := by simp
    unfold MM
    rw [← h, List.set_append_right _ _ (Nat.le_refl _)]
    simp
  have hlit : (litems (MM m kvs acc) (.ref (m.length + 1))).isSome = true := by unfold litems; dsimp only; rw [MM_2]; rfl
  unfold cApp
  have e1 : cVar i φ ρ (MM m kvs acc) = .ok (.ref (m.length + 1)) (MM m kvs acc) := by rw [e_var, h1]; rfl
  have e2 : aCons d aNil φ ρ (MM m kvs acc) = .ok [.pv (np p)] (MM m kvs acc) := by rw [e_cons, h2]; rfl
  rw [e1]
  simp only [Res.bind_ok]
  rw [if_pos hlit, e2]
  simp only [Res.bind_ok]
  rw [MM_2]
  dsimp only
  rw [if_pos (by rw [List.length_map]; exact hl), hs]
theorem ok_gq {F : Nat → Nat → Int} {qs : List NP} : (okDs 30 (qs.map (gq F)) && alikeB (qs.map (gq F))) = true := by
  rw [Bool.and_eq_true]
  constructor
  · induction qs with
    | nil => simp [okDs]
    | cons q qs ih => simp [okDs, ih, gq, np, PV.okD]
  · unfold alikeB
    simp only [Bool.and_eq_true, List.all_eq_true, List.mem_map, forall_exists_index, and_imp, forall_apply_eq_imp_iff₂]
    refine ⟨fun p _ q _ => ?_, fun p _ => rfl⟩
    simp [gq, np, PV.toD, toDs, alike, PySem.W.alikeAll]
noncomputable abbrev bkC : TDen := (tTru (cCmp .ne (cIdx (cVar 5) (cNeg (cC (.int 1)))) (cTup (aCons (cC (.int 0)) (aCons (cC (.int 0)) (aNil))))))
noncomputable abbrev bkB : SDen := (sSeq (sSet 6 (cCall "ahead_of" (aCons (cIdx (cIdx (cVar 5) (cNeg (cC (.int 1)))) (cC (.int 0))) (aCons (cIdx (cIdx (cVar 5) (cNeg (cC (.int 1)))) (cC (.int 1))) (aNil))))) (sExp (cApp (cVar 5) (aCons (cIdx (cB bMinD (aCons (cLc false [7] (iSeq (cVar 6)) (.name 7) (tYes) (cTup (aCons (cIdx (cVar 3) (cVar 7)) (aCons (cVar 7) (aNil))))) (aNil))) (cC (.int 1))) (aNil)))))
theorem bk_loop {F : Nat → Nat → Int} {v0 v1 v2 v4 : Option Val} {kvs : List (List L2.Key × PV)} {A B : Nat} (hF : ∀ i j, i ≤ A → j ≤ B → valP kvs (ky i j) = some (.int (F i j))) (hah : ∀ a b m, φ "ahead_of" [.pv (.int (a : Nat)), .pv (.int (b : Nat))] m = .ok (.pv (.lst ((ahead a b).map np))) m) (hFm : ∀ i j q, q ∈ ahead i j → mn0 (rws F i j) ≤ F i j) :
    ∀ (N a b : Nat) (acc : List NP) (v6 : Option Val), a + b ≤ N → a ≤ A → b ≤ B → acc.length + N < 16777215 →
    ∃ tail v6', whileL (bkC φ) (bkB φ) (N + 1) [v0, v1, v2, some (.ref m.length), v4, some (.ref (m.length + 1)), v6, none] (MM m kvs (acc ++ [(a, b)])) =
      .next [v0, v1, v2, some (.ref m.length), v4, some (.ref (m.length + 1)), v6', none] (MM m kvs (acc ++ [(a, b)] ++ tail)) ∧ chain ((a, b) :: tail) ∧ ∀ q ∈ tail, F q.1 q.2 ≤ F a b
  | N, a, b, acc, v6, hN, hA, hB, hl => by
    have hlast := MM_last (m := m) (kvs := kvs) (acc := acc) (p := (a, b))
    have hne : cmp .ne (MM m kvs (acc ++ [(a, b)])) (.pv (np (a, b))) (.pv (.tup [.int 0, .int 0])) = some (.pv (.bl (!decide ((a, b) = ((0 : Nat), (0 : Nat)))))) := ne_np
    have hcond : ∀ v6, bkC φ [v0, v1, v2, some (.ref m.length), v4, some (.ref (m.length + 1)), v6, none] (MM m kvs (acc ++ [(a, b)])) = .ok (!decide ((a, b) = ((0 : Nat), (0 : Nat)))) (MM m kvs (acc ++ [(a, b)])) := fun v6 => by
      generalize MM m kvs (acc ++ [(a, b)]) = M at *
      simp [hlast, hne]
    by_cases h0 : (a, b) = ((0 : Nat), (0 : Nat))
    · refine ⟨[], v6, ?_, by simp [chain, h0], fun q hq => nomatch hq⟩
      have hc := hcond v6
      rw [decide_eq_true h0] at hc
      rw [e_wh0 hc]
      simp
    · cases N with
      | zero =>
        exfalso
        apply h0
        have : a = 0 ∧ b = 0 := by omega
        rw [this.1, this.2]
      | succ N =>
        obtain ⟨q0, qs, hq⟩ := ahead_ne h0
        obtain ⟨q, hm, hp, hmin⟩ := pick (F := F) qs q0
        have hqa : q ∈ ahead a b := by rw [hq]; exact hm
        have hlt := ahead_lt hqa
        obtain ⟨tail, v6', e, hch, hg⟩ := bk_loop (v0 := v0) (v1 := v1) (v2 := v2) (v4 := v4) hF hah hFm N q.1 q.2 (acc ++ [(a, b)]) (some (.pv (.lst ((ahead a b).map np)))) (by omega) (by omega) (by omega) (by simp; omega)
        refine ⟨q :: tail, v6', ?_, ⟨hqa, hch⟩, fun q' hq' => ?_⟩
        · have hc := hcond v6
          rw [decide_eq_false h0] at hc
          have body : bkB φ [v0, v1, v2, some (.ref m.length), v4, some (.ref (m.length + 1)), v6, none] (MM m kvs (acc ++ [(a, b)])) = .next [v0, v1, v2, some (.ref m.length), v4, some (.ref (m.length + 1)), some (.pv (.lst ((ahead a b).map np))), none] (MM m kvs (acc ++ [(a, b)] ++ [q])) := by
            have s1 : (sSet 6 (cCall "ahead_of" (aCons (cIdx (cIdx (cVar 5) (cNeg (cC (.int 1)))) (cC (.int 0))) (aCons (cIdx (cIdx (cVar 5) (cNeg (cC (.int 1)))) (cC (.int 1))) (aNil))))) φ [v0, v1, v2, some (.ref m.length), v4, some (.ref (m.length + 1)), v6, none] (MM m kvs (acc ++ [(a, b)])) = .next [v0, v1, v2, some (.ref m.length), v4, some (.ref (m.length + 1)), some (.pv (.lst ((ahead a b).map np))), none] (MM m kvs (acc ++ [(a, b)])) := by
              generalize MM m kvs (acc ++ [(a, b)]) = M at *
              simp [hlast, np_0, np_1, hah]
            unfold bkB
            rw [e_sseq, s1, e_seq2n]
            have e2 : cApp (cVar 5) (aCons (cIdx (cB bMinD (aCons (cLc false [7] (iSeq (cVar 6)) (.name 7) (tYes) (cTup (aCons (cIdx (cVar 3) (cVar 7)) (aCons (cVar 7) (aNil))))) (aNil))) (cC (.int 1))) (aNil)) φ [v0, v1, v2, some (.ref m.length), v4, some (.ref (m.length + 1)), some (.pv (.lst ((ahead a b).map np))), none] (MM m kvs (acc ++ [(a, b)])) = .ok (.pv .non) (MM m kvs (acc ++ [(a, b)] ++ [q])) := by
              refine app_MM rfl ?_ (by simp; omega)
              have hD := MM_1 (m := m) (kvs := kvs) (acc := acc ++ [(a, b)])
              generalize MM m kvs (acc ++ [(a, b)]) = M at *
              simp
              rw [lc1_ok (by simp; cases a <;> cases b <;> simp [ahead]), lcL_mapf (h := gq F) fun p hp' => by
                have := ahead_lt hp'
                have ei := idx_D' (p := p) hD (hF p.1 p.2 (by omega) (by omega))
                simp [Pn.wipe, ei, gq]]
              simp only [e_lc2f, e_cons1, e_cons2, e_blt1]
              rw [hq]
              have hm1 : bMin1 M [.pv (.lst ((q0 :: qs).map (gq F)))] = none := rfl
              have hmp := v_minP (m := M) (x := gq F q0) (xs := qs.map (gq F)) hm1 (ok_gq (qs := q0 :: qs))
              have hmp' : bMinD M [.pv (.lst ((q0 :: qs).map (gq F)))] = some (.pv (gq F q)) := by rw [← hp]; exact hmp
              simp only [e_nil, e_cons2, e_blt1]
              rw [hmp']
              have e1 : idx M (.pv (gq F q)) (.pv (.int 1)) = some (.pv (np q)) := v_idxT atI1
              simp [e1]
            simp only [e_exp]
            rw [e2]
            rfl
          rw [e_wh1 hc body, e]
          simp
        · have hfq : F q.1 q.2 ≤ F a b := by
            have h1 : mn0 (rws F a b) ≤ F a b := hFm a b q hqa
            have h2 : F q.1 q.2 ≤ mn0 (rws F a b) := by
              have : mn0 (rws F a b) ∈ rws F a b := mn0_mem (by unfold rws; rw [hq]; simp)
              obtain ⟨q', h3, h4⟩ := List.mem_map.mp this
              rw [← h4]
              exact hmin q' (by rw [← hq]; exact h3)
            omega
          rcases List.mem_cons.mp hq' with rfl | hq'
          · exact hfq
          · have := hg q' hq'
            omega

end L_k36

set_option Elab.async false
set_option linter.all false
set_option maxRecDepth 100000
set_option autoImplicit false
set_option maxHeartbeats 400000
namespace L_k36
open PySem Pn
variable {n : Nat} {m : Mem} {φ : Phi}
def rowP (r : List NP) : PV := .tup (r.map np)
/-! is it a coupling -/
def isPr (A B : Nat) : PV → Bool
  | .tup [a, b] => isW a 0 A && isW b 0 B
  | _ => false
def isPs (A B : Nat) : PV → Bool
  | .tup xs => xs.all (isPr A B)
  | _ => false
theorem all1 {xs : List PV} {tg : Tgt} {elt : Den} {p : PV → Bool} {ρ ρ2 : Pn.Env} (hl : xs.length ≤ 100000) (h : ∀ x ∈ xs, lcOne tg tYes elt φ ρ x m = .ok [.bl (p x)] m) :
    blt1 bAll (cons1 aNil φ ρ2 (lc1 false tg tYes elt φ ρ (.ok (xs, []) m))) = .ok (.pv (.bl (xs.all p))) m := by
  rw [lc1_ok (by show xs.length < _; omega), lcL_map (h := fun x => .bl (p x)) h]
  simp
  rw [v_all (l := xs.map p) (by simp)]
  simp
theorem isT22 {v : PV} (h : isT v 2 2 = true) : ∃ a b, v = .tup [a, b] := by
  cases v <;> first | (cases h; done) | skip
  rename_i xs
  unfold isT at h
  simp at h
  match xs, h with
  | [a, b], _ => exact ⟨a, b, rfl⟩
  | [], h => simp at h
  | [_], h => simp at h
  | _ :: _ :: _ :: _, h => simp at h; omega
def lnP : PV → Nat
  | .tup xs => xs.length
  | _ => 0
theorem p_fits_pairs {l o : List Pt} (v : PV) (h1 : 1 ≤ l.length) (h3 : 1 ≤ o.length) (h : dat3 v = true) (hz : lnP v ≤ 1000) :
    phi T (n + 2) "fits_pairs" [.pv (st l), .pv (st o), .pv v] m = .ok (.pv (.bl (isPs (l.length - 1) (o.length - 1) v))) m := by
  rw [phi_eq t_fits_pairs rfl]
  have t2 : ∀ x, dataK x = true → phi T (n + 1) "is_tuple_of" [.pv x, .pv (.int 2), .pv (.int 2)] m = .ok (.pv (.bl (isT x 2 2))) m := fun x hx => p_is_tuple_of n m x 2 2 hx
  have w2 : ∀ x hi, dataK x = true → phi T (n + 1) "is_whole" [.pv x, .pv (.int 0), .pv (.int hi)] m = .ok (.pv (.bl (isW x 0 hi))) m := fun x hi hx => p_is_whole n m x 0 hi hx
  have e1 : ((l.length : Int) - 1) = ((l.length - 1 : Nat) : Int) := by omega
  have e2 : ((o.length : Int) - 1) = ((o.length - 1 : Nat) : Int) := by omega
  generalize phi T (n + 1) = φ at *
  generalize l.length - 1 = A at *
  generalize o.length - 1 = B at *
  have hk := dat3_1 h
  by_cases ht : ∃ xs, v = .tup xs
  · obtain ⟨xs, rfl⟩ := ht
    have hd : ∀ x ∈ xs, dat2 x = true := by simpa [dat3] using h
    have hz : xs.length ≤ 1000 := hz
    simp [m_fits_pairs]
    rw [all1 (p := fun x => isT x 2 2) (by omega) fun x hx => by simp [Pn.wipe, t2 x (dat2_1 (hd x hx))]]
    cases hq : xs.all fun x => isT x 2 2 with
    | false =>
      have : xs.all (isPr A B) = false := by
        rw [List.all_eq_false] at hq ⊢
        obtain ⟨x, hx, hx2⟩ := hq
        refine ⟨x, hx, fun z => hx2 ?_⟩
        unfold isPr at z
        split at z
        · rfl
        · cases z
      simp [isPs, this]
    | true =>
      have hq' : ∀ x ∈ xs, isT x 2 2 = true := by simpa using hq
      simp [len_st, e1, e2]
      rw [all1 (p := isPr A B) (by omega) fun x hx => by
        obtain ⟨a, b, rfl⟩ := isT22 (hq' x hx)
        have hab : dataK a = true ∧ dataK b = true := by simpa [dat2] using hd _ hx
        cases hw : isW a 0 A <;> simp [Pn.wipe, w2, hab.1, hab.2, hw, len_st, e1, e2, isPr]]
      simp [isPs]
  · have ei : bIsi m [.pv v, .pv (.ty "tuple")] = some (.pv (.bl false)) := by
      cases v <;> first | (cases hk; done) | exact absurd ⟨_, rfl⟩ ht | simp
    have ep : isPs A B v = false := by cases v <;> first | rfl | exact absurd ⟨_, rfl⟩ ht
    simp [m_fits_pairs, ei, ep]
theorem isPs_np {A B : Nat} : ∀ {xs : List PV}, xs.all (isPr A B) = true → ∃ ps : List NP, xs = ps.map np ∧ ∀ p ∈ ps, p.1 ≤ A ∧ p.2 ≤ B
  | [], _ => ⟨[], rfl, fun p h => nomatch h⟩
  | x :: xs, h => by
    rw [List.all_cons, Bool.and_eq_true] at h
    obtain ⟨ps, rfl, hp⟩ := isPs_np h.2
    have hx := h.1
    unfold isPr at hx
    split at hx
    · rename_i a b
      rw [Bool.and_eq_true] at hx
      cases a <;> first | (cases hx.1; done) | skip
      cases b <;> first | (cases hx.2; done) | skip
      rename_i i j
      obtain ⟨h1, h2⟩ := hx
      simp [isW] at h1 h2
      refine ⟨(i.toNat, j.toNat) :: ps, ?_, fun p hp' => ?_⟩
      · have e1 : ((i.toNat : Nat) : Int) = i := by omega
        have e2 : ((j.toNat : Nat) : Int) = j := by omega
        simp [np, e1, e2]
      · rcases List.mem_cons.mp hp' with rfl | hp'
        · exact ⟨by omega, by omega⟩
        · exact hp p hp'
    · cases hx
theorem eqP_np {p q : NP} : eqP (np p) (np q) = decide (p = q) := by
  obtain ⟨a, b⟩ := p
  obtain ⟨c, d⟩ := q
  have e : eqP (np (a, b)) (np (c, d)) = (((a : Int) == c) && ((b : Int) == d)) := by simp [eqP, eqPs, np]
  rw [e, Bool.eq_iff_iff]
  simp only [Bool.and_eq_true, beq_iff_eq, decide_eq_true_eq, Prod.mk.injEq]
  omega
theorem okD_np {d : Nat} {p : NP} : (np p).okD (d + 1) = true := by simp [np, PV.okD, okDs]
theorem okDs_np {d : Nat} {ps : List NP} : okDs (d + 1) (ps.map np) = true := by
  induction ps with
  | nil => simp [okDs]
  | cons p r ih => simp [okDs, ih, okD_np]
theorem okD_row {d : Nat} {ps : List NP} : (rowP ps).okD (d + 2) = true := by unfold rowP PV.okD; exact okDs_np
theorem eqPs_np : ∀ {ps qs : List NP}, eqPs (ps.map np) (qs.map np) = decide (ps = qs)
  | [], [] => by simp [eqPs]
  | [], _ :: _ => by simp [eqPs]
  | _ :: _, [] => by simp [eqPs]
  | p :: ps, q :: qs => by
    rw [List.map_cons, List.map_cons]
    unfold eqPs
    rw [eqP_np, eqPs_np]
    by_cases h1 : p = q <;> by_cases h2 : ps = qs <;> simp [h1, h2]
theorem eqP_row {p q : List NP} : eqP (rowP p) (rowP q) = decide (p = q) := by
  unfold rowP eqP; exact eqPs_np
theorem ne_np2 {p q : NP} : cmp .ne m (.pv (np p)) (.pv (np q)) = some (.pv (.bl (!decide (p = q)))) := by
  rw [v_ne (okD_np (d := 59)) (okD_np (d := 59)), eqP_np]
theorem eq_np2 {p q : NP} : cmp .eq m (.pv (np p)) (.pv (np q)) = some (.pv (.bl (decide (p = q)))) := by
  rw [v_eq (okD_np (d := 59)) (okD_np (d := 59)), eqP_np]
theorem in_np {p : NP} {qs : List NP} : cmp .isin m (.pv (np p)) (.pv (.lst (qs.map np))) = some (.pv (.bl (decide (p ∈ qs)))) := by
  show (inV m (.pv (np p)) (.pv (.lst (qs.map np)))).map _ = _
  have : inV m (.pv (np p)) (.pv (.lst (qs.map np))) = some ((qs.map np).any fun z => eqP z (np p)) := by
    show (if (np p).okD 60 = true ∧ okDs 60 (qs.map np) = true then some ((qs.map np).any fun z => eqP z (np p)) else none) = _
    rw [if_pos ⟨okD_np (d := 59), okDs_np (d := 59)⟩]
  rw [this]
  have e : ((qs.map np).any fun z => eqP z (np p)) = decide (p ∈ qs) := by
    rw [List.any_map]
    show (qs.any fun q => eqP (np q) (np p)) = _
    rw [Bool.eq_iff_iff]
    simp [eqP_np]
  rw [e]; rfl
theorem okDs_rows {d : Nat} {rs : List (List NP)} : okDs (d + 2) (rs.map rowP) = true := by
  induction rs with
  | nil => simp [okDs]
  | cons p r ih => simp [okDs, ih, okD_row]
theorem inV_row {p : List NP} {rs : List (List NP)} : inV m (.pv (rowP p)) (.pv (.lst (rs.map rowP))) = some (decide (p ∈ rs)) := by
  have e : ((rs.map rowP).any fun z => eqP z (rowP p)) = decide (p ∈ rs) := by
    rw [List.any_map]
    show (rs.any fun q => eqP (rowP q) (rowP p)) = _
    rw [Bool.eq_iff_iff]
    simp [eqP_row]
  rw [← e]
  show (if (rowP p).okD 60 = true ∧ okDs 60 (rs.map rowP) = true then some ((rs.map rowP).any fun z => eqP z (rowP p)) else none) = _
  rw [if_pos ⟨okD_row (d := 58), okDs_rows (d := 58)⟩]
theorem in_row {p : List NP} {rs : List (List NP)} : cmp .isin m (.pv (rowP p)) (.pv (.lst (rs.map rowP))) = some (.pv (.bl (decide (p ∈ rs)))) := by
  show (inV m (.pv (rowP p)) (.pv (.lst (rs.map rowP)))).map _ = _
  rw [inV_row]; rfl
theorem nin_row {p : List NP} {rs : List (List NP)} : cmp .notin m (.pv (rowP p)) (.pv (.lst (rs.map rowP))) = some (.pv (.bl (!decide (p ∈ rs)))) := by
  show (inV m (.pv (rowP p)) (.pv (.lst (rs.map rowP)))).map _ = _
  rw [inV_row]; rfl

end L_k36

set_option Elab.async false
set_option linter.all false
set_option maxRecDepth 100000
set_option autoImplicit false
set_option maxHeartbeats 400000
namespace L_k36
open PySem Pn
variable {n : Nat} {m : Mem} {φ : Phi}
theorem allf {α : Type} {g : α → PV} {p : α → Bool} {l : List α} {tg : Tgt} {elt : Den} {ρ ρ2 : Pn.Env} (hl : l.length ≤ 100000) (h : ∀ x ∈ l, lcOne tg tYes elt φ ρ (g x) m = .ok [.bl (p x)] m) :
    blt1 bAll (cons1 aNil φ ρ2 (lc1 false tg tYes elt φ ρ (.ok (l.map g, []) m))) = .ok (.pv (.bl (l.all p))) m := by
  rw [lc1_ok (by simp; omega), lcL_mapf (h := fun x => .bl (p x)) h]
  simp only [e_lc2f, e_cons1, e_nil, e_cons2, e_blt1]
  rw [v_all (l := l.map p) (by simp)]
  simp
def isC (d : Nat → Nat → Int) (A B : Nat) (lo : Int) (ps : List NP) : Bool :=
  decide (ps.head? = some (0, 0)) && (decide (ps.getLast? = some (A, B)) && ((ps.zip (ps.drop 1)).all (fun pq => decide (pq.1 ∈ ahead pq.2.1 pq.2.2)) && ps.all fun p => decide (d p.1 p.2 ≤ lo)))
theorem zipP_np (ps qs : List NP) : zipP (ps.map np) (qs.map np) = (ps.zip qs).map fun pq => PV.tup [np pq.1, np pq.2] := by
  unfold zipP
  rw [List.zipWith_map]
  simp [List.zip, List.map_zipWith]
theorem idx_row_0 {p : NP} {r : List NP} : idx m (.pv (rowP (p :: r))) (.pv (.int 0)) = some (.pv (np p)) := v_idxT atI0
theorem idx_row_l {p : NP} {r : List NP} : idx m (.pv (rowP (r ++ [p]))) (.pv (.int (-1))) = some (.pv (np p)) := by
  unfold rowP
  rw [List.map_append]
  exact v_idxT atI_last
theorem eq_row_nil {r : List NP} : cmp .eq m (.pv (rowP r)) (.pv (.tup [])) = some (.pv (.bl (decide (r = [])))) := by
  have h : cmp .eq m (.pv (rowP r)) (.pv (rowP [])) = some (.pv (.bl (decide (r = [])))) := by
    rw [v_eq (okD_row (d := 58)) (okD_row (d := 58)), eqP_row]
  exact h
theorem isPs_row {A B : Nat} {ps : List NP} (h : ∀ p ∈ ps, p.1 ≤ A ∧ p.2 ≤ B) : isPs A B (rowP ps) = true := by
  unfold isPs rowP
  simp only [List.all_map, List.all_eq_true]
  intro p hp
  obtain ⟨h1, h2⟩ := h p hp
  show (isW _ _ _ && isW _ _ _) = true
  simp [isW]
  omega
theorem dat3_row {ps : List NP} : dat3 (rowP ps) = true := by
  simp [rowP, dat3, np, dat2]
theorem p_fits_c {l o : List Pt} {lo : Int} {ps : List NP} (hl : okS l) (ho : okS o) (hz : ps.length ≤ 1000) (hne : ps ≠ []) (hp : ∀ p ∈ ps, p.1 ≤ l.length - 1 ∧ p.2 ≤ o.length - 1) :
    phi T (n + 3) "fits_coupling" [.pv (st l), .pv (st o), .pv (.int lo), .pv (rowP ps)] m = .ok (.pv (.bl (isC (dd l o) (l.length - 1) (o.length - 1) lo ps))) m := by
  rw [phi_eq t_fits_coupling rfl]
  have l1 := hl.1
  have l3 := ho.1
  have hfp := p_fits_pairs (n := n) (m := m) (l := l) (o := o) (rowP ps) l1 l3 dat3_row (by simpa [rowP, lnP] using hz)
  rw [isPs_row hp] at hfp
  have hah : ∀ a b m, phi T (n + 2) "ahead_of" [.pv (.int (a : Nat)), .pv (.int (b : Nat))] m = .ok (.pv (.lst ((ahead a b).map np))) m := fun a b m => p_ahead a b
  have hfar : ∀ p q m, phi T (n + 2) "far" [.pv (pt p), .pv (pt q)] m = .ok (.pv (.int (farI p q))) m := fun p q m => p_far
  have e1 : ((l.length : Int) - 1) = ((l.length - 1 : Nat) : Int) := by omega
  have e2 : ((o.length : Int) - 1) = ((o.length - 1 : Nat) : Int) := by omega
  have b1 : ∀ p ∈ ps, p.1 < l.length ∧ p.2 < o.length := fun p h => by have := hp p h; omega
  generalize phi T (n + 2) = φ at *
  generalize l.length - 1 = A at *
  generalize o.length - 1 = B at *
  have en : PV.tup [.int (A : Int), .int (B : Int)] = np (A, B) := rfl
  have e00 : PV.tup [.int 0, .int 0] = np (0, 0) := rfl
  have heq := eq_row_nil (m := m) (r := ps)
  rw [decide_eq_false hne] at heq
  obtain ⟨p, r, hpr⟩ : ∃ p r, ps = p :: r := by
    cases ps with
    | nil => exact absurd rfl hne
    | cons p r => exact ⟨p, r, rfl⟩
  obtain ⟨i, q, hiq⟩ : ∃ i q, ps = i ++ [q] := ⟨ps.dropLast, ps.getLast hne, (List.dropLast_concat_getLast _).symm⟩
  have x0 : idx m (.pv (rowP ps)) (.pv (.int 0)) = some (.pv (np p)) := by rw [hpr]; exact idx_row_0
  have xl : idx m (.pv (rowP ps)) (.pv (.int (-1))) = some (.pv (np q)) := by rw [hiq]; exact idx_row_l
  have hh : ps.head? = some p := by rw [hpr]; rfl
  have hg : ps.getLast? = some q := by rw [hiq]; simp
  have n0 := ne_np2 (m := m) (p := p) (q := (0, 0))
  have nl := ne_np2 (m := m) (p := q) (q := (A, B))
  unfold isC
  rw [hh, hg]
  have d0 : decide (some p = some ((0 : Nat), (0 : Nat))) = decide (p = (0, 0)) := by rw [Bool.eq_iff_iff]; simp
  have dl : decide (some q = some (A, B)) = decide (q = (A, B)) := by rw [Bool.eq_iff_iff]; simp
  rw [d0, dl]
  by_cases h0 : p = (0, 0)
  · rw [decide_eq_true h0] at n0 ⊢
    by_cases h1 : q = (A, B)
    · rw [decide_eq_true h1] at nl ⊢
      have ez : zipB m [.pv (rowP ps), .pv (rowP (ps.drop 1))] = some ((ps.zip (ps.drop 1)).map (fun pq => PV.tup [np pq.1, np pq.2]), []) := by
        show some (zipP _ _, []) = _
        rw [zipP_np]
      have es : slc m (.pv (rowP ps)) (some 1) none = some (.pv (rowP (ps.drop 1))) := by
        show some (Val.pv (.tup (cut (ps.map np) (some 1) none))) = _
        rw [cut1, ← List.map_drop]; rfl
      have ei : iOf m (.pv (rowP ps)) = some (ps.map np, []) := rfl
      generalize ps.drop 1 = ds at *
      simp [m_fits_coupling, hfp, heq, x0, e00, n0, xl, len_st, e1, e2, en, nl, es]
      rw [ez, Res.of_some, allf (p := fun pq : NP × NP => decide (pq.1 ∈ ahead pq.2.1 pq.2.2)) (by simp; omega) fun pq _ => by simp [Pn.wipe, np_0, np_1, hah, in_np]]
      cases hq : (ps.zip ds).all fun pq => decide (pq.1 ∈ ahead pq.2.1 pq.2.2) with
      | false => simp
      | true =>
        simp [ei]
        rw [allf (p := fun p : NP => decide (dd l o p.1 p.2 ≤ lo)) (by omega) fun p hp' => by
          obtain ⟨c1, c2⟩ := b1 p hp'
          have i1 := idx_st (m := m) c1
          have i2 := idx_st (m := m) c2
          simp [Pn.wipe, np, i1, i2, hfar]; rfl]
        simp
    · rw [decide_eq_false h1] at nl ⊢
      simp [m_fits_coupling, hfp, heq, x0, e00, n0, xl, len_st, e1, e2, en, nl]
  · rw [decide_eq_false h0] at n0 ⊢
    simp [m_fits_coupling, hfp, heq, x0, e00, n0]
theorem p_fits_odd {l o : List Pt} {lo : Int} {v : PV} (hl : okS l) (ho : okS o) (h : dat3 v = true) (hz : lnP v ≤ 1000) (hp : isPs (l.length - 1) (o.length - 1) v = false ∨ v = .tup []) :
    phi T (n + 3) "fits_coupling" [.pv (st l), .pv (st o), .pv (.int lo), .pv v] m = .ok (.pv (.bl false)) m := by
  rw [phi_eq t_fits_coupling rfl]
  have hfp := p_fits_pairs (n := n) (m := m) (l := l) (o := o) v hl.1 ho.1 h hz
  generalize phi T (n + 2) = φ at *
  rcases hp with hp | rfl
  · rw [hp] at hfp
    simp [m_fits_coupling, hfp]
  · have heq : cmp .eq m (.pv (.tup [])) (.pv (.tup [])) = some (.pv (.bl true)) := eq_row_nil (m := m) (r := [])
    rw [show isPs (l.length - 1) (o.length - 1) (.tup []) = true from rfl] at hfp
    simp [m_fits_coupling, hfp, heq]
theorem p_is_coupling {l o : List Pt} {lo : Int} {v : PV} {b : Bool} (hl : okS l) (ho : okS o) (h0 : 0 ≤ lo) (h1 : lo ≤ 20000) (h : phi T (n + 5) "fits_coupling" [.pv (st l), .pv (st o), .pv (.int lo), .pv v] m = .ok (.pv (.bl b)) m) :
    phi T (n + 6) "is_coupling" [.pv (st l), .pv (st o), .pv (.int lo), .pv v] m = .ok (.pv (.bl b)) m := by
  rw [phi_eq t_is_coupling rfl]
  simp [m_is_coupling, p_need_pair hl ho h0 h1, h]
/-! the law's own -/
theorem pt_0 {p : Pt} : idx m (.pv (pt p)) (.pv (.int 0)) = some (.pv (.int p.1)) := v_idxT atI0
theorem pt_1 {p : Pt} : idx m (.pv (pt p)) (.pv (.int 1)) = some (.pv (.int p.2)) := v_idxT atI1
def mx : List Int → Int
  | [] => 0
  | x :: xs => xs.foldl max x
theorem v_max {l : List Int} (h : l ≠ []) : bMax1 m [.pv (.lst (l.map PV.int))] = some (.pv (.int (mx l))) := by
  cases l with
  | nil => exact absurd rfl h
  | cons x xs =>
    show ((((some ((x :: xs).map PV.int)).bind intsOf).bind mostI).map _) = _
    rw [Option.bind_some, v_ints]
    rfl
def wid (d : Nat → Nat → Int) (ps : List NP) : Int := mx (ps.map fun p => d p.1 p.2)

end L_k36

set_option Elab.async false
set_option linter.all false
set_option maxRecDepth 100000
set_option autoImplicit false
set_option maxHeartbeats 400000
namespace L_k36
open PySem Pn
variable {n : Nat} {m : Mem} {φ : Phi}
/-! sums -/
def bnd (g : Nat) (p : NP) : Bool := decide (p.1 ≤ p.2 + g) && decide (p.2 ≤ p.1 + g)
def aheadB (g a b : Nat) : List NP := (ahead a b).filter (bnd g)
def sel (g : Nat) (l : List (NP × Int)) : Int := mn0 ((l.filter fun x => bnd g x.1).map fun x => x.2)
def S (g : Nat) (d : Nat → Nat → Int) : Nat → Nat → Int
  | 0, 0 => d 0 0 + 0
  | a + 1, 0 => d (a + 1) 0 + sel g [((a, 0), S g d a 0)]
  | 0, b + 1 => d 0 (b + 1) + sel g [((0, b), S g d 0 b)]
  | a + 1, b + 1 => d (a + 1) (b + 1) + sel g [((a, b), S g d a b), ((a, b + 1), S g d a (b + 1)), ((a + 1, b), S g d (a + 1) b)]
termination_by a b => a + b
def rwB (g : Nat) (F : Nat → Nat → Int) (a b : Nat) : List Int := (aheadB g a b).map fun p => F p.1 p.2
theorem S_eq (g : Nat) (d : Nat → Nat → Int) (a b : Nat) : S g d a b = d a b + mn0 (rwB g (S g d) a b) := by
  have key : ∀ l : List NP, sel g (l.map fun p => (p, S g d p.1 p.2)) = mn0 ((l.filter (bnd g)).map fun p => S g d p.1 p.2) := by
    intro l
    unfold sel
    rw [List.filter_map, List.map_map]
    rfl
  unfold rwB aheadB
  rw [← key]
  cases a <;> cases b <;> rw [S] <;> rfl
def FilB (g : Nat) (F : Nat → Nat → Int) (W : Nat) (kvs : List (List L2.Key × PV)) (a b : Nat) : Prop :=
  (∀ i j, valP kvs (ky i j) = if bnd g (i, j) = true ∧ ((i < a ∧ j < W) ∨ (i = a ∧ j < b)) then some (.int (F i j)) else none) ∧ kvs.length ≤ a * W + b
theorem FilB.zero {g : Nat} {F : Nat → Nat → Int} {W : Nat} : FilB g F W [] 0 0 := ⟨fun i j => by rw [if_neg (by omega)]; rfl, by simp⟩
theorem FilB.put {g : Nat} {F : Nat → Nat → Int} {W a b : Nat} {kvs : List (List L2.Key × PV)} (h : FilB g F W kvs a b) (hb : bnd g (a, b) = true) : FilB g F W (putP kvs (ky a b) (.int (F a b))) a (b + 1) := by
  refine ⟨fun i j => ?_, by have := putP_len kvs (ky a b) (.int (F a b)); have := h.2; omega⟩
  rw [valP_put]
  by_cases e : ky i j = ky a b
  · obtain ⟨rfl, rfl⟩ := ky_inj.mp e
    rw [if_pos rfl, if_pos ⟨hb, by omega⟩]
  · rw [if_neg e, h.1 i j]
    rw [ky_inj] at e
    by_cases c : bnd g (i, j) = true ∧ ((i < a ∧ j < W) ∨ (i = a ∧ j < b))
    · rw [if_pos c, if_pos ⟨c.1, by omega⟩]
    · rw [if_neg c, if_neg fun c' => c ⟨c'.1, by omega⟩]
theorem bnd_iff {g a j : Nat} : bnd g (a, j) = true ↔ a ≤ j + g ∧ j ≤ a + g := by simp [bnd]
theorem FilB.skip {g : Nat} {F : Nat → Nat → Int} {W a b c : Nat} {kvs : List (List L2.Key × PV)} (h : FilB g F W kvs a b) (hc : b ≤ c) (hs : ∀ j, b ≤ j → j < c → bnd g (a, j) = false) : FilB g F W kvs a c := by
  refine ⟨fun i j => ?_, by have := h.2; omega⟩
  rw [h.1 i j]
  by_cases c1 : bnd g (i, j) = true ∧ ((i < a ∧ j < W) ∨ (i = a ∧ j < b))
  · rw [if_pos c1, if_pos ⟨c1.1, by omega⟩]
  · rw [if_neg c1, if_neg fun c' => c1 ⟨c'.1, ?_⟩]
    rcases c'.2 with h1 | ⟨rfl, h2⟩
    · exact .inl h1
    · refine .inr ⟨rfl, ?_⟩
      by_cases hj : j < b
      · exact hj
      · have := hs j (by omega) h2
        rw [this] at c'
        exact absurd c'.1 (by simp)
theorem FilB.row {g : Nat} {F : Nat → Nat → Int} {W a : Nat} {kvs : List (List L2.Key × PV)} (h : FilB g F W kvs a W) : FilB g F W kvs (a + 1) 0 := by
  refine ⟨fun i j => ?_, ?_⟩
  · rw [h.1 i j]
    by_cases c1 : bnd g (i, j) = true ∧ ((i < a ∧ j < W) ∨ (i = a ∧ j < W))
    · rw [if_pos c1, if_pos ⟨c1.1, by omega⟩]
    · rw [if_neg c1, if_neg fun c' => c1 ⟨c'.1, by omega⟩]
  · have := h.2
    rw [Nat.add_mul]; omega
theorem lcL_flt {α : Type} {f : PV → Mem → Res (List PV)} {g : α → PV} {h : α → PV} {p : α → Bool} : ∀ {l : List α}, (∀ x ∈ l, f (g x) m = .ok (if p x then [h x] else []) m) → lcL f [] (l.map g) m = .ok ((l.filter p).map h) m
  | [], _ => by simp
  | x :: xs, hh => by
    rw [List.map_cons, e_lcL1, hh x List.mem_cons_self, e_app1, lcL_flt fun y hy => hh y (List.mem_cons_of_mem _ hy), e_app2]
    cases hp : p x <;> simp [List.filter_cons, hp]
theorem dget_D' {M : Mem} {r : Nat} {kvs : List (List L2.Key × PV)} {p : NP} (hM : M[r]? = some (.dt kvs)) : dget M[r]? (.pv (np p)) = some (valP kvs (ky p.1 p.2)) := by
  rw [hM]
  show (keysP (np p)).map _ = _
  rw [show np p = np (p.1, p.2) from rfl, ky_np]
  rfl
theorem in_D' {M : Mem} {r : Nat} {kvs : List (List L2.Key × PV)} {p : NP} (hM : M[r]? = some (.dt kvs)) : cmp .isin M (.pv (np p)) (.ref r) = some (.pv (.bl (valP kvs (ky p.1 p.2)).isSome)) := v_inD (dget_D' hM)
theorem nin_D' {M : Mem} {r : Nat} {kvs : List (List L2.Key × PV)} {p : NP} (hM : M[r]? = some (.dt kvs)) : cmp .notin M (.pv (np p)) (.ref r) = some (.pv (.bl (!(valP kvs (ky p.1 p.2)).isSome))) := v_ninD (dget_D' hM)
theorem rowsB_comp {g : Nat} {F : Nat → Nat → Int} {W a b : Nat} {kvs : List (List L2.Key × PV)} {ρ : Pn.Env} {x y : Nat} (h : FilB g F W kvs a b) (hb : b < W) (h2 : ρ[x]? = some (some (.ref m.length))) (hy : y < ρ.length) (hxy : x ≠ y) :
    lcL (lcOne (.name y) (tTru (cCmp .isin (cVar y) (cVar x))) (cIdx (cVar x) (cVar y)) φ ρ) [] ((ahead a b).map np) (m ++ [.dt kvs]) = .ok ((rwB g F a b).map PV.int) (m ++ [.dt kvs]) := by
  rw [lcL_flt (h := fun p => PV.int (F p.1 p.2)) (p := bnd g) fun p hp => by
    have hlt := ahead_lt hp
    have g1 : (ρ.set y (some (.pv (np p))))[x]? = some (some (.ref m.length)) := by rw [List.getElem?_set_ne (Ne.symm hxy)]; exact h2
    have g2 : (ρ.set y (some (.pv (np p))))[y]? = some (some (.pv (np p))) := List.getElem?_set_self hy
    have hv := h.1 p.1 p.2
    have hi := in_D' (p := p) (mem_D (m := m) (kvs := kvs))
    cases hbp : bnd g p with
    | true =>
      rw [if_pos ⟨hbp, by omega⟩] at hv
      have e := idx_D (m := m) (p := p) hv
      rw [hv] at hi
      simp [g1, g2, hi, e]
    | false =>
      rw [if_neg fun c => by rw [show ((p.1, p.2) : NP) = p from rfl, hbp] at c; exact absurd c.1 (by simp)] at hv
      rw [hv] at hi
      simp [g1, g2, hi]]
  simp [rwB, aheadB, Function.comp_def]
theorem eq_np0 {a b : Nat} : cmp .eq m (.pv (.tup [.int a, .int b])) (.pv (.tup [.int 0, .int 0])) = some (.pv (.bl (decide ((a, b) = ((0 : Nat), (0 : Nat)))))) := eq_np2 (p := (a, b)) (q := (0, 0))
theorem rwB_ne {g : Nat} {F : Nat → Nat → Int} {a b : Nat} (hb : bnd g (a, b) = true) (h0 : ¬ (a, b) = ((0 : Nat), (0 : Nat))) : rwB g F a b ≠ [] := by
  have e := bnd_iff.mp hb
  have : aheadB g a b ≠ [] := by
    intro h
    unfold aheadB at h
    rw [List.filter_eq_nil_iff] at h
    cases a with
    | zero => cases b with
      | zero => exact h0 rfl
      | succ b => exact h (0, b) (by simp [ahead]) (bnd_iff.mpr (by omega))
    | succ a => cases b with
      | zero => exact h (a, 0) (by simp [ahead]) (bnd_iff.mpr (by omega))
      | succ b => exact h (a, b) (by simp [ahead]) (bnd_iff.mpr (by omega))
  unfold rwB
  simpa using this
noncomputable abbrev suIn : SDen := (sSeq (sSet 7 (cLc false [8] (iSeq (cCall "ahead_of" (aCons (cVar 4) (aCons (cVar 6) (aNil))))) (.name 8) (tTru (cCmp .isin (cVar 8) (cVar 3))) (cIdx (cVar 3) (cVar 8)))) (sIf (tOr (tTru (cCmp .ne (cVar 7) (cLst (aNil)))) (tTru (cCmp .eq (cTup (aCons (cVar 4) (aCons (cVar 6) (aNil)))) (cTup (aCons (cC (.int 0)) (aCons (cC (.int 0)) (aNil))))))) (sPut (cVar 3) (cTup (aCons (cVar 4) (aCons (cVar 6) (aNil)))) (cBin .add (cCall "far" (aCons (cVar 5) (aCons (cIdx (cVar 1) (cVar 6)) (aNil)))) (cIf (tTru (cCmp .ne (cVar 7) (cLst (aNil)))) (cB bMinD (aCons (cVar 7) (aNil))) (cC (.int 0))))) (sPass)))
theorem su_in {l o : List Pt} {a g : Nat} (hah : ∀ a b m, φ "ahead_of" [.pv (.int (a : Nat)), .pv (.int (b : Nat))] m = .ok (.pv (.lst ((ahead a b).map np))) m) (hfar : ∀ p q m, φ "far" [.pv (pt p), .pv (pt q)] m = .ok (.pv (.int (farI p q))) m) (hz : (a + 1) * o.length < 16777216) :
    ∀ (k j : Nat) (kvs : List (List L2.Key × PV)) (v6 v7 : Option Val), j + k ≤ o.length → (∀ i, j ≤ i → i < j + k → bnd g (a, i) = true) → FilB g (S g (dd l o)) o.length kvs a j →
    ∃ kvs' v6' v7', forL (.name 6) (suIn φ) [] ((List.range' j k).map fun (i : Nat) => PV.int i) [some (.pv (st l)), some (.pv (st o)), some (.pv (.int g)), some (.ref m.length), some (.pv (.int a)), some (.pv (pt (gd l a))), v6, v7, none] (m ++ [.dt kvs]) =
      .next [some (.pv (st l)), some (.pv (st o)), some (.pv (.int g)), some (.ref m.length), some (.pv (.int a)), some (.pv (pt (gd l a))), v6', v7', none] (m ++ [.dt kvs']) ∧ FilB g (S g (dd l o)) o.length kvs' a (j + k)
  | 0, j, kvs, v6, v7, hj, hb, hF => ⟨kvs, v6, v7, by simp, hF⟩
  | k + 1, j, kvs, v6, v7, hj, hb, hF => by
    have hbj := hb j (Nat.le_refl _) (by omega)
    obtain ⟨kvs', v6', v7', e, hF'⟩ := su_in hah hfar hz k (j + 1) (putP kvs (ky a j) (.int (S g (dd l o) a j))) (some (.pv (.int j))) (some (.pv (.lst ((rwB g (S g (dd l o)) a j).map PV.int)))) (by omega) (fun i h1 h2 => hb i (by omega) (by omega)) (hF.put hbj)
    refine ⟨kvs', v6', v7', ?_, by rw [show j + (k + 1) = j + 1 + k by omega]; exact hF'⟩
    have hl : kvs.length < 16777216 := by
      have := hF.2
      have : (a + 1) * o.length = a * o.length + o.length := by rw [Nat.add_mul]; omega
      omega
    have body : suIn φ [some (.pv (st l)), some (.pv (st o)), some (.pv (.int g)), some (.ref m.length), some (.pv (.int a)), some (.pv (pt (gd l a))), some (.pv (.int j)), v7, none] (m ++ [.dt kvs]) =
        .next [some (.pv (st l)), some (.pv (st o)), some (.pv (.int g)), some (.ref m.length), some (.pv (.int a)), some (.pv (pt (gd l a))), some (.pv (.int j)), some (.pv (.lst ((rwB g (S g (dd l o)) a j).map PV.int))), none] (m ++ [.dt (putP kvs (ky a j) (.int (S g (dd l o) a j)))]) := by
      have hc : lcL _ _ _ _ = .ok ((rwB g (S g (dd l o)) a j).map PV.int) _ := rowsB_comp (φ := φ) (m := m) (ρ := [some (.pv (st l)), some (.pv (st o)), some (.pv (.int g)), some (.ref m.length), some (.pv (.int a)), some (.pv (pt (gd l a))), some (.pv (.int j)), v7, none]) (x := 3) (y := 8) hF (by omega) rfl (by simp) (by omega)
      have hio := idx_st (m := m ++ [.dt kvs]) (l := o) (i := j) (by omega)
      simp only [e_sseq, e_set, e_lc, e_seq, e_call, e_cons, e_var, e_nil]
      simp [hah]
      rw [lc1_ok (by simp; cases a <;> cases j <;> simp [ahead])]
      simp only [Pn.wipe, List.set_cons_succ, List.set_cons_zero]
      rw [hc]
      simp only [e_lc2f, e_set1, e_seq2n, List.set_cons_succ, List.set_cons_zero]
      have e0 : dd l o a j = farI (gd l a) (gd o j) := rfl
      have el : dd l o a j + (mn0 (rwB g (S g (dd l o)) a j)) = S g (dd l o) a j := (S_eq _ _ _ _).symm
      rw [e0] at el
      have hne := rwB_ne (g := g) (F := S g (dd l o)) hbj
      generalize hg : rwB g (S g (dd l o)) a j = rows at *
      have en := ne_ints (m := m ++ [.dt kvs]) (l := rows)
      cases rows with
      | nil =>
        have h0 : (a, j) = ((0 : Nat), (0 : Nat)) := by
          by_cases h : (a, j) = ((0 : Nat), (0 : Nat))
          · exact h
          · exact absurd rfl (hne h)
        have el : farI (gd l a) (gd o j) + 0 = S g (dd l o) a j := el
        have en : cmp .ne (m ++ [.dt kvs]) (.pv (.lst [])) (.pv (.lst [])) = some (.pv (.bl false)) := ne_nil
        have eq0 := eq_np0 (m := m ++ [.dt kvs]) (a := a) (b := j)
        rw [decide_eq_true h0] at eq0
        have hput := put_D (m := m) (φ := φ) (kvs := kvs) (a := a) (b := j) (p := .int (S g (dd l o) a j)) (ρ := [some (.pv (st l)), some (.pv (st o)), some (.pv (.int g)), some (.ref m.length), some (.pv (.int a)), some (.pv (pt (gd l a))), some (.pv (.int j)), some (.pv (.lst ([].map PV.int))), none]) (o := cVar 3) (i := cTup (aCons (cVar 4) (aCons (cVar 6) (aNil)))) (d := (cBin .add (cCall "far" (aCons (cVar 5) (aCons (cIdx (cVar 1) (cVar 6)) (aNil)))) (cIf (tTru (cCmp .ne (cVar 7) (cLst (aNil)))) (cB bMinD (aCons (cVar 7) (aNil))) (cC (.int 0))))) (by simp [hfar, en, hio]; simpa using el) (by simp) (by simp [np]) hl
        simp only [e_sif, e_tor]
        simp only [List.map_nil] at hput ⊢
        simp [en, eq0]
        exact hput
      | cons x xs =>
        have el : farI (gd l a) (gd o j) + (xs.foldl min x) = S g (dd l o) a j := el
        have em := min_ints (m := m ++ [.dt kvs]) (x := x) (l := xs)
        generalize PV.lst ((x :: xs).map PV.int) = R at *
        have hput := put_D (m := m) (φ := φ) (kvs := kvs) (a := a) (b := j) (p := .int (S g (dd l o) a j)) (ρ := [some (.pv (st l)), some (.pv (st o)), some (.pv (.int g)), some (.ref m.length), some (.pv (.int a)), some (.pv (pt (gd l a))), some (.pv (.int j)), some (.pv R), none]) (o := cVar 3) (i := cTup (aCons (cVar 4) (aCons (cVar 6) (aNil)))) (d := (cBin .add (cCall "far" (aCons (cVar 5) (aCons (cIdx (cVar 1) (cVar 6)) (aNil)))) (cIf (tTru (cCmp .ne (cVar 7) (cLst (aNil)))) (cB bMinD (aCons (cVar 7) (aNil))) (cC (.int 0))))) (by simp [hfar, en, em, hio]; simpa using el) (by simp) (by simp [np]) hl
        simp [en]
        exact hput
    rw [List.range'_succ, List.map_cons, e_forL1]
    show forA _ _ _ _ _ (some [some (.pv (st l)), some (.pv (st o)), some (.pv (.int g)), some (.ref m.length), some (.pv (.int a)), some (.pv (pt (gd l a))), some (.pv (.int j)), v7, none]) = _
    rw [e_forA, body, e_forBn, e]

end L_k36

set_option Elab.async false
set_option linter.all false
set_option maxRecDepth 100000
set_option autoImplicit false
set_option maxHeartbeats 400000
namespace L_k36
open PySem Pn
variable {n : Nat} {m : Mem} {φ : Phi}
theorem rngI {a b : Nat} (h1 : a ≤ 1000000) (h2 : b ≤ 1000000) : rngB2 m [.pv (.int a), .pv (.int b)] = some ((List.range' a (b - a)).map (fun (i : Nat) => PV.int i), []) := by
  have e : (2 : Int) ^ 62 = 4611686018427387904 := by decide +kernel
  unfold rngB2
  dsimp only
  rw [if_pos (by rw [e]; omega)]
  have e2 : ((b : Int) - a).toNat = b - a := by omega
  rw [e2]
  unfold rngP
  rw [List.range'_eq_map_range, List.map_map]
  rfl
noncomputable abbrev suOut : SDen := (sFor (.name 6) (iB rngB2 (aCons (cB bMax2 (aCons (cC (.int 0)) (aCons (cBin .sub (cVar 4) (cVar 2)) (aNil)))) (aCons (cB bMin2 (aCons (cB bLen (aCons (cVar 1) (aNil))) (aCons (cBin .add (cBin .add (cVar 4) (cVar 2)) (cC (.int 1))) (aNil)))) (aNil)))) suIn)
theorem su_out {l o : List Pt} {g : Nat} (hg : g ≤ 127) (hl : l.length ≤ 127) (ho : o.length ≤ 127) (hah : ∀ a b m, φ "ahead_of" [.pv (.int (a : Nat)), .pv (.int (b : Nat))] m = .ok (.pv (.lst ((ahead a b).map np))) m) (hfar : ∀ p q m, φ "far" [.pv (pt p), .pv (pt q)] m = .ok (.pv (.int (farI p q))) m) (hz : (l.length + 1) * o.length < 16777216) :
    ∀ (k a : Nat) (kvs : List (List L2.Key × PV)) (v4 v5 v6 v7 : Option Val), a + k = l.length → FilB g (S g (dd l o)) o.length kvs a 0 →
    ∃ kvs' v4' v5' v6' v7', forL (.tup [.name 4, .name 5]) (suOut φ) [] ((List.range' a k).map (itm l)) [some (.pv (st l)), some (.pv (st o)), some (.pv (.int g)), some (.ref m.length), v4, v5, v6, v7, none] (m ++ [.dt kvs]) =
      .next [some (.pv (st l)), some (.pv (st o)), some (.pv (.int g)), some (.ref m.length), v4', v5', v6', v7', none] (m ++ [.dt kvs']) ∧ FilB g (S g (dd l o)) o.length kvs' l.length 0
  | 0, a, kvs, v4, v5, v6, v7, hj, hF => ⟨kvs, v4, v5, v6, v7, by simp, by
      have : a = l.length := by omega
      rw [← this]; exact hF⟩
  | k + 1, a, kvs, v4, v5, v6, v7, hj, hF => by
    have hz' : (a + 1) * o.length < 16777216 := by
      have : (a + 1) * o.length ≤ (l.length + 1) * o.length := Nat.mul_le_mul_right _ (by omega)
      omega
    have hF0 : FilB g (S g (dd l o)) o.length kvs a (a - g) := hF.skip (Nat.zero_le _) fun j _ h2 => by
      cases hb : bnd g (a, j) with
      | false => rfl
      | true => have := bnd_iff.mp hb; omega
    obtain ⟨kvs1, w6, w7, e1, hF1⟩ : ∃ kvs1 v6' v7', forL (.name 6) (suIn φ) [] ((List.range' (a - g) (min o.length (a + g + 1) - (a - g))).map fun (i : Nat) => PV.int i) [some (.pv (st l)), some (.pv (st o)), some (.pv (.int g)), some (.ref m.length), some (.pv (.int a)), some (.pv (pt (gd l a))), v6, v7, none] (m ++ [.dt kvs]) =
      .next [some (.pv (st l)), some (.pv (st o)), some (.pv (.int g)), some (.ref m.length), some (.pv (.int a)), some (.pv (pt (gd l a))), v6', v7', none] (m ++ [.dt kvs1]) ∧ FilB g (S g (dd l o)) o.length kvs1 a o.length := by
      by_cases hh : a - g ≤ o.length
      · obtain ⟨kvs1, w6, w7, e1, hF1⟩ := su_in (m := m) (l := l) (o := o) (a := a) (g := g) hah hfar hz' (min o.length (a + g + 1) - (a - g)) (a - g) kvs v6 v7 (by omega) (fun i h1 h2 => bnd_iff.mpr (by omega)) hF0
        exact ⟨kvs1, w6, w7, e1, hF1.skip (by omega) fun j h1 h2 => by
          cases hb : bnd g (a, j) with
          | false => rfl
          | true => have := bnd_iff.mp hb; omega⟩
      · have e0 : min o.length (a + g + 1) - (a - g) = 0 := by omega
        rw [e0]
        exact ⟨kvs, v6, v7, by simp, hF.skip (Nat.zero_le _) fun j _ h2 => by
          cases hb : bnd g (a, j) with
          | false => rfl
          | true => have := bnd_iff.mp hb; omega⟩
    obtain ⟨kvs', v4', v5', v6', v7', e, hF'⟩ := su_out hg hl ho hah hfar hz k (a + 1) kvs1 (some (.pv (.int a))) (some (.pv (pt (gd l a)))) w6 w7 (by omega) hF1.row
    refine ⟨kvs', v4', v5', v6', v7', ?_, hF'⟩
    have body : suOut φ [some (.pv (st l)), some (.pv (st o)), some (.pv (.int g)), some (.ref m.length), some (.pv (.int a)), some (.pv (pt (gd l a))), v6, v7, none] (m ++ [.dt kvs]) =
        .next [some (.pv (st l)), some (.pv (st o)), some (.pv (.int g)), some (.ref m.length), some (.pv (.int a)), some (.pv (pt (gd l a))), w6, w7, none] (m ++ [.dt kvs1]) := by
      have b1 : max (0 : Int) ((a : Int) - g) = ((a - g : Nat) : Int) := by omega
      have b2 : min (o.length : Int) ((a : Int) + g + 1) = ((min o.length (a + g + 1) : Nat) : Int) := by omega
      have er := rngI (m := m ++ [.dt kvs]) (a := a - g) (b := min o.length (a + g + 1)) (by omega) (by omega)
      rw [← b1, ← b2] at er
      have x1 : ∀ i j : Int, bMax2 (m ++ [.dt kvs]) [.pv (.int i), .pv (.int j)] = some (.pv (.int (max i j))) := fun _ _ => rfl
      have x2 : ∀ i j : Int, bMin2 (m ++ [.dt kvs]) [.pv (.int i), .pv (.int j)] = some (.pv (.int (min i j))) := fun _ _ => rfl
      unfold suOut
      rw [e_for]
      have ei : (iB rngB2 (aCons (cB bMax2 (aCons (cC (.int 0)) (aCons (cBin .sub (cVar 4) (cVar 2)) (aNil)))) (aCons (cB bMin2 (aCons (cB bLen (aCons (cVar 1) (aNil))) (aCons (cBin .add (cBin .add (cVar 4) (cVar 2)) (cC (.int 1))) (aNil)))) (aNil)))) φ [some (.pv (st l)), some (.pv (st o)), some (.pv (.int g)), some (.ref m.length), some (.pv (.int a)), some (.pv (pt (gd l a))), v6, v7, none] (m ++ [.dt kvs]) = .ok ((List.range' (a - g) (min o.length (a + g + 1) - (a - g))).map (fun (i : Nat) => PV.int i), []) (m ++ [.dt kvs]) := by
        generalize List.map (fun (i : Nat) => PV.int i) (List.range' (a - g) (min o.length (a + g + 1) - (a - g))) = R at *
        generalize m ++ [Cell.dt kvs] = M at *
        simp only [e_ib, e_cons, e_blt, e_var, e_nil, e_bin, List.getElem?_cons_succ, List.getElem?_cons_zero, e_vr, e_cons1, e_cons2, e_blt1, Res.of_some, e_bin1, e_bin2]
        simp [len_st, er]
      rw [ei]
      simp only [e_for1]
      exact e1
    rw [List.range'_succ, List.map_cons, e_forL1]
    show forA _ _ _ _ _ (some [some (.pv (st l)), some (.pv (st o)), some (.pv (.int g)), some (.ref m.length), some (.pv (.int a)), some (.pv (pt (gd l a))), v6, v7, none]) = _
    rw [e_forA, body, e_forBn, e]
theorem p_sums_in {l o : List Pt} {g : Nat} (hg : g ≤ 127) (h1 : l.length ≤ 127) (h2 : o.length ≤ 127) : ∃ kvs, phi T (n + 2) "sums_in" [.pv (st l), .pv (st o), .pv (.int g)] m = .ok (.ref m.length) (m ++ [.dt kvs]) ∧ FilB g (S g (dd l o)) o.length kvs l.length 0 := by
  have hah : ∀ a b m, phi T (n + 1) "ahead_of" [.pv (.int (a : Nat)), .pv (.int (b : Nat))] m = .ok (.pv (.lst ((ahead a b).map np))) m := fun a b m => p_ahead a b
  have hfar : ∀ p q m, phi T (n + 1) "far" [.pv (pt p), .pv (pt q)] m = .ok (.pv (.int (farI p q))) m := fun p q m => p_far
  have hz : (l.length + 1) * o.length < 16777216 := by
    have : (l.length + 1) * o.length ≤ 128 * 127 := Nat.mul_le_mul (by omega) h2
    omega
  generalize hφ : phi T (n + 1) = φ at *
  obtain ⟨kvs, v4, v5, v6, v7, e, hF⟩ := su_out (m := m) (l := l) (o := o) hg h1 h2 hah hfar hz l.length 0 [] none none none none (by omega) FilB.zero
  refine ⟨kvs, ?_, hF⟩
  rw [phi_eq t_sums_in rfl, hφ]
  have ee : enumB (m ++ [.dt []]) [.pv (st l)] = some ((List.range' 0 l.length).map (itm l), []) := by rw [← enum_st]; rfl
  have hst : start 9 [.pv (st l), .pv (st o), .pv (.int g)] = [some (.pv (st l)), some (.pv (st o)), some (.pv (.int g)), none, none, none, none, none, none] := rfl
  rw [hst]
  simp only [m_sums_in, e_sseq, e_set, e_dct, if_true, e_set1, List.set_cons_succ, List.set_cons_zero, e_seq2n]
  rw [e_for]
  simp only [e_ib, e_cons, e_var, e_nil, List.getElem?_cons_succ, List.getElem?_cons_zero, e_vr, e_cons1, e_cons2, e_ib1, ee, Res.of_some, e_for1]
  rw [e]
  simp only [e_seq2n, e_ret, e_var, List.getElem?_cons_succ, List.getElem?_cons_zero, e_vr, e_ret1]
  unfold fin
  dsimp only
  rw [if_neg (by omega)]
  simp
/-- the least sum or None -/
def sumP (g : Nat) (l o : List Pt) : PV := if bnd g (l.length - 1, o.length - 1) = true then .int (S g (dd l o) (l.length - 1) (o.length - 1)) else .non
theorem FilB.last {g : Nat} {F : Nat → Nat → Int} {N M : Nat} {kvs : List (List L2.Key × PV)} (h : FilB g F M kvs N 0) {p : NP} (hN : p.1 < N) (hM : p.2 < M) : valP kvs (ky p.1 p.2) = if bnd g p = true then some (.int (F p.1 p.2)) else none := by
  rw [h.1 p.1 p.2]
  by_cases c : bnd g p = true
  · rw [if_pos c, if_pos ⟨c, by omega⟩]
  · rw [if_neg c, if_neg fun x => c x.1]
theorem p_sum_in {l o : List Pt} {g : Nat} (hg : g ≤ 127) (h1 : 1 ≤ l.length) (h2 : l.length ≤ 127) (h3 : 1 ≤ o.length) (h4 : o.length ≤ 127) : phi T (n + 3) "sum_in" [.pv (st l), .pv (st o), .pv (.int g)] m = .ok (.pv (sumP g l o)) m := by
  obtain ⟨kvs, e, hF⟩ := p_sums_in (n := n) (m := m) hg h2 h4
  rw [phi_eq t_sum_in rfl]
  generalize phi T (n + 2) = φ at *
  have e1 : ((l.length : Int) - 1) = ((l.length - 1 : Nat) : Int) := by omega
  have e2 : ((o.length : Int) - 1) = ((o.length - 1 : Nat) : Int) := by omega
  have hv := hF.last (p := (l.length - 1, o.length - 1)) (by simp only; omega) (by simp only; omega)
  have hd := dget_D' (p := (l.length - 1, o.length - 1)) (mem_D (m := m) (kvs := kvs))
  rw [hv] at hd
  have hs : (if bnd g (l.length - 1, o.length - 1) = true then some (PV.int (S g (dd l o) (l.length - 1) (o.length - 1))) else none).getD .non = sumP g l o := by
    unfold sumP
    split <;> rfl
  have hg1 := e_get1 (φ := φ) (ρ := start 3 [.pv (st l), .pv (st o), .pv (.int g)]) (o := cCall "sums_in" (aCons (cVar 0) (aCons (cVar 1) (aCons (cVar 2) (aNil))))) (e := (cTup (aCons (cBin .sub (cB bLen (aCons (cVar 0) (aNil))) (cC (.int 1))) (aCons (cBin .sub (cB bLen (aCons (cVar 1) (aNil))) (cC (.int 1))) (aNil))))) (m := m) (m1 := m ++ [.dt kvs]) (m2 := m ++ [.dt kvs]) (n := m.length) (y := .pv (np (l.length - 1, o.length - 1))) (by simp [e]) (by rw [mem_D]; rfl) (by simp [len_st, e1, e2, np]) hd
  rw [hs] at hg1
  rw [m_sum_in, e_ret, hg1]
  simp
theorem p_need_lag {k : Int} (h0 : 0 ≤ k) (h1 : k ≤ 127) : phi T (n + 2) "need_lag" [.pv (.int k)] m = .ok (.pv .non) m := by
  rw [phi_eq t_need_lag rfl]
  have e := p_is_whole n m (.int k) 0 127 (by simp)
  have : isW (.int k) 0 127 = true := by simp [isW, h0, h1]
  rw [this] at e
  simp [m_need_lag, e]
theorem p_need_both {l o : List Pt} {k : Int} (hl : okS l) (ho : okS o) (h0 : 0 ≤ k) (h1 : k ≤ 127) : phi T (n + 5) "need_both" [.pv (st l), .pv (st o), .pv (.int k)] m = .ok (.pv .non) m := by
  rw [phi_eq t_need_both rfl]
  simp [m_need_both, p_need_stroke hl, p_need_stroke ho, p_need_lag h0 h1]
theorem p_least_sum {l o : List Pt} {g : Nat} (hl : okS l) (ho : okS o) (hg : g ≤ 127) : phi T (n + 6) "least_sum" [.pv (st l), .pv (st o), .pv (.int g)] m = .ok (.pv (sumP g l o)) m := by
  rw [phi_eq t_least_sum rfl]
  have e1 := p_need_both (n := n) (m := m) hl ho (k := g) (by omega) (by omega)
  have e2 := p_sum_in (n := n + 2) (m := m) hg hl.1 hl.2.1 ho.1 ho.2.1
  simp [m_least_sum, e1, e2]

end L_k36

set_option Elab.async false
set_option linter.all false
set_option maxRecDepth 100000
set_option autoImplicit false
set_option maxHeartbeats 400000
namespace L_k36
open PySem Pn
variable {n : Nat} {m : Mem} {φ : Phi}
theorem v_any {xs : List PV} {l : List Bool} (h : xs = l.map PV.bl) : bAny m [.pv (.lst xs)] = some (.pv (.bl (l.any id))) := by subst h; show ((some (l.map PV.bl)).bind blsOf).map _ = _; simp
def sumC (d : Nat → Nat → Int) (ps : List NP) : Int := (ps.map fun p => d p.1 p.2).sum
noncomputable abbrev bsB : SDen := (sSeq (sSet 6 (cLc false [7] (iSeq (cCall "ahead_of" (aCons (cIdx (cIdx (cVar 5) (cNeg (cC (.int 1)))) (cC (.int 0))) (aCons (cIdx (cIdx (cVar 5) (cNeg (cC (.int 1)))) (cC (.int 1))) (aNil))))) (.name 7) (tTru (cCmp .isin (cVar 7) (cVar 3))) (cVar 7))) (sExp (cApp (cVar 5) (aCons (cIdx (cB bMinD (aCons (cLc false [7] (iSeq (cVar 6)) (.name 7) (tYes) (cTup (aCons (cIdx (cVar 3) (cVar 7)) (aCons (cVar 7) (aNil))))) (aNil))) (cC (.int 1))) (aNil)))))
theorem bs_loop {g : Nat} {d : Nat → Nat → Int} {v0 v1 v2 v4 : Option Val} {kvs : List (List L2.Key × PV)} {A B : Nat} (hF : ∀ i j, i ≤ A → j ≤ B → valP kvs (ky i j) = if bnd g (i, j) = true then some (.int (S g d i j)) else none) (hah : ∀ a b m, φ "ahead_of" [.pv (.int (a : Nat)), .pv (.int (b : Nat))] m = .ok (.pv (.lst ((ahead a b).map np))) m) :
    ∀ (N a b : Nat) (acc : List NP) (v6 : Option Val), a + b ≤ N → a ≤ A → b ≤ B → bnd g (a, b) = true → acc.length + N < 16777215 →
    ∃ tail v6', whileL (bkC φ) (bsB φ) (N + 1) [v0, v1, v2, some (.ref m.length), v4, some (.ref (m.length + 1)), v6, none] (MM m kvs (acc ++ [(a, b)])) =
      .next [v0, v1, v2, some (.ref m.length), v4, some (.ref (m.length + 1)), v6', none] (MM m kvs (acc ++ [(a, b)] ++ tail)) ∧ chain ((a, b) :: tail) ∧ (∀ q ∈ (a, b) :: tail, bnd g q = true) ∧ sumC d ((a, b) :: tail) = S g d a b
  | N, a, b, acc, v6, hN, hA, hB, hbd, hl => by
    have hlast := MM_last (m := m) (kvs := kvs) (acc := acc) (p := (a, b))
    have hne : cmp .ne (MM m kvs (acc ++ [(a, b)])) (.pv (np (a, b))) (.pv (.tup [.int 0, .int 0])) = some (.pv (.bl (!decide ((a, b) = ((0 : Nat), (0 : Nat)))))) := ne_np
    have hcond : ∀ v6, bkC φ [v0, v1, v2, some (.ref m.length), v4, some (.ref (m.length + 1)), v6, none] (MM m kvs (acc ++ [(a, b)])) = .ok (!decide ((a, b) = ((0 : Nat), (0 : Nat)))) (MM m kvs (acc ++ [(a, b)])) := fun v6 => by
      generalize MM m kvs (acc ++ [(a, b)]) = M at *
      simp [hlast, hne]
    by_cases h0 : (a, b) = ((0 : Nat), (0 : Nat))
    · refine ⟨[], v6, ?_, by simp [chain, h0], fun q hq => by simp at hq; rw [hq]; exact hbd, ?_⟩
      · have hc := hcond v6
        rw [decide_eq_true h0] at hc
        rw [e_wh0 hc]
        simp
      · have ha : a = 0 := congrArg Prod.fst h0
        have hb : b = 0 := congrArg Prod.snd h0
        subst ha hb
        rw [S]; simp [sumC]
    · cases N with
      | zero =>
        exfalso
        apply h0
        have : a = 0 ∧ b = 0 := by omega
        rw [this.1, this.2]
      | succ N =>
        obtain ⟨q0, qs, hq⟩ : ∃ q0 qs, aheadB g a b = q0 :: qs := by
          have := rwB_ne (g := g) (F := S g d) hbd h0
          unfold rwB at this
          cases h : aheadB g a b with
          | nil => rw [h] at this; exact absurd rfl this
          | cons q0 qs => exact ⟨q0, qs, rfl⟩
        obtain ⟨q, hm, hp, hmin⟩ := pick (F := S g d) qs q0
        have hqb : q ∈ aheadB g a b := by rw [hq]; exact hm
        have hqa : q ∈ ahead a b := (List.mem_filter.mp hqb).1
        have hqg : bnd g q = true := (List.mem_filter.mp hqb).2
        have hlt := ahead_lt hqa
        obtain ⟨tail, v6', e, hch, hg, hs⟩ := bs_loop (v0 := v0) (v1 := v1) (v2 := v2) (v4 := v4) hF hah N q.1 q.2 (acc ++ [(a, b)]) (some (.pv (.lst ((aheadB g a b).map np)))) (by omega) (by omega) (by omega) hqg (by simp; omega)
        refine ⟨q :: tail, v6', ?_, ⟨hqa, hch⟩, fun q' hq' => ?_, ?_⟩
        · have hc := hcond v6
          rw [decide_eq_false h0] at hc
          have body : bsB φ [v0, v1, v2, some (.ref m.length), v4, some (.ref (m.length + 1)), v6, none] (MM m kvs (acc ++ [(a, b)])) = .next [v0, v1, v2, some (.ref m.length), v4, some (.ref (m.length + 1)), some (.pv (.lst ((aheadB g a b).map np))), none] (MM m kvs (acc ++ [(a, b)] ++ [q])) := by
            have hD := MM_1 (m := m) (kvs := kvs) (acc := acc ++ [(a, b)])
            have s1 : (sSet 6 (cLc false [7] (iSeq (cCall "ahead_of" (aCons (cIdx (cIdx (cVar 5) (cNeg (cC (.int 1)))) (cC (.int 0))) (aCons (cIdx (cIdx (cVar 5) (cNeg (cC (.int 1)))) (cC (.int 1))) (aNil))))) (.name 7) (tTru (cCmp .isin (cVar 7) (cVar 3))) (cVar 7))) φ [v0, v1, v2, some (.ref m.length), v4, some (.ref (m.length + 1)), v6, none] (MM m kvs (acc ++ [(a, b)])) = .next [v0, v1, v2, some (.ref m.length), v4, some (.ref (m.length + 1)), some (.pv (.lst ((aheadB g a b).map np))), none] (MM m kvs (acc ++ [(a, b)])) := by
              generalize MM m kvs (acc ++ [(a, b)]) = M at *
              simp [hlast, np_0, np_1, hah]
              rw [lc1_ok (by simp; cases a <;> cases b <;> simp [ahead]), lcL_flt (h := np) (p := bnd g) fun p hp' => by
                have := ahead_lt hp'
                have hi := in_D' (p := p) hD
                rw [hF p.1 p.2 (by omega) (by omega)] at hi
                cases hbp : bnd g p with
                | true =>
                  rw [if_pos (show bnd g (p.1, p.2) = true from hbp)] at hi
                  simp [Pn.wipe, hi]
                | false =>
                  rw [if_neg (show ¬ bnd g (p.1, p.2) = true by rw [show ((p.1, p.2) : NP) = p from rfl, hbp]; simp)] at hi
                  simp [Pn.wipe, hi]]
              simp [aheadB]
            unfold bsB
            rw [e_sseq, s1, e_seq2n]
            have e2 : cApp (cVar 5) (aCons (cIdx (cB bMinD (aCons (cLc false [7] (iSeq (cVar 6)) (.name 7) (tYes) (cTup (aCons (cIdx (cVar 3) (cVar 7)) (aCons (cVar 7) (aNil))))) (aNil))) (cC (.int 1))) (aNil)) φ [v0, v1, v2, some (.ref m.length), v4, some (.ref (m.length + 1)), some (.pv (.lst ((aheadB g a b).map np))), none] (MM m kvs (acc ++ [(a, b)])) = .ok (.pv .non) (MM m kvs (acc ++ [(a, b)] ++ [q])) := by
              refine app_MM rfl ?_ (by simp; omega)
              have hlen : (aheadB g a b).length < 16777216 := by
                have h1 : (aheadB g a b).length ≤ (ahead a b).length := List.length_filter_le _ _
                have h2 : (ahead a b).length ≤ 3 := by cases a <;> cases b <;> simp [ahead]
                omega
              generalize MM m kvs (acc ++ [(a, b)]) = M at *
              simp
              rw [lc1_ok (by simpa using hlen), lcL_mapf (h := gq (S g d)) fun p hp' => by
                have hp2 := List.mem_filter.mp hp'
                have := ahead_lt hp2.1
                have hv := hF p.1 p.2 (by omega) (by omega)
                rw [if_pos (show bnd g (p.1, p.2) = true from hp2.2)] at hv
                have ei := idx_D' (p := p) hD hv
                simp [Pn.wipe, ei, gq]]
              simp only [e_lc2f, e_cons1, e_cons2, e_blt1]
              rw [hq]
              have hm1 : bMin1 M [.pv (.lst ((q0 :: qs).map (gq (S g d))))] = none := rfl
              have hmp := v_minP (m := M) (x := gq (S g d) q0) (xs := qs.map (gq (S g d))) hm1 (ok_gq (qs := q0 :: qs))
              have hmp' : bMinD M [.pv (.lst ((q0 :: qs).map (gq (S g d))))] = some (.pv (gq (S g d) q)) := by rw [← hp]; exact hmp
              simp only [e_nil, e_cons2, e_blt1]
              rw [hmp']
              have e1 : idx M (.pv (gq (S g d) q)) (.pv (.int 1)) = some (.pv (np q)) := v_idxT atI1
              simp [e1]
            simp only [e_exp]
            rw [e2]
            rfl
          rw [e_wh1 hc body, e]
          simp
        · rcases List.mem_cons.mp hq' with rfl | hq'
          · exact hbd
          · exact hg q' hq'
        · have hmn : mn0 (rwB g (S g d) a b) = S g d q.1 q.2 := by
            have h1 : S g d q.1 q.2 ∈ rwB g (S g d) a b := List.mem_map_of_mem (f := fun p : NP => S g d p.1 p.2) hqb
            have h2 := mn0_le h1
            have h3 : mn0 (rwB g (S g d) a b) ∈ rwB g (S g d) a b := mn0_mem (by intro h; rw [h] at h1; cases h1)
            obtain ⟨q', h4, h5⟩ := List.mem_map.mp h3
            have := hmin q' (by rw [← hq]; exact h4)
            omega
          rw [S_eq, hmn, ← hs]
          simp [sumC]
theorem p_sum_coupling {l o : List Pt} {g : Nat} (hl : okS l) (ho : okS o) (hg : g ≤ 127) (hbd : bnd g (l.length - 1, o.length - 1) = true) :
    ∃ tail, chain ((l.length - 1, o.length - 1) :: tail) ∧ (∀ q ∈ (l.length - 1, o.length - 1) :: tail, bnd g q = true) ∧ sumC (dd l o) ((l.length - 1, o.length - 1) :: tail) = S g (dd l o) (l.length - 1) (o.length - 1) ∧
      phi T (n + 6) "sum_coupling" [.pv (st l), .pv (st o), .pv (.int g)] m = .ok (.pv (rowP ((l.length - 1, o.length - 1) :: tail).reverse)) m := by
  have h1 := hl.1
  have h2 := hl.2.1
  have h3 := ho.1
  have h4 := ho.2.1
  have enb := p_need_both (n := n) (m := m) hl ho (k := g) (by omega) (by omega)
  obtain ⟨kvs, e, hF⟩ := p_sums_in (n := n + 3) (m := m) (g := g) hg h2 h4
  have hah : ∀ a b m, phi T (n + 5) "ahead_of" [.pv (.int (a : Nat)), .pv (.int (b : Nat))] m = .ok (.pv (.lst ((ahead a b).map np))) m := fun a b m => p_ahead a b
  rw [phi_eq t_sum_coupling rfl]
  generalize phi T (n + 5) = φ at *
  have e1 : ((l.length : Int) - 1) = ((l.length - 1 : Nat) : Int) := by omega
  have e2 : ((o.length : Int) - 1) = ((o.length - 1 : Nat) : Int) := by omega
  have hV : ∀ i j, i ≤ l.length - 1 → j ≤ o.length - 1 → valP kvs (ky i j) = if bnd g (i, j) = true then some (.int (S g (dd l o) i j)) else none := fun i j hi hj => hF.last (p := (i, j)) (by simp only; omega) (by simp only; omega)
  generalize hA : l.length - 1 = A at *
  generalize hB : o.length - 1 = B at *
  have hni := nin_D' (p := (A, B)) (mem_D (m := m) (kvs := kvs))
  rw [hV A B (Nat.le_refl _) (Nat.le_refl _), if_pos hbd] at hni
  have en : PV.tup [.int (A : Int), .int (B : Int)] = np (A, B) := rfl
  have hst : start 8 [.pv (st l), .pv (st o), .pv (.int g)] = [some (.pv (st l)), some (.pv (st o)), some (.pv (.int g)), none, none, none, none, none] := rfl
  have s0 : m_sum_coupling_0 φ [some (.pv (st l)), some (.pv (st o)), some (.pv (.int g)), none, none, none, none, none] m = .next [some (.pv (st l)), some (.pv (st o)), some (.pv (.int g)), none, none, none, none, none] m := by
    simp [m_sum_coupling_0, enb]
  have s1 : m_sum_coupling_1 φ [some (.pv (st l)), some (.pv (st o)), some (.pv (.int g)), none, none, none, none, none] m = .next [some (.pv (st l)), some (.pv (st o)), some (.pv (.int g)), some (.ref m.length), some (.pv (np (A, B))), none, none, none] (m ++ [.dt kvs]) := by
    simp [m_sum_coupling_1, e, len_st, e1, e2, en]
  obtain ⟨tail, v6, ew, hch, hb, hs⟩ := bs_loop (m := m) (φ := φ) (g := g) (d := dd l o) (v0 := some (.pv (st l))) (v1 := some (.pv (st o))) (v2 := some (.pv (.int g))) (v4 := some (.pv (np (A, B)))) (kvs := kvs) (A := A) (B := B) hV hah (A + B) A B [] none (Nat.le_refl _) (Nat.le_refl _) (Nat.le_refl _) hbd (by simp; omega)
  refine ⟨tail, hch, hb, hs, ?_⟩
  rw [List.nil_append, List.singleton_append] at ew
  have s2 : m_sum_coupling_2 φ [some (.pv (st l)), some (.pv (st o)), some (.pv (.int g)), some (.ref m.length), some (.pv (np (A, B))), none, none, none] (m ++ [.dt kvs]) = .next [some (.pv (st l)), some (.pv (st o)), some (.pv (.int g)), some (.ref m.length), some (.pv (np (A, B))), none, none, none] (m ++ [.dt kvs]) := by
    simp [m_sum_coupling_2, hni]
  have s3 : m_sum_coupling_3 φ [some (.pv (st l)), some (.pv (st o)), some (.pv (.int g)), some (.ref m.length), some (.pv (np (A, B))), none, none, none] (m ++ [.dt kvs]) = .next [some (.pv (st l)), some (.pv (st o)), some (.pv (.int g)), some (.ref m.length), some (.pv (np (A, B))), some (.ref (m.length + 1)), none, none] (MM m kvs [(A, B)]) := by
    have en1 : new1 (.ok [.pv (np (A, B))] (m ++ [.dt kvs])) = .ok (.ref (m.length + 1)) (MM m kvs [(A, B)]) := by
      have : (m ++ [Cell.dt kvs]).length = m.length + 1 := by simp
      unfold new1
      simp [MM]
    simp [m_sum_coupling_3, en1]
  have s4 : m_sum_coupling_4 φ [some (.pv (st l)), some (.pv (st o)), some (.pv (.int g)), some (.ref m.length), some (.pv (np (A, B))), some (.ref (m.length + 1)), none, none] (MM m kvs [(A, B)]) = _ := e_while ew (by simp)
  have hrev : revV (MM m kvs ((A, B) :: tail)) (.ref (m.length + 1)) = some (.pv (.lst (((A, B) :: tail).reverse.map np))) := by
    show (litems (MM m kvs ((A, B) :: tail)) (.ref (m.length + 1))).map _ = _
    have : litems (MM m kvs ((A, B) :: tail)) (.ref (m.length + 1)) = some (((A, B) :: tail).map np) := by unfold litems; dsimp only; rw [MM_2]
    rw [this, Option.map_some, List.map_reverse]
  have htk : (MM m kvs ((A, B) :: tail)).take m.length = m := by simp [MM]
  generalize hMM : MM m kvs ((A, B) :: tail) = M at *
  rw [hst]
  simp only [m_sum_coupling, e_sseq, s0, s1, e_seq2n, s2, s3]
  rw [s4]
  simp only [e_seq2n, m_sum_coupling_5]
  simp [hrev, htk]
  simp [rowP]
theorem p_sum_of {l o : List Pt} {g : Nat} {ps : List NP} (hl : okS l) (ho : okS o) (hg : g ≤ 127) (hz : ps.length ≤ 1000) (hne : ps ≠ []) (hp : ∀ p ∈ ps, p.1 ≤ l.length - 1 ∧ p.2 ≤ o.length - 1)
    (hc : isC (dd l o) (l.length - 1) (o.length - 1) 20000 ps = true) (hb : ∀ p ∈ ps, bnd g p = true) :
    phi T (n + 7) "sum_of" [.pv (st l), .pv (st o), .pv (.int g), .pv (rowP ps)] m = .ok (.pv (.int (sumC (dd l o) ps))) m := by
  have enb := p_need_both (n := n + 1) (m := m) hl ho (k := g) (by omega) (by omega)
  have eic := p_is_coupling (n := n) (m := m) (lo := 20000) hl ho (by omega) (by omega) (p_fits_c (n := n + 2) (m := m) (lo := 20000) hl ho hz hne hp)
  rw [hc] at eic
  have hfar : ∀ p q m, phi T (n + 6) "far" [.pv (pt p), .pv (pt q)] m = .ok (.pv (.int (farI p q))) m := fun p q m => p_far
  have b1 : ∀ p ∈ ps, p.1 < l.length ∧ p.2 < o.length := fun p h => by have := hp p h; have := hl.1; have := ho.1; omega
  rw [phi_eq t_sum_of rfl]
  generalize phi T (n + 6) = φ at *
  have ei : iOf m (.pv (rowP ps)) = some (ps.map np, []) := rfl
  simp [m_sum_of, enb, eic, ei]
  rw [lc1_ok (by simp; omega), lcL_mapf (h := fun p => PV.bl false) fun p hp' => by
    have hbp := bnd_iff.mp (show bnd g (p.1, p.2) = true from hb p hp')
    have e1 : ¬ (g : Int) < (if (p.1 : Int) - (p.2 : Int) < 0 then -((p.1 : Int) - (p.2 : Int)) else (p.1 : Int) - (p.2 : Int)) := by split <;> omega
    simp [Pn.wipe, np]
    split <;> omega]
  have ea : bAny m [.pv (.lst (ps.map fun p => PV.bl false))] = some (.pv (.bl false)) := by
    rw [v_any (l := ps.map fun _ => false) (by simp)]
    simp
  simp only [e_lc2f, e_cons1, e_nil, e_cons2, e_blt1, ea, Res.of_some]
  simp [ei]
  rw [lc1_ok (by simp; omega), lcL_mapf (h := fun p => PV.int (dd l o p.1 p.2)) fun p hp' => by
    obtain ⟨c1, c2⟩ := b1 p hp'
    have i1 := idx_st (m := m) c1
    have i2 := idx_st (m := m) c2
    simp [Pn.wipe, np, i1, i2, hfar, dd]]
  have e : (ps.map fun p => PV.int (dd l o p.1 p.2)) = (ps.map fun p => dd l o p.1 p.2).map PV.int := by rw [List.map_map]; rfl
  simp only [e_lc2f, e_cons1, e_nil, e_cons2, e_blt1]
  rw [e, v_sum rfl]
  simp [sumC]

end L_k36

set_option Elab.async false
set_option linter.all false
set_option maxRecDepth 100000
set_option autoImplicit false
set_option maxHeartbeats 1000000
namespace L_k36
open PySem Pn
/-! the plain law -/
def fwB : List NP → Bool
  | [] => true
  | [_] => true
  | p :: q :: r => decide (p ∈ ahead q.1 q.2) && fwB (q :: r)
theorem zip_fw : ∀ ps : List NP, (ps.zip (ps.drop 1)).all (fun pq => decide (pq.1 ∈ ahead pq.2.1 pq.2.2)) = fwB ps
  | [] => rfl
  | [_] => rfl
  | p :: q :: r => by
    have ih := zip_fw (q :: r)
    rw [fwB, ← ih]
    simp
theorem fw_snoc : ∀ (l : List NP) (x p : NP), fwB (l ++ [x] ++ [p]) = (fwB (l ++ [x]) && decide (x ∈ ahead p.1 p.2))
  | [], x, p => by simp [fwB]
  | [y], x, p => by simp [fwB]
  | y :: z :: l, x, p => by
    have ih := fw_snoc (z :: l) x p
    simp only [List.cons_append] at ih ⊢
    rw [fwB, ih, fwB, Bool.and_assoc]
theorem chain_fw : ∀ (l : List NP), l ≠ [] → (chain l ↔ fwB l.reverse = true ∧ l.getLast? = some (0, 0))
  | [], h => absurd rfl h
  | [p], _ => by simp [chain, fwB]
  | p :: q :: r, _ => by
    have ih := chain_fw (q :: r) (by simp)
    have e : (p :: q :: r).reverse = r.reverse ++ [q] ++ [p] := by simp
    have e2 : (q :: r).reverse = r.reverse ++ [q] := by simp
    rw [e, fw_snoc]
    rw [e2] at ih
    show q ∈ ahead p.1 p.2 ∧ chain (q :: r) ↔ _
    rw [ih]
    have e3 : (p :: q :: r).getLast? = (q :: r).getLast? := by simp
    rw [e3, Bool.and_eq_true, decide_eq_true_eq]
    constructor
    · rintro ⟨h1, h2, h3⟩; exact ⟨⟨h2, h1⟩, h3⟩
    · rintro ⟨⟨h2, h1⟩, h3⟩; exact ⟨h1, h2, h3⟩
theorem mem_ahead {a b : Nat} {q : NP} : q ∈ ahead a b ↔ (q.1 + 1 = a ∧ q.2 + 1 = b) ∨ (q.1 + 1 = a ∧ q.2 = b) ∨ (q.1 = a ∧ q.2 + 1 = b) := by
  obtain ⟨x, y⟩ := q
  cases a <;> cases b <;> simp [ahead] <;> omega
theorem chain_in : ∀ {t : List NP} {a b : Nat}, chain ((a, b) :: t) → ∀ q ∈ (a, b) :: t, q.1 ≤ a ∧ q.2 ≤ b
  | [], a, b, _, q, hq => by simp at hq; subst hq; exact ⟨Nat.le_refl _, Nat.le_refl _⟩
  | p :: t, a, b, h, q, hq => by
    obtain ⟨h1, h2⟩ := h
    have hl := mem_ahead.mp h1
    rcases List.mem_cons.mp hq with rfl | hq
    · exact ⟨Nat.le_refl _, Nat.le_refl _⟩
    · have := chain_in (a := p.1) (b := p.2) h2 q hq
      simp only at hl; omega
theorem chain_len : ∀ {t : List NP} {a b : Nat}, chain ((a, b) :: t) → t.length ≤ a + b
  | [], a, b, _ => by simp
  | p :: t, a, b, h => by
    obtain ⟨h1, h2⟩ := h
    have hl := mem_ahead.mp h1
    have := chain_len (a := p.1) (b := p.2) h2
    simp only [List.length_cons] at *
    omega
theorem chain_last {c : List NP} (hc : chain c) : c.getLast? = some (0, 0) := by
  have hne : c ≠ [] := by intro h; subst h; exact hc
  exact ((chain_fw c hne).mp hc).2
theorem chain_zero {c : List NP} (hc : chain c) : ((0, 0) : NP) ∈ c := List.mem_of_getLast? (chain_last hc)
theorem S_le {g : Nat} {d : Nat → Nat → Int} : ∀ {t : List NP} {a b : Nat}, chain ((a, b) :: t) → (∀ q ∈ (a, b) :: t, bnd g q = true) → S g d a b ≤ sumC d ((a, b) :: t)
  | [], a, b, h, _ => by
    have h0 : (a, b) = ((0 : Nat), (0 : Nat)) := h
    have ha : a = 0 := congrArg Prod.fst h0
    have hb : b = 0 := congrArg Prod.snd h0
    subst ha hb
    rw [S]; simp [sumC]
  | q :: t, a, b, h, hb => by
    obtain ⟨h1, h2⟩ := h
    have ih := S_le (g := g) (d := d) (a := q.1) (b := q.2) h2 fun x hx => hb x (List.mem_cons_of_mem _ hx)
    have hm : S g d q.1 q.2 ∈ rwB g (S g d) a b := List.mem_map_of_mem (f := fun p : NP => S g d p.1 p.2) (List.mem_filter.mpr ⟨h1, hb q (by simp)⟩)
    have := mn0_le hm
    rw [S_eq]
    have e : sumC d ((a, b) :: q :: t) = d a b + sumC d (q :: t) := by simp [sumC]
    have e2 : sumC d ((q.1, q.2) :: t) = sumC d (q :: t) := rfl
    omega
theorem sumC_nn {d : Nat → Nat → Int} (hd : ∀ i j, 0 ≤ d i j) : ∀ c : List NP, 0 ≤ sumC d c
  | [] => by simp [sumC]
  | q :: c => by
    have := sumC_nn hd c
    have := hd q.1 q.2
    have e : sumC d (q :: c) = d q.1 q.2 + sumC d c := by simp [sumC]
    omega
theorem sumC_mem {d : Nat → Nat → Int} (hd : ∀ i j, 0 ≤ d i j) : ∀ {c : List NP} {q : NP}, q ∈ c → d q.1 q.2 ≤ sumC d c
  | [], q, h => nomatch h
  | p :: c, q, h => by
    have e : sumC d (p :: c) = d p.1 p.2 + sumC d c := by simp [sumC]
    rcases List.mem_cons.mp h with rfl | h
    · have := sumC_nn hd c; omega
    · have := sumC_mem hd h
      have := hd p.1 p.2
      omega
theorem sumC_len {d : Nat → Nat → Int} {x : Int} : ∀ {c : List NP}, (∀ q ∈ c, d q.1 q.2 ≤ x) → sumC d c ≤ x * c.length
  | [], _ => by simp [sumC]
  | p :: c, h => by
    have e : sumC d (p :: c) = d p.1 p.2 + sumC d c := by simp [sumC]
    have ih := sumC_len (d := d) (x := x) (c := c) fun q hq => h q (List.mem_cons_of_mem _ hq)
    have := h p (by simp)
    have e2 : x * ((p :: c).length : Int) = x * (c.length : Int) + x := by rw [List.length_cons, Int.natCast_add, Int.mul_add]; simp
    omega
theorem sumC_rev {d : Nat → Nat → Int} (c : List NP) : sumC d c.reverse = sumC d c := by
  unfold sumC
  rw [List.map_reverse, List.sum_reverse]
theorem bnd127 {p : NP} (h1 : p.1 ≤ 126) (h2 : p.2 ≤ 126) : bnd 127 p = true := by
  simp [bnd]; omega
/-! what is the same -/
theorem S_congr {g : Nat} {d d' : Nat → Nat → Int} : ∀ {k a b : Nat}, a + b < k → (∀ i j, i ≤ a → j ≤ b → d i j = d' i j) → S g d a b = S g d' a b
  | 0, a, b, h, _ => absurd h (by omega)
  | k + 1, a, b, h, hd => by
    rw [S_eq, S_eq, hd a b (Nat.le_refl _) (Nat.le_refl _)]
    congr 2
    unfold rwB
    apply List.map_congr_left
    intro q hq
    have hl := ahead_lt (List.mem_filter.mp hq).1
    exact S_congr (k := k) (by omega) fun i j hi hj => hd i j (by omega) (by omega)
theorem ab_nn (i : Int) : 0 ≤ ab i := by unfold ab; split <;> omega
theorem far_nn (p q : Pt) : 0 ≤ farI p q := by
  have := ab_nn (p.1 - q.1)
  unfold farI; omega
theorem dd_nn (l o : List Pt) (i j : Nat) : 0 ≤ dd l o i j := far_nn _ _
theorem far_self (p : Pt) : farI p p = 0 := by simp [farI, ab]
theorem gd_map {l : List Pt} {h : Pt → Pt} {i : Nat} (hi : i < l.length) : gd (l.map h) i = h (gd l i) := by
  unfold gd
  rw [List.getD_eq_getElem?_getD, List.getD_eq_getElem?_getD, List.getElem?_map, List.getElem?_eq_getElem hi]
  rfl
/-- the least sum is one of a chain -/
theorem S_path {l o : List Pt} {g : Nat} (hl : okS l) (ho : okS o) (hg : g ≤ 127) (hb : bnd g (l.length - 1, o.length - 1) = true) :
    ∃ tail, chain ((l.length - 1, o.length - 1) :: tail) ∧ (∀ q ∈ (l.length - 1, o.length - 1) :: tail, bnd g q = true) ∧ sumC (dd l o) ((l.length - 1, o.length - 1) :: tail) = S g (dd l o) (l.length - 1) (o.length - 1) := by
  obtain ⟨t, h1, h2, h3, _⟩ := p_sum_coupling (n := 0) (m := []) hl ho hg hb
  exact ⟨t, h1, h2, h3⟩
theorem S_first {l o : List Pt} (hl : okS l) (ho : okS o) : farI (gd l 0) (gd o 0) ≤ S 127 (dd l o) (l.length - 1) (o.length - 1) := by
  have l2 := hl.2.1
  have o2 := ho.2.1
  obtain ⟨t, h1, h2, h3⟩ := S_path hl ho (Nat.le_refl 127) (bnd127 (by simp only; omega) (by simp only; omega))
  rw [← h3]
  have := sumC_mem (dd_nn l o) (q := ((0, 0) : NP)) (chain_zero h1)
  unfold dd at this
  exact this
theorem chain_bnd {t : List NP} {a b : Nat} (h : chain ((a, b) :: t)) (ha : a ≤ 126) (hb : b ≤ 126) : ∀ q ∈ (a, b) :: t, bnd 127 q = true := fun q hq => by
  have := chain_in h q hq
  exact bnd127 (by omega) (by omega)
/-! turned round -/
theorem chain_swap : ∀ {t : List NP} {p : NP}, chain (p :: t) → chain ((p :: t).map Prod.swap)
  | [], p, h => by
    have : p = (0, 0) := h
    subst this
    rfl
  | q :: t, p, h => by
    obtain ⟨h1, h2⟩ := h
    refine ⟨?_, chain_swap h2⟩
    have hm := mem_ahead.mp h1
    exact mem_ahead.mpr (by simp only [Prod.fst_swap, Prod.snd_swap]; omega)
/-! along the diagonal -/
theorem S_diag {d : Nat → Nat → Int} {c : Int} : ∀ {a : Nat}, (∀ i, i ≤ a → d i i = c) → S 0 d a a = ((a : Int) + 1) * c
  | 0, h => by rw [S, h 0 (Nat.le_refl _)]; simp
  | a + 1, h => by
    have ih := S_diag (d := d) (c := c) (a := a) fun i hi => h i (by omega)
    have e : rwB 0 (S 0 d) (a + 1) (a + 1) = [S 0 d a a] := by
      unfold rwB aheadB
      simp [ahead, bnd, List.filter_cons]
    rw [S_eq, e, ih, h (a + 1) (Nat.le_refl _)]
    show c + ((a : Int) + 1) * c = (((a + 1 : Nat) : Int) + 1) * c
    rw [show (((a + 1 : Nat) : Int) + 1) = ((a : Int) + 1) + 1 by omega, Int.add_mul ((a : Int) + 1) 1 c]
    omega
theorem S_step {g : Nat} {d : Nat → Nat → Int} {a b : Nat} (h : bnd g (a, b) = true) : S g d (a + 1) (b + 1) ≤ d (a + 1) (b + 1) + S g d a b := by
  rw [S_eq]
  have hm : S g d a b ∈ rwB g (S g d) (a + 1) (b + 1) := List.mem_map_of_mem (f := fun p : NP => S g d p.1 p.2) (List.mem_filter.mpr ⟨by simp [ahead], h⟩)
  have := mn0_le hm
  omega
theorem isC_chain {d : Nat → Nat → Int} {N M : Nat} {lo : Int} {t : List NP} (h : chain ((N, M) :: t)) (hd : ∀ q ∈ (N, M) :: t, d q.1 q.2 ≤ lo) : isC d N M lo ((N, M) :: t).reverse = true := by
  obtain ⟨h1, h2⟩ := (chain_fw _ (by simp)).mp h
  unfold isC
  rw [zip_fw, h1, List.head?_reverse, h2, List.getLast?_reverse]
  simp only [decide_true, List.head?_cons, Bool.true_and, List.all_eq_true, decide_eq_true_eq]
  exact fun q hq => hd q (List.mem_reverse.mp hq)

end L_k36

set_option Elab.async false
set_option linter.all false
set_option maxRecDepth 100000
set_option autoImplicit false
set_option maxHeartbeats 400000
namespace L_k36
open PySem Pn
variable {n : Nat} {m : Mem} {φ : Phi}
theorem forLg0 {tg : Tgt} {f : Pn.Env → Mem → SRes} {g : Gd} {ρ : Pn.Env} (h : gOk g m) : forL tg f g [] ρ m = .next ρ m := by rw [forL, if_pos h]
theorem forLg1 {tg : Tgt} {f : Pn.Env → Mem → SRes} {g : Gd} {p : PV} {xs : List PV} {ρ : Pn.Env} (h : gOk g m) : forL tg f g (p :: xs) ρ m = forA tg f g xs m (asgn tg p ρ) := by
  rw [forL, if_pos h]
  cases asgn tg p ρ with
  | none => rfl
  | some ρ1 => unfold forA forB; dsimp only; cases f ρ1 m <;> rfl
def inn (N M w : Nat) (q : NP) : Bool := decide (q.1 < N) && (decide (q.2 < M) && bnd w q)
def lastD (r : List NP) : NP := r.getLastD (0, 0)
def nxts (p : NP) : List NP := [(p.1 + 1, p.2), (p.1, p.2 + 1), (p.1 + 1, p.2 + 1)]
def ext (N M w : Nat) (r : List NP) : List (List NP) := ((nxts (lastD r)).filter fun q => inn N M w q).map fun q => r ++ [q]
def fnd (N M : Nat) (r : List NP) : List (List NP) := if lastD r = (N - 1, M - 1) then [r] else []
def cpsL (N M w : Nat) : Nat → List (List NP) → List (List NP)
  | 0, _ => []
  | t + 1, rs => rs.flatMap (fnd N M) ++ cpsL N M w t (rs.flatMap (ext N M w))
def cps (N M w : Nat) : List (List NP) := cpsL N M w (N + M) [[(0, 0)]]
theorem lastD_snoc {r : List NP} {p : NP} : lastD (r ++ [p]) = p := by simp [lastD]
theorem app_end {M0 : Mem} {ρ : Pn.Env} {d : Den} {i : Nat} {acc : List PV} {p : PV} (h1 : ρ[i]? = some (some (.ref M0.length))) (h2 : d φ ρ (M0 ++ [.lst acc]) = .ok (.pv p) (M0 ++ [.lst acc])) (hl : acc.length < 16777216) :
    cApp (cVar i) (aCons d aNil) φ ρ (M0 ++ [.lst acc]) = .ok (.pv .non) (M0 ++ [.lst (acc ++ [p])]) := by
  have hg : (M0 ++ [Cell.lst acc])[M0.length]? = some (.lst acc) := by simp
  have hs : (M0 ++ [Cell.lst acc]).set M0.length (.lst (acc ++ [p])) = M0 ++ [.lst (acc ++ [p])] := by simp
  have hlit : (litems (M0 ++ [Cell.lst acc]) (.ref M0.length)).isSome = true := by unfold litems; simp
  unfold cApp
  have e1 : cVar i φ ρ (M0 ++ [.lst acc]) = .ok (.ref M0.length) (M0 ++ [.lst acc]) := by rw [e_var, h1]; rfl
  have e2 : aCons d aNil φ ρ (M0 ++ [.lst acc]) = .ok [.pv p] (M0 ++ [.lst acc]) := by rw [e_cons, h2]; rfl
  rw [e1]
  simp only [Res.bind_ok]
  rw [if_pos hlit, e2]
  simp only [Res.bind_ok]
  rw [hg]
  dsimp only
  rw [if_pos hl, hs]
noncomputable abbrev cpOwn : SDen := (sIf (tAnd (tTru (cCmp .lt (cIdx (cVar 8) (cC (.int 0))) (cVar 0))) (tAnd (tTru (cCmp .lt (cIdx (cVar 8) (cC (.int 1))) (cVar 1))) (tTru (cCmp .le (cB bAbs (aCons (cBin .sub (cIdx (cVar 8) (cC (.int 0))) (cIdx (cVar 8) (cC (.int 1)))) (aNil))) (cVar 2))))) (sExp (cApp (cVar 6) (aCons (cBin .add (cVar 7) (cTup (aCons (cVar 8) (aNil)))) (aNil)))) (sPass))
section
variable {N M w : Nat} {M0 : Mem} {v2 v3 v4 v8 v9 : Option Val}
theorem cp_own {r : List NP} {q : NP} {lg : List (List NP)} (hr : r.length ≤ 1000) (hl : lg.length < 16777216) :
    cpOwn φ [some (.pv (.int N)), some (.pv (.int M)), some (.pv (.int w)), v2, v3, v4, some (.ref M0.length), some (.pv (rowP r)), some (.pv (np q)), v8, v9] (M0 ++ [.lst (lg.map rowP)]) =
      .next [some (.pv (.int N)), some (.pv (.int M)), some (.pv (.int w)), v2, v3, v4, some (.ref M0.length), some (.pv (rowP r)), some (.pv (np q)), v8, v9] (M0 ++ [.lst ((lg ++ if (inn N M w q) = true then [r ++ [q]] else []).map rowP)]) := by
  have ha : ∀ m, bin .add m (.pv (rowP r)) (.pv (.tup [np q])) = some (.pv (rowP (r ++ [q]))) := fun m => by
    unfold rowP
    rw [v_addT (by simp; omega), List.map_append]; rfl
  have c1 : decide ((q.1 : Int) < (N : Int)) = decide (q.1 < N) := by rw [Bool.eq_iff_iff]; simp
  have c2 : decide ((q.2 : Int) < (M : Int)) = decide (q.2 < M) := by rw [Bool.eq_iff_iff]; simp
  have hap := app_end (φ := φ) (M0 := M0) (ρ := [some (.pv (.int N)), some (.pv (.int M)), some (.pv (.int w)), v2, v3, v4, some (.ref M0.length), some (.pv (rowP r)), some (.pv (np q)), v8, v9]) (d := cBin .add (cVar 7) (cTup (aCons (cVar 8) (aNil)))) (i := 6) (acc := lg.map rowP) (p := rowP (r ++ [q])) rfl (by simp [ha]) (by simpa using hl)
  have c3 : decide ((if (q.1 : Int) - (q.2 : Int) < 0 then -((q.1 : Int) - (q.2 : Int)) else (q.1 : Int) - (q.2 : Int)) ≤ (w : Int)) = bnd w q := by
    rw [Bool.eq_iff_iff, decide_eq_true_eq, show (bnd w q = true) = (bnd w (q.1, q.2) = true) from rfl, bnd_iff]
    split <;> omega
  unfold inn
  cases h1 : decide (q.1 < N) with
  | false => simp [np_0, c1, h1]
  | true =>
    cases h2 : decide (q.2 < M) with
    | false => simp [np_0, np_1, c1, c2, h1, h2]
    | true =>
      cases h3 : bnd w q with
      | false =>
        rw [h3] at c3
        simp [np_0, np_1, c1, c2, c3, h1, h2, h3]
      | true =>
        rw [h3] at c3
        simp only [e_sif, e_tand, e_tru, e_cmp, e_idx, e_var, e_con]
        simp [np_0, np_1, c1, c2, c3, h1, h2, h3]
        rw [hap]
        simp
theorem cp_owns {r : List NP} {g : Nat → NP → Option Val} : ∀ (qs : List NP) (lg : List (List NP)) (v7 : Option Val), r.length ≤ 1000 → lg.length + qs.length < 16777216 →
    ∃ v7', forL (.name 8) (cpOwn φ) [] (qs.map np) [some (.pv (.int N)), some (.pv (.int M)), some (.pv (.int w)), v2, v3, v4, some (.ref M0.length), some (.pv (rowP r)), v7, v8, v9] (M0 ++ [.lst (lg.map rowP)]) =
      .next [some (.pv (.int N)), some (.pv (.int M)), some (.pv (.int w)), v2, v3, v4, some (.ref M0.length), some (.pv (rowP r)), v7', v8, v9] (M0 ++ [.lst ((lg ++ (qs.filter fun q => inn N M w q).map fun q => r ++ [q]).map rowP)])
  | [], lg, v7, _, _ => ⟨v7, by simp⟩
  | q :: qs, lg, v7, hr, hl => by
    rw [List.length_cons] at hl
    have hlen : (lg ++ if (inn N M w q) = true then [r ++ [q]] else []).length + qs.length < 16777216 := by
      rw [List.length_append]
      split
      · simp; omega
      · simp; omega
    obtain ⟨v7', e⟩ := cp_owns (g := g) (r := r) qs (lg ++ if (inn N M w q) = true then [r ++ [q]] else []) (some (.pv (np q))) hr hlen
    refine ⟨v7', ?_⟩
    rw [List.map_cons, e_forL1, e_asgnN, e_forA]
    show forB _ _ _ _ (cpOwn φ [some (.pv (.int N)), some (.pv (.int M)), some (.pv (.int w)), v2, v3, v4, some (.ref M0.length), some (.pv (rowP r)), some (.pv (np q)), v8, v9] (M0 ++ [.lst (lg.map rowP)])) = _
    rw [cp_own hr (by omega), e_forBn, e, List.filter_cons]
    split
    · simp
    · simp
end
noncomputable abbrev cpRow : SDen := (sSeq (sTup [.name 9, .name 10] (cIdx (cVar 7) (cNeg (cC (.int 1))))) (sSeq (sSet 4 (cBin .add (cVar 4) (cIf (tTru (cCmp .eq (cTup (aCons (cVar 9) (aCons (cVar 10) (aNil)))) (cTup (aCons (cBin .sub (cVar 0) (cC (.int 1))) (aCons (cBin .sub (cVar 1) (cC (.int 1))) (aNil)))))) (cLst (aCons (cVar 7) (aNil))) (cLst (aNil))))) (sFor (.name 8) (iSeq (cTup (aCons (cTup (aCons (cBin .add (cVar 9) (cC (.int 1))) (aCons (cVar 10) (aNil)))) (aCons (cTup (aCons (cVar 9) (aCons (cBin .add (cVar 10) (cC (.int 1))) (aNil)))) (aCons (cTup (aCons (cBin .add (cVar 9) (cC (.int 1))) (aCons (cBin .add (cVar 10) (cC (.int 1))) (aNil)))) (aNil)))))) cpOwn)))
section
variable {N M w : Nat} {M0 : Mem} {v2 v4 : Option Val}
theorem cp_row {r : List NP} {fd lg : List (List NP)} {v7 v8 v9 : Option Val} (hN : 1 ≤ N) (hM : 1 ≤ M) (hr : r.length ≤ 1000) (hne : r ≠ []) (hl : lg.length < 16000000) (hf : fd.length < 16000000) :
    ∃ v7' v8' v9', cpRow φ [some (.pv (.int N)), some (.pv (.int M)), some (.pv (.int w)), v2, some (.pv (.lst (fd.map rowP))), v4, some (.ref M0.length), some (.pv (rowP r)), v7, v8, v9] (M0 ++ [.lst (lg.map rowP)]) =
      .next [some (.pv (.int N)), some (.pv (.int M)), some (.pv (.int w)), v2, some (.pv (.lst ((fd ++ fnd N M r).map rowP))), v4, some (.ref M0.length), some (.pv (rowP r)), v7', v8', v9'] (M0 ++ [.lst ((lg ++ ext N M w r).map rowP)]) := by
  obtain ⟨i, q, rfl⟩ : ∃ i q, r = i ++ [q] := ⟨r.dropLast, r.getLast hne, (List.dropLast_concat_getLast _).symm⟩
  obtain ⟨a, b⟩ := q
  have xl : idx (M0 ++ [.lst (lg.map rowP)]) (.pv (rowP (i ++ [(a, b)]))) (.pv (.int (-1))) = some (.pv (np (a, b))) := idx_row_l
  obtain ⟨v7', e⟩ := cp_owns (φ := φ) (N := N) (M := M) (w := w) (M0 := M0) (v2 := v2) (v3 := some (.pv (.lst ((fd ++ fnd N M (i ++ [(a, b)])).map rowP)))) (v4 := v4) (v8 := some (.pv (.int a))) (v9 := some (.pv (.int b))) (r := i ++ [(a, b)]) (g := fun _ _ => none) (nxts (a, b)) lg v7 hr (by show lg.length + 3 < _; omega)
  refine ⟨v7', some (.pv (.int a)), some (.pv (.int b)), ?_⟩
  have e1 : ((N : Int) - 1) = ((N - 1 : Nat) : Int) := by omega
  have e2 : ((M : Int) - 1) = ((M - 1 : Nat) : Int) := by omega
  have en : PV.tup [.int ((N - 1 : Nat) : Int), .int ((M - 1 : Nat) : Int)] = np (N - 1, M - 1) := rfl
  have en2 : PV.tup [.int (a : Int), .int (b : Int)] = np (a, b) := rfl
  have hq := eq_np2 (m := M0 ++ [.lst (lg.map rowP)]) (p := (a, b)) (q := (N - 1, M - 1))
  have s1 : (sTup [.name 9, .name 10] (cIdx (cVar 7) (cNeg (cC (.int 1))))) φ [some (.pv (.int N)), some (.pv (.int M)), some (.pv (.int w)), v2, some (.pv (.lst (fd.map rowP))), v4, some (.ref M0.length), some (.pv (rowP (i ++ [(a, b)]))), v7, v8, v9] (M0 ++ [.lst (lg.map rowP)]) = .next [some (.pv (.int N)), some (.pv (.int M)), some (.pv (.int w)), v2, some (.pv (.lst (fd.map rowP))), v4, some (.ref M0.length), some (.pv (rowP (i ++ [(a, b)]))), v7, some (.pv (.int a)), some (.pv (.int b))] (M0 ++ [.lst (lg.map rowP)]) := by
    simp [xl, np]
  have ha : ∀ (x : List (List NP)) m, x.length ≤ 1 → bin .add m (.pv (.lst (fd.map rowP))) (.pv (.lst (x.map rowP))) = some (.pv (.lst ((fd ++ x).map rowP))) := fun x m hx => by
    rw [v_addL (by simp; omega), List.map_append]
  have s2 : (sSet 4 (cBin .add (cVar 4) (cIf (tTru (cCmp .eq (cTup (aCons (cVar 9) (aCons (cVar 10) (aNil)))) (cTup (aCons (cBin .sub (cVar 0) (cC (.int 1))) (aCons (cBin .sub (cVar 1) (cC (.int 1))) (aNil)))))) (cLst (aCons (cVar 7) (aNil))) (cLst (aNil))))) φ [some (.pv (.int N)), some (.pv (.int M)), some (.pv (.int w)), v2, some (.pv (.lst (fd.map rowP))), v4, some (.ref M0.length), some (.pv (rowP (i ++ [(a, b)]))), v7, some (.pv (.int a)), some (.pv (.int b))] (M0 ++ [.lst (lg.map rowP)]) = .next [some (.pv (.int N)), some (.pv (.int M)), some (.pv (.int w)), v2, some (.pv (.lst ((fd ++ fnd N M (i ++ [(a, b)])).map rowP))), v4, some (.ref M0.length), some (.pv (rowP (i ++ [(a, b)]))), v7, some (.pv (.int a)), some (.pv (.int b))] (M0 ++ [.lst (lg.map rowP)]) := by
    by_cases hd : (a, b) = (N - 1, M - 1)
    · have ef : fnd N M (i ++ [(a, b)]) = [i ++ [(a, b)]] := by unfold fnd; rw [lastD_snoc, if_pos hd]
      have h1 := ha [i ++ [(a, b)]] (M0 ++ [.lst (lg.map rowP)]) (by simp)
      rw [decide_eq_true hd] at hq
      rw [ef]
      have h1' : bin .add (M0 ++ [.lst (lg.map rowP)]) (.pv (.lst (fd.map rowP))) (.pv (.lst [rowP (i ++ [(a, b)])])) = _ := h1
      generalize PV.lst ((fd ++ [i ++ [(a, b)]]).map rowP) = X at *
      simp [e1, e2, en, en2, hq, h1']
    · have ef : fnd N M (i ++ [(a, b)]) = [] := by unfold fnd; rw [lastD_snoc, if_neg hd]
      have h1 := ha [] (M0 ++ [.lst (lg.map rowP)]) (by simp)
      rw [decide_eq_false hd] at hq
      rw [ef]
      have h1' : bin .add (M0 ++ [.lst (lg.map rowP)]) (.pv (.lst (fd.map rowP))) (.pv (.lst [])) = _ := h1
      generalize PV.lst ((fd ++ []).map rowP) = X at *
      simp [e1, e2, en, en2, hq, h1']
  unfold cpRow
  rw [e_sseq, s1, e_seq2n, e_sseq, s2, e_seq2n]
  have e3 : ((a : Int) + 1) = ((a + 1 : Nat) : Int) := by omega
  have e4 : ((b : Int) + 1) = ((b + 1 : Nat) : Int) := by omega
  have it : ∀ m ρ3, (iSeq (cTup (aCons (cTup (aCons (cBin .add (cVar 9) (cC (.int 1))) (aCons (cVar 10) (aNil)))) (aCons (cTup (aCons (cVar 9) (aCons (cBin .add (cVar 10) (cC (.int 1))) (aNil)))) (aCons (cTup (aCons (cBin .add (cVar 9) (cC (.int 1))) (aCons (cBin .add (cVar 10) (cC (.int 1))) (aNil)))) (aNil)))))) φ [some (.pv (.int N)), some (.pv (.int M)), some (.pv (.int w)), v2, ρ3, v4, some (.ref M0.length), some (.pv (rowP (i ++ [(a, b)]))), v7, some (.pv (.int a)), some (.pv (.int b))] m = .ok ((nxts (a, b)).map np, []) m := fun m ρ3 => by
    simp [nxts, np]
  rw [e_for, it, e_for1]
  show forL _ _ [] ((nxts (a, b)).map np) _ _ = _
  rw [e]
  have ee : ext N M w (i ++ [(a, b)]) = ((nxts (a, b)).filter fun q => inn N M w q).map fun q => i ++ [(a, b)] ++ [q] := by unfold ext; rw [lastD_snoc]
  rw [ee]
theorem cp_rows {g : Gd} (hN : 1 ≤ N) (hM : 1 ≤ M) (hg : ∀ lg, gOk g (M0 ++ [.lst lg])) : ∀ (rs fd lg : List (List NP)) (v6 v7 v8 v9 : Option Val), (∀ r ∈ rs, r.length ≤ 1000 ∧ r ≠ []) → lg.length + 3 * rs.length < 1000000 → fd.length + rs.length < 1000000 →
    ∃ v6' v7' v8' v9', forL (.name 7) (cpRow φ) g (rs.map rowP) [some (.pv (.int N)), some (.pv (.int M)), some (.pv (.int w)), v2, some (.pv (.lst (fd.map rowP))), v4, some (.ref M0.length), v6, v7, v8, v9] (M0 ++ [.lst (lg.map rowP)]) =
      .next [some (.pv (.int N)), some (.pv (.int M)), some (.pv (.int w)), v2, some (.pv (.lst ((fd ++ rs.flatMap (fnd N M)).map rowP))), v4, some (.ref M0.length), v6', v7', v8', v9'] (M0 ++ [.lst ((lg ++ rs.flatMap (ext N M w)).map rowP)])
  | [], fd, lg, v6, v7, v8, v9, _, _, _ => ⟨v6, v7, v8, v9, by rw [List.map_nil, forLg0 (hg _)]; simp⟩
  | r :: rs, fd, lg, v6, v7, v8, v9, hr, h1, h2 => by
    rw [List.length_cons] at h1 h2
    obtain ⟨r1, r2⟩ := hr r List.mem_cons_self
    obtain ⟨w7, w8, w9, e1⟩ := cp_row (φ := φ) (N := N) (M := M) (w := w) (M0 := M0) (v2 := v2) (v4 := v4) (r := r) (fd := fd) (lg := lg) (v7 := v7) (v8 := v8) (v9 := v9) hN hM r1 r2 (by omega) (by omega)
    have x1 : (ext N M w r).length ≤ 3 := by
      unfold ext
      rw [List.length_map]
      exact List.length_filter_le _ _
    have x2 : (fnd N M r).length ≤ 1 := by unfold fnd; split <;> simp
    obtain ⟨v6', v7', v8', v9', e⟩ := cp_rows hN hM hg rs (fd ++ fnd N M r) (lg ++ ext N M w r) (some (.pv (rowP r))) w7 w8 w9 (fun x hx => hr x (List.mem_cons_of_mem _ hx)) (by simp; omega) (by simp; omega)
    refine ⟨v6', v7', v8', v9', ?_⟩
    rw [List.map_cons, forLg1 (hg _), e_asgnN, e_forA]
    show forB _ _ _ _ (cpRow φ [some (.pv (.int N)), some (.pv (.int M)), some (.pv (.int w)), v2, some (.pv (.lst (fd.map rowP))), v4, some (.ref M0.length), some (.pv (rowP r)), v7, v8, v9] (M0 ++ [.lst (lg.map rowP)])) = _
    rw [e1, e_forBn, e]
    simp
end
noncomputable abbrev cpTurn : SDen := (sSeq (sSet 6 (cNew (aNil))) (sSeq (sFor (.name 7) (iSeq (cVar 3)) cpRow) (sSet 3 (cVar 6))))
theorem cp_turns {N M w : Nat} (hN : 1 ≤ N) (hM : 1 ≤ M) : ∀ (xs : List PV) (rs fd : List (List NP)) (M0 : Mem) (rv : Val) (v4 v5 v6 v7 v8 v9 : Option Val), m.length ≤ M0.length → M0.take m.length = m →
    (rv = .pv (.lst (rs.map rowP)) ∨ ∃ k, rv = .ref k ∧ M0[k]? = some (.lst (rs.map rowP))) → (∀ r ∈ rs, r.length + xs.length ≤ 1000 ∧ r ≠ []) → rs.length * 3 ^ xs.length ≤ 100000 → fd.length + 100000 * xs.length < 900000 →
    ∃ M1 rv' v4' v5' v6' v7' v8' v9', forL (.name 5) (cpTurn φ) [] xs [some (.pv (.int N)), some (.pv (.int M)), some (.pv (.int w)), some rv, some (.pv (.lst (fd.map rowP))), v4, v5, v6, v7, v8, v9] M0 =
      .next [some (.pv (.int N)), some (.pv (.int M)), some (.pv (.int w)), rv', some (.pv (.lst ((fd ++ cpsL N M w xs.length rs).map rowP))), v4', v5', v6', v7', v8', v9'] M1 ∧ M1.take m.length = m
  | [], rs, fd, M0, rv, v4, v5, v6, v7, v8, v9, h1, h2, h3, h4, h5, h6 => ⟨M0, some rv, v4, v5, v6, v7, v8, v9, by simp [cpsL], h2⟩
  | x :: xs, rs, fd, M0, rv, v4, v5, v6, v7, v8, v9, h1, h2, h3, h4, h5, h6 => by
    rw [List.length_cons] at h4 h5 h6
    have hpos : 1 ≤ 3 ^ xs.length := Nat.pos_of_ne_zero (by simp)
    have hrs : rs.length * 3 ≤ 100000 := by
      have : rs.length * 3 * 1 ≤ rs.length * 3 * 3 ^ xs.length := Nat.mul_le_mul_left _ hpos
      have e : rs.length * 3 * 3 ^ xs.length = rs.length * 3 ^ (xs.length + 1) := by rw [Nat.pow_succ, Nat.mul_assoc, Nat.mul_comm 3]
      omega
    have hext : (rs.flatMap (ext N M w)).length ≤ rs.length * 3 := by
      clear h4 h5 h3 hrs
      induction rs with
      | nil => simp
      | cons r rs ih =>
        have x1 : (ext N M w r).length ≤ 3 := by
          unfold ext
          rw [List.length_map]
          exact List.length_filter_le _ _
        simp only [List.flatMap_cons, List.length_append, List.length_cons]
        omega
    have hfnd : (rs.flatMap (fnd N M)).length ≤ rs.length := by
      clear h4 h5 h3 hrs hext
      induction rs with
      | nil => simp
      | cons r rs ih =>
        have x2 : (fnd N M r).length ≤ 1 := by unfold fnd; split <;> simp
        simp only [List.flatMap_cons, List.length_append, List.length_cons]
        omega
    obtain ⟨g, hi, hg⟩ : ∃ g, (∀ lg, iOf (M0 ++ [.lst lg]) rv = some (rs.map rowP, g)) ∧ ∀ lg, gOk g (M0 ++ [.lst lg]) := by
      rcases h3 with rfl | ⟨k, rfl, hk⟩
      · exact ⟨[], fun _ => rfl, fun lg => by simp⟩
      · have hkk : ∀ lg, (M0 ++ [Cell.lst lg])[k]? = some (.lst (rs.map rowP)) := fun lg => by
          rw [List.getElem?_append_left (List.getElem?_eq_some_iff.mp hk).1]; exact hk
        refine ⟨[(k, .lst (rs.map rowP))], fun lg => ?_, fun lg p hp => ?_⟩
        · show (match (M0 ++ [Cell.lst lg])[k]? with | some (.lst xs) => some (xs, [(k, Cell.lst xs)]) | _ => none) = _
          rw [hkk]
        · simp at hp
          subst hp
          exact hkk lg
    obtain ⟨w6, w7, w8, w9, e1⟩ := cp_rows (φ := φ) (N := N) (M := M) (w := w) (M0 := M0) (v2 := some rv) (v4 := some (.pv x)) (g := g) hN hM hg rs fd [] v6 v7 v8 v9 (fun r hr => by have := h4 r hr; exact ⟨by omega, this.2⟩) (by simp; omega) (by omega)
    rw [List.nil_append, List.map_nil] at e1
    have ht2 : (M0 ++ [Cell.lst ((rs.flatMap (ext N M w)).map rowP)]).take m.length = m := by
      rw [List.take_append_of_le_length h1]; exact h2
    obtain ⟨M1, rv', v4', v5', v6', v7', v8', v9', e, ht⟩ := cp_turns hN hM xs (rs.flatMap (ext N M w)) (fd ++ rs.flatMap (fnd N M)) (M0 ++ [Cell.lst ((rs.flatMap (ext N M w)).map rowP)]) (.ref M0.length) (some (.pv x)) (some (.ref M0.length)) w6 w7 w8 w9 (by simp; omega) ht2 (.inr ⟨M0.length, rfl, by simp⟩) (fun r hr => by
      obtain ⟨r0, hr0, hr1⟩ := List.mem_flatMap.mp hr
      obtain ⟨q, hq, rfl⟩ := List.mem_map.mp hr1
      have := h4 r0 hr0
      exact ⟨by simp; omega, by simp⟩) (by
        have : (rs.flatMap (ext N M w)).length * 3 ^ xs.length ≤ rs.length * 3 * 3 ^ xs.length := Nat.mul_le_mul_right _ hext
        have e : rs.length * 3 * 3 ^ xs.length = rs.length * 3 ^ (xs.length + 1) := by rw [Nat.pow_succ, Nat.mul_assoc, Nat.mul_comm 3]
        omega) (by rw [List.length_append]; omega)
    refine ⟨M1, rv', v4', v5', v6', v7', v8', v9', ?_, ht⟩
    have body : cpTurn φ [some (.pv (.int N)), some (.pv (.int M)), some (.pv (.int w)), some rv, some (.pv (.lst (fd.map rowP))), some (.pv x), v5, v6, v7, v8, v9] M0 =
        .next [some (.pv (.int N)), some (.pv (.int M)), some (.pv (.int w)), some (.ref M0.length), some (.pv (.lst ((fd ++ rs.flatMap (fnd N M)).map rowP))), some (.pv x), some (.ref M0.length), w6, w7, w8, w9] (M0 ++ [.lst ((rs.flatMap (ext N M w)).map rowP)]) := by
      have en : new1 (.ok [] M0) = .ok (.ref M0.length) (M0 ++ [.lst []]) := rfl
      simp only [e_sseq, e_set, e_new, e_nil, en, e_set1, List.set_cons_succ, List.set_cons_zero, e_seq2n, e_for, e_seq, e_var, List.getElem?_cons_succ, List.getElem?_cons_zero, e_vr, e_seq1, hi, Res.of_some, e_for1]
      rw [e1]
      simp only [e_seq2n, e_set, e_var, List.getElem?_cons_succ, List.getElem?_cons_zero, e_vr, e_set1, List.set_cons_succ, List.set_cons_zero]
    rw [e_forL1, e_asgnN, e_forA]
    show forB _ _ _ _ (cpTurn φ [some (.pv (.int N)), some (.pv (.int M)), some (.pv (.int w)), some rv, some (.pv (.lst (fd.map rowP))), some (.pv x), v5, v6, v7, v8, v9] M0) = _
    rw [body, e_forBn, e, List.length_cons, cpsL, List.append_assoc]
theorem p_couplings {N M w : Nat} (hN : 1 ≤ N) (hM : 1 ≤ M) (hs : N + M ≤ 8) : phi T (n + 1) "_law_couplings" [.pv (.int N), .pv (.int M), .pv (.int w)] m = .ok (.pv (.lst ((cps N M w).map rowP))) m := by
  rw [phi_eq t__law_couplings rfl]
  generalize phi T n = φ
  have er := rng1_ok' (m := m) (j := ((N : Int) + (M : Int))) (by omega) (by omega)
  rw [show ((N : Int) + (M : Int)).toNat = N + M by omega] at er
  have hlen : (rngP 0 (N + M)).length = N + M := rngP_len _ _
  obtain ⟨M1, rv', v4, v5, v6, v7, v8, v9, e, ht⟩ := cp_turns (φ := φ) (m := m) (N := N) (M := M) (w := w) hN hM (rngP 0 (N + M)) [[(0, 0)]] [] m (.pv (.lst ([[((0 : Nat), (0 : Nat))]].map rowP))) none none none none none none (Nat.le_refl _) List.take_length (.inl rfl) (fun r hr => by
    simp at hr; subst hr
    refine ⟨?_, by simp⟩
    rw [hlen]
    simp only [List.length_cons, List.length_nil]; omega) (by
    rw [hlen]
    have : 3 ^ (N + M) ≤ 3 ^ 8 := Nat.pow_le_pow_right (by omega) hs
    simp
    have e10 : (3 : Nat) ^ 8 = 6561 := by decide
    omega) (by rw [hlen]; simp only [List.length_nil]; omega)
  rw [hlen] at e
  have er0 : PV.lst [PV.tup [PV.tup [PV.int 0, PV.int 0]]] = .lst ([[((0 : Nat), (0 : Nat))]].map rowP) := rfl
  rw [List.nil_append, List.map_nil] at e
  generalize PV.lst ([[((0 : Nat), (0 : Nat))]].map rowP) = R0 at *
  simp [m__law_couplings, er0]
  rw [er, Res.of_some, e_for1]
  show fin _ (seq2 _ _ (forL _ _ [] (rngP 0 (N + M)) _ _)) = _
  rw [e]
  simp [ht, cps]
end L_k36

set_option Elab.async false
set_option linter.all false
set_option maxRecDepth 100000
set_option autoImplicit false
set_option maxHeartbeats 1000000
namespace L_k36
open PySem Pn
variable {n : Nat} {m : Mem} {φ : Phi}
/-! paths -/
def Pf : Nat → Nat → Nat → List (List NP)
  | 0, _, _ => []
  | k + 1, a, b => if (a, b) = ((0 : Nat), (0 : Nat)) then [[(0, 0)]] else (ahead a b).flatMap fun q => (Pf k q.1 q.2).map fun p => (a, b) :: p
def szs : List NP := [(1, 1), (1, 2), (1, 3), (1, 4), (2, 1), (2, 2), (2, 3), (2, 4), (3, 1), (3, 2), (3, 3), (3, 4), (4, 1), (4, 2), (4, 3), (4, 4)]
theorem szs_mem {N M : Nat} (h1 : 1 ≤ N) (h2 : N ≤ 4) (h3 : 1 ≤ M) (h4 : M ≤ 4) : (N, M) ∈ szs := by
  have : N = 1 ∨ N = 2 ∨ N = 3 ∨ N = 4 := by omega
  have : M = 1 ∨ M = 2 ∨ M = 3 ∨ M = 4 := by omega
  rcases ‹N = 1 ∨ _› with rfl | rfl | rfl | rfl <;> rcases ‹M = 1 ∨ _› with rfl | rfl | rfl | rfl <;> decide
theorem Pf_ne {k a b : Nat} {p : List NP} (h : p ∈ Pf k a b) : ∃ t, p = (a, b) :: t := by
  cases k with
  | zero => cases h
  | succ k =>
    unfold Pf at h
    split at h
    · rename_i e
      simp at h
      rw [h, e]
      exact ⟨[], rfl⟩
    · obtain ⟨q, _, hq⟩ := List.mem_flatMap.mp h
      obtain ⟨t, _, rfl⟩ := List.mem_map.mp hq
      exact ⟨t, rfl⟩
theorem Pf_chain : ∀ {k a b : Nat} {t : List NP}, a + b < k → ((a, b) :: t ∈ Pf k a b ↔ chain ((a, b) :: t))
  | 0, a, b, t, h => absurd h (by omega)
  | k + 1, a, b, t, h => by
    unfold Pf
    by_cases e : (a, b) = ((0 : Nat), (0 : Nat))
    · rw [if_pos e]
      constructor
      · intro hm
        simp at hm
        rw [hm.2]
        exact e
      · intro hc
        cases t with
        | nil => simp; simpa using e
        | cons q r =>
          obtain ⟨h1, _⟩ := hc
          have e1 : a = 0 := congrArg Prod.fst e
          have e2 : b = 0 := congrArg Prod.snd e
          subst e1 e2
          simp [ahead] at h1
    · rw [if_neg e]
      constructor
      · intro hm
        obtain ⟨q, hq, hm⟩ := List.mem_flatMap.mp hm
        obtain ⟨p, hp, he⟩ := List.mem_map.mp hm
        have he : p = t := by simpa using he
        subst he
        obtain ⟨t', rfl⟩ := Pf_ne hp
        have hl := ahead_lt hq
        exact ⟨hq, (Pf_chain (by omega)).mp hp⟩
      · intro hc
        cases t with
        | nil => exact absurd hc e
        | cons q r =>
          obtain ⟨h1, h2⟩ := hc
          have hl := ahead_lt h1
          refine List.mem_flatMap.mpr ⟨q, h1, List.mem_map.mpr ⟨q :: r, ?_, rfl⟩⟩
          exact (Pf_chain (a := q.1) (b := q.2) (by simp only at hl; omega)).mpr h2
theorem Pf_in : ∀ {k a b : Nat} {p : List NP}, p ∈ Pf k a b → ∀ q ∈ p, q.1 ≤ a ∧ q.2 ≤ b
  | 0, a, b, p, h => nomatch h
  | k + 1, a, b, p, h => by
    intro q hq
    unfold Pf at h
    split at h
    · rename_i e
      simp at h
      subst h
      simp at hq
      subst hq
      exact ⟨by omega, by omega⟩
    · obtain ⟨q', hq', hm⟩ := List.mem_flatMap.mp h
      obtain ⟨t, ht, rfl⟩ := List.mem_map.mp hm
      have hl := ahead_lt hq'
      rcases List.mem_cons.mp hq with rfl | hq
      · exact ⟨Nat.le_refl _, Nat.le_refl _⟩
      · have := Pf_in ht q hq
        omega
def lags : List Nat := [0, 1, 2, 127]
theorem perm_all : szs.all (fun s => lags.all fun w => ((cps s.1 s.2 w).map List.reverse).isPerm ((Pf 9 (s.1 - 1) (s.2 - 1)).filter fun p => p.all (bnd w))) = true := by decide +kernel
theorem cps_mem {N M w : Nat} (h1 : 1 ≤ N) (h2 : N ≤ 4) (h3 : 1 ≤ M) (h4 : M ≤ 4) (hw : w ∈ lags) {r : List NP} : r ∈ cps N M w ↔ r.reverse ∈ Pf 9 (N - 1) (M - 1) ∧ ∀ p ∈ r, bnd w p = true := by
  have hp := List.isPerm_iff.mp (List.all_eq_true.mp (List.all_eq_true.mp perm_all (N, M) (szs_mem h1 h2 h3 h4)) w hw)
  have e : r ∈ cps N M w ↔ r.reverse ∈ (cps N M w).map List.reverse := ⟨fun h => List.mem_map.mpr ⟨r, h, rfl⟩, fun h => by
    obtain ⟨x, hx, e⟩ := List.mem_map.mp h
    rw [← List.reverse_inj.mp e]; exact hx⟩
  rw [e, hp.mem_iff, List.mem_filter]
  simp [List.all_eq_true]
/-- a coupling of the law is a chain, turned round -/
theorem cps_chain {N M w : Nat} (h1 : 1 ≤ N) (h2 : N ≤ 4) (h3 : 1 ≤ M) (h4 : M ≤ 4) (hw : w ∈ lags) {r : List NP} (h : r ∈ cps N M w) : ∃ t, r.reverse = (N - 1, M - 1) :: t ∧ chain ((N - 1, M - 1) :: t) ∧ ∀ p ∈ r, bnd w p = true := by
  obtain ⟨e1, e2⟩ := (cps_mem h1 h2 h3 h4 hw).mp h
  obtain ⟨t, ht⟩ := Pf_ne e1
  rw [ht] at e1
  exact ⟨t, ht, (Pf_chain (by omega)).mp e1, e2⟩
theorem chain_cps {N M w : Nat} (h1 : 1 ≤ N) (h2 : N ≤ 4) (h3 : 1 ≤ M) (h4 : M ≤ 4) (hw : w ∈ lags) {t : List NP} (h : chain ((N - 1, M - 1) :: t)) (hb : ∀ q ∈ (N - 1, M - 1) :: t, bnd w q = true) : ((N - 1, M - 1) :: t).reverse ∈ cps N M w := by
  rw [cps_mem h1 h2 h3 h4 hw, List.reverse_reverse]
  exact ⟨(Pf_chain (by omega)).mpr h, fun p hp => hb p (List.mem_reverse.mp hp)⟩
theorem isC_cps {d : Nat → Nat → Int} {N M w : Nat} {lo : Int} (h1 : 1 ≤ N) (h2 : N ≤ 4) (h3 : 1 ≤ M) (h4 : M ≤ 4) (hw : w ∈ lags) {ps : List NP} (hne : ps ≠ []) (hd : ∀ p ∈ ps, d p.1 p.2 ≤ lo) : (isC d (N - 1) (M - 1) lo ps && ps.all (bnd w)) = decide (ps ∈ cps N M w) := by
  have hda : (ps.all fun p => decide (d p.1 p.2 ≤ lo)) = true := by simpa using hd
  have hne' : ps.reverse ≠ [] := by simpa using hne
  unfold isC
  rw [zip_fw, hda, Bool.eq_iff_iff]
  simp only [Bool.and_eq_true, decide_eq_true_eq, List.all_eq_true, and_true]
  constructor
  · rintro ⟨⟨a1, a2, a3⟩, a4⟩
    have hl : ps.reverse.head? = some (N - 1, M - 1) := by simpa using a2
    cases hx : ps.reverse with
    | nil => exact absurd hx hne'
    | cons p t =>
      rw [hx] at hl
      have : p = (N - 1, M - 1) := by simpa using hl
      subst this
      have hc : chain ((N - 1, M - 1) :: t) := (chain_fw _ (by simp)).mpr ⟨by rw [← hx, List.reverse_reverse]; exact a3, by rw [← hx, List.getLast?_reverse]; exact a1⟩
      have := chain_cps h1 h2 h3 h4 hw hc fun q hq => a4 q (by rw [← hx] at hq; exact List.mem_reverse.mp hq)
      rw [← hx, List.reverse_reverse] at this
      exact this
  · intro h
    obtain ⟨t, ht, hc, hb⟩ := cps_chain h1 h2 h3 h4 hw h
    obtain ⟨b1, b2⟩ := (chain_fw _ (by simp)).mp hc
    rw [← ht, List.reverse_reverse] at b1
    rw [← ht, List.getLast?_reverse] at b2
    have hh : ps.getLast? = some (N - 1, M - 1) := by rw [← List.head?_reverse, ht]; rfl
    exact ⟨⟨b2, hh, b1⟩, hb⟩
/-! the least sum is that of all couplings -/
def oI : Option Int → PV
  | none => .non
  | some i => .int i
def sumO (g : Nat) (l o : List Pt) : Option Int := if bnd g (l.length - 1, o.length - 1) = true then some (S g (dd l o) (l.length - 1) (o.length - 1)) else none
theorem sumO_P {g : Nat} {l o : List Pt} : sumP g l o = oI (sumO g l o) := by
  unfold sumP sumO; split <;> rfl
def prices (w : Nat) (l o : List Pt) : List Int := (cps l.length o.length w).map (sumC (dd l o))
theorem lag_le {w : Nat} (h : w ∈ lags) : w ≤ 127 := by
  have : ∀ w ∈ lags, w ≤ 127 := by decide
  exact this w h
theorem prices_ok {w : Nat} {l o : List Pt} (hl : okS l) (ho : okS o) (l4 : l.length ≤ 4) (o4 : o.length ≤ 4) (hw : w ∈ lags) : (if (prices w l o).isEmpty then none else some (mn0 (prices w l o))) = sumO w l o := by
  have l1 := hl.1
  have o1 := ho.1
  unfold sumO
  by_cases hb : bnd w (l.length - 1, o.length - 1) = true
  · rw [if_pos hb]
    obtain ⟨t, c1, c2, c3⟩ := S_path hl ho (lag_le hw) hb
    have hm : S w (dd l o) (l.length - 1) (o.length - 1) ∈ prices w l o := List.mem_map.mpr ⟨_, chain_cps l1 l4 o1 o4 hw c1 c2, by rw [sumC_rev, c3]⟩
    have hne : prices w l o ≠ [] := by intro z; rw [z] at hm; cases hm
    rw [if_neg (by simpa using hne)]
    have e1 := mn0_le hm
    obtain ⟨r, hr, he⟩ := List.mem_map.mp (mn0_mem hne)
    obtain ⟨t', q1, q2, q3⟩ := cps_chain l1 l4 o1 o4 hw hr
    have e2 := S_le (g := w) (d := dd l o) q2 fun q hq => q3 q (by rw [← q1] at hq; exact List.mem_reverse.mp hq)
    rw [← q1, sumC_rev] at e2
    have he' : sumC (dd l o) r = mn0 (prices w l o) := he
    congr 1; omega
  · rw [if_neg hb]
    have : prices w l o = [] := by
      cases hp : cps l.length o.length w with
      | nil => unfold prices; rw [hp]; rfl
      | cons r rs =>
        exfalso
        have hr : r ∈ cps l.length o.length w := by rw [hp]; simp
        obtain ⟨t', q1, q2, q3⟩ := cps_chain l1 l4 o1 o4 hw hr
        exact hb (q3 _ (List.mem_reverse.mp (by rw [q1]; simp)))
    rw [this]; rfl
theorem cps_in {N M w : Nat} (h1 : 1 ≤ N) (h2 : N ≤ 4) (h3 : 1 ≤ M) (h4 : M ≤ 4) (hw : w ∈ lags) {r : List NP} (h : r ∈ cps N M w) : r ≠ [] ∧ r.length ≤ 7 ∧ ∀ p ∈ r, p.1 ≤ N - 1 ∧ p.2 ≤ M - 1 := by
  obtain ⟨t, q1, q2, q3⟩ := cps_chain h1 h2 h3 h4 hw h
  have hl := chain_len q2
  have hi := chain_in q2
  have : r.length = t.length + 1 := by rw [← List.length_reverse, q1]; rfl
  refine ⟨by (intro z; subst z; cases q1), by omega, fun p hp => hi p (by rw [← q1]; exact List.mem_reverse.mpr hp)⟩
theorem cps_cnt : szs.all (fun s => lags.all fun w => decide ((cps s.1 s.2 w).length ≤ 63)) = true := by decide +kernel
theorem cps_63 {N M w : Nat} (h1 : 1 ≤ N) (h2 : N ≤ 4) (h3 : 1 ≤ M) (h4 : M ≤ 4) (hw : w ∈ lags) : (cps N M w).length ≤ 63 := by
  have := List.all_eq_true.mp (List.all_eq_true.mp cps_cnt (N, M) (szs_mem h1 h2 h3 h4)) w hw
  simpa using this
/-! the same from the other side -/
theorem chain_swap2 {t : List NP} {p : NP} (h : chain (p :: t)) : chain ((p :: t).map Prod.swap) := chain_swap h
theorem bnd_swap {g : Nat} {p : NP} : bnd g p.swap = bnd g p := by
  unfold bnd; rw [Bool.and_comm]; rfl
theorem S_sw_le {g : Nat} {l o : List Pt} (hl : okS l) (ho : okS o) (hg : g ≤ 127) (hb : bnd g (l.length - 1, o.length - 1) = true) : S g (dd o l) (o.length - 1) (l.length - 1) ≤ S g (dd l o) (l.length - 1) (o.length - 1) := by
  obtain ⟨t, h1, h2, h3⟩ := S_path hl ho hg hb
  have e2 : chain ((o.length - 1, l.length - 1) :: List.map Prod.swap t) := chain_swap h1
  have e3 := S_le (g := g) (d := dd o l) e2 fun q hq => by
    have : q ∈ ((l.length - 1, o.length - 1) :: t).map Prod.swap := hq
    obtain ⟨p, hp, rfl⟩ := List.mem_map.mp this
    rw [bnd_swap]; exact h2 p hp
  have e4 : sumC (dd o l) (((l.length - 1, o.length - 1) :: t).map Prod.swap) = sumC (dd l o) ((l.length - 1, o.length - 1) :: t) := by
    unfold sumC
    rw [List.map_map]
    congr 1
    apply List.map_congr_left
    intro q hq
    exact far_symm _ _
  have e5 : sumC (dd o l) ((o.length - 1, l.length - 1) :: List.map Prod.swap t) = sumC (dd o l) (((l.length - 1, o.length - 1) :: t).map Prod.swap) := rfl
  omega
theorem sumO_sym {g : Nat} {l o : List Pt} (hl : okS l) (ho : okS o) (hg : g ≤ 127) : sumO g o l = sumO g l o := by
  have hb : bnd g (o.length - 1, l.length - 1) = bnd g (l.length - 1, o.length - 1) := bnd_swap (p := (l.length - 1, o.length - 1))
  unfold sumO
  by_cases h : bnd g (l.length - 1, o.length - 1) = true
  · rw [if_pos (hb.trans h), if_pos h]
    have e1 := S_sw_le hl ho hg h
    have e2 := S_sw_le ho hl hg (hb.trans h)
    congr 1; omega
  · rw [if_neg (by rw [hb]; exact h), if_neg h]
end L_k36

set_option Elab.async false
set_option linter.all false
set_option maxRecDepth 100000
set_option autoImplicit false
set_option maxHeartbeats 400000
namespace L_k36
open PySem Pn
variable {n : Nat} {m : Mem} {φ : Phi}
theorem p_lfar {p q : Pt} : phi T (n + 1) "_law_far" [.pv (pt p), .pv (pt q)] m = .ok (.pv (.int (farI p q))) m := by
  rw [phi_eq t__law_far rfl]
  generalize phi T n = φ
  have e : max (max (max (p.1 - q.1) (0 - (p.1 - q.1))) (p.2 - q.2)) (0 - (p.2 - q.2)) = farI p q := by
    unfold farI ab
    split <;> split <;> omega
  simp [m__law_far, pt, v_idxT atI0, v_idxT atI1]
  simpa using e
theorem p_price {l o : List Pt} {ps : List NP} (hz : ps.length ≤ 1000) (hp : ∀ p ∈ ps, p.1 < l.length ∧ p.2 < o.length) : phi T (n + 2) "_law_price" [.pv (st l), .pv (st o), .pv (rowP ps)] m = .ok (.pv (.int (sumC (dd l o) ps))) m := by
  rw [phi_eq t__law_price rfl]
  have hfar : ∀ p q m, phi T (n + 1) "_law_far" [.pv (pt p), .pv (pt q)] m = .ok (.pv (.int (farI p q))) m := fun p q m => p_lfar
  generalize phi T (n + 1) = φ at *
  have ei : iOf m (.pv (rowP ps)) = some (ps.map np, []) := rfl
  simp [m__law_price, ei]
  rw [lc1_ok (by simp; omega), lcL_mapf (h := fun p => PV.int (dd l o p.1 p.2)) fun p hp' => by
    obtain ⟨c1, c2⟩ := hp p hp'
    have i1 := idx_st (m := m) c1
    have i2 := idx_st (m := m) c2
    simp [Pn.wipe, np, i1, i2, hfar, dd]]
  have e : (ps.map fun p => PV.int (dd l o p.1 p.2)) = (ps.map fun p => dd l o p.1 p.2).map PV.int := by rw [List.map_map]; rfl
  simp only [e_lc2f, e_cons1, e_nil, e_cons2, e_blt1]
  rw [e, v_sum rfl]
  simp [sumC]
theorem p_sum_none {l o : List Pt} {w : Nat} {v : PV} (hl : okS l) (ho : okS o) (hw : w ≤ 127) (h : ∀ m, phi T (n + 6) "is_coupling" [.pv (st l), .pv (st o), .pv (.int 20000), .pv v] m = .ok (.pv (.bl false)) m) :
    phi T (n + 7) "sum_of" [.pv (st l), .pv (st o), .pv (.int w), .pv v] m = .ok (.pv .non) m := by
  have enb := p_need_both (n := n + 1) (m := m) hl ho (k := w) (by omega) (by omega)
  rw [phi_eq t_sum_of rfl]
  simp [m_sum_of, enb, h m]
theorem p_sum_g {l o : List Pt} {w : Nat} {ps : List NP} (hl : okS l) (ho : okS o) (l4 : l.length ≤ 4) (o4 : o.length ≤ 4) (hw : w ∈ lags) (hz : ps.length ≤ 1000) (hp : ∀ p ∈ ps, p.1 ≤ l.length - 1 ∧ p.2 ≤ o.length - 1) (hd : ∀ p ∈ ps, dd l o p.1 p.2 ≤ 20000) :
    phi T (n + 7) "sum_of" [.pv (st l), .pv (st o), .pv (.int w), .pv (rowP ps)] m = .ok (.pv (oI (if ps ∈ cps l.length o.length w then some (sumC (dd l o) ps) else none))) m := by
  have l1 := hl.1
  have o1 := ho.1
  by_cases hne : ps = []
  · subst hne
    rw [if_neg fun h => (cps_in l1 l4 o1 o4 hw h).1 rfl]
    exact p_sum_none hl ho (lag_le hw) fun m => p_is_coupling (n := n) hl ho (by omega) (by omega) (p_fits_odd (n := n + 2) (v := rowP []) hl ho dat3_row (by simp [rowP, lnP]) (.inr rfl))
  · have hc := isC_cps (lo := 20000) l1 l4 o1 o4 hw hne hd
    have eic : ∀ m, phi T (n + 6) "is_coupling" [.pv (st l), .pv (st o), .pv (.int 20000), .pv (rowP ps)] m = .ok (.pv (.bl (isC (dd l o) (l.length - 1) (o.length - 1) 20000 ps))) m := fun m => p_is_coupling (n := n) (m := m) (lo := 20000) hl ho (by omega) (by omega) (p_fits_c (n := n + 2) (m := m) (lo := 20000) hl ho hz hne hp)
    cases hC : isC (dd l o) (l.length - 1) (o.length - 1) 20000 ps with
    | false =>
      rw [hC] at hc eic
      have : ¬ ps ∈ cps l.length o.length w := of_decide_eq_false (by rw [← hc]; rfl)
      rw [if_neg this]
      exact p_sum_none hl ho (lag_le hw) eic
    | true =>
      rw [hC, Bool.true_and] at hc
      rw [hC] at eic
      by_cases hb : ps.all (bnd w) = true
      · rw [hb] at hc
        rw [if_pos (of_decide_eq_true hc.symm)]
        exact p_sum_of (n := n) hl ho (lag_le hw) hz hne hp hC fun p h => List.all_eq_true.mp hb p h
      · have hb' : ps.all (bnd w) = false := by simpa using hb
        rw [hb'] at hc
        rw [if_neg (of_decide_eq_false hc.symm)]
        have enb := p_need_both (n := n + 1) (m := m) hl ho (k := w) (by omega) (by have := lag_le hw; omega)
        have e0 := eic m
        rw [phi_eq t_sum_of rfl]
        generalize phi T (n + 6) = φ at *
        have ei : iOf m (.pv (rowP ps)) = some (ps.map np, []) := rfl
        simp [m_sum_of, enb, e0, ei]
        rw [lc1_ok (by simp; omega), lcL_mapf (h := fun p => PV.bl (!bnd w p)) fun p hp' => by
          have c3 : decide ((w : Int) < (if (p.1 : Int) - (p.2 : Int) < 0 then -((p.1 : Int) - (p.2 : Int)) else (p.1 : Int) - (p.2 : Int))) = !bnd w p := by
            rw [Bool.eq_iff_iff, decide_eq_true_eq, Bool.not_eq_true', ← Bool.not_eq_true, show (bnd w p = true) = (bnd w (p.1, p.2) = true) from rfl, bnd_iff]
            split <;> omega
          simp [Pn.wipe, np, c3]]
        have ea : bAny m [.pv (.lst (ps.map fun p => PV.bl (!bnd w p)))] = some (.pv (.bl true)) := by
          rw [v_any (l := ps.map fun p => !bnd w p) (by simp)]
          have : (ps.map fun p => !bnd w p).any id = true := by
            have h2 := List.all_eq_false.mp hb'
            obtain ⟨p, hp1, hp2⟩ := h2
            simp only [List.any_map, List.any_eq_true]
            exact ⟨p, hp1, by simpa using hp2⟩
          rw [this]
        simp only [e_lc2f, e_cons1, e_nil, e_cons2, e_blt1, ea, Res.of_some]
        simp [oI]
/-! rows of whole numbers -/
def mrow (M : Nat) (V : Nat → Nat → Int) (i : Nat) : PV := .tup ((List.range M).map fun j => .int (V i j))
def mat (N M : Nat) (V : Nat → Nat → Int) : PV := .tup ((List.range N).map (mrow M V))
theorem mat_i {N M : Nat} {V : Nat → Nat → Int} {i : Nat} (h : i < N) : idx m (.pv (mat N M V)) (.pv (.int i)) = some (.pv (mrow M V i)) := v_idxT (atI_nat (by rw [List.getElem?_map, List.getElem?_range h]; rfl))
theorem mrow_j {M : Nat} {V : Nat → Nat → Int} {i j : Nat} (h : j < M) : idx m (.pv (mrow M V i)) (.pv (.int j)) = some (.pv (.int (V i j))) := v_idxT (atI_nat (by rw [List.getElem?_map, List.getElem?_range h]; rfl))
theorem range_last {N : Nat} (h : 1 ≤ N) : List.range N = List.range (N - 1) ++ [N - 1] := by
  obtain ⟨k, rfl⟩ : ∃ k, N = k + 1 := ⟨N - 1, by omega⟩
  exact List.range_succ
theorem mat_l {N M : Nat} {V : Nat → Nat → Int} (h : 1 ≤ N) : idx m (.pv (mat N M V)) (.pv (.int (-1))) = some (.pv (mrow M V (N - 1))) := by
  unfold mat
  rw [range_last h, List.map_append]
  exact v_idxT atI_last
theorem mrow_l {M : Nat} {V : Nat → Nat → Int} {i : Nat} (h : 1 ≤ M) : idx m (.pv (mrow M V i)) (.pv (.int (-1))) = some (.pv (.int (V i (M - 1)))) := by
  unfold mrow
  rw [range_last h, List.map_append]
  exact v_idxT atI_last
def pot (w : Nat) (l o : List Pt) (i j : Nat) : Int := if bnd w (i, j) = true then S w (dd l o) i j else 100000000
theorem p_need_bound {b : Int} (h0 : 0 ≤ b) (h1 : b ≤ 100000000) : phi T (n + 2) "need_bound" [.pv (.int b)] m = .ok (.pv .non) m := by
  rw [phi_eq t_need_bound rfl]
  have e := p_is_whole n m (.int b) 0 100000000 (by simp)
  have : isW (.int b) 0 100000000 = true := by simp [isW, h0, h1]
  rw [this] at e
  simp [m_need_bound, e]
theorem p_need_all {l o : List Pt} {k b : Int} (hl : okS l) (ho : okS o) (h0 : 0 ≤ k) (h1 : k ≤ 127) (h2 : 0 ≤ b) (h3 : b ≤ 100000000) : phi T (n + 6) "need_all" [.pv (st l), .pv (st o), .pv (.int k), .pv (.int b)] m = .ok (.pv .non) m := by
  rw [phi_eq t_need_all rfl]
  have e1 := p_need_both (n := n) (m := m) hl ho h0 h1
  have e2 := p_need_bound (n := n + 3) (m := m) h2 h3
  simp [m_need_all, e1, e2]
theorem p_sum_paper {l o : List Pt} {w : Nat} {b : Int} (hl : okS l) (ho : okS o) (hw : w ≤ 127) (h2 : 0 ≤ b) (h3 : b ≤ 100000000) :
    phi T (n + 7) "sum_paper" [.pv (st l), .pv (st o), .pv (.int w), .pv (.int b)] m = .ok (.pv (if (sumO w l o).any (fun s => decide (s < b)) then .non else mat l.length o.length (pot w l o))) m := by
  have e1 := p_need_all (n := n) (m := m) hl ho (k := w) (by omega) (by omega) h2 h3
  have e2 := p_sum_in (n := n + 3) (m := m) hw hl.1 hl.2.1 ho.1 ho.2.1
  rw [sumO_P] at e2
  obtain ⟨kvs, e3, hF⟩ := p_sums_in (n := n + 4) (m := m) (g := w) hw hl.2.1 ho.2.1
  have l2 := hl.2.1
  have o2 := ho.2.1
  rw [phi_eq t_sum_paper rfl]
  generalize phi T (n + 6) = φ at *
  have hD := mem_D (m := m) (kvs := kvs)
  have htk : (m ++ [Cell.dt kvs]).take m.length = m := by simp
  have er1 := rng1_ok' (m := m ++ [.dt kvs]) (j := l.length) (by omega) (by omega)
  have er2 := rng1_ok' (m := m ++ [.dt kvs]) (j := o.length) (by omega) (by omega)
  rw [Int.toNat_natCast, rng0] at er1 er2
  -- one cell
  have cell : ∀ (ρ : Pn.Env) (i j : Nat), i < l.length → j < o.length → ρ[5]? = some (some (.ref m.length)) → ρ[6]? = some (some (.pv (.int i))) → ρ[7]? = some (some (.pv (.int j))) →
      cDGet2 (cVar 5) (cTup (aCons (cVar 6) (aCons (cVar 7) (aNil)))) (cC (.int 100000000)) φ ρ (m ++ [.dt kvs]) = .ok (.pv (.int (pot w l o i j))) (m ++ [.dt kvs]) := fun ρ i j hi hj g5 g6 g7 => by
    have q1 : cVar 5 φ ρ (m ++ [.dt kvs]) = .ok (.ref m.length) (m ++ [.dt kvs]) := by rw [e_var, g5]; rfl
    have q2 : cTup (aCons (cVar 6) (aCons (cVar 7) (aNil))) φ ρ (m ++ [.dt kvs]) = .ok (.pv (np (i, j))) (m ++ [.dt kvs]) := by simp [g6, g7, np]
    have hd : isDct (m ++ [Cell.dt kvs])[m.length]? = true := by rw [hD]; rfl
    have hg := dget_D' (p := (i, j)) hD
    rw [hF.last (p := (i, j)) hi hj] at hg
    unfold pot
    by_cases hb : bnd w (i, j) = true
    · rw [if_pos hb] at hg ⊢
      exact e_get2s q1 hd q2 (by rfl) hg
    · rw [if_neg hb] at hg ⊢
      exact e_get2n q1 hd q2 (by rfl) hg
  generalize hMd : m ++ [Cell.dt kvs] = Md at *
  have rowc : ∀ i, i < l.length → ∀ (v4 : Option Val) (xs : List PV × Gd), lc1 false (.name 7) tYes (cDGet2 (cVar 5) (cTup (aCons (cVar 6) (aCons (cVar 7) (aNil)))) (cC (.int 100000000))) φ [some (.pv (st l)), some (.pv (st o)), some (.pv (.int w)), some (.pv (.int b)), v4, some (.ref m.length), some (.pv (.int i)), none] (.ok ((List.range o.length).map (fun (i : Nat) => PV.int i), []) Md) = .ok (.pv (.lst ((List.range o.length).map fun j => .int (pot w l o i j)))) Md := fun i hi v4 _ => by
    rw [lc1_ok (by simp; omega), lcL_mapf (h := fun (j : Nat) => PV.int (pot w l o i j)) fun j hj => by
      have hj' : j < o.length := by simpa using hj
      have := cell [some (.pv (st l)), some (.pv (st o)), some (.pv (.int w)), some (.pv (.int b)), v4, some (.ref m.length), some (.pv (.int i)), some (.pv (.int j))] i j hi hj' rfl rfl rfl
      simp [this]]
    simp
  have build : ∀ v4 : Option Val, lc1 false (.name 6) tYes (cB bTup (aCons (cLc false [7] (iB rngB1 (aCons (cB bLen (aCons (cVar 1) (aNil))) (aNil))) (.name 7) (tYes) (cDGet2 (cVar 5) (cTup (aCons (cVar 6) (aCons (cVar 7) (aNil)))) (cC (.int 100000000)))) (aNil))) φ [some (.pv (st l)), some (.pv (st o)), some (.pv (.int w)), some (.pv (.int b)), v4, some (.ref m.length), none, none] (.ok ((List.range l.length).map (fun (i : Nat) => PV.int i), []) Md) = .ok (.pv (.lst ((List.range l.length).map (mrow o.length (pot w l o))))) Md := fun v4 => by
    rw [lc1_ok (by simp; omega), lcL_mapf (h := fun (i : Nat) => mrow o.length (pot w l o) i) fun i hi => by
      have hi' : i < l.length := by simpa using hi
      have hr := rowc i hi' v4 ([], [])
      simp [len_st, Pn.wipe]
      rw [er2, Res.of_some, hr]
      simp [mrow]]
    simp
  have hst : start 8 [.pv (st l), .pv (st o), .pv (.int w), .pv (.int b)] = [some (.pv (st l)), some (.pv (st o)), some (.pv (.int w)), some (.pv (.int b)), none, none, none, none] := rfl
  rw [hst]
  have bl := build (some (.pv (oI (sumO w l o))))
  generalize sumO w l o = x at *
  cases x with
  | none =>
    simp only [oI] at *
    simp [m_sum_paper, e1, e2, e3, isNon, len_st, Pn.wipe]
    rw [er1, Res.of_some, bl]
    simp [htk, mat]
  | some s =>
    simp only [oI] at *
    by_cases hs : s < b
    · simp [m_sum_paper, e1, e2, e3, isNon, len_st, Pn.wipe, hs]
    · simp [m_sum_paper, e1, e2, e3, isNon, len_st, Pn.wipe, hs]
      rw [er1, Res.of_some, bl]
      simp [htk, mat]
end L_k36

set_option Elab.async false
set_option linter.all false
set_option maxRecDepth 100000
set_option autoImplicit false
set_option maxHeartbeats 400000
namespace L_k36
open PySem Pn
variable {n : Nat} {m : Mem} {φ : Phi}
theorem lc2_ok {own own1 : List Nat} {it it1 : IDen} {tg tg1 : Tgt} {t t1 : TDen} {elt : Den} {ρ : Pn.Env} {xs : List PV} {h : PV → List PV} (hi : it φ ρ m = .ok (xs, []) m) (hl : xs.length ≤ 4095) (hx : ∀ x ∈ xs, lcTwo tg t it1 own1 tg1 t1 elt φ (Pn.wipe ρ own) x m = .ok (h x) m) :
    cLc2 false own it tg t own1 it1 tg1 t1 elt φ ρ m = .ok (.pv (.lst (xs.flatMap h))) m := by
  unfold cLc2
  rw [hi]
  simp only [Res.bind_ok]
  rw [if_pos hl, lcL_pure hx]
  rfl
theorem lcTwo_ok {own1 : List Nat} {it1 : IDen} {tg tg1 : Tgt} {t1 : TDen} {elt : Den} {ρ ρ2 : Pn.Env} {x : PV} {ys zs : List PV} (ha : asgn tg x ρ = some ρ2) (hi : it1 φ ρ2 m = .ok (ys, []) m) (hl : ys.length ≤ 4096) (hz : lcL (lcOne tg1 t1 elt φ (Pn.wipe ρ2 own1)) [] ys m = .ok zs m) :
    lcTwo tg tYes it1 own1 tg1 t1 elt φ ρ x m = .ok zs m := by
  unfold lcTwo
  rw [ha]
  show ((Res.ok true m).nox.bind _) = _
  have e1 : ((Res.ok true m : Res Bool).nox) = .ok true m := rfl
  rw [e1]
  simp only [Res.bind_ok, if_true]
  rw [hi]
  have e2 : ((Res.ok (ys, ([] : Gd)) m : Res (List PV × Gd)).nox) = .ok (ys, []) m := rfl
  rw [e2]
  simp only [Res.bind_ok]
  rw [if_pos hl, hz]
def cOk (w : Nat) (d V : Nat → Nat → Int) (i j : Nat) : Bool := !(bnd w (i, j) && (!(rwB w V i j).isEmpty && decide (mn0 (rwB w V i j) + d i j < V i j)))
theorem enum_range {N : Nat} {f : Nat → PV} : enumP ((List.range N).map f) = (List.range' 0 N).map fun (i : Nat) => PV.tup [.int (i : Int), f i] := by
  apply List.ext_getElem
  · simp [enumP, zipP, rngP]
  · intro i h1 h2
    simp [enumP, zipP, rngP]
theorem abs_bnd {w i j : Nat} : decide ((if (i : Int) - (j : Int) < 0 then -((i : Int) - (j : Int)) else (i : Int) - (j : Int)) ≤ (w : Int)) = bnd w (i, j) := by
  rw [Bool.eq_iff_iff, decide_eq_true_eq, bnd_iff]
  split <;> omega
noncomputable abbrev ipB : SDen := (sSeq (sSet 10 (cLc false [11, 12] (iSeq (cCall "ahead_of" (aCons (cVar 8) (aCons (cVar 9) (aNil))))) (.tup [.name 11, .name 12]) (tTru (cCmp .le (cB bAbs (aCons (cBin .sub (cVar 11) (cVar 12)) (aNil))) (cVar 2))) (cIdx (cIdx (cVar 4) (cVar 11)) (cVar 12)))) (sIf (tAnd (tTru (cCmp .le (cB bAbs (aCons (cBin .sub (cVar 8) (cVar 9)) (aNil))) (cVar 2))) (tAnd (tTru (cCmp .ne (cVar 10) (cLst (aNil)))) (tTru (cCmp .gt (cVar 7) (cBin .add (cB bMinD (aCons (cVar 10) (aNil))) (cCall "far" (aCons (cIdx (cVar 0) (cVar 8)) (aCons (cIdx (cVar 1) (cVar 9)) (aNil))))))))) (sRet (cC (.bl false))) (sPass)))
section
variable {l o : List Pt} {w N M : Nat} {V : Nat → Nat → Int} {v3 v5 : Option Val}
def pE (l o : List Pt) (w N M : Nat) (V : Nat → Nat → Int) (v3 v5 v6 v7 v8 v9 v10 : Option Val) : Pn.Env := [some (.pv (st l)), some (.pv (st o)), some (.pv (.int w)), v3, some (.pv (mat N M V)), v5, v6, v7, v8, v9, v10, none, none]
theorem ip_cell {i j : Nat} {v6 v10 : Option Val} (hN : N = l.length) (hM : M = o.length) (hi : i < N) (hj : j < M) (hah : ∀ a b m, φ "ahead_of" [.pv (.int (a : Nat)), .pv (.int (b : Nat))] m = .ok (.pv (.lst ((ahead a b).map np))) m) (hfar : ∀ p q m, φ "far" [.pv (pt p), .pv (pt q)] m = .ok (.pv (.int (farI p q))) m) :
    ipB φ (pE l o w N M V v3 v5 v6 (some (.pv (.int (V i j)))) (some (.pv (.int i))) (some (.pv (.int j))) v10) m =
      if cOk w (dd l o) V i j = true then .next (pE l o w N M V v3 v5 v6 (some (.pv (.int (V i j)))) (some (.pv (.int i))) (some (.pv (.int j))) (some (.pv (.lst ((rwB w V i j).map PV.int))))) m else .ret (.pv (.bl false)) m := by
  have i1 := idx_st (m := m) (l := l) (i := i) (by omega)
  have i2 := idx_st (m := m) (l := o) (i := j) (by omega)
  have s1 : (sSet 10 (cLc false [11, 12] (iSeq (cCall "ahead_of" (aCons (cVar 8) (aCons (cVar 9) (aNil))))) (.tup [.name 11, .name 12]) (tTru (cCmp .le (cB bAbs (aCons (cBin .sub (cVar 11) (cVar 12)) (aNil))) (cVar 2))) (cIdx (cIdx (cVar 4) (cVar 11)) (cVar 12)))) φ (pE l o w N M V v3 v5 v6 (some (.pv (.int (V i j)))) (some (.pv (.int i))) (some (.pv (.int j))) v10) m = .next (pE l o w N M V v3 v5 v6 (some (.pv (.int (V i j)))) (some (.pv (.int i))) (some (.pv (.int j))) (some (.pv (.lst ((rwB w V i j).map PV.int))))) m := by
    unfold pE
    simp [hah]
    rw [lc1_ok (by simp; cases i <;> cases j <;> simp [ahead]), lcL_flt (h := fun p => PV.int (V p.1 p.2)) (p := bnd w) fun p hp => by
      have hlt := ahead_lt hp
      have g1 := mat_i (m := m) (N := N) (M := M) (V := V) (i := p.1) (by omega)
      have g2 := mrow_j (m := m) (M := M) (V := V) (i := p.1) (j := p.2) (by omega)
      have hab := abs_bnd (w := w) (i := p.1) (j := p.2)
      rw [show ((p.1, p.2) : NP) = p from rfl] at hab
      cases hb : bnd w p with
      | true => rw [hb] at hab; simp [Pn.wipe, np, hab, g1, g2]
      | false => rw [hb] at hab; simp [Pn.wipe, np, hab]]
    simp [rwB, aheadB, Function.comp_def]
  unfold ipB
  rw [e_sseq, s1, e_seq2n]
  have hab := abs_bnd (w := w) (i := i) (j := j)
  have en := ne_ints (m := m) (l := rwB w V i j)
  unfold cOk pE
  generalize rwB w V i j = rows at *
  cases hb : bnd w (i, j) with
  | false => rw [hb] at hab; simp [hab]
  | true =>
    rw [hb] at hab
    cases rows with
    | nil =>
      have en : cmp .ne m (.pv (.lst [])) (.pv (.lst [])) = some (.pv (.bl false)) := ne_nil
      simp [hab, en]
    | cons x xs =>
      have em := min_ints (m := m) (x := x) (l := xs)
      have hmn : mn0 (x :: xs) = xs.foldl min x := rfl
      have e0 : farI (gd l i) (gd o j) = dd l o i j := rfl
      rw [hmn]
      generalize PV.lst ((x :: xs).map PV.int) = R at *
      generalize xs.foldl min x = mn at *
      by_cases hc : mn + dd l o i j < V i j
      · simp [hab, en, em, i1, i2, hfar, e0, hc]
      · simp [hab, en, em, i1, i2, hfar, e0, hc]
theorem ip_row {i : Nat} {v6 : Option Val} (hN : N = l.length) (hM : M = o.length) (hi : i < N) (hah : ∀ a b m, φ "ahead_of" [.pv (.int (a : Nat)), .pv (.int (b : Nat))] m = .ok (.pv (.lst ((ahead a b).map np))) m) (hfar : ∀ p q m, φ "far" [.pv (pt p), .pv (pt q)] m = .ok (.pv (.int (farI p q))) m) :
    ∀ (k j : Nat) (v7 v9 v10 : Option Val), j + k = M →
    ((List.range' j k).all (cOk w (dd l o) V i) = true → ∃ v7' v9' v10', forL (.tup [.name 9, .name 7]) (ipB φ) [] ((List.range' j k).map fun (j : Nat) => PV.tup [.int j, .int (V i j)]) (pE l o w N M V v3 v5 v6 v7 (some (.pv (.int i))) v9 v10) m = .next (pE l o w N M V v3 v5 v6 v7' (some (.pv (.int i))) v9' v10') m) ∧
    ((List.range' j k).all (cOk w (dd l o) V i) = false → forL (.tup [.name 9, .name 7]) (ipB φ) [] ((List.range' j k).map fun (j : Nat) => PV.tup [.int j, .int (V i j)]) (pE l o w N M V v3 v5 v6 v7 (some (.pv (.int i))) v9 v10) m = .ret (.pv (.bl false)) m)
  | 0, j, v7, v9, v10, hj => ⟨fun _ => ⟨v7, v9, v10, by simp⟩, fun h => by simp at h⟩
  | k + 1, j, v7, v9, v10, hj => by
    have hc := ip_cell (m := m) (φ := φ) (l := l) (o := o) (w := w) (V := V) (v3 := v3) (v5 := v5) (v6 := v6) (v10 := v10) hN hM hi (show j < M by omega) hah hfar
    obtain ⟨h1, h2⟩ := ip_row (v6 := v6) hN hM hi hah hfar k (j + 1) (some (.pv (.int (V i j)))) (some (.pv (.int j))) (some (.pv (.lst ((rwB w V i j).map PV.int)))) (by omega)
    have step : forL (.tup [.name 9, .name 7]) (ipB φ) [] ((List.range' j (k + 1)).map fun (j : Nat) => PV.tup [.int j, .int (V i j)]) (pE l o w N M V v3 v5 v6 v7 (some (.pv (.int i))) v9 v10) m = forB (.tup [.name 9, .name 7]) (ipB φ) [] ((List.range' (j + 1) k).map fun (j : Nat) => PV.tup [.int j, .int (V i j)]) (ipB φ (pE l o w N M V v3 v5 v6 (some (.pv (.int (V i j)))) (some (.pv (.int i))) (some (.pv (.int j))) v10) m) := by
      rw [List.range'_succ, List.map_cons, e_forL1]
      show forA _ _ _ _ _ (some (pE l o w N M V v3 v5 v6 (some (.pv (.int (V i j)))) (some (.pv (.int i))) (some (.pv (.int j))) v10)) = _
      rw [e_forA]
    rw [step, hc, List.range'_succ, List.all_cons]
    cases hk : cOk w (dd l o) V i j with
    | true =>
      simp only [if_true, Bool.true_and, e_forBn]
      exact ⟨h1, h2⟩
    | false =>
      simp only [Bool.false_and, e_forBr, Bool.false_eq_true, if_false]
      exact ⟨fun h => (nomatch h), fun _ => by first | rfl | trivial⟩
noncomputable abbrev ipRow : SDen := (sFor (.tup [.name 9, .name 7]) (iB enumB (aCons (cVar 6) (aNil))) ipB)
theorem ip_rows (hN : N = l.length) (hM : M = o.length) (hah : ∀ a b m, φ "ahead_of" [.pv (.int (a : Nat)), .pv (.int (b : Nat))] m = .ok (.pv (.lst ((ahead a b).map np))) m) (hfar : ∀ p q m, φ "far" [.pv (pt p), .pv (pt q)] m = .ok (.pv (.int (farI p q))) m) :
    ∀ (k i : Nat) (v6 v7 v8 v9 v10 : Option Val), i + k = N →
    ((List.range' i k).all (fun i => (List.range' 0 M).all (cOk w (dd l o) V i)) = true → ∃ v6' v7' v8' v9' v10', forL (.tup [.name 8, .name 6]) (ipRow φ) [] ((List.range' i k).map fun (i : Nat) => PV.tup [.int i, mrow M V i]) (pE l o w N M V v3 v5 v6 v7 v8 v9 v10) m = .next (pE l o w N M V v3 v5 v6' v7' v8' v9' v10') m) ∧
    ((List.range' i k).all (fun i => (List.range' 0 M).all (cOk w (dd l o) V i)) = false → forL (.tup [.name 8, .name 6]) (ipRow φ) [] ((List.range' i k).map fun (i : Nat) => PV.tup [.int i, mrow M V i]) (pE l o w N M V v3 v5 v6 v7 v8 v9 v10) m = .ret (.pv (.bl false)) m)
  | 0, i, v6, v7, v8, v9, v10, hj => ⟨fun _ => ⟨v6, v7, v8, v9, v10, by simp⟩, fun h => by simp at h⟩
  | k + 1, i, v6, v7, v8, v9, v10, hj => by
    have step : forL (.tup [.name 8, .name 6]) (ipRow φ) [] ((List.range' i (k + 1)).map fun (i : Nat) => PV.tup [.int i, mrow M V i]) (pE l o w N M V v3 v5 v6 v7 v8 v9 v10) m = forB (.tup [.name 8, .name 6]) (ipRow φ) [] ((List.range' (i + 1) k).map fun (i : Nat) => PV.tup [.int i, mrow M V i]) (forL (.tup [.name 9, .name 7]) (ipB φ) [] ((List.range' 0 M).map fun (j : Nat) => PV.tup [.int j, .int (V i j)]) (pE l o w N M V v3 v5 (some (.pv (mrow M V i))) v7 (some (.pv (.int i))) v9 v10) m) := by
      rw [List.range'_succ, List.map_cons, e_forL1]
      show forA _ _ _ _ _ (some (pE l o w N M V v3 v5 (some (.pv (mrow M V i))) v7 (some (.pv (.int i))) v9 v10)) = _
      rw [e_forA]
      congr 1
      have ee : enumB m [.pv (mrow M V i)] = some ((List.range' 0 M).map (fun (j : Nat) => PV.tup [.int j, .int (V i j)]), []) := by rw [← enum_range]; rfl
      have g6 : (pE l o w N M V v3 v5 (some (.pv (mrow M V i))) v7 (some (.pv (.int i))) v9 v10)[6]? = some (some (.pv (mrow M V i))) := rfl
      unfold ipRow
      rw [e_for]
      simp only [e_ib, e_cons, e_var, e_nil, g6, e_vr, e_cons1, e_cons2, e_ib1, ee, Res.of_some, e_for1]
    obtain ⟨r1, r2⟩ := ip_row (m := m) (φ := φ) (w := w) (V := V) (v3 := v3) (v5 := v5) (v6 := some (.pv (mrow M V i))) hN hM (show i < N by omega) hah hfar M 0 v7 v9 v10 (by omega)
    rw [step, List.range'_succ, List.all_cons]
    cases hk : (List.range' 0 M).all (cOk w (dd l o) V i) with
    | true =>
      obtain ⟨v7', v9', v10', e⟩ := r1 hk
      obtain ⟨h1, h2⟩ := ip_rows hN hM hah hfar k (i + 1) (some (.pv (mrow M V i))) v7' (some (.pv (.int i))) v9' v10' (by omega)
      rw [e]
      simp only [Bool.true_and, e_forBn]
      exact ⟨h1, h2⟩
    | false =>
      rw [r2 hk]
      simp only [Bool.false_and, e_forBr]
      exact ⟨fun h => (nomatch h), fun _ => by first | rfl | trivial⟩
end
def isPap (w : Nat) (d : Nat → Nat → Int) (b : Int) (N M : Nat) (V : Nat → Nat → Int) : Bool :=
  !(decide (V (N - 1) (M - 1) < b)) && ((List.range' 0 N).all (fun i => (List.range' 0 M).all (cOk w d V i)) && decide (V 0 0 ≤ d 0 0))
theorem p_isp {l o : List Pt} {w : Nat} {b : Int} {V : Nat → Nat → Int} (hl : okS l) (ho : okS o) (hw : w ≤ 127) (h2 : 0 ≤ b) (h3 : b ≤ 100000000) (hV : ∀ i j, i < l.length → j < o.length → 0 ≤ V i j ∧ V i j ≤ 100000000) :
    phi T (n + 7) "is_sum_paper" [.pv (st l), .pv (st o), .pv (.int w), .pv (.int b), .pv (mat l.length o.length V)] m = .ok (.pv (.bl (isPap w (dd l o) b l.length o.length V))) m := by
  have e1 := p_need_all (n := n) (m := m) hl ho (k := w) (by omega) (by omega) h2 h3
  have hah : ∀ a b m, phi T (n + 6) "ahead_of" [.pv (.int (a : Nat)), .pv (.int (b : Nat))] m = .ok (.pv (.lst ((ahead a b).map np))) m := fun a b m => p_ahead a b
  have hfar : ∀ p q m, phi T (n + 6) "far" [.pv (pt p), .pv (pt q)] m = .ok (.pv (.int (farI p q))) m := fun p q m => p_far
  have l1 := hl.1
  have o1 := ho.1
  have l2 := hl.2.1
  have o2 := ho.2.1
  have t1 : phi T (n + 6) "is_tuple_of" [.pv (mat l.length o.length V), .pv (.int l.length), .pv (.int l.length)] m = .ok (.pv (.bl true)) m := by
    rw [p_is_tuple_of (n + 5) m (mat l.length o.length V) l.length l.length rfl]
    simp [mat, isT]
  have t2 : ∀ i, phi T (n + 6) "is_tuple_of" [.pv (mrow o.length V i), .pv (.int o.length), .pv (.int o.length)] m = .ok (.pv (.bl true)) m := fun i => by
    rw [p_is_tuple_of (n + 5) m (mrow o.length V i) o.length o.length rfl]
    simp [mrow, isT]
  have t3 : ∀ v : Int, 0 ≤ v → v ≤ 100000000 → phi T (n + 6) "is_whole" [.pv (.int v), .pv (.int 0), .pv (.int 100000000)] m = .ok (.pv (.bl true)) m := fun v v0 v1 => by
    rw [p_is_whole (n + 5) m (.int v) 0 100000000 (by simp)]
    simp [isW, v0, v1]
  rw [phi_eq t_is_sum_paper rfl]
  generalize phi T (n + 6) = φ at *
  have hst : start 13 [.pv (st l), .pv (st o), .pv (.int w), .pv (.int b), .pv (mat l.length o.length V)] = pE l o w l.length o.length V (some (.pv (.int b))) none none none none none none := rfl
  have s0 : m_is_sum_paper_0 φ (pE l o w l.length o.length V (some (.pv (.int b))) none none none none none none) m = .next (pE l o w l.length o.length V (some (.pv (.int b))) none none none none none none) m := by
    unfold pE; simp [m_is_sum_paper_0, e1]
  have s1 : m_is_sum_paper_1 φ (pE l o w l.length o.length V (some (.pv (.int b))) none none none none none none) m = .next (pE l o w l.length o.length V (some (.pv (.int b))) (some (.pv (.int o.length))) none none none none none) m := by
    unfold pE; simp [m_is_sum_paper_1, len_st]
  have iM : iOf m (.pv (mat l.length o.length V)) = some ((List.range l.length).map (mrow o.length V), []) := rfl
  have s2 : m_is_sum_paper_2 φ (pE l o w l.length o.length V (some (.pv (.int b))) (some (.pv (.int o.length))) none none none none none) m = .next (pE l o w l.length o.length V (some (.pv (.int b))) (some (.pv (.int o.length))) none none none none none) m := by
    unfold pE
    simp [m_is_sum_paper_2, len_st, t1, iM]
    rw [allf (p := fun _ => true) (by simp; omega) fun i _ => by simp [Pn.wipe, t2 i]]
    have ha : ((List.range l.length).all fun _ => true) = true := List.all_eq_true.mpr fun _ _ => rfl
    simp [ha]
  have hall : cLc2 false [6, 7] (iSeq (cVar 4)) (.name 6) tYes [7] (iSeq (cVar 6)) (.name 7) tYes (cCall "is_whole" (aCons (cVar 7) (aCons (cC (.int 0)) (aCons (cC (.int 100000000)) (aNil))))) φ (pE l o w l.length o.length V (some (.pv (.int b))) (some (.pv (.int o.length))) none none none none none) m = .ok (.pv (.lst (((List.range l.length).map (mrow o.length V)).flatMap fun _ => (List.range o.length).map fun _ => PV.bl true))) m := by
    refine lc2_ok (by unfold pE; simp [iM]) (by simp; omega) fun x hx => ?_
    obtain ⟨i, hi, rfl⟩ := List.mem_map.mp hx
    have hi' : i < l.length := by simpa using hi
    refine lcTwo_ok (ρ2 := (Pn.wipe (pE l o w l.length o.length V (some (.pv (.int b))) (some (.pv (.int o.length))) none none none none none) [6, 7]).set 6 (some (.pv (mrow o.length V i)))) (ys := (List.range o.length).map fun j => .int (V i j)) rfl ?_ (by simp; omega) ?_
    · have iR : iOf m (.pv (mrow o.length V i)) = some ((List.range o.length).map (fun j => .int (V i j)), []) := rfl
      unfold pE
      simp [Pn.wipe, iR]
    · rw [lcL_mapf (h := fun _ => PV.bl true) fun j hj => by
        have hj' : j < o.length := by simpa using hj
        have := hV i j hi' hj'
        unfold pE
        simp [Pn.wipe, t3 _ this.1 this.2]]
  have hba : bAll m [.pv (.lst (((List.range l.length).map (mrow o.length V)).flatMap fun _ => (List.range o.length).map fun _ => PV.bl true))] = some (.pv (.bl true)) := by
    have e : (((List.range l.length).map (mrow o.length V)).flatMap fun _ => (List.range o.length).map fun _ => PV.bl true) = (((List.range l.length).map (mrow o.length V)).flatMap fun _ => (List.range o.length).map fun _ => true).map PV.bl := by
      rw [List.map_flatMap]; simp [Function.comp_def]
    rw [v_all e]
    simp
  have i1 := mat_l (m := m) (N := l.length) (M := o.length) (V := V) l1
  have i2 := mrow_l (m := m) (M := o.length) (V := V) (i := l.length - 1) o1
  have s3 : m_is_sum_paper_3 φ (pE l o w l.length o.length V (some (.pv (.int b))) (some (.pv (.int o.length))) none none none none none) m = if decide (V (l.length - 1) (o.length - 1) < b) = true then .ret (.pv (.bl false)) m else .next (pE l o w l.length o.length V (some (.pv (.int b))) (some (.pv (.int o.length))) none none none none none) m := by
    unfold m_is_sum_paper_3
    rw [e_sif, e_tor]
    have ea : tNot (tTru (cB bAll (aCons (cLc2 false [6, 7] (iSeq (cVar 4)) (.name 6) tYes [7] (iSeq (cVar 6)) (.name 7) tYes (cCall "is_whole" (aCons (cVar 7) (aCons (cC (.int 0)) (aCons (cC (.int 100000000)) (aNil)))))) (aNil)))) φ (pE l o w l.length o.length V (some (.pv (.int b))) (some (.pv (.int o.length))) none none none none none) m = .ok false m := by
      simp only [e_tnot, e_tru, e_blt, e_cons]
      rw [hall]
      simp only [e_cons1, e_nil, e_cons2, e_blt1]
      rw [hba]
      simp
    rw [ea]
    unfold pE
    by_cases hb : V (l.length - 1) (o.length - 1) < b
    · simp [i1, i2, hb]
    · simp [i1, i2, hb]
  rw [hst]
  simp only [m_is_sum_paper, e_sseq, s0, e_seq2n, s1, s2, s3]
  unfold isPap
  by_cases hb : V (l.length - 1) (o.length - 1) < b
  · simp [hb]
  · have ee : enumB m [.pv (mat l.length o.length V)] = some ((List.range' 0 l.length).map (fun (i : Nat) => PV.tup [.int i, mrow o.length V i]), []) := by rw [← enum_range]; rfl
    have g4 : ∀ v6 v7 v8 v9 v10 : Option Val, (pE l o w l.length o.length V (some (.pv (.int b))) (some (.pv (.int o.length))) v6 v7 v8 v9 v10)[4]? = some (some (.pv (mat l.length o.length V))) := fun _ _ _ _ _ => rfl
    obtain ⟨h1, h2⟩ := ip_rows (m := m) (φ := φ) (w := w) (V := V) (l := l) (o := o) (v3 := some (.pv (.int b))) (v5 := some (.pv (.int o.length))) rfl rfl hah hfar l.length 0 none none none none none (by omega)
    have s4 : m_is_sum_paper_4 φ (pE l o w l.length o.length V (some (.pv (.int b))) (some (.pv (.int o.length))) none none none none none) m = forL (.tup [.name 8, .name 6]) (ipRow φ) [] ((List.range' 0 l.length).map fun (i : Nat) => PV.tup [.int i, mrow o.length V i]) (pE l o w l.length o.length V (some (.pv (.int b))) (some (.pv (.int o.length))) none none none none none) m := by
      unfold m_is_sum_paper_4
      rw [e_for]
      simp only [e_ib, e_cons, e_var, e_nil, g4, e_vr, e_cons1, e_cons2, e_ib1, ee, Res.of_some, e_for1]
    rw [decide_eq_false hb]
    simp only [Bool.false_eq_true, if_false, e_seq2n, Bool.not_false, Bool.true_and, e_sseq]
    rw [s4]
    cases hk : (List.range' 0 l.length).all (fun i => (List.range' 0 o.length).all (cOk w (dd l o) V i)) with
    | false =>
      rw [h2 hk]
      simp
    | true =>
      obtain ⟨v6, v7, v8, v9, v10, e⟩ := h1 hk
      rw [e]
      simp only [e_seq2n, Bool.true_and]
      have j1 := mat_i (m := m) (N := l.length) (M := o.length) (V := V) (i := 0) l1
      have j2 := mrow_j (m := m) (M := o.length) (V := V) (i := 0) (j := 0) o1
      have j3 := idx_st (m := m) (l := l) (i := 0) l1
      have j4 := idx_st (m := m) (l := o) (i := 0) o1
      have e0 : farI (gd l 0) (gd o 0) = dd l o 0 0 := rfl
      simp only [Int.natCast_zero] at j1 j2 j3 j4
      unfold pE
      simp [m_is_sum_paper_5, j1, j2, j3, j4, hfar, e0]
end L_k36

set_option Elab.async false
set_option linter.all false
set_option maxRecDepth 100000
set_option autoImplicit false
set_option maxHeartbeats 400000
namespace L_k36
open PySem Pn
open PySem.W (dataLt alike)
variable {n : Nat} {m : Mem} {φ : Phi}
/-! the law's own judge of papers -/
def pI (q : Int × Int) : PV := .tup [.int q.1, .int q.2]
theorem min_pI {i j : Int} : bMinD m [.pv (pI (i, j))] = some (.pv (.int (min i j))) := by
  have h0 : bMin1 m [.pv (pI (i, j))] = none := rfl
  have hl : litems m (.pv (pI (i, j))) = none := rfl
  have hk : (okDs 30 [PV.int i, PV.int j] && alikeB [PV.int i, PV.int j]) = true := by
    simp [okDs, PV.okD, alikeB, PV.toD, alike, isNon]
  have e : bMinD m [.pv (pI (i, j))] = some (.pv (minP (.int i) [.int j])) := by
    unfold bMinD
    rw [h0]
    dsimp only
    rw [hl]
    dsimp only [pI]
    rw [if_pos hk]
  rw [e]
  have e2 : ltD (.int j) (.int i) = decide (j < i) := by
    show dataLt (.int j) (.int i) = _
    exact PySem.W.dataLt_int j i
  show some (Val.pv (if ltD (.int j) (.int i) = true then PV.int j else PV.int i)) = _
  rw [e2]
  by_cases h : j < i
  · rw [decide_eq_true h, if_pos rfl]; congr 3; omega
  · rw [decide_eq_false h, if_neg (by simp)]; congr 3; omega
def nb (a b : Nat) : List (Int × Int) := [((a : Int) - 1, (b : Int)), ((a : Int), (b : Int) - 1), ((a : Int) - 1, (b : Int) - 1)]
def nbN : Nat → Nat → List NP
  | 0, 0 => []
  | a + 1, 0 => [(a, 0)]
  | 0, b + 1 => [(0, b)]
  | a + 1, b + 1 => [(a, b + 1), (a + 1, b), (a, b)]
def ahT (w a b : Nat) : List NP := (nbN a b).filter (bnd w)
def qok (w : Nat) (q : Int × Int) : Bool := decide (0 ≤ min q.1 q.2) && decide ((if q.1 - q.2 < 0 then -(q.1 - q.2) else q.1 - q.2) ≤ (w : Int))
theorem qok_nat {w i j : Nat} : qok w ((i : Int), (j : Int)) = bnd w (i, j) := by
  unfold qok
  rw [abs_bnd, decide_eq_true (show (0 : Int) ≤ min (i : Int) (j : Int) by omega), Bool.true_and]
theorem qok_neg {w : Nat} {i j : Int} (h : i < 0 ∨ j < 0) : qok w (i, j) = false := by
  unfold qok
  rw [decide_eq_false (by simp only; omega)]; rfl
theorem nb_ahT (w a b : Nat) : ((nb a b).filter (qok w)).map pI = (ahT w a b).map np := by
  have c1 : ∀ k : Nat, ((k + 1 : Nat) : Int) - 1 = (k : Int) := fun k => by omega
  unfold nb ahT
  cases a with
  | zero => cases b with
    | zero =>
      rw [List.filter_cons, qok_neg (.inl (by omega)), List.filter_cons, qok_neg (.inr (by omega)), List.filter_cons, qok_neg (.inl (by omega))]; rfl
    | succ b =>
      rw [List.filter_cons, qok_neg (.inl (by omega)), List.filter_cons, c1, qok_nat, List.filter_cons, qok_neg (.inl (by omega))]
      cases hb : bnd w (0, b) <;> simp [nbN, hb, pI, np]
  | succ a => cases b with
    | zero =>
      rw [c1, List.filter_cons, qok_nat, List.filter_cons, qok_neg (.inr (by omega)), List.filter_cons, qok_neg (.inr (by omega))]
      cases hb : bnd w (a, 0) <;> simp [nbN, hb, pI, np]
    | succ b =>
      rw [c1, c1, List.filter_cons, qok_nat, List.filter_cons, qok_nat, List.filter_cons, qok_nat]
      cases h1 : bnd w (a, b + 1) <;> cases h2 : bnd w (a + 1, b) <;> cases h3 : bnd w (a, b) <;> simp [nbN, h1, h2, h3, pI, np]
theorem mem_nbN {a b : Nat} {q : NP} : q ∈ nbN a b ↔ q ∈ ahead a b := by
  rw [mem_ahead]
  obtain ⟨x, y⟩ := q
  cases a <;> cases b <;> simp [nbN] <;> omega
def cOkL (w : Nat) (d V : Nat → Nat → Int) (i j : Nat) : Bool := !(bnd w (i, j) && !((ahT w i j).filter fun q => decide (V q.1 q.2 + d i j < V i j)).isEmpty)
theorem cOkL_eq {w : Nat} {d V : Nat → Nat → Int} {i j : Nat} : cOkL w d V i j = cOk w d V i j := by
  unfold cOkL cOk
  congr 2
  rw [Bool.eq_iff_iff]
  simp only [Bool.not_eq_true', List.isEmpty_eq_false_iff, Bool.and_eq_true, decide_eq_true_eq]
  constructor
  · intro h
    obtain ⟨q, hq⟩ := List.exists_mem_of_ne_nil _ h
    obtain ⟨h1, h2⟩ := List.mem_filter.mp hq
    obtain ⟨h3, h4⟩ := List.mem_filter.mp h1
    have hm : V q.1 q.2 ∈ rwB w V i j := List.mem_map_of_mem (f := fun p : NP => V p.1 p.2) (List.mem_filter.mpr ⟨mem_nbN.mp h3, h4⟩)
    have := mn0_le hm
    have h2' := of_decide_eq_true h2
    exact ⟨List.ne_nil_of_mem hm, by omega⟩
  · rintro ⟨h1, h2⟩
    obtain ⟨q, hq, he⟩ := List.mem_map.mp (mn0_mem h1)
    obtain ⟨h3, h4⟩ := List.mem_filter.mp hq
    have he' : V q.1 q.2 = mn0 (rwB w V i j) := he
    have : q ∈ (ahT w i j).filter fun q => decide (V q.1 q.2 + d i j < V i j) := List.mem_filter.mpr ⟨List.mem_filter.mpr ⟨mem_nbN.mpr h3, h4⟩, by simp only [decide_eq_true_eq]; omega⟩
    exact List.ne_nil_of_mem this
theorem ne_nps {ps : List NP} : cmp .ne m (.pv (.lst (ps.map np))) (.pv (.lst [])) = some (.pv (.bl (!ps.isEmpty))) := by
  rw [v_ne (by unfold PV.okD; exact okDs_np (d := 58)) (by simp [PV.okD, okDs])]
  cases ps <;> simp [eqP, eqPs]
noncomputable abbrev lpB : SDen := (sSeq (sSet 7 (cLc false [8] (iSeq (cTup (aCons (cTup (aCons (cBin .sub (cVar 5) (cC (.int 1))) (aCons (cVar 6) (aNil)))) (aCons (cTup (aCons (cVar 5) (aCons (cBin .sub (cVar 6) (cC (.int 1))) (aNil)))) (aCons (cTup (aCons (cBin .sub (cVar 5) (cC (.int 1))) (aCons (cBin .sub (cVar 6) (cC (.int 1))) (aNil)))) (aNil)))))) (.name 8) (tAnd (tTru (cCmp .ge (cB bMinD (aCons (cVar 8) (aNil))) (cC (.int 0)))) (tTru (cCmp .le (cB bAbs (aCons (cBin .sub (cIdx (cVar 8) (cC (.int 0))) (cIdx (cVar 8) (cC (.int 1)))) (aNil))) (cVar 2)))) (cVar 8))) (sIf (tAnd (tTru (cCmp .le (cB bAbs (aCons (cBin .sub (cVar 5) (cVar 6)) (aNil))) (cVar 2))) (tTru (cCmp .ne (cLc false [8] (iSeq (cVar 7)) (.name 8) (tTru (cCmp .gt (cIdx (cIdx (cVar 4) (cVar 5)) (cVar 6)) (cBin .add (cIdx (cIdx (cVar 4) (cIdx (cVar 8) (cC (.int 0)))) (cIdx (cVar 8) (cC (.int 1)))) (cCall "_law_far" (aCons (cIdx (cVar 0) (cVar 5)) (aCons (cIdx (cVar 1) (cVar 6)) (aNil))))))) (cVar 8)) (cLst (aNil))))) (sRet (cC (.bl false))) (sPass)))
section
variable {l o : List Pt} {w N M : Nat} {V : Nat → Nat → Int} {v3 : Option Val}
def lE (l o : List Pt) (w N M : Nat) (V : Nat → Nat → Int) (v3 v5 v6 v7 : Option Val) : Pn.Env := [some (.pv (st l)), some (.pv (st o)), some (.pv (.int w)), v3, some (.pv (mat N M V)), v5, v6, v7, none]
theorem lp_cell {i j : Nat} {v7 : Option Val} (hN : N = l.length) (hM : M = o.length) (hi : i < N) (hj : j < M) (hfar : ∀ p q m, φ "_law_far" [.pv (pt p), .pv (pt q)] m = .ok (.pv (.int (farI p q))) m) :
    lpB φ (lE l o w N M V v3 (some (.pv (.int i))) (some (.pv (.int j))) v7) m =
      if cOk w (dd l o) V i j = true then .next (lE l o w N M V v3 (some (.pv (.int i))) (some (.pv (.int j))) (some (.pv (.lst ((ahT w i j).map np))))) m else .ret (.pv (.bl false)) m := by
  have i1 := idx_st (m := m) (l := l) (i := i) (by omega)
  have i2 := idx_st (m := m) (l := o) (i := j) (by omega)
  have s1 : (sSet 7 (cLc false [8] (iSeq (cTup (aCons (cTup (aCons (cBin .sub (cVar 5) (cC (.int 1))) (aCons (cVar 6) (aNil)))) (aCons (cTup (aCons (cVar 5) (aCons (cBin .sub (cVar 6) (cC (.int 1))) (aNil)))) (aCons (cTup (aCons (cBin .sub (cVar 5) (cC (.int 1))) (aCons (cBin .sub (cVar 6) (cC (.int 1))) (aNil)))) (aNil)))))) (.name 8) (tAnd (tTru (cCmp .ge (cB bMinD (aCons (cVar 8) (aNil))) (cC (.int 0)))) (tTru (cCmp .le (cB bAbs (aCons (cBin .sub (cIdx (cVar 8) (cC (.int 0))) (cIdx (cVar 8) (cC (.int 1)))) (aNil))) (cVar 2)))) (cVar 8))) φ (lE l o w N M V v3 (some (.pv (.int i))) (some (.pv (.int j))) v7) m = .next (lE l o w N M V v3 (some (.pv (.int i))) (some (.pv (.int j))) (some (.pv (.lst ((ahT w i j).map np))))) m := by
    have hc : lcL (lcOne (.name 8) (tAnd (tTru (cCmp .ge (cB bMinD (aCons (cVar 8) (aNil))) (cC (.int 0)))) (tTru (cCmp .le (cB bAbs (aCons (cBin .sub (cIdx (cVar 8) (cC (.int 0))) (cIdx (cVar 8) (cC (.int 1)))) (aNil))) (cVar 2)))) (cVar 8) φ (lE l o w N M V v3 (some (.pv (.int i))) (some (.pv (.int j))) v7)) [] ((nb i j).map pI) m = .ok ((ahT w i j).map np) m := by
      rw [lcL_flt (h := pI) (p := qok w) fun q _ => by
        have hmn := min_pI (m := m) (i := q.1) (j := q.2)
        have x0 : idx m (.pv (pI q)) (.pv (.int 0)) = some (.pv (.int q.1)) := v_idxT atI0
        have x1 : idx m (.pv (pI q)) (.pv (.int 1)) = some (.pv (.int q.2)) := v_idxT atI1
        rw [show ((q.1, q.2) : Int × Int) = q from rfl] at hmn
        unfold lE qok
        cases h1 : decide (0 ≤ min q.1 q.2) with
        | false =>
          have h1' : ¬ (0 ≤ min q.1 q.2) := of_decide_eq_false h1
          simp [hmn, h1']
        | true =>
          have h1' : 0 ≤ min q.1 q.2 := of_decide_eq_true h1
          cases h2 : decide ((if q.1 - q.2 < 0 then -(q.1 - q.2) else q.1 - q.2) ≤ (w : Int)) with
          | false => simp [hmn, h1', x0, x1, h2]
          | true => simp [hmn, h1', x0, x1, h2]]
      rw [nb_ahT]
    unfold lE at hc ⊢
    simp only [e_set, e_lc, e_seq, e_tup, e_cons, e_var, e_nil]
    simp
    rw [lc1_ok (by show (3 : Nat) < 16777216; omega)]
    simp only [Pn.wipe, List.set_cons_succ, List.set_cons_zero]
    rw [show [PV.tup [PV.int ((i : Int) - 1), PV.int (j : Int)], PV.tup [PV.int (i : Int), PV.int ((j : Int) - 1)], PV.tup [PV.int ((i : Int) - 1), PV.int ((j : Int) - 1)]] = (nb i j).map pI from rfl, hc]
    simp
  unfold lpB
  rw [e_sseq, s1, e_seq2n, ← cOkL_eq]
  have hab := abs_bnd (w := w) (i := i) (j := j)
  have hlen : (ahT w i j).length ≤ 3 := by
    refine Nat.le_trans (List.length_filter_le _ _) ?_
    cases i <;> cases j <;> simp [nbN]
  have k1 := mat_i (m := m) (N := N) (M := M) (V := V) hi
  have k2 := mrow_j (m := m) (M := M) (V := V) (i := i) hj
  unfold cOkL lE
  cases hb : bnd w (i, j) with
  | false => rw [hb] at hab; simp [hab]
  | true =>
    rw [hb] at hab
    have iA : iOf m (.pv (.lst ((ahT w i j).map np))) = some ((ahT w i j).map np, []) := rfl
    have en := ne_nps (m := m) (ps := (ahT w i j).filter fun q => decide (V q.1 q.2 + dd l o i j < V i j))
    have hcc : lc1 false (.name 8) (tTru (cCmp .gt (cIdx (cIdx (cVar 4) (cVar 5)) (cVar 6)) (cBin .add (cIdx (cIdx (cVar 4) (cIdx (cVar 8) (cC (.int 0)))) (cIdx (cVar 8) (cC (.int 1)))) (cCall "_law_far" (aCons (cIdx (cVar 0) (cVar 5)) (aCons (cIdx (cVar 1) (cVar 6)) (aNil))))))) (cVar 8) φ (lE l o w N M V v3 (some (.pv (.int i))) (some (.pv (.int j))) (some (.pv (.lst ((ahT w i j).map np))))) (.ok ((ahT w i j).map np, []) m) = .ok (.pv (.lst (((ahT w i j).filter fun q => decide (V q.1 q.2 + dd l o i j < V i j)).map np))) m := by
      rw [lc1_ok (by simp; omega), lcL_flt (h := np) (p := fun q => decide (V q.1 q.2 + dd l o i j < V i j)) fun q hq => by
        have hlt := ahead_lt (mem_nbN.mp (List.mem_filter.mp hq).1)
        have g1 := mat_i (m := m) (N := N) (M := M) (V := V) (i := q.1) (by omega)
        have g2 := mrow_j (m := m) (M := M) (V := V) (i := q.1) (j := q.2) (by omega)
        have e0 : farI (gd l i) (gd o j) = dd l o i j := rfl
        unfold lE
        by_cases hc : V q.1 q.2 + dd l o i j < V i j
        · simp [Pn.wipe, np_0, np_1, k1, k2, g1, g2, i1, i2, hfar, e0, hc]
        · simp [Pn.wipe, np_0, np_1, k1, k2, g1, g2, i1, i2, hfar, e0, hc]]
      simp
    unfold lE at hcc
    generalize hF : (ahT w i j).filter (fun q => decide (V q.1 q.2 + dd l o i j < V i j)) = FL at *
    generalize hR : (ahT w i j).map np = R at *
    simp only [e_sif, e_tand, e_tru, e_cmp, e_blt, e_bin, e_var, e_cons, e_nil]
    simp [hab, iA, Pn.wipe]
    rw [hcc]
    clear hF
    cases FL with
    | nil =>
      have en : cmp .ne m (.pv (.lst [])) (.pv (.lst [])) = some (.pv (.bl false)) := ne_nil
      simp [en]
    | cons q r =>
      generalize PV.lst ((q :: r).map np) = R2 at *
      simp at en
      simp [en]
theorem lp_row {i : Nat} (hN : N = l.length) (hM : M = o.length) (hi : i < N) (hfar : ∀ p q m, φ "_law_far" [.pv (pt p), .pv (pt q)] m = .ok (.pv (.int (farI p q))) m) :
    ∀ (k j : Nat) (v6 v7 : Option Val), j + k = M →
    ((List.range' j k).all (cOk w (dd l o) V i) = true → ∃ v6' v7', forL (.name 6) (lpB φ) [] ((List.range' j k).map fun (j : Nat) => PV.int j) (lE l o w N M V v3 (some (.pv (.int i))) v6 v7) m = .next (lE l o w N M V v3 (some (.pv (.int i))) v6' v7') m) ∧
    ((List.range' j k).all (cOk w (dd l o) V i) = false → forL (.name 6) (lpB φ) [] ((List.range' j k).map fun (j : Nat) => PV.int j) (lE l o w N M V v3 (some (.pv (.int i))) v6 v7) m = .ret (.pv (.bl false)) m)
  | 0, j, v6, v7, hj => ⟨fun _ => ⟨v6, v7, by simp⟩, fun h => by simp at h⟩
  | k + 1, j, v6, v7, hj => by
    have hc := lp_cell (m := m) (φ := φ) (l := l) (o := o) (w := w) (V := V) (v3 := v3) (v7 := v7) hN hM hi (show j < M by omega) hfar
    obtain ⟨h1, h2⟩ := lp_row hN hM hi hfar k (j + 1) (some (.pv (.int j))) (some (.pv (.lst ((ahT w i j).map np)))) (by omega)
    have step : forL (.name 6) (lpB φ) [] ((List.range' j (k + 1)).map fun (j : Nat) => PV.int j) (lE l o w N M V v3 (some (.pv (.int i))) v6 v7) m = forB (.name 6) (lpB φ) [] ((List.range' (j + 1) k).map fun (j : Nat) => PV.int j) (lpB φ (lE l o w N M V v3 (some (.pv (.int i))) (some (.pv (.int j))) v7) m) := by
      rw [List.range'_succ, List.map_cons, e_forL1]
      show forA _ _ _ _ _ (some (lE l o w N M V v3 (some (.pv (.int i))) (some (.pv (.int j))) v7)) = _
      rw [e_forA]
    rw [step, hc, List.range'_succ, List.all_cons]
    cases hk : cOk w (dd l o) V i j with
    | true =>
      simp only [if_true, Bool.true_and, e_forBn]
      exact ⟨h1, h2⟩
    | false =>
      simp only [Bool.false_and, e_forBr, Bool.false_eq_true, if_false]
      exact ⟨fun h => (nomatch h), fun _ => by first | rfl | trivial⟩
theorem rng1I {b : Nat} (h2 : b ≤ 1000000) : rngB1 m [.pv (.int b)] = some ((List.range' 0 b).map (fun (i : Nat) => PV.int i), []) := by
  rw [rng1_ok' (by omega) (by omega), Int.toNat_natCast, rng0, List.range_eq_range']
noncomputable abbrev lpRow : SDen := (sFor (.name 6) (iB rngB1 (aCons (cB bLen (aCons (cVar 1) (aNil))) (aNil))) lpB)
theorem lp_rows (hN : N = l.length) (hM : M = o.length) (hM2 : M ≤ 1000) (hfar : ∀ p q m, φ "_law_far" [.pv (pt p), .pv (pt q)] m = .ok (.pv (.int (farI p q))) m) :
    ∀ (k i : Nat) (v5 v6 v7 : Option Val), i + k = N →
    ((List.range' i k).all (fun i => (List.range' 0 M).all (cOk w (dd l o) V i)) = true → ∃ v5' v6' v7', forL (.name 5) (lpRow φ) [] ((List.range' i k).map fun (i : Nat) => PV.int i) (lE l o w N M V v3 v5 v6 v7) m = .next (lE l o w N M V v3 v5' v6' v7') m) ∧
    ((List.range' i k).all (fun i => (List.range' 0 M).all (cOk w (dd l o) V i)) = false → forL (.name 5) (lpRow φ) [] ((List.range' i k).map fun (i : Nat) => PV.int i) (lE l o w N M V v3 v5 v6 v7) m = .ret (.pv (.bl false)) m)
  | 0, i, v5, v6, v7, hj => ⟨fun _ => ⟨v5, v6, v7, by simp⟩, fun h => by simp at h⟩
  | k + 1, i, v5, v6, v7, hj => by
    have step : forL (.name 5) (lpRow φ) [] ((List.range' i (k + 1)).map fun (i : Nat) => PV.int i) (lE l o w N M V v3 v5 v6 v7) m = forB (.name 5) (lpRow φ) [] ((List.range' (i + 1) k).map fun (i : Nat) => PV.int i) (forL (.name 6) (lpB φ) [] ((List.range' 0 M).map fun (j : Nat) => PV.int j) (lE l o w N M V v3 (some (.pv (.int i))) v6 v7) m) := by
      rw [List.range'_succ, List.map_cons, e_forL1]
      show forA _ _ _ _ _ (some (lE l o w N M V v3 (some (.pv (.int i))) v6 v7)) = _
      rw [e_forA]
      have er := rng1I (m := m) (b := o.length) (by omega)
      rw [← hM] at er
      have g1 : (lE l o w N M V v3 (some (.pv (.int i))) v6 v7)[1]? = some (some (.pv (st o))) := rfl
      have hlen : bLen m [.pv (st o)] = some (.pv (.int M)) := by rw [hM]; exact len_st
      have hr : lpRow φ (lE l o w N M V v3 (some (.pv (.int i))) v6 v7) m = forL (.name 6) (lpB φ) [] ((List.range' 0 M).map fun (j : Nat) => PV.int j) (lE l o w N M V v3 (some (.pv (.int i))) v6 v7) m := by
        unfold lpRow
        rw [e_for]
        simp only [e_ib, e_cons, e_blt, e_var, e_nil, g1, e_vr, e_cons1, e_cons2, e_blt1, hlen, Res.of_some, e_ib1, er, e_for1]
      rw [hr]
    obtain ⟨r1, r2⟩ := lp_row (m := m) (φ := φ) (w := w) (V := V) (v3 := v3) hN hM (show i < N by omega) hfar M 0 v6 v7 (by omega)
    rw [step, List.range'_succ, List.all_cons]
    cases hk : (List.range' 0 M).all (cOk w (dd l o) V i) with
    | true =>
      obtain ⟨v6', v7', e⟩ := r1 hk
      obtain ⟨h1, h2⟩ := lp_rows hN hM hM2 hfar k (i + 1) (some (.pv (.int i))) v6' v7' (by omega)
      rw [e]
      simp only [Bool.true_and, e_forBn]
      exact ⟨h1, h2⟩
    | false =>
      rw [r2 hk]
      simp only [Bool.false_and, e_forBr]
      exact ⟨fun h => (nomatch h), fun _ => by first | rfl | trivial⟩
end
theorem p_lip {l o : List Pt} {w : Nat} {b : Int} {V : Nat → Nat → Int} (l1 : 1 ≤ l.length) (l2 : l.length ≤ 127) (o1 : 1 ≤ o.length) (o2 : o.length ≤ 127) :
    phi T (n + 2) "_law_is_paper" [.pv (st l), .pv (st o), .pv (.int w), .pv (.int b), .pv (mat l.length o.length V)] m = .ok (.pv (.bl (isPap w (dd l o) b l.length o.length V))) m := by
  have hfar : ∀ p q m, phi T (n + 1) "_law_far" [.pv (pt p), .pv (pt q)] m = .ok (.pv (.int (farI p q))) m := fun p q m => p_lfar
  rw [phi_eq t__law_is_paper rfl]
  generalize phi T (n + 1) = φ at *
  have hst : start 9 [.pv (st l), .pv (st o), .pv (.int w), .pv (.int b), .pv (mat l.length o.length V)] = lE l o w l.length o.length V (some (.pv (.int b))) none none none := rfl
  have j1 := mat_i (m := m) (N := l.length) (M := o.length) (V := V) (i := 0) l1
  have j2 := mrow_j (m := m) (M := o.length) (V := V) (i := 0) (j := 0) o1
  have j3 := idx_st (m := m) (l := l) (i := 0) l1
  have j4 := idx_st (m := m) (l := o) (i := 0) o1
  have k1 := mat_i (m := m) (N := l.length) (M := o.length) (V := V) (i := l.length - 1) (by omega)
  have k2 := mrow_j (m := m) (M := o.length) (V := V) (i := l.length - 1) (j := o.length - 1) (by omega)
  have e0 : farI (gd l 0) (gd o 0) = dd l o 0 0 := rfl
  have e1 : ((l.length : Int) - 1) = ((l.length - 1 : Nat) : Int) := by omega
  have e2 : ((o.length : Int) - 1) = ((o.length - 1 : Nat) : Int) := by omega
  simp only [Int.natCast_zero] at j1 j2 j3 j4
  rw [hst]
  unfold isPap
  have er := rng1I (m := m) (b := l.length) (by omega)
  by_cases c1 : dd l o 0 0 < V 0 0
  · have c1' : ¬ V 0 0 ≤ dd l o 0 0 := by omega
    unfold lE
    simp [m__law_is_paper, j1, j2, j3, j4, hfar, e0, c1, c1']
  · have c1' : V 0 0 ≤ dd l o 0 0 := by omega
    by_cases c2 : V (l.length - 1) (o.length - 1) < b
    · unfold lE
      simp [m__law_is_paper, j1, j2, j3, j4, hfar, e0, c1, len_st, e1, e2, k1, k2, c2]
    · obtain ⟨h1, h2⟩ := lp_rows (m := m) (φ := φ) (w := w) (V := V) (l := l) (o := o) (v3 := some (.pv (.int b))) rfl rfl (by omega) hfar l.length 0 none none none (by omega)
      have s1 : (sFor (.name 5) (iB rngB1 (aCons (cB bLen (aCons (cVar 0) (aNil))) (aNil))) lpRow) φ (lE l o w l.length o.length V (some (.pv (.int b))) none none none) m = forL (.name 5) (lpRow φ) [] ((List.range' 0 l.length).map fun (i : Nat) => PV.int i) (lE l o w l.length o.length V (some (.pv (.int b))) none none none) m := by
        have g0 : (lE l o w l.length o.length V (some (.pv (.int b))) none none none)[0]? = some (some (.pv (st l))) := rfl
        rw [e_for]
        simp only [e_ib, e_cons, e_blt, e_var, e_nil, g0, e_vr, e_cons1, e_cons2, e_blt1, len_st, Res.of_some, e_ib1, er, e_for1]
      have s0 : (sIf (tOr (tTru (cCmp .gt (cIdx (cIdx (cVar 4) (cC (.int 0))) (cC (.int 0))) (cCall "_law_far" (aCons (cIdx (cVar 0) (cC (.int 0))) (aCons (cIdx (cVar 1) (cC (.int 0))) (aNil)))))) (tTru (cCmp .lt (cIdx (cIdx (cVar 4) (cBin .sub (cB bLen (aCons (cVar 0) (aNil))) (cC (.int 1)))) (cBin .sub (cB bLen (aCons (cVar 1) (aNil))) (cC (.int 1)))) (cVar 3)))) (sRet (cC (.bl false))) (sPass)) φ (lE l o w l.length o.length V (some (.pv (.int b))) none none none) m = .next (lE l o w l.length o.length V (some (.pv (.int b))) none none none) m := by
        unfold lE
        simp [j1, j2, j3, j4, hfar, e0, c1, len_st, e1, e2, k1, k2, c2]
      unfold m__law_is_paper
      rw [e_sseq, s0, e_seq2n, e_sseq, s1]
      rw [decide_eq_false c2, decide_eq_true c1', Bool.not_false, Bool.true_and, Bool.and_true]
      cases hk : (List.range' 0 l.length).all (fun i => (List.range' 0 o.length).all (cOk w (dd l o) V i)) with
      | false =>
        rw [h2 hk]
        simp
      | true =>
        obtain ⟨v5, v6, v7, e⟩ := h1 hk
        rw [e]
        simp
end L_k36

set_option Elab.async false
set_option linter.all false
set_option maxRecDepth 100000
set_option autoImplicit false
set_option maxHeartbeats 400000
namespace L_k36
open PySem Pn
variable {n : Nat} {m : Mem} {φ : Phi}
/-! odd papers -/
section
variable {l o : List Pt} {w : Nat} {b : Int}
theorem p_isp_a {v : PV} (hl : okS l) (ho : okS o) (hw : w ≤ 127) (h2 : 0 ≤ b) (h3 : b ≤ 100000000) (hd : dataK v = true) (h : isT v l.length l.length = false) :
    phi T (n + 7) "is_sum_paper" [.pv (st l), .pv (st o), .pv (.int w), .pv (.int b), .pv v] m = .ok (.pv (.bl false)) m := by
  have e1 := p_need_all (n := n) (m := m) hl ho (k := w) (by omega) (by omega) h2 h3
  have t1 := p_is_tuple_of (n + 5) m v l.length l.length hd
  rw [h] at t1
  rw [phi_eq t_is_sum_paper rfl]
  generalize phi T (n + 6) = φ at *
  simp [m_is_sum_paper, m_is_sum_paper_0, m_is_sum_paper_1, m_is_sum_paper_2, e1, len_st, t1]
theorem p_isp_b {rows : List PV} (hl : okS l) (ho : okS o) (hw : w ≤ 127) (h2 : 0 ≤ b) (h3 : b ≤ 100000000) (hlen : rows.length = l.length) (hd : ∀ r ∈ rows, dataK r = true) (h : (rows.all fun r => isT r o.length o.length) = false) :
    phi T (n + 7) "is_sum_paper" [.pv (st l), .pv (st o), .pv (.int w), .pv (.int b), .pv (.tup rows)] m = .ok (.pv (.bl false)) m := by
  have e1 := p_need_all (n := n) (m := m) hl ho (k := w) (by omega) (by omega) h2 h3
  have t1 := p_is_tuple_of (n + 5) m (.tup rows) l.length l.length (by simp)
  have ht : isT (.tup rows) l.length l.length = true := by simp [isT, hlen]
  rw [ht] at t1
  have t2 : ∀ r ∈ rows, phi T (n + 6) "is_tuple_of" [.pv r, .pv (.int o.length), .pv (.int o.length)] m = .ok (.pv (.bl (isT r o.length o.length))) m := fun r hr => p_is_tuple_of (n + 5) m r o.length o.length (hd r hr)
  have l2 := hl.2.1
  rw [phi_eq t_is_sum_paper rfl]
  generalize phi T (n + 6) = φ at *
  have iM : iOf m (.pv (.tup rows)) = some (rows, []) := rfl
  simp [m_is_sum_paper, m_is_sum_paper_0, m_is_sum_paper_1, m_is_sum_paper_2, e1, len_st, t1, iM]
  rw [all1 (p := fun r => isT r o.length o.length) (by omega) fun x hx => by simp [Pn.wipe, t2 x hx], h]
  simp
theorem p_isp_c {cs : List (List PV)} (hl : okS l) (ho : okS o) (hw : w ≤ 127) (h2 : 0 ≤ b) (h3 : b ≤ 100000000) (hlen : cs.length = l.length) (hr : ∀ r ∈ cs, r.length = o.length) (hd : ∀ r ∈ cs, ∀ c ∈ r, dataK c = true) (h : (cs.all fun r => r.all fun c => isW c 0 100000000) = false) :
    phi T (n + 7) "is_sum_paper" [.pv (st l), .pv (st o), .pv (.int w), .pv (.int b), .pv (.tup (cs.map PV.tup))] m = .ok (.pv (.bl false)) m := by
  have e1 := p_need_all (n := n) (m := m) hl ho (k := w) (by omega) (by omega) h2 h3
  have t1 := p_is_tuple_of (n + 5) m (.tup (cs.map PV.tup)) l.length l.length (by simp)
  have ht : isT (.tup (cs.map PV.tup)) l.length l.length = true := by simp [isT, hlen]
  rw [ht] at t1
  have t2 : ∀ r ∈ cs, phi T (n + 6) "is_tuple_of" [.pv (.tup r), .pv (.int o.length), .pv (.int o.length)] m = .ok (.pv (.bl true)) m := fun r hr' => by
    rw [p_is_tuple_of (n + 5) m (.tup r) o.length o.length (by simp)]
    have := hr r hr'
    simp [isT, this]
  have t3 : ∀ r ∈ cs, ∀ c ∈ r, phi T (n + 6) "is_whole" [.pv c, .pv (.int 0), .pv (.int 100000000)] m = .ok (.pv (.bl (isW c 0 100000000))) m := fun r hr' c hc => p_is_whole (n + 5) m c 0 100000000 (hd r hr' c hc)
  have l2 := hl.2.1
  have o2 := ho.2.1
  rw [phi_eq t_is_sum_paper rfl]
  generalize phi T (n + 6) = φ at *
  have iM : iOf m (.pv (.tup (cs.map PV.tup))) = some (cs.map PV.tup, []) := rfl
  have hst : start 13 [.pv (st l), .pv (st o), .pv (.int w), .pv (.int b), .pv (.tup (cs.map PV.tup))] = [some (.pv (st l)), some (.pv (st o)), some (.pv (.int w)), some (.pv (.int b)), some (.pv (.tup (cs.map PV.tup))), none, none, none, none, none, none, none, none] := rfl
  rw [hst]
  have s2 : m_is_sum_paper_2 φ [some (.pv (st l)), some (.pv (st o)), some (.pv (.int w)), some (.pv (.int b)), some (.pv (.tup (cs.map PV.tup))), some (.pv (.int o.length)), none, none, none, none, none, none, none] m = .next [some (.pv (st l)), some (.pv (st o)), some (.pv (.int w)), some (.pv (.int b)), some (.pv (.tup (cs.map PV.tup))), some (.pv (.int o.length)), none, none, none, none, none, none, none] m := by
    simp [m_is_sum_paper_2, len_st, t1, iM]
    rw [allf (p := fun _ => true) (by omega) fun r hr' => by simp [Pn.wipe, t2 r hr']]
    have ha : (cs.all fun _ => true) = true := List.all_eq_true.mpr fun _ _ => rfl
    simp [ha]
  have hall : cLc2 false [6, 7] (iSeq (cVar 4)) (.name 6) tYes [7] (iSeq (cVar 6)) (.name 7) tYes (cCall "is_whole" (aCons (cVar 7) (aCons (cC (.int 0)) (aCons (cC (.int 100000000)) (aNil))))) φ [some (.pv (st l)), some (.pv (st o)), some (.pv (.int w)), some (.pv (.int b)), some (.pv (.tup (cs.map PV.tup))), some (.pv (.int o.length)), none, none, none, none, none, none, none] m = .ok (.pv (.lst ((cs.map PV.tup).flatMap fun x => match x with
      | .tup r => r.map fun c => PV.bl (isW c 0 100000000)
      | _ => []))) m := by
    refine lc2_ok (by simp [iM]) (by simp; omega) fun x hx => ?_
    obtain ⟨r, hr', rfl⟩ := List.mem_map.mp hx
    have hrl := hr r hr'
    refine lcTwo_ok (ρ2 := [some (.pv (st l)), some (.pv (st o)), some (.pv (.int w)), some (.pv (.int b)), some (.pv (.tup (cs.map PV.tup))), some (.pv (.int o.length)), some (.pv (.tup r)), none, none, none, none, none, none]) (ys := r) rfl ?_ (by omega) ?_
    · have iR : iOf m (.pv (.tup r)) = some (r, []) := rfl
      simp [Pn.wipe, iR]
    · rw [lcL_map (h := fun c => PV.bl (isW c 0 100000000)) fun c hc => by simp [Pn.wipe, t3 r hr' c hc]]
  have hba : bAll m [.pv (.lst ((cs.map PV.tup).flatMap fun x => match x with
      | .tup r => r.map fun c => PV.bl (isW c 0 100000000)
      | _ => []))] = some (.pv (.bl false)) := by
    have e : ((cs.map PV.tup).flatMap fun x => match x with
      | .tup r => r.map fun c => PV.bl (isW c 0 100000000)
      | _ => []) = (cs.flatMap fun r => r.map fun c => isW c 0 100000000).map PV.bl := by
      rw [List.map_flatMap, List.flatMap_map]
      congr 1
      funext r
      rw [List.map_map]; rfl
    rw [v_all e]
    have : ((cs.flatMap fun r => r.map fun c => isW c 0 100000000).all id) = false := by
      rw [List.all_flatMap]
      simpa [List.all_map, Function.comp_def] using h
    rw [this]
  have s3 : m_is_sum_paper_3 φ [some (.pv (st l)), some (.pv (st o)), some (.pv (.int w)), some (.pv (.int b)), some (.pv (.tup (cs.map PV.tup))), some (.pv (.int o.length)), none, none, none, none, none, none, none] m = .ret (.pv (.bl false)) m := by
    unfold m_is_sum_paper_3
    rw [e_sif, e_tor]
    have ea : tNot (tTru (cB bAll (aCons (cLc2 false [6, 7] (iSeq (cVar 4)) (.name 6) tYes [7] (iSeq (cVar 6)) (.name 7) tYes (cCall "is_whole" (aCons (cVar 7) (aCons (cC (.int 0)) (aCons (cC (.int 100000000)) (aNil)))))) (aNil)))) φ [some (.pv (st l)), some (.pv (st o)), some (.pv (.int w)), some (.pv (.int b)), some (.pv (.tup (cs.map PV.tup))), some (.pv (.int o.length)), none, none, none, none, none, none, none] m = .ok true m := by
      simp only [e_tnot, e_tru, e_blt, e_cons]
      rw [hall]
      simp only [e_cons1, e_nil, e_cons2, e_blt1]
      rw [hba]
      simp
    rw [ea]
    simp
  have s0 : m_is_sum_paper_0 φ [some (.pv (st l)), some (.pv (st o)), some (.pv (.int w)), some (.pv (.int b)), some (.pv (.tup (cs.map PV.tup))), none, none, none, none, none, none, none, none] m = .next [some (.pv (st l)), some (.pv (st o)), some (.pv (.int w)), some (.pv (.int b)), some (.pv (.tup (cs.map PV.tup))), none, none, none, none, none, none, none, none] m := by
    simp [m_is_sum_paper_0, e1]
  have s1 : m_is_sum_paper_1 φ [some (.pv (st l)), some (.pv (st o)), some (.pv (.int w)), some (.pv (.int b)), some (.pv (.tup (cs.map PV.tup))), none, none, none, none, none, none, none, none] m = .next [some (.pv (st l)), some (.pv (st o)), some (.pv (.int w)), some (.pv (.int b)), some (.pv (.tup (cs.map PV.tup))), some (.pv (.int o.length)), none, none, none, none, none, none, none] m := by
    simp [m_is_sum_paper_1, len_st]
  simp only [m_is_sum_paper, e_sseq, s0, e_seq2n, s1, s2, s3, e_seq2r]
  simp
end
/-! papers by name -/
theorem zero_pap {d : Nat → Nat → Int} {w N M : Nat} (hd : ∀ i j, 0 ≤ d i j) : isPap w d 0 N M (fun _ _ => 0) = true := by
  unfold isPap
  rw [decide_eq_false (show ¬ (0 : Int) < 0 by omega), decide_eq_true (hd 0 0), Bool.not_false, Bool.true_and, Bool.and_true]
  refine List.all_eq_true.mpr fun i _ => List.all_eq_true.mpr fun j _ => ?_
  unfold cOk
  by_cases hr : rwB w (fun _ _ => (0 : Int)) i j = []
  · rw [hr]; simp
  · obtain ⟨q, _, he⟩ := List.mem_map.mp (mn0_mem hr)
    have := hd i j
    have he : (0 : Int) = mn0 (rwB w (fun _ _ => (0 : Int)) i j) := he
    rw [decide_eq_false (show ¬ mn0 (rwB w (fun _ _ => (0 : Int)) i j) + d i j < 0 by omega)]
    simp
theorem rwB_pot {w : Nat} {l o : List Pt} {i j : Nat} : rwB w (pot w l o) i j = rwB w (S w (dd l o)) i j := by
  unfold rwB
  apply List.map_congr_left
  intro q hq
  unfold pot
  rw [if_pos (List.mem_filter.mp hq).2]
theorem pot_pap {l o : List Pt} {w N M : Nat} {b : Int} (hb : b ≤ pot w l o (N - 1) (M - 1)) : isPap w (dd l o) b N M (pot w l o) = true := by
  unfold isPap
  have h00 : pot w l o 0 0 = dd l o 0 0 := by
    unfold pot
    rw [if_pos (by simp [bnd]), S]
    simp
  rw [decide_eq_false (show ¬ pot w l o (N - 1) (M - 1) < b by omega), decide_eq_true (show pot w l o 0 0 ≤ dd l o 0 0 by omega), Bool.not_false, Bool.true_and, Bool.and_true]
  refine List.all_eq_true.mpr fun i _ => List.all_eq_true.mpr fun j _ => ?_
  unfold cOk
  rw [rwB_pot]
  cases hbd : bnd w (i, j) with
  | false => rfl
  | true =>
    have e : pot w l o i j = S w (dd l o) i j := by unfold pot; rw [if_pos hbd]
    rw [e, S_eq, decide_eq_false (show ¬ mn0 (rwB w (S w (dd l o)) i j) + dd l o i j < dd l o i j + mn0 (rwB w (S w (dd l o)) i j) by omega)]
    simp
/-! cuts and bends -/
theorem cut_to {α : Type} {xs : List α} {k : Nat} (h : k ≤ xs.length) : cut xs none (some (k : Int)) = xs.take k := by
  have : HT.sIx xs.length xs.length (some (k : Int)) = k := by
    show (if (k : Int) < 0 then ((k : Int) + xs.length).toNat else min (k : Int).toNat xs.length) = k
    rw [if_neg (by omega)]; omega
  unfold cut
  rw [this]
  simp [HT.sIx]
theorem cut_from {α : Type} {xs : List α} {k : Nat} (h : k ≤ xs.length) : cut xs (some (k : Int)) none = xs.drop k := by
  have : HT.sIx xs.length 0 (some (k : Int)) = k := by
    show (if (k : Int) < 0 then ((k : Int) + xs.length).toNat else min (k : Int).toNat xs.length) = k
    rw [if_neg (by omega)]; omega
  unfold cut
  rw [this]
  have e2 : HT.sIx xs.length xs.length none = xs.length := rfl
  rw [e2]
  exact List.take_of_length_le (by simp)
theorem cut_mem {α : Type} {r : List α} {lo hi : Option Int} {p : α} (h : p ∈ cut r lo hi) : p ∈ r := List.mem_of_mem_drop (List.mem_of_mem_take h)
theorem cut_len {α : Type} {r : List α} {lo hi : Option Int} : (cut r lo hi).length ≤ r.length := by
  unfold cut
  rw [List.length_take, List.length_drop]; omega
def bent (V : Nat → Nat → Int) (i j : Nat) (x : Int) : Nat → Nat → Int := fun a b => if a = i ∧ b = j then x else V a b
theorem take_set {α : Type} {xs : List α} {i : Nat} {y : α} (h : i < xs.length) : xs.take i ++ [y] ++ xs.drop (i + 1) = xs.set i y := by
  rw [List.set_eq_take_append_cons_drop, if_pos h]
  simp
theorem range_set {f g : Nat → PV} {N i : Nat} (h : ∀ a, a ≠ i → g a = f a) : ((List.range N).map f).set i (g i) = (List.range N).map g := by
  apply List.ext_getElem
  · simp
  · intro a h1 h2
    rw [List.getElem_set]
    by_cases e : i = a
    · subst e; simp
    · rw [if_neg e]; simp [h a (Ne.symm e)]
theorem bent_row {V : Nat → Nat → Int} {i j M : Nat} {x : Int} (h : j < M) : ((List.range M).map fun j => PV.int (V i j)).take j ++ [PV.int x] ++ ((List.range M).map fun j => PV.int (V i j)).drop (j + 1) = (List.range M).map fun b => PV.int (bent V i j x i b) := by
  rw [take_set (by simpa using h)]
  have := range_set (f := fun j => PV.int (V i j)) (g := fun b => PV.int (bent V i j x i b)) (N := M) (i := j) fun a ha => by unfold bent; rw [if_neg (by simp [ha])]
  rw [← this]
  congr 1
  unfold bent
  rw [if_pos ⟨rfl, rfl⟩]
theorem bent_mat {V : Nat → Nat → Int} {i j N M : Nat} {x : Int} (h : i < N) : ((List.range N).map (mrow M V)).take i ++ [mrow M (bent V i j x) i] ++ ((List.range N).map (mrow M V)).drop (i + 1) = (List.range N).map (mrow M (bent V i j x)) := by
  rw [take_set (by simpa using h)]
  exact range_set (f := mrow M V) (g := mrow M (bent V i j x)) fun a ha => by
    unfold mrow bent
    congr 1
    apply List.map_congr_left
    intro b _
    rw [if_neg (by simp [ha])]
end L_k36

set_option Elab.async false
set_option linter.all false
set_option maxRecDepth 100000
set_option autoImplicit false
set_option maxHeartbeats 1000000
namespace L_k36
open PySem Pn
variable {n : Nat} {m : Mem} {φ : Phi} {mr : Mem}
/-! bounds of sums -/
theorem far_le {B : Int} {p q : Pt} (hp : inB B p) (hq : inB B q) : farI p q ≤ 2 * B := by
  obtain ⟨p1, p2, p3, p4⟩ := hp
  obtain ⟨q1, q2, q3, q4⟩ := hq
  simp only [farI, ab_max]
  omega
theorem gd_in {B : Int} {l : List Pt} (h : ∀ p ∈ l, inB B p) {i : Nat} (hi : i < l.length) : inB B (gd l i) := by
  have e1 : gd l i = l[i] := by unfold gd; rw [List.getD_eq_getElem?_getD, List.getElem?_eq_getElem hi]; rfl
  rw [e1]
  exact h _ (List.getElem_mem hi)
theorem S_nn {g : Nat} {d : Nat → Nat → Int} (hd : ∀ i j, 0 ≤ d i j) : ∀ (k a b : Nat), a + b < k → 0 ≤ S g d a b
  | 0, a, b, h => absurd h (by omega)
  | k + 1, a, b, h => by
    rw [S_eq]
    have := hd a b
    by_cases hr : rwB g (S g d) a b = []
    · rw [hr]; show 0 ≤ d a b + 0; omega
    · obtain ⟨q, hq, he⟩ := List.mem_map.mp (mn0_mem hr)
      have hl := ahead_lt (List.mem_filter.mp hq).1
      have h3 := S_nn (g := g) hd k q.1 q.2 (by omega)
      have he' : S g d q.1 q.2 = mn0 (rwB g (S g d) a b) := he
      omega
theorem S_ub {g : Nat} {d : Nat → Nat → Int} {B : Int} (hB : 0 ≤ B) : ∀ (k a b : Nat), a + b < k → bnd g (a, b) = true → (∀ i j, i ≤ a → j ≤ b → d i j ≤ B) → S g d a b ≤ B * (((a + b : Nat) : Int) + 1)
  | 0, a, b, h, _, _ => absurd h (by omega)
  | k + 1, a, b, h, hb, hd => by
    rw [S_eq]
    have h0 := hd a b (Nat.le_refl _) (Nat.le_refl _)
    have e : B * (((a + b : Nat) : Int) + 1) = B * ((a + b : Nat) : Int) + B := by rw [Int.mul_add, Int.mul_one]
    have hnn : 0 ≤ B * ((a + b : Nat) : Int) := Int.mul_nonneg hB (by omega)
    by_cases hr : rwB g (S g d) a b = []
    · rw [hr, e]; show d a b + 0 ≤ _; omega
    · obtain ⟨q, hq, he⟩ := List.mem_map.mp (mn0_mem hr)
      have hl := ahead_lt (List.mem_filter.mp hq).1
      have := S_ub hB k q.1 q.2 (by omega) (List.mem_filter.mp hq).2 fun i j hi hj => hd i j (by omega) (by omega)
      have he' : S g d q.1 q.2 = mn0 (rwB g (S g d) a b) := he
      have e2 : B * (((q.1 + q.2 : Nat) : Int) + 1) ≤ B * ((a + b : Nat) : Int) := Int.mul_le_mul_of_nonneg_left (by omega) hB
      omega
theorem p_lsome {α : Type} {g : α → PV} {rs : List α} {a b : Int} (hM : okM a b) (h0 : 1 ≤ rs.length) (h1 : rs.length ≤ 100000) : ∃ r a' b', phi T (n + 2) "_law_some" [.ref 0, .pv (.lst (rs.map g))] (M mr a b) = .ok (.pv (g r)) (M mr a' b') ∧ okM a' b' ∧ r ∈ rs := by
  rw [phi_eq t__law_some rfl]
  obtain ⟨r, a1, b1, e1, o1, r0, r1⟩ := p_roll (n := n) (mr := mr) hM (show (0 : Int) < rs.length by omega) (by omega)
  generalize phi T (n + 1) = φ at *
  obtain ⟨i, rfl⟩ : ∃ i : Nat, r = i := ⟨r.toNat, by omega⟩
  have hi : i < rs.length := by omega
  refine ⟨rs[i], a1, b1, ?_, o1, List.getElem_mem hi⟩
  have el : bLen (M mr a b) [.pv (.lst (rs.map g))] = some (.pv (.int rs.length)) := by simp
  have ei : idx (M mr a1 b1) (.pv (.lst (rs.map g))) (.pv (.int i)) = some (.pv (g rs[i])) := v_idxL (atI_nat (by rw [List.getElem?_map, List.getElem?_eq_getElem hi]; rfl))
  simp [m__law_some, el, e1, ei, M_len, M_take]
theorem slc_row {r : List NP} {lo hi : Option Int} : slc m (.pv (rowP r)) lo hi = some (.pv (rowP (cut r lo hi))) := by
  show some (Val.pv (.tup (cut (r.map np) lo hi))) = _
  have : cut (r.map np) lo hi = (cut r lo hi).map np := by
    unfold cut
    rw [List.length_map, List.map_take, List.map_drop]
  rw [this]; rfl
theorem add_row {a b : List NP} (h : a.length + b.length ≤ 1000) : bin .add m (.pv (rowP a)) (.pv (rowP b)) = some (.pv (rowP (a ++ b))) := by
  unfold rowP
  rw [v_addT (by simp; omega), List.map_append]
theorem rev_row {a : List NP} : revV m (.pv (rowP a)) = some (.pv (rowP a.reverse)) := by
  show some (Val.pv (.tup (a.map np).reverse)) = _
  rw [← List.map_reverse]; rfl
theorem pow8 : bin .pow m (.pv (.int 10)) (.pv (.int 8)) = some (.pv (.int 100000000)) := by
  rw [v_powI (by decide +kernel)]; rfl
theorem ne_bl {x y : Bool} : cmp .ne m (.pv (.bl x)) (.pv (.bl y)) = some (.pv (.bl (!(x == y)))) := by
  rw [v_ne (by simp [PV.okD]) (by simp [PV.okD])]; simp [eqP]
theorem lst1_4 {p1 p2 p3 p4 : PV} : lst1 (.ok [.pv p1, .pv p2, .pv p3, .pv p4] m) = .ok (.pv (.lst [p1, p2, p3, p4])) m := (rfl)
theorem lst1_9 {p1 p2 p3 p4 p5 p6 p7 p8 p9 : PV} : lst1 (.ok [.pv p1, .pv p2, .pv p3, .pv p4, .pv p5, .pv p6, .pv p7, .pv p8, .pv p9] m) = .ok (.pv (.lst [p1, p2, p3, p4, p5, p6, p7, p8, p9])) m := (rfl)
theorem lst1_8 {p1 p2 p3 p4 p5 p6 p7 p8 : PV} : lst1 (.ok [.pv p1, .pv p2, .pv p3, .pv p4, .pv p5, .pv p6, .pv p7, .pv p8] m) = .ok (.pv (.lst [p1, p2, p3, p4, p5, p6, p7, p8])) m := (rfl)
def RS (l o : List Pt) (w : Nat) : PV := .lst ((cps l.length o.length w).map rowP)
def rr (most side : Int) (l o : List Pt) (w : Nat) (sums row least best turn at_ value bound paper due by_ good odds : Option Val) : Pn.Env :=
  [some (.ref 0), some (.pv (.int most)), some (.pv (.int side)), some (.pv (st l)), some (.pv (st o)), some (.pv (.int w)), some (.pv (RS l o w)), sums, row, least, best, turn, at_, value, bound, paper, due, by_, good, odds, none]
structure Fx (φ : Phi) (l o : List Pt) (w : Nat) : Prop where
  hl : okS l
  ho : okS o
  l4 : l.length ≤ 4
  o4 : o.length ≤ 4
  hw : w ∈ lags
  same : ∀ v m, fit 5 v = true → φ "_law_same" [.pv v, .pv v] m = .ok (.pv (.bl true)) m
  sumof : ∀ ps m, ps.length ≤ 1000 → (∀ p ∈ ps, p.1 ≤ l.length - 1 ∧ p.2 ≤ o.length - 1) → φ "sum_of" [.pv (st l), .pv (st o), .pv (.int w), .pv (rowP ps)] m = .ok (.pv (oI (if ps ∈ cps l.length o.length w then some (sumC (dd l o) ps) else none))) m
  price : ∀ ps m, ps.length ≤ 1000 → (∀ p ∈ ps, p.1 < l.length ∧ p.2 < o.length) → φ "_law_price" [.pv (st l), .pv (st o), .pv (rowP ps)] m = .ok (.pv (.int (sumC (dd l o) ps))) m
  roll : ∀ {a b k : Int}, okM a b → 0 < k → k ≤ 1000000 → ∃ r a' b', φ "_law_roll" [.ref 0, .pv (.int k)] (M [] a b) = .ok (.pv (.int r)) (M [] a' b') ∧ okM a' b' ∧ 0 ≤ r ∧ r < k
  some1 : ∀ {rs : List (List NP)} {a b : Int}, okM a b → 1 ≤ rs.length → rs.length ≤ 100000 → ∃ r a' b', φ "_law_some" [.ref 0, .pv (.lst (rs.map rowP))] (M [] a b) = .ok (.pv (rowP r)) (M [] a' b') ∧ okM a' b' ∧ r ∈ rs
  some2 : ∀ {rs : List Int} {a b : Int}, okM a b → 1 ≤ rs.length → rs.length ≤ 100000 → ∃ r a' b', φ "_law_some" [.ref 0, .pv (.lst (rs.map PV.int))] (M [] a b) = .ok (.pv (.int r)) (M [] a' b') ∧ okM a' b' ∧ r ∈ rs
  paper : ∀ (b : Int) m, 0 ≤ b → b ≤ 100000000 → φ "sum_paper" [.pv (st l), .pv (st o), .pv (.int w), .pv (.int b)] m = .ok (.pv (if (sumO w l o).any (fun s => decide (s < b)) then .non else mat l.length o.length (pot w l o))) m
  isp : ∀ (b : Int) V m, 0 ≤ b → b ≤ 100000000 → (∀ i j, i < l.length → j < o.length → 0 ≤ V i j ∧ V i j ≤ 100000000) → φ "is_sum_paper" [.pv (st l), .pv (st o), .pv (.int w), .pv (.int b), .pv (mat l.length o.length V)] m = .ok (.pv (.bl (isPap w (dd l o) b l.length o.length V))) m
  lip : ∀ (b : Int) V m, φ "_law_is_paper" [.pv (st l), .pv (st o), .pv (.int w), .pv (.int b), .pv (mat l.length o.length V)] m = .ok (.pv (.bl (isPap w (dd l o) b l.length o.length V))) m
  pots : ∀ i j, i < l.length → j < o.length → 0 ≤ pot w l o i j ∧ pot w l o i j ≤ 100000000
section
variable {most side : Int} {l o : List Pt} {w : Nat} {sums row least best turn at_ value bound paper due by_ good odds : Option Val}
noncomputable abbrev tA1 : SDen := (sSet 8 (cCall "_law_some" (aCons (cVar 0) (aCons (cVar 6) (aNil)))))
noncomputable abbrev tA2 : SDen := (sIf (tNot (tTru (cCall "_law_same" (aCons (cCall "sum_of" (aCons (cVar 3) (aCons (cVar 4) (aCons (cVar 5) (aCons (cVar 8) (aNil)))))) (aCons (cCall "_law_price" (aCons (cVar 3) (aCons (cVar 4) (aCons (cVar 8) (aNil))))) (aNil)))))) (sRet (cC (.bl false))) (sPass))
noncomputable abbrev tA3 : SDen := (sSet 12 (cCall "_law_roll" (aCons (cVar 0) (aCons (cB bLen (aCons (cVar 8) (aNil))) (aNil)))))
noncomputable abbrev tA4 : SDen := (sSet 13 (cCall "_law_some" (aCons (cVar 0) (aCons (cLst (aCons (cBin .add (cSlc (cVar 8) (oNone) (oSome (cVar 12))) (cSlc (cVar 8) (oSome (cBin .add (cVar 12) (cC (.int 1)))) (oNone))) (aCons (cBin .add (cBin .add (cSlc (cVar 8) (oNone) (oSome (cVar 12))) (cSlc (cVar 8) (oSome (cVar 12)) (oSome (cBin .add (cVar 12) (cC (.int 1)))))) (cSlc (cVar 8) (oSome (cVar 12)) (oNone))) (aCons (cRev (cVar 8)) (aNil))))) (aNil)))))
noncomputable abbrev tA5 : SDen := (sIf (tNot (tTru (cCall "_law_same" (aCons (cCall "sum_of" (aCons (cVar 3) (aCons (cVar 4) (aCons (cVar 5) (aCons (cVar 13) (aNil)))))) (aCons (cIf (tTru (cCmp .isin (cVar 13) (cVar 6))) (cCall "_law_price" (aCons (cVar 3) (aCons (cVar 4) (aCons (cVar 13) (aNil))))) (cC .non)) (aNil)))))) (sRet (cC (.bl false))) (sPass))
noncomputable abbrev tA : SDen := sSeq tA1 (sSeq tA2 (sSeq tA3 (sSeq tA4 tA5)))
theorem tA_step (F : Fx φ l o w) {a b : Int} (hM : okM a b) (hne : 1 ≤ (cps l.length o.length w).length) :
    ∃ a' b' row' at' value', tA φ (rr most side l o w sums row least best turn at_ value bound paper due by_ good odds) (M [] a b) = .next (rr most side l o w sums row' least best turn at' value' bound paper due by_ good odds) (M [] a' b') ∧ okM a' b' := by
  have l1 := F.hl.1
  have o1 := F.ho.1
  have h63 := cps_63 l1 F.l4 o1 F.o4 F.hw
  obtain ⟨r, a1, b1, e1, oM1, hr⟩ := F.some1 (rs := cps l.length o.length w) hM hne (by omega)
  obtain ⟨rne, rl, rin⟩ := cps_in l1 F.l4 o1 F.o4 F.hw hr
  have rpos : 1 ≤ r.length := by cases r with
    | nil => exact absurd rfl rne
    | cons _ _ => simp
  obtain ⟨x, a2, b2, e2, oM2, x0, x1⟩ := F.roll oM1 (show (0 : Int) < r.length by omega) (by omega)
  have c1 := cut_len (r := r) (lo := none) (hi := some x)
  have c2 := cut_len (r := r) (lo := some (x + 1)) (hi := none)
  have c3 := cut_len (r := r) (lo := some x) (hi := some (x + 1))
  have c4 := cut_len (r := r) (lo := some x) (hi := none)
  obtain ⟨v, a3, b3, e3, oM3, hv⟩ := F.some1 (rs := [cut r none (some x) ++ cut r (some (x + 1)) none, cut r none (some x) ++ cut r (some x) (some (x + 1)) ++ cut r (some x) none, r.reverse]) oM2 (by simp) (by simp)
  have hvv : v.length ≤ 1000 ∧ ∀ p ∈ v, p.1 ≤ l.length - 1 ∧ p.2 ≤ o.length - 1 := by
    simp only [List.mem_cons, List.not_mem_nil, or_false] at hv
    rcases hv with rfl | rfl | rfl
    · refine ⟨by rw [List.length_append]; omega, fun p hp => rin p ?_⟩
      rcases List.mem_append.mp hp with hp | hp
      · exact cut_mem hp
      · exact cut_mem hp
    · refine ⟨by rw [List.length_append, List.length_append]; omega, fun p hp => rin p ?_⟩
      rcases List.mem_append.mp hp with hp | hp
      · rcases List.mem_append.mp hp with hp | hp
        · exact cut_mem hp
        · exact cut_mem hp
      · exact cut_mem hp
    · exact ⟨by simp; omega, fun p hp => rin p (by simpa using hp)⟩
  obtain ⟨vl, vin⟩ := hvv
  have el : bLen (M [] a1 b1) [.pv (rowP r)] = some (.pv (.int r.length)) := by simp [rowP]
  have e1' : φ "_law_some" [.ref 0, .pv (RS l o w)] (M [] a b) = .ok (.pv (rowP r)) (M [] a1 b1) := e1
  have s1 : tA1 φ (rr most side l o w sums row least best turn at_ value bound paper due by_ good odds) (M [] a b) = .next (rr most side l o w sums (some (.pv (rowP r))) least best turn at_ value bound paper due by_ good odds) (M [] a1 b1) := by
    unfold rr
    simp [e1']
  have f2 := F.sumof r (M [] a1 b1) (by omega) rin
  rw [if_pos hr] at f2
  have f3 := F.price r (M [] a1 b1) (by omega) fun p hp => by have := rin p hp; omega
  have f4 := F.same (.int (sumC (dd l o) r)) (M [] a1 b1) (by simp [fit])
  simp only [oI] at f2
  have s2 : tA2 φ (rr most side l o w sums (some (.pv (rowP r))) least best turn at_ value bound paper due by_ good odds) (M [] a1 b1) = .next (rr most side l o w sums (some (.pv (rowP r))) least best turn at_ value bound paper due by_ good odds) (M [] a1 b1) := by
    unfold rr
    simp [f2, f3, f4]
  have s3 : tA3 φ (rr most side l o w sums (some (.pv (rowP r))) least best turn at_ value bound paper due by_ good odds) (M [] a1 b1) = .next (rr most side l o w sums (some (.pv (rowP r))) least best turn (some (.pv (.int x))) value bound paper due by_ good odds) (M [] a2 b2) := by
    unfold rr
    simp [el, e2]
  have a12 := add_row (m := M [] a2 b2) (a := cut r none (some x)) (b := cut r (some (x + 1)) none) (by omega)
  have a13 := add_row (m := M [] a2 b2) (a := cut r none (some x)) (b := cut r (some x) (some (x + 1))) (by omega)
  have a134 := add_row (m := M [] a2 b2) (a := cut r none (some x) ++ cut r (some x) (some (x + 1))) (b := cut r (some x) none) (by rw [List.length_append]; omega)
  have w1 := slc_row (m := M [] a2 b2) (r := r) (lo := none) (hi := some x)
  have w2 := slc_row (m := M [] a2 b2) (r := r) (lo := some (x + 1)) (hi := none)
  have w3 := slc_row (m := M [] a2 b2) (r := r) (lo := some x) (hi := some (x + 1))
  have w4 := slc_row (m := M [] a2 b2) (r := r) (lo := some x) (hi := none)
  have w5 := rev_row (m := M [] a2 b2) (a := r)
  simp only [List.map_cons, List.map_nil] at e3
  generalize hX1 : rowP (cut r none (some x) ++ cut r (some (x + 1)) none) = X1 at *
  generalize hX2 : rowP (cut r none (some x) ++ cut r (some x) (some (x + 1)) ++ cut r (some x) none) = X2 at *
  generalize hX3 : rowP r.reverse = X3 at *
  generalize hX4 : rowP (cut r none (some x) ++ cut r (some x) (some (x + 1))) = X4 at *
  generalize hY1 : rowP (cut r none (some x)) = Y1 at *
  generalize hY2 : rowP (cut r (some (x + 1)) none) = Y2 at *
  generalize hY3 : rowP (cut r (some x) (some (x + 1))) = Y3 at *
  generalize hY4 : rowP (cut r (some x) none) = Y4 at *
  have s4 : tA4 φ (rr most side l o w sums (some (.pv (rowP r))) least best turn (some (.pv (.int x))) value bound paper due by_ good odds) (M [] a2 b2) = .next (rr most side l o w sums (some (.pv (rowP r))) least best turn (some (.pv (.int x))) (some (.pv (rowP v))) bound paper due by_ good odds) (M [] a3 b3) := by
    unfold rr
    simp [w1, w2, w3, w4, w5, a12, a13, a134, e3]
  have f5 := F.sumof v (M [] a3 b3) vl vin
  have f6 := F.price v (M [] a3 b3) vl fun p hp => by have := vin p hp; omega
  have hin := in_row (m := M [] a3 b3) (p := v) (rs := cps l.length o.length w)
  have hin' : cmp .isin (M [] a3 b3) (.pv (rowP v)) (.pv (RS l o w)) = some (.pv (.bl (decide (v ∈ cps l.length o.length w)))) := hin
  have s5 : tA5 φ (rr most side l o w sums (some (.pv (rowP r))) least best turn (some (.pv (.int x))) (some (.pv (rowP v))) bound paper due by_ good odds) (M [] a3 b3) = .next (rr most side l o w sums (some (.pv (rowP r))) least best turn (some (.pv (.int x))) (some (.pv (rowP v))) bound paper due by_ good odds) (M [] a3 b3) := by
    by_cases hm : v ∈ cps l.length o.length w
    · rw [if_pos hm] at f5
      rw [decide_eq_true hm] at hin'
      have f7 := F.same (.int (sumC (dd l o) v)) (M [] a3 b3) (by simp [fit])
      simp only [oI] at f5
      unfold rr
      simp [hin', f5, f6, f7]
    · rw [if_neg hm] at f5
      rw [decide_eq_false hm] at hin'
      have f7 := F.same .non (M [] a3 b3) (by simp [fit])
      simp only [oI] at f5
      unfold rr
      simp [hin', f5, f7]
  refine ⟨a3, b3, some (.pv (rowP r)), some (.pv (.int x)), some (.pv (rowP v)), ?_, oM3⟩
  unfold tA
  simp only [e_sseq, s1, e_seq2n, s2, s3, s4, s5]
theorem tA_loop (F : Fx φ l o w) (hne : 1 ≤ (cps l.length o.length w).length) : ∀ (xs : List PV) (a b : Int) (row turn at_ value : Option Val), okM a b →
    ∃ a' b' row' turn' at' value', forL (.name 11) (tA φ) [] xs (rr most side l o w sums row least best turn at_ value bound paper due by_ good odds) (M [] a b) = .next (rr most side l o w sums row' least best turn' at' value' bound paper due by_ good odds) (M [] a' b') ∧ okM a' b'
  | [], a, b, row, turn, at_, value, hM => ⟨a, b, row, turn, at_, value, by simp, hM⟩
  | x :: xs, a, b, row, turn, at_, value, hM => by
    obtain ⟨a1, b1, row1, at1, value1, e1, o1⟩ := tA_step (most := most) (side := side) (sums := sums) (row := row) (least := least) (best := best) (turn := some (.pv x)) (at_ := at_) (value := value) (bound := bound) (paper := paper) (due := due) (by_ := by_) (good := good) (odds := odds) F hM hne
    obtain ⟨a2, b2, row2, turn2, at2, value2, e2, o2⟩ := tA_loop F hne xs a1 b1 row1 (some (.pv x)) at1 value1 o1
    refine ⟨a2, b2, row2, turn2, at2, value2, ?_, o2⟩
    rw [e_forL1, e_asgnN, e_forA]
    show forB _ _ _ _ (tA φ (rr most side l o w sums row least best (some (.pv x)) at_ value bound paper due by_ good odds) (M [] a b)) = _
    rw [e1, e_forBn, e2]
noncomputable abbrev tB1 : SDen := (sSet 15 (cCall "sum_paper" (aCons (cVar 3) (aCons (cVar 4) (aCons (cVar 5) (aCons (cVar 14) (aNil)))))))
noncomputable abbrev tB2 : SDen := (sIf (tTru (cCmp .ne (cCmp .is (cVar 15) (cC .non)) (cAnd (cCmp .isnot (cVar 9) (cC .non)) (cCmp .lt (cVar 9) (cVar 14))))) (sRet (cC (.bl false))) (sPass))
noncomputable abbrev tB3 : SDen := (sIf (tAnd (tTru (cCmp .isnot (cVar 15) (cC .non))) (tOr (tNot (tTru (cCall "_law_is_paper" (aCons (cVar 3) (aCons (cVar 4) (aCons (cVar 5) (aCons (cVar 14) (aCons (cVar 15) (aNil))))))))) (tTru (cCmp .isnot (cCall "is_sum_paper" (aCons (cVar 3) (aCons (cVar 4) (aCons (cVar 5) (aCons (cVar 14) (aCons (cVar 15) (aNil))))))) (cC (.bl true)))))) (sRet (cC (.bl false))) (sPass))
noncomputable abbrev tC1 : SDen := (sPar [12, 17] (aCons (cCall "_law_roll" (aCons (cVar 0) (aCons (cB bLen (aCons (cVar 3) (aNil))) (aNil)))) (aCons (cCall "_law_roll" (aCons (cVar 0) (aCons (cB bLen (aCons (cVar 4) (aNil))) (aNil)))) (aNil))))
noncomputable abbrev tC2 : SDen := (sSet 8 (cBin .add (cBin .add (cSlc (cIdx (cVar 15) (cVar 12)) (oNone) (oSome (cVar 17))) (cTup (aCons (cCall "_law_some" (aCons (cVar 0) (aCons (cLst (aCons (cC (.int 0)) (aCons (cB bMax2 (aCons (cC (.int 0)) (aCons (cBin .sub (cIdx (cIdx (cVar 15) (cVar 12)) (cVar 17)) (cC (.int 1))) (aNil)))) (aCons (cB bMin2 (aCons (cBin .pow (cC (.int 10)) (cC (.int 8))) (aCons (cBin .add (cIdx (cIdx (cVar 15) (cVar 12)) (cVar 17)) (cC (.int 1))) (aNil)))) (aCons (cBin .pow (cC (.int 10)) (cC (.int 8))) (aNil)))))) (aNil)))) (aNil)))) (cSlc (cIdx (cVar 15) (cVar 12)) (oSome (cBin .add (cVar 17) (cC (.int 1)))) (oNone))))
noncomputable abbrev tC3 : SDen := (sSet 13 (cBin .add (cBin .add (cSlc (cVar 15) (oNone) (oSome (cVar 12))) (cTup (aCons (cVar 8) (aNil)))) (cSlc (cVar 15) (oSome (cBin .add (cVar 12) (cC (.int 1)))) (oNone))))
noncomputable abbrev tC4 : SDen := (sSet 16 (cCall "_law_is_paper" (aCons (cVar 3) (aCons (cVar 4) (aCons (cVar 5) (aCons (cVar 14) (aCons (cVar 13) (aNil))))))))
noncomputable abbrev tC5 : SDen := (sIf (tOr (tTru (cCmp .ne (cB bRep (aCons (cCall "is_sum_paper" (aCons (cVar 3) (aCons (cVar 4) (aCons (cVar 5) (aCons (cVar 14) (aCons (cVar 13) (aNil))))))) (aNil))) (cB bRep (aCons (cVar 16) (aNil))))) (tAnd (tTru (cVar 16)) (tAnd (tTru (cCmp .isnot (cVar 9) (cC .non))) (tTru (cCmp .lt (cVar 9) (cVar 14)))))) (sRet (cC (.bl false))) (sPass))
noncomputable abbrev tC : SDen := sSeq tC1 (sSeq tC2 (sSeq tC3 (sSeq tC4 tC5)))
noncomputable abbrev tB4 : SDen := sFor (.name 11) (iB rngB1 (aCons (cIf (tTru (cCmp .isnot (cVar 15) (cC .non))) (cC (.int 4)) (cC (.int 0))) (aNil))) tC
noncomputable abbrev tB : SDen := sSeq tB1 (sSeq tB2 (sSeq tB3 tB4))
theorem tC_step (F : Fx φ l o w) {a b bd : Int} {V : Nat → Nat → Int} (hM : okM a b) (h0 : 0 ≤ bd) (h1 : bd ≤ 100000000) (hV : ∀ i j, i < l.length → j < o.length → 0 ≤ V i j ∧ V i j ≤ 100000000) (hs : ∀ s, sumO w l o = some s → ¬ s < bd) :
    ∃ a' b' row' at' value' due' by', tC φ (rr most side l o w sums row (some (.pv (oI (sumO w l o)))) best turn at_ value (some (.pv (.int bd))) (some (.pv (mat l.length o.length V))) due by_ good odds) (M [] a b) = .next (rr most side l o w sums row' (some (.pv (oI (sumO w l o)))) best turn at' value' (some (.pv (.int bd))) (some (.pv (mat l.length o.length V))) due' by' good odds) (M [] a' b') ∧ okM a' b' := by
  have l1 := F.hl.1
  have o1 := F.ho.1
  have l2 := F.hl.2.1
  have o2 := F.ho.2.1
  obtain ⟨i', a1, b1, e1, oM1, i0, i1⟩ := F.roll hM (show (0 : Int) < l.length by omega) (by omega)
  obtain ⟨j', a2, b2, e2, oM2, j0, j1⟩ := F.roll oM1 (show (0 : Int) < o.length by omega) (by omega)
  obtain ⟨i, rfl⟩ : ∃ i : Nat, i' = i := ⟨i'.toNat, by omega⟩
  obtain ⟨j, rfl⟩ : ∃ j : Nat, j' = j := ⟨j'.toNat, by omega⟩
  have hi : i < l.length := by omega
  have hj : j < o.length := by omega
  have hVij := hV i j hi hj
  obtain ⟨x, a3, b3, e3, oM3, hx⟩ := F.some2 (rs := [0, max 0 (V i j - 1), min 100000000 (V i j + 1), 100000000]) oM2 (by simp) (by simp)
  have hxx : 0 ≤ x ∧ x ≤ 100000000 := by
    simp only [List.mem_cons, List.not_mem_nil, or_false] at hx
    omega
  have hB : ∀ a b, a < l.length → b < o.length → 0 ≤ bent V i j x a b ∧ bent V i j x a b ≤ 100000000 := fun a b ha hb => by
    unfold bent
    split
    · exact hxx
    · exact hV a b ha hb
  have k1 := mat_i (m := M [] a2 b2) (N := l.length) (M := o.length) (V := V) hi
  have k1' := mat_i (m := M [] a3 b3) (N := l.length) (M := o.length) (V := V) hi
  have k2 := mrow_j (m := M [] a2 b2) (M := o.length) (V := V) (i := i) hj
  simp only [List.map_cons, List.map_nil] at e3
  have s1 : tC1 φ (rr most side l o w sums row (some (.pv (oI (sumO w l o)))) best turn at_ value (some (.pv (.int bd))) (some (.pv (mat l.length o.length V))) due by_ good odds) (M [] a b) = .next (rr most side l o w sums row (some (.pv (oI (sumO w l o)))) best turn (some (.pv (.int i))) value (some (.pv (.int bd))) (some (.pv (mat l.length o.length V))) due (some (.pv (.int j))) good odds) (M [] a2 b2) := by
    unfold rr
    simp [len_st, e1, e2]
  have c1 : slc (M [] a2 b2) (.pv (mrow o.length V i)) none (some (j : Int)) = some (.pv (.tup (((List.range o.length).map fun j => PV.int (V i j)).take j))) := by
    show some (Val.pv (.tup (cut ((List.range o.length).map fun j => PV.int (V i j)) none (some (j : Int))))) = _
    rw [cut_to (by simp; omega)]
  have c2 : slc (M [] a3 b3) (.pv (mrow o.length V i)) (some ((j : Int) + 1)) none = some (.pv (.tup (((List.range o.length).map fun j => PV.int (V i j)).drop (j + 1)))) := by
    show some (Val.pv (.tup (cut ((List.range o.length).map fun j => PV.int (V i j)) (some ((j : Int) + 1)) none))) = _
    rw [show ((j : Int) + 1) = ((j + 1 : Nat) : Int) by omega, cut_from (by simp; omega)]
  have r1 : bin .add (M [] a3 b3) (.pv (.tup (((List.range o.length).map fun j => PV.int (V i j)).take j))) (.pv (.tup [.int x])) = some (.pv (.tup (((List.range o.length).map fun j => PV.int (V i j)).take j ++ [.int x]))) := v_addT (by simp; omega)
  have r2 : bin .add (M [] a3 b3) (.pv (.tup (((List.range o.length).map fun j => PV.int (V i j)).take j ++ [.int x]))) (.pv (.tup (((List.range o.length).map fun j => PV.int (V i j)).drop (j + 1)))) = some (.pv (mrow o.length (bent V i j x) i)) := by
    rw [v_addT (by simp; omega), bent_row hj]; rfl
  have c3 : slc (M [] a3 b3) (.pv (mat l.length o.length V)) none (some (i : Int)) = some (.pv (.tup (((List.range l.length).map (mrow o.length V)).take i))) := by
    show some (Val.pv (.tup (cut ((List.range l.length).map (mrow o.length V)) none (some (i : Int))))) = _
    rw [cut_to (by simp; omega)]
  have c4 : slc (M [] a3 b3) (.pv (mat l.length o.length V)) (some ((i : Int) + 1)) none = some (.pv (.tup (((List.range l.length).map (mrow o.length V)).drop (i + 1)))) := by
    show some (Val.pv (.tup (cut ((List.range l.length).map (mrow o.length V)) (some ((i : Int) + 1)) none))) = _
    rw [show ((i : Int) + 1) = ((i + 1 : Nat) : Int) by omega, cut_from (by simp; omega)]
  have r3 : bin .add (M [] a3 b3) (.pv (.tup (((List.range l.length).map (mrow o.length V)).take i))) (.pv (.tup [mrow o.length (bent V i j x) i])) = some (.pv (.tup (((List.range l.length).map (mrow o.length V)).take i ++ [mrow o.length (bent V i j x) i]))) := v_addT (by simp; omega)
  have r4 : bin .add (M [] a3 b3) (.pv (.tup (((List.range l.length).map (mrow o.length V)).take i ++ [mrow o.length (bent V i j x) i]))) (.pv (.tup (((List.range l.length).map (mrow o.length V)).drop (i + 1)))) = some (.pv (mat l.length o.length (bent V i j x))) := by
    rw [v_addT (by simp; omega), bent_mat hi]; rfl
  generalize PV.tup (((List.range o.length).map fun j => PV.int (V i j)).take j ++ [.int x]) = Q3 at *
  generalize PV.tup (((List.range o.length).map fun j => PV.int (V i j)).take j) = Q1 at *
  generalize PV.tup (((List.range o.length).map fun j => PV.int (V i j)).drop (j + 1)) = Q2 at *
  generalize PV.tup (((List.range l.length).map (mrow o.length V)).take i ++ [mrow o.length (bent V i j x) i]) = Q4 at *
  generalize PV.tup (((List.range l.length).map (mrow o.length V)).take i) = Q5 at *
  generalize PV.tup (((List.range l.length).map (mrow o.length V)).drop (i + 1)) = Q6 at *
  have s2 : tC2 φ (rr most side l o w sums row (some (.pv (oI (sumO w l o)))) best turn (some (.pv (.int i))) value (some (.pv (.int bd))) (some (.pv (mat l.length o.length V))) due (some (.pv (.int j))) good odds) (M [] a2 b2) = .next (rr most side l o w sums (some (.pv (mrow o.length (bent V i j x) i))) (some (.pv (oI (sumO w l o)))) best turn (some (.pv (.int i))) value (some (.pv (.int bd))) (some (.pv (mat l.length o.length V))) due (some (.pv (.int j))) good odds) (M [] a3 b3) := by
    unfold rr
    simp [k1, k1', k2, c1, c2, pow8, e3, r1, r2, lst1_4]
  have s3 : tC3 φ (rr most side l o w sums (some (.pv (mrow o.length (bent V i j x) i))) (some (.pv (oI (sumO w l o)))) best turn (some (.pv (.int i))) value (some (.pv (.int bd))) (some (.pv (mat l.length o.length V))) due (some (.pv (.int j))) good odds) (M [] a3 b3) = .next (rr most side l o w sums (some (.pv (mrow o.length (bent V i j x) i))) (some (.pv (oI (sumO w l o)))) best turn (some (.pv (.int i))) (some (.pv (mat l.length o.length (bent V i j x)))) (some (.pv (.int bd))) (some (.pv (mat l.length o.length V))) due (some (.pv (.int j))) good odds) (M [] a3 b3) := by
    unfold rr
    simp [c3, c4, r3, r4]
  have f1 := F.lip bd (bent V i j x) (M [] a3 b3)
  have f2 := F.isp bd (bent V i j x) (M [] a3 b3) h0 h1 hB
  generalize isPap w (dd l o) bd l.length o.length (bent V i j x) = D at *
  have s4 : tC4 φ (rr most side l o w sums (some (.pv (mrow o.length (bent V i j x) i))) (some (.pv (oI (sumO w l o)))) best turn (some (.pv (.int i))) (some (.pv (mat l.length o.length (bent V i j x)))) (some (.pv (.int bd))) (some (.pv (mat l.length o.length V))) due (some (.pv (.int j))) good odds) (M [] a3 b3) = .next (rr most side l o w sums (some (.pv (mrow o.length (bent V i j x) i))) (some (.pv (oI (sumO w l o)))) best turn (some (.pv (.int i))) (some (.pv (mat l.length o.length (bent V i j x)))) (some (.pv (.int bd))) (some (.pv (mat l.length o.length V))) (some (.pv (.bl D))) (some (.pv (.int j))) good odds) (M [] a3 b3) := by
    unfold rr
    simp [f1]
  have s5 : tC5 φ (rr most side l o w sums (some (.pv (mrow o.length (bent V i j x) i))) (some (.pv (oI (sumO w l o)))) best turn (some (.pv (.int i))) (some (.pv (mat l.length o.length (bent V i j x)))) (some (.pv (.int bd))) (some (.pv (mat l.length o.length V))) (some (.pv (.bl D))) (some (.pv (.int j))) good odds) (M [] a3 b3) = .next (rr most side l o w sums (some (.pv (mrow o.length (bent V i j x) i))) (some (.pv (oI (sumO w l o)))) best turn (some (.pv (.int i))) (some (.pv (mat l.length o.length (bent V i j x)))) (some (.pv (.int bd))) (some (.pv (mat l.length o.length V))) (some (.pv (.bl D))) (some (.pv (.int j))) good odds) (M [] a3 b3) := by
    have sne : ∀ s : Str, cmp .ne (M [] a3 b3) (.pv (.str s)) (.pv (.str s)) = some (.pv (.bl false)) := fun s => by
      rw [v_ne (by simp [PV.okD]) (by simp [PV.okD])]; simp [eqP]
    unfold rr
    cases D with
    | false =>
      simp [f2, sne]
    | true =>
      cases hS : sumO w l o with
      | none => simp [f2, sne, oI]
      | some s =>
        have := hs s hS
        simp [f2, sne, oI, this, isNon]
  refine ⟨a3, b3, some (.pv (mrow o.length (bent V i j x) i)), some (.pv (.int i)), some (.pv (mat l.length o.length (bent V i j x))), some (.pv (.bl D)), some (.pv (.int j)), ?_, oM3⟩
  unfold tC
  simp only [e_sseq, s1, e_seq2n, s2, s3, s4, s5]
theorem tC_loop (F : Fx φ l o w) {bd : Int} {V : Nat → Nat → Int} (h0 : 0 ≤ bd) (h1 : bd ≤ 100000000) (hV : ∀ i j, i < l.length → j < o.length → 0 ≤ V i j ∧ V i j ≤ 100000000) (hs : ∀ s, sumO w l o = some s → ¬ s < bd) : ∀ (xs : List PV) (a b : Int) (row turn at_ value due by_ : Option Val), okM a b →
    ∃ a' b' row' turn' at' value' due' by', forL (.name 11) (tC φ) [] xs (rr most side l o w sums row (some (.pv (oI (sumO w l o)))) best turn at_ value (some (.pv (.int bd))) (some (.pv (mat l.length o.length V))) due by_ good odds) (M [] a b) = .next (rr most side l o w sums row' (some (.pv (oI (sumO w l o)))) best turn' at' value' (some (.pv (.int bd))) (some (.pv (mat l.length o.length V))) due' by' good odds) (M [] a' b') ∧ okM a' b'
  | [], a, b, row, turn, at_, value, due, by_, hM => ⟨a, b, row, turn, at_, value, due, by_, by simp, hM⟩
  | x :: xs, a, b, row, turn, at_, value, due, by_, hM => by
    obtain ⟨a1, b1, row1, at1, value1, due1, by1, e1, o1⟩ := tC_step (most := most) (side := side) (sums := sums) (row := row) (best := best) (turn := some (.pv x)) (at_ := at_) (value := value) (due := due) (by_ := by_) (good := good) (odds := odds) F hM h0 h1 hV hs
    obtain ⟨a2, b2, row2, turn2, at2, value2, due2, by2, e2, o2⟩ := tC_loop F h0 h1 hV hs xs a1 b1 row1 (some (.pv x)) at1 value1 due1 by1 o1
    refine ⟨a2, b2, row2, turn2, at2, value2, due2, by2, ?_, o2⟩
    rw [e_forL1, e_asgnN, e_forA]
    show forB _ _ _ _ (tC φ (rr most side l o w sums row (some (.pv (oI (sumO w l o)))) best (some (.pv x)) at_ value (some (.pv (.int bd))) (some (.pv (mat l.length o.length V))) due by_ good odds) (M [] a b)) = _
    rw [e1, e_forBn, e2]
end
end L_k36

set_option Elab.async false
set_option linter.all false
set_option maxRecDepth 100000
set_option autoImplicit false
set_option maxHeartbeats 1000000
namespace L_k36
open PySem Pn
variable {n : Nat} {m : Mem} {φ : Phi}
theorem nonI {s : Int} : isNon (.pv (.int s)) = false := (rfl)
theorem p_sum_coupling_no {l o : List Pt} {g : Nat} (hl : okS l) (ho : okS o) (hg : g ≤ 127) (hbd : bnd g (l.length - 1, o.length - 1) = false) :
    phi T (n + 6) "sum_coupling" [.pv (st l), .pv (st o), .pv (.int g)] m = .ok (.pv .non) m := by
  have h1 := hl.1
  have h2 := hl.2.1
  have h3 := ho.1
  have h4 := ho.2.1
  have enb := p_need_both (n := n) (m := m) hl ho (k := g) (by omega) (by omega)
  obtain ⟨kvs, e, hF⟩ := p_sums_in (n := n + 3) (m := m) (g := g) hg h2 h4
  rw [phi_eq t_sum_coupling rfl]
  generalize phi T (n + 5) = φ at *
  have e1 : ((l.length : Int) - 1) = ((l.length - 1 : Nat) : Int) := by omega
  have e2 : ((o.length : Int) - 1) = ((o.length - 1 : Nat) : Int) := by omega
  have hV : ∀ i j, i ≤ l.length - 1 → j ≤ o.length - 1 → valP kvs (ky i j) = if bnd g (i, j) = true then some (.int (S g (dd l o) i j)) else none := fun i j hi hj => hF.last (p := (i, j)) (by simp only; omega) (by simp only; omega)
  generalize hA : l.length - 1 = A at *
  generalize hB : o.length - 1 = B at *
  have hni := nin_D' (p := (A, B)) (mem_D (m := m) (kvs := kvs))
  rw [hV A B (Nat.le_refl _) (Nat.le_refl _), if_neg (by rw [hbd]; simp)] at hni
  have en : PV.tup [.int (A : Int), .int (B : Int)] = np (A, B) := rfl
  have hst : start 8 [.pv (st l), .pv (st o), .pv (.int g)] = [some (.pv (st l)), some (.pv (st o)), some (.pv (.int g)), none, none, none, none, none] := rfl
  have s0 : m_sum_coupling_0 φ [some (.pv (st l)), some (.pv (st o)), some (.pv (.int g)), none, none, none, none, none] m = .next [some (.pv (st l)), some (.pv (st o)), some (.pv (.int g)), none, none, none, none, none] m := by
    simp [m_sum_coupling_0, enb]
  have s1 : m_sum_coupling_1 φ [some (.pv (st l)), some (.pv (st o)), some (.pv (.int g)), none, none, none, none, none] m = .next [some (.pv (st l)), some (.pv (st o)), some (.pv (.int g)), some (.ref m.length), some (.pv (np (A, B))), none, none, none] (m ++ [.dt kvs]) := by
    simp [m_sum_coupling_1, e, len_st, e1, e2, en]
  have s2 : m_sum_coupling_2 φ [some (.pv (st l)), some (.pv (st o)), some (.pv (.int g)), some (.ref m.length), some (.pv (np (A, B))), none, none, none] (m ++ [.dt kvs]) = .ret (.pv .non) (m ++ [.dt kvs]) := by
    simp [m_sum_coupling_2, hni]
  have htk : (m ++ [Cell.dt kvs]).take m.length = m := by simp
  rw [hst]
  simp only [m_sum_coupling, e_sseq, s0, s1, e_seq2n, s2, e_seq2r]
  simp [htk]
theorem ne_rows {rs : List (List NP)} : cmp .ne m (.pv (.lst (rs.map rowP))) (.pv (.lst [])) = some (.pv (.bl (!rs.isEmpty))) := by
  rw [v_ne (by unfold PV.okD; exact okDs_rows (d := 57)) (by simp [PV.okD, okDs])]
  cases rs <;> simp [eqP, eqPs]
section
variable {most side : Int} {l o : List Pt} {w : Nat} {sums row least best turn at_ value bound paper due by_ good odds : Option Val}
theorem tB_step (F : Fx φ l o w) {a b bd : Int} (hM : okM a b) (h0 : 0 ≤ bd) (h1 : bd ≤ 100000000) :
    ∃ a' b' row' turn' at' value' paper' due' by', tB φ (rr most side l o w sums row (some (.pv (oI (sumO w l o)))) best turn at_ value (some (.pv (.int bd))) paper due by_ good odds) (M [] a b) = .next (rr most side l o w sums row' (some (.pv (oI (sumO w l o)))) best turn' at' value' (some (.pv (.int bd))) paper' due' by' good odds) (M [] a' b') ∧ okM a' b' := by
  have f := F.paper bd (M [] a b) h0 h1
  have er4 : rngB1 (M [] a b) [.pv (.int 4)] = some (rngP 0 4, []) := rng1_ok' (by omega) (by omega)
  have er0 : rngB1 (M [] a b) [.pv (.int 0)] = some ([], []) := rng1_ok' (by omega) (by omega)
  by_cases hc : ∃ s, sumO w l o = some s ∧ s < bd
  · obtain ⟨s, hs, hlt⟩ := hc
    have ha : (sumO w l o).any (fun s => decide (s < bd)) = true := by rw [hs]; simp [hlt]
    rw [ha, if_pos rfl] at f
    refine ⟨a, b, row, turn, at_, value, some (.pv .non), due, by_, ?_, hM⟩
    have s1 : tB1 φ (rr most side l o w sums row (some (.pv (oI (sumO w l o)))) best turn at_ value (some (.pv (.int bd))) paper due by_ good odds) (M [] a b) = .next (rr most side l o w sums row (some (.pv (oI (sumO w l o)))) best turn at_ value (some (.pv (.int bd))) (some (.pv .non)) due by_ good odds) (M [] a b) := by
      unfold rr; simp [f]
    have s2 : tB2 φ (rr most side l o w sums row (some (.pv (oI (sumO w l o)))) best turn at_ value (some (.pv (.int bd))) (some (.pv .non)) due by_ good odds) (M [] a b) = .next (rr most side l o w sums row (some (.pv (oI (sumO w l o)))) best turn at_ value (some (.pv (.int bd))) (some (.pv .non)) due by_ good odds) (M [] a b) := by
      rw [hs]; unfold rr; simp [oI, hlt, ne_bl, nonI]
    have s3 : tB3 φ (rr most side l o w sums row (some (.pv (oI (sumO w l o)))) best turn at_ value (some (.pv (.int bd))) (some (.pv .non)) due by_ good odds) (M [] a b) = .next (rr most side l o w sums row (some (.pv (oI (sumO w l o)))) best turn at_ value (some (.pv (.int bd))) (some (.pv .non)) due by_ good odds) (M [] a b) := by
      unfold rr; simp
    have s4 : tB4 φ (rr most side l o w sums row (some (.pv (oI (sumO w l o)))) best turn at_ value (some (.pv (.int bd))) (some (.pv .non)) due by_ good odds) (M [] a b) = .next (rr most side l o w sums row (some (.pv (oI (sumO w l o)))) best turn at_ value (some (.pv (.int bd))) (some (.pv .non)) due by_ good odds) (M [] a b) := by
      unfold tB4
      rw [e_for]
      unfold rr
      simp [er0]
    unfold tB
    simp only [e_sseq, s1, e_seq2n, s2, s3, s4]
  · have hs : ∀ s, sumO w l o = some s → ¬ s < bd := fun s h1 h2 => hc ⟨s, h1, h2⟩
    have ha : (sumO w l o).any (fun s => decide (s < bd)) = false := by
      cases h : sumO w l o with
      | none => rfl
      | some s => have := hs s h; simp; omega
    rw [ha, if_neg (by simp)] at f
    have hpot : bd ≤ pot w l o (l.length - 1) (o.length - 1) := by
      unfold pot
      by_cases hb : bnd w (l.length - 1, o.length - 1) = true
      · rw [if_pos hb]
        have := hs (S w (dd l o) (l.length - 1) (o.length - 1)) (by unfold sumO; rw [if_pos hb])
        omega
      · rw [if_neg hb]; omega
    have e5 := pot_pap (N := l.length) (M := o.length) hpot
    have f1 := F.lip bd (pot w l o) (M [] a b)
    have f2 := F.isp bd (pot w l o) (M [] a b) h0 h1 F.pots
    rw [e5] at f1 f2
    obtain ⟨a1, b1, row1, turn1, at1, value1, due1, by1, e4, o4⟩ := tC_loop (most := most) (side := side) (sums := sums) (best := best) (good := good) (odds := odds) F h0 h1 F.pots hs (rngP 0 4) a b row turn at_ value due by_ hM
    have hn : isNon (.pv (mat l.length o.length (pot w l o))) = false := rfl
    generalize mat l.length o.length (pot w l o) = P at *
    refine ⟨a1, b1, row1, turn1, at1, value1, some (.pv P), due1, by1, ?_, o4⟩
    have s1 : tB1 φ (rr most side l o w sums row (some (.pv (oI (sumO w l o)))) best turn at_ value (some (.pv (.int bd))) paper due by_ good odds) (M [] a b) = .next (rr most side l o w sums row (some (.pv (oI (sumO w l o)))) best turn at_ value (some (.pv (.int bd))) (some (.pv P)) due by_ good odds) (M [] a b) := by
      unfold rr; simp [f]
    have s2 : tB2 φ (rr most side l o w sums row (some (.pv (oI (sumO w l o)))) best turn at_ value (some (.pv (.int bd))) (some (.pv P)) due by_ good odds) (M [] a b) = .next (rr most side l o w sums row (some (.pv (oI (sumO w l o)))) best turn at_ value (some (.pv (.int bd))) (some (.pv P)) due by_ good odds) (M [] a b) := by
      cases h : sumO w l o with
      | none => unfold rr; simp [oI, hn, ne_bl]
      | some s => have := hs s h; unfold rr; simp [oI, hn, ne_bl, this, nonI]
    have s3 : tB3 φ (rr most side l o w sums row (some (.pv (oI (sumO w l o)))) best turn at_ value (some (.pv (.int bd))) (some (.pv P)) due by_ good odds) (M [] a b) = .next (rr most side l o w sums row (some (.pv (oI (sumO w l o)))) best turn at_ value (some (.pv (.int bd))) (some (.pv P)) due by_ good odds) (M [] a b) := by
      unfold rr; simp [hn, f1, f2]
    have s4 : tB4 φ (rr most side l o w sums row (some (.pv (oI (sumO w l o)))) best turn at_ value (some (.pv (.int bd))) (some (.pv P)) due by_ good odds) (M [] a b) = forL (.name 11) (tC φ) [] (rngP 0 4) (rr most side l o w sums row (some (.pv (oI (sumO w l o)))) best turn at_ value (some (.pv (.int bd))) (some (.pv P)) due by_ good odds) (M [] a b) := by
      unfold tB4
      rw [e_for]
      have : (iB rngB1 (aCons (cIf (tTru (cCmp .isnot (cVar 15) (cC .non))) (cC (.int 4)) (cC (.int 0))) (aNil))) φ (rr most side l o w sums row (some (.pv (oI (sumO w l o)))) best turn at_ value (some (.pv (.int bd))) (some (.pv P)) due by_ good odds) (M [] a b) = .ok (rngP 0 4, []) (M [] a b) := by
        unfold rr
        simp [hn, er4]
      rw [this, e_for1]
    unfold tB
    simp only [e_sseq, s1, e_seq2n, s2, s3, s4, e4]
theorem tB_loop (F : Fx φ l o w) : ∀ (xs : List Int) (a b : Int) (row turn at_ value bound paper due by_ : Option Val), (∀ x ∈ xs, 0 ≤ x ∧ x ≤ 100000000) → okM a b →
    ∃ a' b' row' turn' at' value' bound' paper' due' by', forL (.name 14) (tB φ) [] (xs.map PV.int) (rr most side l o w sums row (some (.pv (oI (sumO w l o)))) best turn at_ value bound paper due by_ good odds) (M [] a b) = .next (rr most side l o w sums row' (some (.pv (oI (sumO w l o)))) best turn' at' value' bound' paper' due' by' good odds) (M [] a' b') ∧ okM a' b'
  | [], a, b, row, turn, at_, value, bound, paper, due, by_, _, hM => ⟨a, b, row, turn, at_, value, bound, paper, due, by_, by simp, hM⟩
  | x :: xs, a, b, row, turn, at_, value, bound, paper, due, by_, hx, hM => by
    have hx0 := hx x List.mem_cons_self
    obtain ⟨a1, b1, row1, turn1, at1, value1, paper1, due1, by1, e1, o1⟩ := tB_step (most := most) (side := side) (sums := sums) (row := row) (best := best) (turn := turn) (at_ := at_) (value := value) (paper := paper) (due := due) (by_ := by_) (good := good) (odds := odds) F hM hx0.1 hx0.2
    obtain ⟨a2, b2, row2, turn2, at2, value2, bound2, paper2, due2, by2, e2, o2⟩ := tB_loop F xs a1 b1 row1 turn1 at1 value1 (some (.pv (.int x))) paper1 due1 by1 (fun y hy => hx y (List.mem_cons_of_mem _ hy)) o1
    refine ⟨a2, b2, row2, turn2, at2, value2, bound2, paper2, due2, by2, ?_, o2⟩
    rw [List.map_cons, e_forL1, e_asgnN, e_forA]
    show forB _ _ _ _ (tB φ (rr most side l o w sums row (some (.pv (oI (sumO w l o)))) best turn at_ value (some (.pv (.int x))) paper due by_ good odds) (M [] a b)) = _
    rw [e1, e_forBn, e2]
theorem r6 (F : Fx φ l o w) {a b : Int} (hM : okM a b) :
    ∃ a' b' row' turn' at' value', m__law_right_6 φ (rr most side l o w sums row least best turn at_ value bound paper due by_ good odds) (M [] a b) = .next (rr most side l o w sums row' least best turn' at' value' bound paper due by_ good odds) (M [] a' b') ∧ okM a' b' := by
  have er3 : rngB1 (M [] a b) [.pv (.int 3)] = some (rngP 0 3, []) := rng1_ok' (by omega) (by omega)
  have er0 : rngB1 (M [] a b) [.pv (.int 0)] = some (rngP 0 0, []) := rng1_ok' (by omega) (by omega)
  have hne : cmp .ne (M [] a b) (.pv (RS l o w)) (.pv (.lst [])) = some (.pv (.bl (!(cps l.length o.length w).isEmpty))) := by
    exact ne_rows (m := M [] a b) (rs := cps l.length o.length w)
  by_cases he : (cps l.length o.length w).isEmpty = true
  · refine ⟨a, b, row, turn, at_, value, ?_, hM⟩
    rw [he] at hne
    unfold m__law_right_6
    rw [e_for]
    have : (iB rngB1 (aCons (cIf (tTru (cCmp .ne (cVar 6) (cLst (aNil)))) (cC (.int 3)) (cC (.int 0))) (aNil))) φ (rr most side l o w sums row least best turn at_ value bound paper due by_ good odds) (M [] a b) = .ok ([], []) (M [] a b) := by
      unfold rr
      simp [hne, er0, rngP]
    rw [this, e_for1]
    simp
  · have he' : (cps l.length o.length w).isEmpty = false := by simpa using he
    have hl : 1 ≤ (cps l.length o.length w).length := by
      cases h : cps l.length o.length w with
      | nil => rw [h] at he'; cases he'
      | cons _ _ => simp
    rw [he'] at hne
    obtain ⟨a1, b1, row1, turn1, at1, value1, e1, o1⟩ := tA_loop (most := most) (side := side) (sums := sums) (least := least) (best := best) (bound := bound) (paper := paper) (due := due) (by_ := by_) (good := good) (odds := odds) F hl (rngP 0 3) a b row turn at_ value hM
    refine ⟨a1, b1, row1, turn1, at1, value1, ?_, o1⟩
    unfold m__law_right_6
    rw [e_for]
    have : (iB rngB1 (aCons (cIf (tTru (cCmp .ne (cVar 6) (cLst (aNil)))) (cC (.int 3)) (cC (.int 0))) (aNil))) φ (rr most side l o w sums row least best turn at_ value bound paper due by_ good odds) (M [] a b) = .ok (rngP 0 3, []) (M [] a b) := by
      unfold rr
      simp [hne, er3]
    rw [this, e_for1]
    exact e1
theorem r7 (F : Fx φ l o w) {a b : Int} (hM : okM a b) (hS : ∀ s, sumO w l o = some s → 0 ≤ s ∧ s ≤ 99999999) :
    ∃ a' b' row' turn' at' value' bound' paper' due' by', m__law_right_7 φ (rr most side l o w sums row (some (.pv (oI (sumO w l o)))) best turn at_ value bound paper due by_ good odds) (M [] a b) = .next (rr most side l o w sums row' (some (.pv (oI (sumO w l o)))) best turn' at' value' bound' paper' due' by' good odds) (M [] a' b') ∧ okM a' b' := by
  obtain ⟨r, a1, b1, e1, oM1, r0, r1⟩ := F.roll hM (show (0 : Int) < 30 by omega) (by omega)
  obtain ⟨xs, hx, hit⟩ : ∃ xs : List Int, (∀ x ∈ xs, 0 ≤ x ∧ x ≤ 100000000) ∧ (iSeq (cTup (aCons (cC (.int 0)) (aCons (cIf (tTru (cCmp .isnot (cVar 9) (cC .non))) (cVar 9) (cBin .pow (cC (.int 10)) (cC (.int 8)))) (aCons (cB bMin2 (aCons (cBin .pow (cC (.int 10)) (cC (.int 8))) (aCons (cBin .add (cIf (tTru (cCmp .isnot (cVar 9) (cC .non))) (cVar 9) (cC (.int 0))) (cC (.int 1))) (aNil)))) (aCons (cCall "_law_roll" (aCons (cVar 0) (aCons (cC (.int 30)) (aNil)))) (aNil))))))) φ (rr most side l o w sums row (some (.pv (oI (sumO w l o)))) best turn at_ value bound paper due by_ good odds) (M [] a b) = .ok (xs.map PV.int, []) (M [] a1 b1) := by
    cases h : sumO w l o with
    | none =>
      refine ⟨[0, 100000000, min 100000000 1, r], fun x hx => ?_, ?_⟩
      · simp only [List.mem_cons, List.not_mem_nil, or_false] at hx
        omega
      · unfold rr
        simp [oI, pow8, e1, iOf, nonI]
    | some s =>
      have := hS s h
      refine ⟨[0, s, min 100000000 (s + 1), r], fun x hx => ?_, ?_⟩
      · simp only [List.mem_cons, List.not_mem_nil, or_false] at hx
        omega
      · unfold rr
        simp [oI, pow8, e1, iOf, nonI]
  obtain ⟨a2, b2, row2, turn2, at2, value2, bound2, paper2, due2, by2, e2, o2⟩ := tB_loop (most := most) (side := side) (sums := sums) (best := best) (good := good) (odds := odds) F xs a1 b1 row turn at_ value bound paper due by_ hx oM1
  refine ⟨a2, b2, row2, turn2, at2, value2, bound2, paper2, due2, by2, ?_, o2⟩
  unfold m__law_right_7
  rw [e_for, hit, e_for1]
  exact e2
end
end L_k36

set_option Elab.async false
set_option linter.all false
set_option maxRecDepth 100000
set_option autoImplicit false
set_option maxHeartbeats 1000000
namespace L_k36
open PySem Pn
variable {n : Nat} {m : Mem} {φ : Phi}
/-! odd papers of the law -/
def R0 (M : Nat) : List PV := List.replicate M (.int 0)
def G0 (N M : Nat) : List PV := List.replicate N (.tup (R0 M))
theorem zeros (N M : Nat) : PV.tup (G0 N M) = mat N M (fun _ _ => 0) := by
  unfold G0 R0 mat
  congr 1
  have e : ∀ (k : Nat) (x : PV), List.replicate k x = (List.range k).map fun _ => x := fun k x => by rw [List.map_const', List.length_range]
  rw [e]
  apply List.map_congr_left
  intro i _
  unfold mrow
  rw [e]
def oddL (N M : Nat) : List PV := [.non, .tup [], .lst (G0 N M), .tup ((G0 N M).drop 1), .tup (G0 N M ++ (G0 N M).take 1), .tup ([.lst (R0 M)] ++ (G0 N M).drop 1), .tup ([.tup (R0 M ++ [.int 0])] ++ (G0 N M).drop 1), .tup ([.tup ([.int (-1)] ++ (R0 M).drop 1)] ++ (G0 N M).drop 1), .tup ([.tup ([.bl false] ++ (R0 M).drop 1)] ++ (G0 N M).drop 1)]
def oddR (N M : Nat) : List PV := [.tup ((G0 N M).dropLast ++ [.tup ((R0 M).dropLast ++ [.int 100000001])]), .tup ((G0 N M).dropLast ++ [.tup ((R0 M).dropLast ++ [.non])]), .int 5]
section
variable {most side : Int} {l o : List Pt} {w : Nat} {sums row least best turn at_ value bound paper due by_ good odds : Option Val}
theorem odd_no (hl : okS l) (ho : okS o) (hw : w ≤ 127) : ∀ v ∈ oddL l.length o.length ++ oddR l.length o.length, ∀ m, phi T (n + 7) "is_sum_paper" [.pv (st l), .pv (st o), .pv (.int w), .pv (.int 0), .pv v] m = .ok (.pv (.bl false)) m := by
  have l1 := hl.1
  have o1 := ho.1
  intro v hv m
  have pa : ∀ v, dataK v = true → isT v l.length l.length = false → phi T (n + 7) "is_sum_paper" [.pv (st l), .pv (st o), .pv (.int w), .pv (.int 0), .pv v] m = .ok (.pv (.bl false)) m := fun v h1 h2 => p_isp_a hl ho hw (by omega) (by omega) h1 h2
  have pb : ∀ rows : List PV, rows.length = l.length → (∀ r ∈ rows, dataK r = true) → (rows.all fun r => isT r o.length o.length) = false → phi T (n + 7) "is_sum_paper" [.pv (st l), .pv (st o), .pv (.int w), .pv (.int 0), .pv (.tup rows)] m = .ok (.pv (.bl false)) m := fun v h1 h2 h3 => p_isp_b hl ho hw (by omega) (by omega) h1 h2 h3
  have pc : ∀ cs : List (List PV), cs.length = l.length → (∀ r ∈ cs, r.length = o.length) → (∀ r ∈ cs, ∀ c ∈ r, dataK c = true) → (cs.all fun r => r.all fun c => isW c 0 100000000) = false → phi T (n + 7) "is_sum_paper" [.pv (st l), .pv (st o), .pv (.int w), .pv (.int 0), .pv (.tup (cs.map PV.tup))] m = .ok (.pv (.bl false)) m := fun cs h1 h2 h3 h4 => p_isp_c hl ho hw (by omega) (by omega) h1 h2 h3 h4
  generalize phi T (n + 7) = φ at *
  generalize l.length = N at *
  generalize o.length = M at *
  obtain ⟨k, rfl⟩ : ∃ k, N = k + 1 := ⟨N - 1, by omega⟩
  obtain ⟨j, rfl⟩ : ∃ j, M = j + 1 := ⟨M - 1, by omega⟩
  have hG : (G0 (k + 1) (j + 1)).drop 1 = (List.replicate k (R0 (j + 1))).map PV.tup := by
    simp [G0, List.replicate_succ]
  have hGl : (G0 (k + 1) (j + 1)).dropLast = (List.replicate k (R0 (j + 1))).map PV.tup := by
    unfold G0
    rw [List.replicate_succ']
    simp
  have hR : (R0 (j + 1)).drop 1 = List.replicate j (.int 0) := by
    simp [R0, List.replicate_succ]
  have hRl : (R0 (j + 1)).dropLast = List.replicate j (.int 0) := by
    unfold R0
    rw [List.replicate_succ']
    simp
  have dR : ∀ c ∈ R0 (j + 1), dataK c = true := fun c hc => by
    unfold R0 at hc
    rw [(List.mem_replicate.mp hc).2]; simp
  have first : ∀ x : PV, dataK x = true → isW x 0 100000000 = false → φ "is_sum_paper" [.pv (st l), .pv (st o), .pv (.int w), .pv (.int 0), .pv (.tup ([.tup ([x] ++ (R0 (j + 1)).drop 1)] ++ (G0 (k + 1) (j + 1)).drop 1))] m = .ok (.pv (.bl false)) m := fun x hx hw => by
    rw [hG, hR]
    have := pc (([x] ++ List.replicate j (.int 0)) :: List.replicate k (R0 (j + 1))) (by simp) (fun r hr => ?_) (fun r hr c hc => ?_) ?_
    · rw [List.map_cons] at this
      exact this
    · rcases List.mem_cons.mp hr with rfl | hr
      · simp
      · rw [(List.mem_replicate.mp hr).2]; simp [R0]
    · rcases List.mem_cons.mp hr with rfl | hr
      · rcases List.mem_append.mp hc with hc | hc
        · rw [List.mem_singleton.mp hc]; exact hx
        · rw [(List.mem_replicate.mp hc).2]; simp
      · rw [(List.mem_replicate.mp hr).2] at hc; exact dR c hc
    · simp [hw]
  have last : ∀ x : PV, dataK x = true → isW x 0 100000000 = false → φ "is_sum_paper" [.pv (st l), .pv (st o), .pv (.int w), .pv (.int 0), .pv (.tup ((G0 (k + 1) (j + 1)).dropLast ++ [.tup ((R0 (j + 1)).dropLast ++ [x])]))] m = .ok (.pv (.bl false)) m := fun x hx hw => by
    rw [hGl, hRl]
    have := pc (List.replicate k (R0 (j + 1)) ++ [List.replicate j (.int 0) ++ [x]]) (by simp) (fun r hr => ?_) (fun r hr c hc => ?_) ?_
    · rw [List.map_append] at this
      exact this
    · rcases List.mem_append.mp hr with hr | hr
      · rw [(List.mem_replicate.mp hr).2]; simp [R0]
      · rw [List.mem_singleton.mp hr]; simp
    · rcases List.mem_append.mp hr with hr | hr
      · rw [(List.mem_replicate.mp hr).2] at hc; exact dR c hc
      · rw [List.mem_singleton.mp hr] at hc
        rcases List.mem_append.mp hc with hc | hc
        · rw [(List.mem_replicate.mp hc).2]; simp
        · rw [List.mem_singleton.mp hc]; exact hx
    · simp [hw]
  have dG : ∀ r ∈ (G0 (k + 1) (j + 1)).drop 1, dataK r = true := fun r hr => by
    rw [hG] at hr
    obtain ⟨x, _, rfl⟩ := List.mem_map.mp hr
    simp
  have lG : ((G0 (k + 1) (j + 1)).drop 1).length = k := by rw [hG]; simp
  simp only [oddL, oddR, List.cons_append, List.nil_append, List.mem_cons, List.not_mem_nil, or_false] at hv
  rcases hv with rfl | rfl | rfl | rfl | rfl | rfl | rfl | rfl | rfl | rfl | rfl | rfl
  · exact pa _ rfl rfl
  · refine pa _ rfl ?_
    simp [isT]; omega
  · exact pa _ rfl rfl
  · refine pa _ rfl ?_
    have e : isT (.tup ((G0 (k + 1) (j + 1)).drop 1)) ((k + 1 : Nat) : Int) ((k + 1 : Nat) : Int) = (decide (((k + 1 : Nat) : Int) ≤ ((G0 (k + 1) (j + 1)).drop 1).length) && decide ((((G0 (k + 1) (j + 1)).drop 1).length : Int) ≤ ((k + 1 : Nat) : Int))) := rfl
    rw [e, lG, decide_eq_false (by omega)]; rfl
  · refine pa _ rfl ?_
    simp [isT, G0]; omega
  · refine pb _ (by rw [List.length_cons, lG]) (fun r hr => ?_) ?_
    · rcases List.mem_cons.mp hr with rfl | hr
      · rfl
      · exact dG r hr
    · simp [isT]
  · refine pb _ (by rw [List.length_cons, lG]) (fun r hr => ?_) ?_
    · rcases List.mem_cons.mp hr with rfl | hr
      · rfl
      · exact dG r hr
    · simp [isT, R0]; omega
  · exact first (.int (-1)) rfl rfl
  · exact first (.bl false) rfl rfl
  · exact last (.int 100000001) rfl rfl
  · exact last .non rfl rfl
  · exact pa _ rfl rfl
theorem cut_last {α : Type} {xs : List α} (h : 1 ≤ xs.length) : cut xs none (some (-1)) = xs.dropLast := by
  have : HT.sIx xs.length xs.length (some (-1)) = xs.length - 1 := by
    simp [HT.sIx]; omega
  unfold cut
  rw [this]
  simp [HT.sIx, List.dropLast_eq_take]
theorem r8 (l1 : l.length ≤ 1000) (o1 : o.length ≤ 1000) : m__law_right_8 φ (rr most side l o w sums row least best turn at_ value bound paper due by_ good odds) m = .next (rr most side l o w sums row least best turn at_ value bound paper due by_ (some (.pv (.tup (G0 l.length o.length)))) odds) m := by
  have e1 : bin .mul m (.pv (.tup [.int 0])) (.pv (.int o.length)) = some (.pv (.tup (R0 o.length))) := by
    rw [v_mulT ⟨by omega, by omega, by simp⟩]
    simp [R0]
  have e2 : bin .mul m (.pv (.tup [.tup (R0 o.length)])) (.pv (.int l.length)) = some (.pv (.tup (G0 l.length o.length))) := by
    rw [v_mulT ⟨by omega, by omega, by simp⟩]
    simp [G0]
  unfold rr
  simp [m__law_right_8, len_st, e1, e2]
theorem r9 (l1 : 1 ≤ l.length) (o1 : 1 ≤ o.length) (l2 : l.length ≤ 1000) (o2 : o.length ≤ 1000) : m__law_right_9 φ (rr most side l o w sums row least best turn at_ value bound paper due by_ (some (.pv (.tup (G0 l.length o.length)))) odds) m = .next (rr most side l o w sums row least best turn at_ value bound paper due by_ (some (.pv (.tup (G0 l.length o.length)))) (some (.pv (.lst (oddL l.length o.length))))) m := by
  generalize hN : l.length = N at *
  generalize hM : o.length = M at *
  have gl : (G0 N M).length = N := by simp [G0]
  have rl : (R0 M).length = M := by simp [R0]
  have g0 : idx m (.pv (.tup (G0 N M))) (.pv (.int 0)) = some (.pv (.tup (R0 M))) := v_idxT (atI_nat (i := 0) (by
    unfold G0
    rw [List.getElem?_replicate, if_pos (by omega)]))
  have c1 : slc m (.pv (.tup (G0 N M))) (some 1) none = some (.pv (.tup ((G0 N M).drop 1))) := by
    show some (Val.pv (.tup (cut (G0 N M) (some ((1 : Nat) : Int)) none))) = _
    rw [cut_from (by omega)]
  have c2 : slc m (.pv (.tup (G0 N M))) none (some 1) = some (.pv (.tup ((G0 N M).take 1))) := by
    show some (Val.pv (.tup (cut (G0 N M) none (some ((1 : Nat) : Int))))) = _
    rw [cut_to (by omega)]
  have c3 : slc m (.pv (.tup (R0 M))) (some 1) none = some (.pv (.tup ((R0 M).drop 1))) := by
    show some (Val.pv (.tup (cut (R0 M) (some ((1 : Nat) : Int)) none))) = _
    rw [cut_from (by omega)]
  have b1 : bin .add m (.pv (.tup (G0 N M))) (.pv (.tup ((G0 N M).take 1))) = some (.pv (.tup (G0 N M ++ (G0 N M).take 1))) := v_addT (by simp; omega)
  have b2 : ∀ x : PV, bin .add m (.pv (.tup [x])) (.pv (.tup ((G0 N M).drop 1))) = some (.pv (.tup ([x] ++ (G0 N M).drop 1))) := fun x => v_addT (by simp; omega)
  have b3 : bin .add m (.pv (.tup (R0 M))) (.pv (.tup [.int 0])) = some (.pv (.tup (R0 M ++ [.int 0]))) := v_addT (by simp; omega)
  have b4 : ∀ x : PV, bin .add m (.pv (.tup [x])) (.pv (.tup ((R0 M).drop 1))) = some (.pv (.tup ([x] ++ (R0 M).drop 1))) := fun x => v_addT (by simp; omega)
  have l1 : bLst m [.pv (.tup (G0 N M))] = some (.pv (.lst (G0 N M))) := rfl
  have l2 : bLst m [.pv (.tup (R0 M))] = some (.pv (.lst (R0 M))) := rfl
  have hO : oddL N M = [.non, .tup [], .lst (G0 N M), .tup ((G0 N M).drop 1), .tup (G0 N M ++ (G0 N M).take 1), .tup ([.lst (R0 M)] ++ (G0 N M).drop 1), .tup ([.tup (R0 M ++ [.int 0])] ++ (G0 N M).drop 1), .tup ([.tup ([.int (-1)] ++ (R0 M).drop 1)] ++ (G0 N M).drop 1), .tup ([.tup ([.bl false] ++ (R0 M).drop 1)] ++ (G0 N M).drop 1)] := rfl
  have b2a := b2 (.lst (R0 M))
  have b2b := b2 (.tup (R0 M ++ [.int 0]))
  have b2c := b2 (.tup ([.int (-1)] ++ (R0 M).drop 1))
  have b2d := b2 (.tup ([.bl false] ++ (R0 M).drop 1))
  have b4a := b4 (.int (-1))
  have b4b := b4 (.bl false)
  rw [hO]
  clear b2 b4 hO
  generalize PV.tup ([.lst (R0 M)] ++ (G0 N M).drop 1) = X6 at *
  generalize PV.tup ([.tup (R0 M ++ [.int 0])] ++ (G0 N M).drop 1) = X7 at *
  generalize PV.tup ([.tup ([.int (-1)] ++ (R0 M).drop 1)] ++ (G0 N M).drop 1) = X8 at *
  generalize PV.tup ([.tup ([.bl false] ++ (R0 M).drop 1)] ++ (G0 N M).drop 1) = X9 at *
  generalize PV.tup ([.int (-1)] ++ (R0 M).drop 1) = Y8 at *
  generalize PV.tup ([.bl false] ++ (R0 M).drop 1) = Y9 at *
  generalize PV.tup (R0 M ++ [.int 0]) = Y7 at *
  generalize PV.lst (R0 M) = Y6 at *
  generalize PV.tup ((R0 M).drop 1) = Y5 at *
  generalize PV.tup (G0 N M ++ (G0 N M).take 1) = X5 at *
  generalize PV.tup ((G0 N M).take 1) = Y4 at *
  generalize PV.tup ((G0 N M).drop 1) = Y3 at *
  generalize PV.lst (G0 N M) = Y2 at *
  generalize PV.tup (R0 M) = Y1 at *
  generalize PV.tup (G0 N M) = Y0 at *
  unfold rr
  simp [m__law_right_9, g0, c1, c2, c3, b1, b2a, b2b, b2c, b2d, b3, b4a, b4b, l1, l2, lst1_9]
theorem r10 (l1 : 1 ≤ l.length) (o1 : 1 ≤ o.length) (l2 : l.length ≤ 1000) (o2 : o.length ≤ 1000) : m__law_right_10 φ (rr most side l o w sums row least best turn at_ value bound paper due by_ (some (.pv (.tup (G0 l.length o.length)))) (some (.pv (.lst (oddL l.length o.length))))) m = .next (rr most side l o w sums row least best turn at_ value bound paper due by_ (some (.pv (.tup (G0 l.length o.length)))) (some (.pv (.lst (oddL l.length o.length ++ oddR l.length o.length))))) m := by
  generalize hN : l.length = N at *
  generalize hM : o.length = M at *
  have gl : (G0 N M).length = N := by simp [G0]
  have rl : (R0 M).length = M := by simp [R0]
  have g0 : idx m (.pv (.tup (G0 N M))) (.pv (.int (-1))) = some (.pv (.tup (R0 M))) := by
    obtain ⟨k, rfl⟩ : ∃ k, N = k + 1 := ⟨N - 1, by omega⟩
    unfold G0
    rw [List.replicate_succ']
    exact v_idxT atI_last
  have c1 : slc m (.pv (.tup (G0 N M))) none (some (-1)) = some (.pv (.tup ((G0 N M).dropLast))) := by
    show some (Val.pv (.tup (cut (G0 N M) none (some (-1))))) = _
    rw [cut_last (by omega)]
  have c2 : slc m (.pv (.tup (R0 M))) none (some (-1)) = some (.pv (.tup ((R0 M).dropLast))) := by
    show some (Val.pv (.tup (cut (R0 M) none (some (-1))))) = _
    rw [cut_last (by omega)]
  have b1 : ∀ x : PV, bin .add m (.pv (.tup ((G0 N M).dropLast))) (.pv (.tup [x])) = some (.pv (.tup ((G0 N M).dropLast ++ [x]))) := fun x => v_addT (by simp; omega)
  have b2 : ∀ x : PV, bin .add m (.pv (.tup ((R0 M).dropLast))) (.pv (.tup [x])) = some (.pv (.tup ((R0 M).dropLast ++ [x]))) := fun x => v_addT (by simp; omega)
  have b3 : ∀ xs : List PV, xs.length ≤ 100 → bin .add m (.pv (.lst (oddL N M))) (.pv (.lst xs)) = some (.pv (.lst (oddL N M ++ xs))) := fun xs h => v_addL (by simp [oddL]; omega)
  have b3' := b3 (oddR N M) (by simp [oddR])
  have hO : oddR N M = [.tup ((G0 N M).dropLast ++ [.tup ((R0 M).dropLast ++ [.int 100000001])]), .tup ((G0 N M).dropLast ++ [.tup ((R0 M).dropLast ++ [.non])]), .int 5] := rfl
  generalize hL : PV.lst (oddL N M ++ oddR N M) = Z at *
  have b1a := b1 (.tup ((R0 M).dropLast ++ [.int 100000001]))
  have b1b := b1 (.tup ((R0 M).dropLast ++ [.non]))
  have b2a := b2 (.int 100000001)
  have b2b := b2 .non
  rw [hO] at b3'
  clear b1 b2 b3 hO hL
  generalize PV.tup ((G0 N M).dropLast ++ [.tup ((R0 M).dropLast ++ [.int 100000001])]) = X1 at *
  generalize PV.tup ((G0 N M).dropLast ++ [.tup ((R0 M).dropLast ++ [.non])]) = X2 at *
  generalize PV.tup ((R0 M).dropLast ++ [.int 100000001]) = Y1 at *
  generalize PV.tup ((R0 M).dropLast ++ [.non]) = Y2 at *
  generalize PV.lst (oddL N M) = Z1 at *
  generalize PV.tup (G0 N M) = Y3 at *
  generalize PV.tup (R0 M) = Y4 at *
  generalize PV.tup (R0 M).dropLast = Y5 at *
  generalize PV.tup (G0 N M).dropLast = Y6 at *
  unfold rr
  simp [m__law_right_10, g0, c1, c2, pow8, b1a, b1b, b2a, b2b, b3']
theorem r11 (hno : ∀ v ∈ oddL l.length o.length ++ oddR l.length o.length, φ "is_sum_paper" [.pv (st l), .pv (st o), .pv (.int w), .pv (.int 0), .pv v] m = .ok (.pv (.bl false)) m) (hyes : φ "is_sum_paper" [.pv (st l), .pv (st o), .pv (.int w), .pv (.int 0), .pv (.tup (G0 l.length o.length))] m = .ok (.pv (.bl true)) m) :
    m__law_right_11 φ (rr most side l o w sums row least best turn at_ value bound paper due by_ (some (.pv (.tup (G0 l.length o.length)))) (some (.pv (.lst (oddL l.length o.length ++ oddR l.length o.length))))) m = .ret (.pv (.bl true)) m := by
  have hlen : (oddL l.length o.length ++ oddR l.length o.length).length = 12 := rfl
  generalize oddL l.length o.length ++ oddR l.length o.length = xs at *
  generalize PV.tup (G0 l.length o.length) = g at *
  have iX : iOf m (.pv (.lst xs)) = some (xs, []) := rfl
  have hc : (cLc false [20] (iSeq (cVar 19)) (.name 20) (tTru (cCmp .isnot (cCall "is_sum_paper" (aCons (cVar 3) (aCons (cVar 4) (aCons (cVar 5) (aCons (cC (.int 0)) (aCons (cVar 20) (aNil))))))) (cC (.bl false)))) (cVar 20)) φ (rr most side l o w sums row least best turn at_ value bound paper due by_ (some (.pv g)) (some (.pv (.lst xs)))) m = .ok (.pv (.lst [])) m := by
    unfold rr
    simp [iX]
    rw [lc1_ok (by show xs.length < _; omega), lcL_none fun x hx => by simp [Pn.wipe, hno x hx]]
    simp
  have heq : cmp .eq m (.pv (.lst [])) (.pv (.lst [])) = some (.pv (.bl true)) := by
    rw [v_eq (by simp [PV.okD, okDs]) (by simp [PV.okD, okDs])]; simp [eqP, eqPs]
  unfold m__law_right_11
  unfold rr at *
  simp only [e_ret, e_and, e_cmp]
  rw [hc]
  simp [heq, hyes]
end
end L_k36

set_option Elab.async false
set_option linter.all false
set_option maxRecDepth 100000
set_option autoImplicit false
set_option maxHeartbeats 1000000
namespace L_k36
open PySem Pn
variable {n : Nat} {m : Mem} {φ : Phi}
def bP : Option (List NP) → PV
  | none => .non
  | some r => rowP r
def bOk (w : Nat) (l o : List Pt) : Option (List NP) → Prop
  | none => sumO w l o = none
  | some r => r ∈ cps l.length o.length w ∧ sumO w l o = some (sumC (dd l o) r)
theorem min_prices {l : List Int} (h : l ≠ []) : bMinD m [.pv (.lst (l.map PV.int))] = some (.pv (.int (mn0 l))) := by
  cases l with
  | nil => exact absurd rfl h
  | cons x xs => exact min_ints
theorem p_right {a b most side : Int} (hM : okM a b) (h0 : 1 ≤ most) (h1 : most ≤ 4) (h2 : 1 ≤ side) (h3 : side ≤ 30) :
    ∃ a' b', phi T (n + 8) "_law_right" [.ref 0, .pv (.int most), .pv (.int side)] (M [] a b) = .ok (.pv (.bl true)) (M [] a' b') ∧ okM a' b' := by
  rw [phi_eq t__law_right rfl]
  obtain ⟨l, a1, b1, e1, oM1, l1, l2, l3⟩ := p_stroke (n := n + 5) (mr := []) hM h0 (by omega) h2 (by omega)
  obtain ⟨o, a2, b2, e2, oM2, k1, k2, k3⟩ := p_stroke (n := n + 5) (mr := []) oM1 h0 (by omega) h2 (by omega)
  obtain ⟨w, a3, b3, e3, oM3, hw⟩ := p_lsome (n := n + 5) (mr := []) (g := fun i : Nat => PV.int i) (rs := lags) oM2 (by decide) (by decide)
  have big : ∀ q, inB 30 q → inB 10000 q := fun q h => by obtain ⟨q1, q2, q3, q4⟩ := h; exact ⟨by omega, by omega, by omega, by omega⟩
  have okl : okS l := ⟨l1, by omega, fun q hq => big q (l3 q hq)⟩
  have oko : okS o := ⟨k1, by omega, fun q hq => big q (k3 q hq)⟩
  have l4 : l.length ≤ 4 := by omega
  have o4 : o.length ≤ 4 := by omega
  have w127 := lag_le hw
  have hdd : ∀ i j, i < l.length → j < o.length → dd l o i j ≤ 60 := fun i j hi hj => far_le (gd_in l3 hi) (gd_in k3 hj)
  have hS : ∀ i j, i < l.length → j < o.length → bnd w (i, j) = true → 0 ≤ S w (dd l o) i j ∧ S w (dd l o) i j ≤ 420 := fun i j hi hj hb => by
    have e1 := S_nn (g := w) (d := dd l o) (dd_nn l o) (i + j + 1) i j (by omega)
    have e2 := S_ub (g := w) (d := dd l o) (B := 60) (by omega) (i + j + 1) i j (by omega) hb fun x y hx hy => hdd x y (by omega) (by omega)
    exact ⟨e1, by omega⟩
  have hsum : ∀ s, sumO w l o = some s → 0 ≤ s ∧ s ≤ 99999999 := fun s h => by
    unfold sumO at h
    split at h
    · rename_i hb
      have := hS (l.length - 1) (o.length - 1) (by omega) (by omega) hb
      cases h
      omega
    · cases h
  have F : Fx (phi T (n + 7)) l o w := {
    hl := okl, ho := oko, l4 := l4, o4 := o4, hw := hw
    same := fun v m h => p_same 5 v (n + 1) m h
    sumof := fun ps m hz hp => p_sum_g (n := n) okl oko l4 o4 hw hz hp fun p h => by have := hp p h; have := hdd p.1 p.2 (by omega) (by omega); omega
    price := fun ps m hz hp => p_price (n := n + 5) hz hp
    roll := fun h h0 h1 => p_roll (n := n + 6) h h0 h1
    some1 := fun h h0 h1 => p_lsome (n := n + 5) (g := rowP) h h0 h1
    some2 := fun h h0 h1 => p_lsome (n := n + 5) (g := PV.int) h h0 h1
    paper := fun b m h0 h1 => p_sum_paper (n := n) okl oko w127 h0 h1
    isp := fun b V m h0 h1 hV => p_isp (n := n) okl oko w127 h0 h1 hV
    lip := fun b V m => p_lip (n := n + 5) l1 (by omega) k1 (by omega)
    pots := fun i j hi hj => by
      unfold pot
      split
      · rename_i hb
        have := hS i j hi hj hb
        omega
      · omega }
  have c1 : phi T (n + 7) "_law_couplings" [.pv (.int l.length), .pv (.int o.length), .pv (.int w)] (M [] a3 b3) = .ok (.pv (RS l o w)) (M [] a3 b3) := p_couplings (n := n + 6) l1 k1 (by omega)
  have c2 : phi T (n + 7) "least_sum" [.pv (st l), .pv (st o), .pv (.int w)] (M [] a3 b3) = .ok (.pv (oI (sumO w l o))) (M [] a3 b3) := by
    rw [← sumO_P]; exact p_least_sum (n := n + 1) okl oko w127
  have c3 : phi T (n + 7) "least_sum" [.pv (st o), .pv (st l), .pv (.int w)] (M [] a3 b3) = .ok (.pv (oI (sumO w l o))) (M [] a3 b3) := by
    rw [← sumO_sym okl oko w127, ← sumO_P]; exact p_least_sum (n := n + 1) oko okl w127
  obtain ⟨best, c4, c5⟩ : ∃ best : Option (List NP), phi T (n + 7) "sum_coupling" [.pv (st l), .pv (st o), .pv (.int w)] (M [] a3 b3) = .ok (.pv (bP best)) (M [] a3 b3) ∧ bOk w l o best := by
    by_cases hb : bnd w (l.length - 1, o.length - 1) = true
    · obtain ⟨tail, r1, r2, r3, r4⟩ := p_sum_coupling (n := n + 1) (m := M [] a3 b3) (g := w) okl oko w127 hb
      refine ⟨some ((l.length - 1, o.length - 1) :: tail).reverse, r4, chain_cps l1 l4 k1 o4 hw r1 r2, ?_⟩
      rw [sumC_rev, r3]
      unfold sumO
      rw [if_pos hb]
    · refine ⟨none, p_sum_coupling_no (n := n + 1) okl oko w127 (by simpa using hb), ?_⟩
      show sumO w l o = none
      unfold sumO
      rw [if_neg hb]
  have e1' : phi T (n + 7) "_law_stroke" [.ref 0, .pv (.int most), .pv (.int side)] (M [] a b) = .ok (.pv (st l)) (M [] a1 b1) := e1
  have e2' : phi T (n + 7) "_law_stroke" [.ref 0, .pv (.int most), .pv (.int side)] (M [] a1 b1) = .ok (.pv (st o)) (M [] a2 b2) := e2
  have e3' : phi T (n + 7) "_law_some" [.ref 0, .pv (.lst [.int 0, .int 1, .int 2, .int 127])] (M [] a2 b2) = .ok (.pv (.int w)) (M [] a3 b3) := e3
  have hno : ∀ v ∈ oddL l.length o.length ++ oddR l.length o.length, ∀ m, phi T (n + 7) "is_sum_paper" [.pv (st l), .pv (st o), .pv (.int w), .pv (.int 0), .pv v] m = .ok (.pv (.bl false)) m := odd_no okl oko w127
  have hpr := prices_ok okl oko l4 o4 hw
  have h63 := cps_63 l1 l4 k1 o4 hw
  have hin : ∀ r ∈ cps l.length o.length w, r.length ≤ 7 ∧ ∀ p ∈ r, p.1 < l.length ∧ p.2 < o.length := fun r hr => by
    obtain ⟨q1, q2, q3⟩ := cps_in l1 l4 k1 o4 hw hr
    exact ⟨q2, fun p hp => by have := q3 p hp; omega⟩
  clear e1 e2 e3
  generalize phi T (n + 7) = φ at *
  have t0 : m__law_right_0 φ (start 21 [.ref 0, .pv (.int most), .pv (.int side)]) (M [] a b) = .next [some (.ref 0), some (.pv (.int most)), some (.pv (.int side)), some (.pv (st l)), some (.pv (st o)), some (.pv (.int w)), none, none, none, none, none, none, none, none, none, none, none, none, none, none, none] (M [] a3 b3) := by
    simp only [m__law_right_0]
    simp [e1', e2', e3', lst1_4]
  have t1 : m__law_right_1 φ [some (.ref 0), some (.pv (.int most)), some (.pv (.int side)), some (.pv (st l)), some (.pv (st o)), some (.pv (.int w)), none, none, none, none, none, none, none, none, none, none, none, none, none, none, none] (M [] a3 b3) = .next (rr most side l o w none none none none none none none none none none none none none) (M [] a3 b3) := by
    unfold rr
    simp only [m__law_right_1]
    simp [len_st, c1]
  have t2 : m__law_right_2 φ (rr most side l o w none none none none none none none none none none none none none) (M [] a3 b3) = .next (rr most side l o w (some (.pv (.lst ((prices w l o).map PV.int)))) none none none none none none none none none none none none) (M [] a3 b3) := by
    have iR : iOf (M [] a3 b3) (.pv (RS l o w)) = some ((cps l.length o.length w).map rowP, []) := rfl
    unfold rr
    simp only [m__law_right_2]
    simp [iR]
    rw [lc1_ok (by simp; omega), lcL_mapf (h := fun r => PV.int (sumC (dd l o) r)) fun r hr => by
      have h := hin r hr
      have := F.price r (M [] a3 b3) (by omega) h.2
      simp [Pn.wipe, this]]
    simp [prices]
  have t3 : m__law_right_3 φ (rr most side l o w (some (.pv (.lst ((prices w l o).map PV.int)))) none none none none none none none none none none none none) (M [] a3 b3) = .next (rr most side l o w (some (.pv (.lst ((prices w l o).map PV.int)))) none (some (.pv (oI (sumO w l o)))) (some (.pv (bP best))) none none none none none none none none none) (M [] a3 b3) := by
    have en := ne_ints (m := M [] a3 b3) (l := prices w l o)
    rw [← hpr]
    by_cases hp : prices w l o = []
    · rw [hp] at en ⊢
      simp only [List.isEmpty_nil, Bool.not_true, List.map_nil] at en
      unfold rr
      simp only [m__law_right_3]
      simp [en, c4, oI]
    · have em := min_prices (m := M [] a3 b3) hp
      have he : (prices w l o).isEmpty = false := by simpa using hp
      rw [he] at en ⊢
      generalize PV.lst ((prices w l o).map PV.int) = R at *
      unfold rr
      simp only [m__law_right_3]
      simp [en, em, c4, oI]
  generalize PV.lst ((prices w l o).map PV.int) = R at *
  have t4 : m__law_right_4 φ (rr most side l o w (some (.pv R)) none (some (.pv (oI (sumO w l o)))) (some (.pv (bP best))) none none none none none none none none none) (M [] a3 b3) = .next (rr most side l o w (some (.pv R)) none (some (.pv (oI (sumO w l o)))) (some (.pv (bP best))) none none none none none none none none none) (M [] a3 b3) := by
    have hs := F.same (.tup [oI (sumO w l o), oI (sumO w l o)]) (M [] a3 b3) (by cases sumO w l o <;> simp [fit, fits, oI])
    cases best with
    | none =>
      have c5 : sumO w l o = none := c5
      rw [c5] at c2 c3 hs ⊢
      have hB : bP none = .non := rfl
      rw [hB]
      simp only [oI] at *
      unfold rr
      simp only [m__law_right_4]
      simp [c2, c3, hs, ne_bl]
    | some r =>
      obtain ⟨c6, c7⟩ := c5
      have hn : isNon (.pv (rowP r)) = false := rfl
      rw [c7] at c2 c3 hs ⊢
      have hB : bP (some r) = rowP r := rfl
      rw [hB]
      simp only [oI] at *
      unfold rr
      simp only [m__law_right_4]
      simp [c2, c3, hs, ne_bl, hn, nonI]
  have t5 : m__law_right_5 φ (rr most side l o w (some (.pv R)) none (some (.pv (oI (sumO w l o)))) (some (.pv (bP best))) none none none none none none none none none) (M [] a3 b3) = .next (rr most side l o w (some (.pv R)) none (some (.pv (oI (sumO w l o)))) (some (.pv (bP best))) none none none none none none none none none) (M [] a3 b3) := by
    cases best with
    | none =>
      have hB : bP none = .non := rfl
      rw [hB]
      unfold rr
      simp only [m__law_right_5]
      simp
    | some r =>
      obtain ⟨c6, c7⟩ := c5
      have hr := hin r c6
      have hn : isNon (.pv (rowP r)) = false := rfl
      have f1 := F.sumof r (M [] a3 b3) (by omega) fun p hp => by have := hr.2 p hp; omega
      rw [if_pos c6] at f1
      have f2 := F.same (.int (sumC (dd l o) r)) (M [] a3 b3) (by simp [fit])
      have hni : cmp .notin (M [] a3 b3) (.pv (rowP r)) (.pv (RS l o w)) = some (.pv (.bl false)) := by
        have := nin_row (m := M [] a3 b3) (p := r) (rs := cps l.length o.length w)
        rw [decide_eq_true c6] at this
        exact this
      have hB : bP (some r) = rowP r := rfl
      rw [c7, hB]
      simp only [oI] at *
      unfold rr
      simp only [m__law_right_5]
      simp [hn, hni, f1, f2]
  generalize (bP best) = B at *
  obtain ⟨a4, b4, row4, turn4, at4, value4, t6, oM4⟩ := r6 (most := most) (side := side) (sums := some (.pv R)) (row := none) (least := some (.pv (oI (sumO w l o)))) (best := some (.pv B)) (turn := none) (at_ := none) (value := none) (bound := none) (paper := none) (due := none) (by_ := none) (good := none) (odds := none) F oM3
  obtain ⟨a5, b5, row5, turn5, at5, value5, bound5, paper5, due5, by5, t7, oM5⟩ := r7 (most := most) (side := side) (sums := some (.pv R)) (row := row4) (best := some (.pv B)) (turn := turn4) (at_ := at4) (value := value4) (bound := none) (paper := none) (due := none) (by_ := none) (good := none) (odds := none) F oM4 hsum
  have t8 := r8 (m := M [] a5 b5) (φ := φ) (most := most) (side := side) (l := l) (o := o) (w := w) (sums := some (.pv R)) (row := row5) (least := some (.pv (oI (sumO w l o)))) (best := some (.pv B)) (turn := turn5) (at_ := at5) (value := value5) (bound := bound5) (paper := paper5) (due := due5) (by_ := by5) (good := none) (odds := none) (by omega) (by omega)
  have t9 := r9 (m := M [] a5 b5) (φ := φ) (most := most) (side := side) (l := l) (o := o) (w := w) (sums := some (.pv R)) (row := row5) (least := some (.pv (oI (sumO w l o)))) (best := some (.pv B)) (turn := turn5) (at_ := at5) (value := value5) (bound := bound5) (paper := paper5) (due := due5) (by_ := by5) (odds := none) l1 k1 (by omega) (by omega)
  have t10 := r10 (m := M [] a5 b5) (φ := φ) (most := most) (side := side) (l := l) (o := o) (w := w) (sums := some (.pv R)) (row := row5) (least := some (.pv (oI (sumO w l o)))) (best := some (.pv B)) (turn := turn5) (at_ := at5) (value := value5) (bound := bound5) (paper := paper5) (due := due5) (by_ := by5) l1 k1 (by omega) (by omega)
  have hyes : φ "is_sum_paper" [.pv (st l), .pv (st o), .pv (.int w), .pv (.int 0), .pv (.tup (G0 l.length o.length))] (M [] a5 b5) = .ok (.pv (.bl true)) (M [] a5 b5) := by
    have := F.isp 0 (fun _ _ => 0) (M [] a5 b5) (by omega) (by omega) (fun i j _ _ => by simp)
    rw [zero_pap (dd_nn l o), ← zeros] at this
    exact this
  have t11 := r11 (m := M [] a5 b5) (φ := φ) (most := most) (side := side) (l := l) (o := o) (w := w) (sums := some (.pv R)) (row := row5) (least := some (.pv (oI (sumO w l o)))) (best := some (.pv B)) (turn := turn5) (at_ := at5) (value := value5) (bound := bound5) (paper := paper5) (due := due5) (by_ := by5) (fun v hv => hno v hv _) hyes
  refine ⟨a5, b5, ?_, oM5⟩
  simp only [m__law_right, e_sseq, t0, e_seq2n, t1, t2, t3, t4, t5, t6, t7, t8, t9, t10, t11]
  rfl
end L_k36

set_option Elab.async false
set_option linter.all false
set_option maxRecDepth 100000
set_option autoImplicit false
set_option maxHeartbeats 1000000
namespace L_k36
open PySem Pn
variable {n : Nat} {m : Mem} {φ : Phi}
def Sf (g : Nat) (d : Nat → Nat → Int) : Nat → Nat → Nat → Int
  | 0, _, _ => 0
  | k + 1, a, b => d a b + mn0 ((aheadB g a b).map fun p => Sf g d k p.1 p.2)
theorem Sf_eq {g : Nat} {d : Nat → Nat → Int} : ∀ {k a b : Nat}, a + b < k → S g d a b = Sf g d k a b
  | 0, a, b, h => absurd h (by omega)
  | k + 1, a, b, h => by
    rw [S_eq, Sf]
    congr 2
    unfold rwB
    apply List.map_congr_left
    intro q hq
    have hl := ahead_lt (List.mem_filter.mp hq).1
    exact Sf_eq (by omega)
def sumF (g : Nat) (l o : List Pt) : Option Int := if bnd g (l.length - 1, o.length - 1) = true then some (Sf g (dd l o) 9 (l.length - 1) (o.length - 1)) else none
theorem sum_F {g : Nat} {l o : List Pt} {x : Option Int} (h : decide (l.length ≤ 4 ∧ o.length ≤ 4) = true) (hx : sumF g l o = x) : sumO g l o = x := by
  have := of_decide_eq_true h
  rw [← hx]
  unfold sumO sumF
  rw [Sf_eq (k := 9) (by omega)]
theorem S_lo {d : Nat → Nat → Int} {c : Int} (hc : 0 ≤ c) : ∀ (k a b : Nat), a + b < k → a ≤ 126 → b ≤ 126 → (∀ i j, i ≤ a → j ≤ b → d i j = c) → ((a : Int) + 1) * c ≤ S 127 d a b
  | 0, a, b, h, _, _, _ => absurd h (by omega)
  | k + 1, a, b, h, ha, hb, hd => by
    rw [S_eq, hd a b (Nat.le_refl _) (Nat.le_refl _)]
    have e : ((a : Int) + 1) * c = (a : Int) * c + c := by rw [Int.add_mul, Int.one_mul]
    by_cases hr : rwB 127 (S 127 d) a b = []
    · have ha0 : a = 0 := by
        cases a with
        | zero => rfl
        | succ a =>
          have hm : ((a, b) : NP) ∈ aheadB 127 (a + 1) b := List.mem_filter.mpr ⟨mem_ahead.mpr (.inr (.inl ⟨rfl, rfl⟩)), bnd127 (by simp only; omega) (by simp only; omega)⟩
          have : S 127 d a b ∈ rwB 127 (S 127 d) (a + 1) b := List.mem_map_of_mem (f := fun p : NP => S 127 d p.1 p.2) hm
          rw [hr] at this
          cases this
      subst ha0
      rw [hr]
      show ((0 : Nat) + 1 : Int) * c ≤ c + 0
      simp
    · obtain ⟨q, hq, he⟩ := List.mem_map.mp (mn0_mem hr)
      have hl := ahead_lt (List.mem_filter.mp hq).1
      have hm := mem_ahead.mp (List.mem_filter.mp hq).1
      have ih := S_lo hc k q.1 q.2 (by omega) (by omega) (by omega) fun i j hi hj => hd i j (by omega) (by omega)
      have he' : S 127 d q.1 q.2 = mn0 (rwB 127 (S 127 d) a b) := he
      have e2 : (a : Int) * c ≤ ((q.1 : Int) + 1) * c := Int.mul_le_mul_of_nonneg_right (by omega) hc
      omega
theorem S_hi {d : Nat → Nat → Int} {c : Int} : ∀ (a : Nat), a ≤ 126 → (∀ i, i ≤ a → d i i = c) → S 127 d a a ≤ ((a : Int) + 1) * c
  | 0, _, hd => by
    rw [S_eq, hd 0 (Nat.le_refl _)]
    have : rwB 127 (S 127 d) 0 0 = [] := rfl
    rw [this]
    show c + 0 ≤ ((0 : Nat) + 1 : Int) * c
    simp
  | a + 1, ha, hd => by
    have h1 := S_step (g := 127) (d := d) (a := a) (b := a) (bnd127 (by simp only; omega) (by simp only; omega))
    have h2 := S_hi a (by omega) fun i hi => hd i (by omega)
    rw [hd (a + 1) (Nat.le_refl _)] at h1
    have e : (((a + 1 : Nat) : Int) + 1) * c = ((a : Int) + 1) * c + c := by rw [Int.add_mul, Int.one_mul]; simp
    omega
def one3 : List Pt := [(0, 0), (2, 0), (4, 0)]
def oth2 : List Pt := [(0, 1), (4, 1)]
def ZA : List Pt := List.replicate 127 (-10000, 0)
def ZB : List Pt := List.replicate 127 (10000, 0)
def okB (l : List Pt) : Bool := decide (1 ≤ l.length) && (decide (l.length ≤ 127) && l.all fun p => decide (-10000 ≤ p.1) && (decide (p.1 ≤ 10000) && (decide (-10000 ≤ p.2) && decide (p.2 ≤ 10000))))
theorem ok_all {l : List Pt} (h : okB l = true) : okS l := by
  unfold okB at h
  simp only [Bool.and_eq_true, decide_eq_true_eq, List.all_eq_true] at h
  exact ⟨h.1, h.2.1, fun q hq => by obtain ⟨q1, q2, q3, q4⟩ := h.2.2 q hq; exact ⟨q1, q2, q3, q4⟩⟩
theorem okone : okS one3 := ok_all (by decide +kernel)
theorem okoth : okS oth2 := ok_all (by decide +kernel)
theorem gdA {i : Nat} (h : i < 127) : gd ZA i = (-10000, 0) := by
  unfold gd ZA
  rw [List.getD_eq_getElem?_getD, List.getElem?_replicate, if_pos h]; rfl
theorem gdB {i : Nat} (h : i < 127) : gd ZB i = (10000, 0) := by
  unfold gd ZB
  rw [List.getD_eq_getElem?_getD, List.getElem?_replicate, if_pos h]; rfl
theorem sumZ : sumO 127 ZA ZB = some 2540000 := by
  have lA : ZA.length = 127 := by simp [ZA]
  have lB : ZB.length = 127 := by simp [ZB]
  unfold sumO
  rw [lA, lB, if_pos (bnd127 (by simp only; omega) (by simp only; omega))]
  have hd : ∀ i j, i ≤ 126 → j ≤ 126 → dd ZA ZB i j = 20000 := fun i j hi hj => by
    unfold dd
    rw [gdA (by omega), gdB (by omega)]
    decide
  have h1 := S_lo (d := dd ZA ZB) (c := 20000) (by omega) 253 126 126 (by omega) (by omega) (by omega) hd
  have h2 := S_hi (d := dd ZA ZB) (c := 20000) 126 (by omega) fun i hi => hd i i hi hi
  congr 1
  simp only [Nat.reduceSub]
  omega
theorem q_sum {l o : List Pt} {g : Nat} {x : Option Int} (hl : okS l) (ho : okS o) (hg : g ≤ 127) (h : sumO g l o = x) : phi T (n + 6) "least_sum" [.pv (st l), .pv (st o), .pv (.int g)] m = .ok (.pv (oI x)) m := by
  rw [← h, ← sumO_P]; exact p_least_sum hl ho hg
theorem q_of {l o : List Pt} {w : Nat} {ps : List NP} {x : Option Int} (hl : okS l) (ho : okS o) (h4 : decide (l.length ≤ 4 ∧ o.length ≤ 4 ∧ w ∈ lags ∧ ps.length ≤ 1000) = true) (hp : (ps.all fun p => decide (p.1 ≤ l.length - 1) && (decide (p.2 ≤ o.length - 1) && decide (dd l o p.1 p.2 ≤ 20000))) = true) (hx : (if ps ∈ cps l.length o.length w then some (sumC (dd l o) ps) else none) = x) :
    phi T (n + 7) "sum_of" [.pv (st l), .pv (st o), .pv (.int w), .pv (rowP ps)] m = .ok (.pv (oI x)) m := by
  obtain ⟨c1, c2, c3, c4⟩ := of_decide_eq_true h4
  have hp' : ∀ p ∈ ps, p.1 ≤ l.length - 1 ∧ p.2 ≤ o.length - 1 ∧ dd l o p.1 p.2 ≤ 20000 := fun p hp' => by
    have := List.all_eq_true.mp hp p hp'
    simpa using this
  rw [← hx]
  exact p_sum_g hl ho c1 c2 c3 c4 (fun p h => ⟨(hp' p h).1, (hp' p h).2.1⟩) fun p h => (hp' p h).2.2
theorem q_odd {l o : List Pt} {w : Nat} {v : PV} (hl : okS l) (ho : okS o) (hw : w ≤ 127) (h : dat3 v = true) (hz : lnP v ≤ 1000) (hp : isPs (l.length - 1) (o.length - 1) v = false ∨ v = .tup []) :
    phi T (n + 7) "sum_of" [.pv (st l), .pv (st o), .pv (.int w), .pv v] m = .ok (.pv .non) m :=
  p_sum_none hl ho hw fun m => p_is_coupling (n := n) hl ho (by omega) (by omega) (p_fits_odd (n := n + 2) hl ho h hz hp)
def tb (t : List (List Int)) (i j : Nat) : Int := (t.getD i []).getD j 0
theorem q_isp {l o : List Pt} {w : Nat} {b : Int} {t : List (List Int)} {x : Bool} {v : PV} (hl : okS l) (ho : okS o) (hw : decide (w ≤ 127 ∧ 0 ≤ b ∧ b ≤ 100000000) = true) (hV : ((List.range l.length).all fun i => (List.range o.length).all fun j => decide (0 ≤ tb t i j) && decide (tb t i j ≤ 100000000)) = true) (hv : mat l.length o.length (tb t) = v) (hx : isPap w (dd l o) b l.length o.length (tb t) = x) :
    phi T (n + 7) "is_sum_paper" [.pv (st l), .pv (st o), .pv (.int w), .pv (.int b), .pv v] m = .ok (.pv (.bl x)) m := by
  obtain ⟨c1, c2, c3⟩ := of_decide_eq_true hw
  rw [← hv, ← hx]
  exact p_isp hl ho c1 c2 c3 fun i j hi hj => by
    have := List.all_eq_true.mp (List.all_eq_true.mp hV i (List.mem_range.mpr hi)) j (List.mem_range.mpr hj)
    simpa using this
theorem pow4 : bin .pow m (.pv (.int 10)) (.pv (.int 4)) = some (.pv (.int 10000)) := by
  rw [v_powI (by decide +kernel)]; rfl
theorem tup1_10 {p1 p2 p3 p4 p5 p6 p7 p8 p9 p10 : PV} : tup1 (.ok [.pv p1, .pv p2, .pv p3, .pv p4, .pv p5, .pv p6, .pv p7, .pv p8, .pv p9, .pv p10] m) = .ok (.pv (.tup [p1, p2, p3, p4, p5, p6, p7, p8, p9, p10])) m := (rfl)
def C1 : PV := .tup [.int 4, .non, .int 0, .int 4, .int 6]
def C2 : PV := .tup [.int 4, .non, .int 0, .int 4, .int 6, .non, .non, .non]
def C3 : PV := .tup [.int 4, .non, .int 0, .int 4, .int 6, .non, .non, .non, .non, .int 4]
theorem a2 : bin .add m (.pv C1) (.pv (.tup [.non, .non, .non])) = some (.pv C2) := v_addT (by decide)
theorem a3 : bin .add m (.pv C2) (.pv (.tup [.non, .int 4])) = some (.pv C3) := v_addT (by decide)
def K00 : PV := .tup [.int 0, .int 0]
def K10 : PV := .tup [.int 1, .int 0]
def K21 : PV := .tup [.int 2, .int 1]
def OD : List PV := [.lst [K00, K10, K21], .tup [.lst [.int 0, .int 0], K10, K21], .tup [.tup [.int 0, .bl false], K10, K21], .tup [K00, .tup [.bl true, .int 0], K21], .tup [K00, K10, K21, K21], .tup [.tup [.int 0, .int 0, .int 0], K10, K21], .tup [], .int 5]
def P1 : PV := .tup [.tup [.int 1, .int 5], .tup [.int 3, .int 3], .tup [.int 7, .int 4]]
def P2 : PV := .tup [.tup [.int 1, .int 5], .tup [.int 3, .int 3], .tup [.int 7, .int 5]]
def P3 : PV := .tup [.tup [.int 2, .int 5], .tup [.int 3, .int 3], .tup [.int 7, .int 4]]
def P4 : PV := .tup [.tup [.int 1, .int 5], .tup [.int 3, .int 3], .tup [.int 7, .int 3]]
def P5 : PV := .tup [.tup [.int 0, .int 0], .tup [.int 0, .int 0], .tup [.int 0, .int 100000000]]
theorem law_true {ns : List Int} (hn : ns.length ≤ 1000) : ∃ m', phi T (n + 9) "law" [.pv (.scr (ns.map PV.int))] [] = .ok (.pv (.bl true)) m' := by
  rw [phi_eq t_law rfl]
  obtain ⟨a, b, e0, o0⟩ := p_cup (n := n + 7) (ns := ns) hn
  obtain ⟨a1, b1, e1, o1⟩ := p_right (n := n) (most := 1) (side := 4) o0 (by omega) (by omega) (by omega) (by omega)
  obtain ⟨a2', b2, e2, o2⟩ := p_right (n := n) (most := 3) (side := 6) o1 (by omega) (by omega) (by omega) (by omega)
  obtain ⟨a3', b3, e3, o3⟩ := p_right (n := n) (most := 4) (side := 9) o2 (by omega) (by omega) (by omega) (by omega)
  obtain ⟨a4', b4, e4, o4⟩ := p_right (n := n) (most := 4) (side := 20) o3 (by omega) (by omega) (by omega) (by omega)
  generalize hm0 : M [] a b = m0 at *
  have s127 : sumO 127 one3 oth2 = some 4 := sum_F (by decide +kernel) (by decide +kernel)
  have s0' : sumO 0 one3 oth2 = none := sum_F (by decide +kernel) (by decide +kernel)
  have s1' : sumO 1 one3 oth2 = some 4 := sum_F (by decide +kernel) (by decide +kernel)
  have g1 : phi T (n + 8) "least_sum" [.pv (st one3), .pv (st oth2), .pv (.int 127)] m0 = .ok (.pv (.int 4)) m0 := q_sum (n := n + 2) (g := 127) okone okoth (by omega) s127
  have g2 : phi T (n + 8) "least_sum" [.pv (st one3), .pv (st oth2), .pv (.int 0)] m0 = .ok (.pv .non) m0 := q_sum (n := n + 2) (g := 0) okone okoth (by omega) s0'
  have g3 : phi T (n + 8) "least_sum" [.pv (st one3), .pv (st one3), .pv (.int 0)] m0 = .ok (.pv (.int 0)) m0 := q_sum (n := n + 2) (g := 0) (x := some 0) okone okone (by omega) (sum_F (by decide +kernel) (by decide +kernel))
  obtain ⟨r, g4, g4'⟩ : ∃ r : List NP, phi T (n + 8) "sum_coupling" [.pv (st one3), .pv (st oth2), .pv (.int 1)] m0 = .ok (.pv (rowP r)) m0 ∧ phi T (n + 8) "sum_of" [.pv (st one3), .pv (st oth2), .pv (.int 1), .pv (rowP r)] m0 = .ok (.pv (.int 4)) m0 := by
    obtain ⟨tail, r1, r2, r3, r4⟩ := p_sum_coupling (n := n + 2) (m := m0) (g := 1) okone okoth (by omega) (by decide)
    have hin := chain_in r1
    have hlen := chain_len r1
    have hc := chain_cps (N := one3.length) (M := oth2.length) (w := 1) (by decide) (by decide) (by decide) (by decide) (by decide) r1 r2
    have hdd : ∀ i j, i ≤ one3.length - 1 → j ≤ oth2.length - 1 → dd one3 oth2 i j ≤ 20000 := fun i j hi hj => by
      have := far_le (B := 10000) (p := gd one3 i) (q := gd oth2 j) (gd_in okone.2.2 (by have := okone.1; omega)) (gd_in okoth.2.2 (by have := okoth.1; omega))
      unfold dd; omega
    have hs : S 1 (dd one3 oth2) (one3.length - 1) (oth2.length - 1) = 4 := by
      have := s1'
      unfold sumO at this
      rw [if_pos (by decide)] at this
      exact Option.some.inj this
    refine ⟨_, r4, ?_⟩
    have hone : one3.length = 3 := rfl
    have hoth : oth2.length = 2 := rfl
    have := p_sum_g (n := n + 1) (m := m0) (w := 1) (ps := ((one3.length - 1, oth2.length - 1) :: tail).reverse) okone okoth (by decide) (by decide) (by decide) (by rw [List.length_reverse, List.length_cons]; omega) (fun p hp => hin p (List.mem_reverse.mp hp)) (fun p hp => by have := hin p (List.mem_reverse.mp hp); exact hdd p.1 p.2 this.1 this.2)
    rw [if_pos hc, sumC_rev, r3, hs] at this
    exact this
  have g5 : phi T (n + 8) "sum_of" [.pv (st one3), .pv (st oth2), .pv (.int 127), .pv (.tup [.tup [.int 0, .int 0], .tup [.int 1, .int 0], .tup [.int 1, .int 1], .tup [.int 2, .int 1]])] m0 = .ok (.pv (.int 6)) m0 := q_of (n := n + 1) (w := 127) (ps := [(0, 0), (1, 0), (1, 1), (2, 1)]) (x := some 6) okone okoth (by decide +kernel) (by decide +kernel) (by decide +kernel)
  have g6 : phi T (n + 8) "sum_of" [.pv (st one3), .pv (st oth2), .pv (.int 127), .pv (.tup [.tup [.int 0, .int 0], .tup [.int 2, .int 1]])] m0 = .ok (.pv .non) m0 := q_of (n := n + 1) (w := 127) (ps := [(0, 0), (2, 1)]) (x := none) okone okoth (by decide +kernel) (by decide +kernel) (by decide +kernel)
  have g7 : phi T (n + 8) "sum_paper" [.pv (st one3), .pv (st oth2), .pv (.int 127), .pv (.int 5)] m0 = .ok (.pv .non) m0 := by
    have := p_sum_paper (n := n + 1) (m := m0) (w := 127) (b := 5) okone okoth (by omega) (by omega) (by omega)
    rw [s127] at this
    exact this
  have g8 : phi T (n + 8) "sum_of" [.pv (st one3), .pv (st oth2), .pv (.int 0), .pv (.tup [.tup [.int 0, .int 0], .tup [.int 1, .int 1], .tup [.int 2, .int 1]])] m0 = .ok (.pv .non) m0 := q_of (n := n + 1) (w := 0) (ps := [(0, 0), (1, 1), (2, 1)]) (x := none) okone okoth (by decide +kernel) (by decide +kernel) (by decide +kernel)
  have g9 : phi T (n + 8) "sum_coupling" [.pv (st one3), .pv (st oth2), .pv (.int 0)] m0 = .ok (.pv .non) m0 := p_sum_coupling_no (n := n + 2) (g := 0) okone okoth (by omega) (by decide)
  have g10 : phi T (n + 8) "least_sum" [.pv (st oth2), .pv (st one3), .pv (.int 127)] m0 = .ok (.pv (.int 4)) m0 := q_sum (n := n + 2) (g := 127) (x := some 4) okoth okone (by omega) (sum_F (by decide +kernel) (by decide +kernel))
  have g11 : phi T (n + 8) "_law_same" [.pv C3, .pv C3] m0 = .ok (.pv (.bl true)) m0 := p_same 5 C3 (n + 2) m0 (by decide +kernel)
  have g12 : ∀ v ∈ OD, phi T (n + 8) "sum_of" [.pv (st one3), .pv (st oth2), .pv (.int 127), .pv v] m0 = .ok (.pv .non) m0 := by
    have qo : ∀ v, dat3 v = true → decide (lnP v ≤ 1000) = true → isPs 2 1 v = false → phi T (n + 8) "sum_of" [.pv (st one3), .pv (st oth2), .pv (.int 127), .pv v] m0 = .ok (.pv .non) m0 := fun v h1 h2 h3 => q_odd (n := n + 1) (w := 127) okone okoth (by omega) h1 (of_decide_eq_true h2) (.inl h3)
    have q5 : phi T (n + 8) "sum_of" [.pv (st one3), .pv (st oth2), .pv (.int 127), .pv (.tup [K00, K10, K21, K21])] m0 = .ok (.pv .non) m0 := q_of (n := n + 1) (w := 127) (ps := [(0, 0), (1, 0), (2, 1), (2, 1)]) (x := none) okone okoth (by decide +kernel) (by decide +kernel) (by decide +kernel)
    have q7 : phi T (n + 8) "sum_of" [.pv (st one3), .pv (st oth2), .pv (.int 127), .pv (.tup [])] m0 = .ok (.pv .non) m0 := q_odd (n := n + 1) (w := 127) (v := .tup []) okone okoth (by omega) (by decide +kernel) (by decide +kernel) (.inr rfl)
    intro v hv
    simp only [OD, List.mem_cons, List.not_mem_nil, or_false] at hv
    rcases hv with rfl | rfl | rfl | rfl | rfl | rfl | rfl | rfl
    · exact qo _ (by decide +kernel) (by decide +kernel) (by decide +kernel)
    · exact qo _ (by decide +kernel) (by decide +kernel) (by decide +kernel)
    · exact qo _ (by decide +kernel) (by decide +kernel) (by decide +kernel)
    · exact qo _ (by decide +kernel) (by decide +kernel) (by decide +kernel)
    · exact q5
    · exact qo _ (by decide +kernel) (by decide +kernel) (by decide +kernel)
    · exact q7
    · exact qo _ (by decide +kernel) (by decide +kernel) (by decide +kernel)
  have g13 : phi T (n + 8) "sum_of" [.pv (st one3), .pv (st oth2), .pv (.int 127), .pv (.tup [K00, K10, K21])] m0 = .ok (.pv (.int 4)) m0 := q_of (n := n + 1) (w := 127) (ps := [(0, 0), (1, 0), (2, 1)]) (x := some 4) okone okoth (by decide +kernel) (by decide +kernel) (by decide +kernel)
  have h1 : phi T (n + 8) "is_sum_paper" [.pv (st one3), .pv (st oth2), .pv (.int 127), .pv (.int 4), .pv P1] m0 = .ok (.pv (.bl true)) m0 := q_isp (n := n + 1) (w := 127) (t := [[1, 5], [3, 3], [7, 4]]) okone okoth (by decide +kernel) (by decide +kernel) rfl (by decide +kernel)
  have h2 : phi T (n + 8) "is_sum_paper" [.pv (st one3), .pv (st oth2), .pv (.int 127), .pv (.int 4), .pv P2] m0 = .ok (.pv (.bl false)) m0 := q_isp (n := n + 1) (w := 127) (t := [[1, 5], [3, 3], [7, 5]]) okone okoth (by decide +kernel) (by decide +kernel) rfl (by decide +kernel)
  have h3 : phi T (n + 8) "is_sum_paper" [.pv (st one3), .pv (st oth2), .pv (.int 127), .pv (.int 4), .pv P3] m0 = .ok (.pv (.bl false)) m0 := q_isp (n := n + 1) (w := 127) (t := [[2, 5], [3, 3], [7, 4]]) okone okoth (by decide +kernel) (by decide +kernel) rfl (by decide +kernel)
  have h4 : phi T (n + 8) "is_sum_paper" [.pv (st one3), .pv (st oth2), .pv (.int 127), .pv (.int 4), .pv P4] m0 = .ok (.pv (.bl false)) m0 := q_isp (n := n + 1) (w := 127) (t := [[1, 5], [3, 3], [7, 3]]) okone okoth (by decide +kernel) (by decide +kernel) rfl (by decide +kernel)
  have h5 : phi T (n + 8) "is_sum_paper" [.pv (st one3), .pv (st oth2), .pv (.int 0), .pv (.int 100000000), .pv P5] m0 = .ok (.pv (.bl true)) m0 := q_isp (n := n + 1) (w := 0) (t := [[0, 0], [0, 0], [0, 100000000]]) okone okoth (by decide +kernel) (by decide +kernel) rfl (by decide +kernel)
  have h6 : ∀ m, phi T (n + 8) "least_sum" [.pv (st ZA), .pv (st ZB), .pv (.int 127)] m = .ok (.pv (.int 2540000)) m := fun m => q_sum (n := n + 2) (g := 127) (ok_all (by decide +kernel)) (ok_all (by decide +kernel)) (by omega) sumZ
  generalize phi T (n + 8) = φ at *
  generalize hscr : PV.scr (ns.map PV.int) = scr at *
  have t0 : m_law_0 φ (start 11 [.pv scr]) [] = .next [some (.pv scr), some (.ref 0), none, none, none, none, none, none, none, none, none] m0 := by
    simp only [m_law_0]
    simp [e0]
  have t1 : m_law_1 φ [some (.pv scr), some (.ref 0), none, none, none, none, none, none, none, none, none] m0 = .next [some (.pv scr), some (.ref 0), some (.pv (st one3)), some (.pv (st oth2)), none, none, none, none, none, none, none] m0 := by
    simp only [m_law_1]
    simp [st, one3, oth2, pt]
  have t2 : m_law_2 φ [some (.pv scr), some (.ref 0), some (.pv (st one3)), some (.pv (st oth2)), none, none, none, none, none, none, none] m0 = .next [some (.pv scr), some (.ref 0), some (.pv (st one3)), some (.pv (st oth2)), some (.pv C1), none, none, none, none, none, none] m0 := by
    simp only [m_law_2]
    simp [g1, g2, g3, g4, g4', g5, C1]
  have t3 : m_law_3 φ [some (.pv scr), some (.ref 0), some (.pv (st one3)), some (.pv (st oth2)), some (.pv C1), none, none, none, none, none, none] m0 = .next [some (.pv scr), some (.ref 0), some (.pv (st one3)), some (.pv (st oth2)), some (.pv C2), none, none, none, none, none, none] m0 := by
    simp only [m_law_3]
    simp [g6, g7, g8, a2]
  have t4 : m_law_4 φ [some (.pv scr), some (.ref 0), some (.pv (st one3)), some (.pv (st oth2)), some (.pv C2), none, none, none, none, none, none] m0 = .next [some (.pv scr), some (.ref 0), some (.pv (st one3)), some (.pv (st oth2)), some (.pv C3), none, none, none, none, none, none] m0 := by
    simp only [m_law_4]
    simp [g9, g10, a3]
  have t5 : m_law_5 φ [some (.pv scr), some (.ref 0), some (.pv (st one3)), some (.pv (st oth2)), some (.pv C3), none, none, none, none, none, none] m0 = .next [some (.pv scr), some (.ref 0), some (.pv (st one3)), some (.pv (st oth2)), some (.pv C3), none, none, none, none, none, none] m0 := by
    have ed : PV.tup [.int 4, .non, .int 0, .int 4, .int 6, .non, .non, .non, .non, .int 4] = C3 := rfl
    simp only [m_law_5]
    simp [tup1_10, ed, g11]
  have t6 : m_law_6 φ [some (.pv scr), some (.ref 0), some (.pv (st one3)), some (.pv (st oth2)), some (.pv C3), none, none, none, none, none, none] m0 = .next [some (.pv scr), some (.ref 0), some (.pv (st one3)), some (.pv (st oth2)), some (.pv C3), some (.pv (.lst OD)), none, none, none, none, none] m0 := by
    simp only [m_law_6]
    simp [lst1_8, OD, K00, K10, K21]
  have t7 : m_law_7 φ [some (.pv scr), some (.ref 0), some (.pv (st one3)), some (.pv (st oth2)), some (.pv C3), some (.pv (.lst OD)), none, none, none, none, none] m0 = .next [some (.pv scr), some (.ref 0), some (.pv (st one3)), some (.pv (st oth2)), some (.pv C3), some (.pv (.lst OD)), none, none, none, none, none] m0 := by
    have iX : iOf m0 (.pv (.lst OD)) = some (OD, []) := rfl
    have hlen : OD.length = 8 := rfl
    have ek : PV.tup [.tup [.int 0, .int 0], .tup [.int 1, .int 0], .tup [.int 2, .int 1]] = .tup [K00, K10, K21] := rfl
    have nn : cmp .ne m0 (.pv (.lst [])) (.pv (.lst [])) = some (.pv (.bl false)) := ne_nil
    have n4 : cmp .ne m0 (.pv (.int 4)) (.pv (.int 4)) = some (.pv (.bl false)) := by
      rw [v_ne (by simp [PV.okD]) (by simp [PV.okD])]; simp [eqP]
    generalize PV.tup [K00, K10, K21] = K at *
    generalize OD = xs at *
    simp only [m_law_7]
    simp [iX]
    rw [lc1_ok (by show xs.length < _; omega), lcL_none fun x hx => by simp [Pn.wipe, g12 x hx]]
    simp [nn, ek, g13, n4]
  have t8 : m_law_8 φ [some (.pv scr), some (.ref 0), some (.pv (st one3)), some (.pv (st oth2)), some (.pv C3), some (.pv (.lst OD)), none, none, none, none, none] m0 = .next [some (.pv scr), some (.ref 0), some (.pv (st one3)), some (.pv (st oth2)), some (.pv C3), some (.pv (.lst OD)), none, some (.pv (.lst [.bl true, .bl false, .bl false, .bl false])), none, none, none] m0 := by
    have k1 : PV.tup [.tup [.int 1, .int 5], .tup [.int 3, .int 3], .tup [.int 7, .int 4]] = P1 := rfl
    have k2 : PV.tup [.tup [.int 1, .int 5], .tup [.int 3, .int 3], .tup [.int 7, .int 5]] = P2 := rfl
    have k3 : PV.tup [.tup [.int 2, .int 5], .tup [.int 3, .int 3], .tup [.int 7, .int 4]] = P3 := rfl
    have k4 : PV.tup [.tup [.int 1, .int 5], .tup [.int 3, .int 3], .tup [.int 7, .int 3]] = P4 := rfl
    have iX : iOf m0 (.pv (.tup [P1, P2, P3, P4])) = some ([P1, P2, P3, P4], []) := rfl
    generalize PV.lst OD = X at *
    simp only [m_law_8]
    simp [k1, k2, k3, k4, iX]
    rw [lc1_ok (by decide)]
    simp [h1, h2, h3, h4, Pn.wipe]
  have t9 : m_law_9 φ [some (.pv scr), some (.ref 0), some (.pv (st one3)), some (.pv (st oth2)), some (.pv C3), some (.pv (.lst OD)), none, some (.pv (.lst [.bl true, .bl false, .bl false, .bl false])), none, none, none] m0 = .next [some (.pv scr), some (.ref 0), some (.pv (st one3)), some (.pv (st oth2)), some (.pv C3), some (.pv (.lst OD)), none, some (.pv (.lst [.bl true, .bl false, .bl false, .bl false])), none, none, none] m0 := by
    have k5 : PV.tup [.tup [.int 0, .int 0], .tup [.int 0, .int 0], .tup [.int 0, .int 100000000]] = P5 := rfl
    have nl : cmp .ne m0 (.pv (.lst [.bl true, .bl false, .bl false, .bl false])) (.pv (.lst [.bl true, .bl false, .bl false, .bl false])) = some (.pv (.bl false)) := by
      rw [v_ne (by simp [PV.okD, okDs]) (by simp [PV.okD, okDs])]; simp [eqP, eqPs]
    generalize PV.lst OD = X at *
    simp only [m_law_9]
    simp [lst1_4, nl, pow8, k5, h5]
  have t10 : m_law_10 φ [some (.pv scr), some (.ref 0), some (.pv (st one3)), some (.pv (st oth2)), some (.pv C3), some (.pv (.lst OD)), none, some (.pv (.lst [.bl true, .bl false, .bl false, .bl false])), none, none, none] m0 = .next [some (.pv scr), some (.ref 0), some (.pv (st one3)), some (.pv (st oth2)), some (.pv C3), some (.pv (.lst OD)), none, some (.pv (.lst [.bl true, .bl false, .bl false, .bl false])), none, some (.pv (.int 4)), some (.pv (.int 20))] (M [] a4' b4) := by
    generalize PV.lst OD = X at *
    generalize PV.lst [.bl true, .bl false, .bl false, .bl false] = Y at *
    simp only [m_law_10]
    simp [e1, e2, e3, e4]
  have t11 : m_law_11 φ [some (.pv scr), some (.ref 0), some (.pv (st one3)), some (.pv (st oth2)), some (.pv C3), some (.pv (.lst OD)), none, some (.pv (.lst [.bl true, .bl false, .bl false, .bl false])), none, some (.pv (.int 4)), some (.pv (.int 20))] (M [] a4' b4) = .ret (.pv (.bl true)) (M [] a4' b4) := by
    have r1 : ∀ m, bin .mul m (.pv (.tup [.tup [.int (-10000), .int 0]])) (.pv (.int 127)) = some (.pv (st ZA)) := fun m => by
      rw [v_mulT ⟨by omega, by omega, by simp⟩]
      simp [st, ZA, pt]
    have r2 : ∀ m, bin .mul m (.pv (.tup [.tup [.int 10000, .int 0]])) (.pv (.int 127)) = some (.pv (st ZB)) := fun m => by
      rw [v_mulT ⟨by omega, by omega, by simp⟩]
      simp [st, ZB, pt]
    have r3 : ∀ m, bin .mul m (.pv (.int 127)) (.pv (.int 2)) = some (.pv (.int 254)) := fun m => v_mulI (by decide +kernel)
    have r4 : ∀ m, bin .mul m (.pv (.int 254)) (.pv (.int 10000)) = some (.pv (.int 2540000)) := fun m => v_mulI (by decide +kernel)
    generalize PV.lst OD = X at *
    generalize PV.lst [.bl true, .bl false, .bl false, .bl false] = Y at *
    generalize st ZA = A at *
    generalize st ZB = B at *
    simp only [m_law_11]
    simp [pow4, r1, r2, r3, r4, h6]
  refine ⟨[], ?_⟩
  simp only [m_law, e_sseq, t0, e_seq2n, t1, t2, t3, t4, t5, t6, t7, t8, t9, t10, t11]
  rfl
end L_k36

set_option maxHeartbeats 0
namespace L_k36
open PySem PySem.Spec PyProof.Rows L2 HT Pn
theorem facts (lev : Nat) {P : Program} {w : World} {K : PySem.W.Frag} {h : Heap} {mg : Str → Option Value} {f : Addr} (X : K.In h) (Gm : h.Ns mainGlobals mg) (hfa : mg ("law" : Str) = some (.ref f)) (c : He.SaysD fa fn K) :
    ∃ fd : FuncData, (∀ (s : Shared) (v : Value), BindsTo s fd ⟨[v], []⟩ [("script", v)]) ∧ ∀ base : Heap, K.In base → base.Ns mainGlobals mg → FnOk P w K mg base L2.CX0 lev f fd ["script"] (spTop K mg (phi T lev "law")) := by
  obtain ⟨fd, F⟩ := c.def_ 33 (d := d_law) rfl
  have e := hfa.symm.trans (He.glo_ok X Gm (c.fact 33 (f := .glo "law") rfl))
  cases e
  have b := FunD.bindsA (ps := ["script"]) F fun _ _ _ _ _ _ us hl => match us, hl with | [_], _ => rfl
  exact ⟨fd, fun s v => b s [v] rfl, fun base _ _ => fn_top (fns_ok (fos c) scs (fun x k hk => gos X Gm c (x, k) (PySem.mem_of_lookup hk)) lev i_law (by kernel_rfl) fd F)⟩
end L_k36
open PySem PySem.W PySem.Calls PyProof.Rows
theorem PySem.Challenge.cw_penstrokes_k36_whole_least_sums_of_coupl_holds : PySem.Challenge.rw_penstrokes_k36_whole_least_sums_of_coupl.Holds := by
  w_on; o_law
  refine HandSHeadRun.head_any (r := OpenLaw.row PySem.Challenge.rw_penstrokes_k36_whole_least_sums_of_coupl) (q := view (OpenLaw.row PySem.Challenge.rw_penstrokes_k36_whole_least_sums_of_coupl).prog [45]) (H := L_k36.hk) (ob := L_k36.ob) (M := 4000) (loose := L_k36.loose) (d := HandSHeadRun.topDef (OpenLaw.row PySem.Challenge.rw_penstrokes_k36_whole_least_sums_of_coupl).prog 45) (kwd := []) L_k36.ob_eq
    (by kernel_rfl) (fun s => by kernel_rfl) L_k36.run (by kernel_rfl) (by kernel_rfl) (by kernel_rfl) (by rfl) (by first | assumption | decide +kernel) (by decide +kernel) ⟨rfl, rfl, rfl, rfl, rfl, by decide +kernel⟩ ?hw ?hc
  case hw => w_witness2
  case hc =>
    refine L2.walk_ofE (l := PySem.Challenge.rw_penstrokes_k36_whole_least_sums_of_coupl) (n := 63) (k := 9) (x := "script") (CX := L2.CX0) rfl (by decide) (by kernel_rfl) ⟨rfl, by decide, by decide⟩ ?F (fun _ _ _ _ z => z)
    intro w mg fa h Y G hmg0
    obtain ⟨K, KX, c⟩ := Y
    have hmg : mg ("law" : PySem.Str) = some (.ref fa) := by
      have e : (HandSHeadRun.topDef (OpenLaw.row PySem.Challenge.rw_penstrokes_k36_whole_least_sums_of_coupl).prog 45).name = ("law" : PySem.Str) := by kernel_rfl
      rw [← e]
      exact hmg0
    obtain ⟨fd, hb, hF⟩ := L_k36.facts 9 (P := (PySem.Challenge.rw_penstrokes_k36_whole_least_sums_of_coupl).prog) (w := w) KX G hmg c
    refine ⟨K, fd, Pn.spTop K mg (Pn.phi L_k36.T 9 "law"), KX, hb, fun H a ns hl _ hS => ?_, hF⟩
    obtain ⟨m', e⟩ := L_k36.law_true (n := 0) (ns := ns) (by omega)
    exact Pn.law_sp e hS
