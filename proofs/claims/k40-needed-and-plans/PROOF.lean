import PyProof.Rows.All
import Wide.All
import OpenK.AllK
import Wide.FinOn
import KE.SortData
import PyProof.EqLayable
import HandS.ForMost
import HandS.Exc
import HandS.Lambda
import HandS.TupAny
import HandS.TupMul
import HandS.TupLe
import HandS.Style
import HandS.Deep
import HandS.DictTup
import HandS.IsInst
import HandS.TupLen
import KE.GoesNew
import HandS.Zip
import HandS.WordsExc
import HandS.ExcOwn
import KE.KExcSuper
import HandS.ExcIs
import HandS.ExcField
import HandS.TryOnly
import PyProof.InstNe
import KE.KDictCopyH
import HandS.Ends
import KE.DataFind
import HandS.SetFor
import HandS.Conv
import KE.OsSetLaws
import KE.KDictPairs
import PyProof.TupleOfSeq
import HandS.EndTab
import HandS.ForSpec
import Open.SpecLaws
import PySem.Challenge.RW_earthtold_k40_whole_needed_and_plans_jud
set_option linter.all false
set_option autoImplicit false
/-! Machine D: a small deterministic reading of the programs: values, a heap of a few boxed objects, expressions, statements. -/
namespace DM
open PySem

abbrev Key := Sum Int Str
/-- values: what is frozen (tuples, lists, instances, dicts that nobody changes any more) stands by itself; ref n is the n-th boxed object -/
inductive D where
  | non | bl (b : Bool) | int (i : Int) | str (s : Str)
  | tup (l : List D) | fl (l : List D) | sc (l : List D) | fo (c : Nat) (l : List D) | fdk (ks : List Key) (l : List D) | fdt (ks : List (List Key)) (l : List D)
  | ref (n : Nat)
  /-- the exception that a suite holds: in a slot alone -/
  | ex (c : Nat) (l : List D)
  deriving Inhabited
/-- boxed objects -/
inductive O where
  | lst (l : List D) | dk (l : List (Key × D)) | dt (l : List (List Key × D)) | ins (c : Nat) (l : List D)
abbrev HD := List O
abbrev SD := List (Option D)
/-- an exception: its class, its fields -/
structure Xn where
  c : Nat
  l : List D
inductive Res (α : Type) where
  | ok (a : α) (h : HD) | exc (x : Xn) (h : HD) | bad
inductive Out where
  | nx (s : SD) (h : HD) | rt (d : D) (h : HD) | bk (s : SD) (h : HD) | ct (s : SD) (h : HD) | exc (x : Xn) (s : SD) (h : HD) | bad

def Res.bind {α β : Type} (r : Res α) (f : α → HD → Res β) : Res β :=
  match r with
  | .ok a h => f a h
  | .exc x h => .exc x h
  | .bad => .bad
def Res.of {α : Type} (o : Option α) (h : HD) : Res α := match o with
  | some a => .ok a h
  | none => .bad
abbrev EM := SD → HD → Res D
abbrev TM := SD → HD → Res Bool
abbrev AM := SD → HD → Res (List D)
abbrev SM := SD → HD → Out
abbrev FM := List D → HD → Res D

def LIM : Nat := 16777216

/-! ### equality, order of data -/
mutual
def toP : D → Option PyData
  | .non => some .none
  | .bl b => some (.bool b)
  | .int i => some (.int i)
  | .str s => some (.str s)
  | .tup l => (toPs l).map .tuple
  | .fl l => (toPs l).map .list
  | .sc _ => none
  | .fo _ _ => none
  | .fdk _ _ => none
  | .fdt _ _ => none
  | .ref _ => none
  | .ex _ _ => none
def toPs : List D → Option (List PyData)
  | [] => some []
  | d :: l => match toP d, toPs l with
    | some p, some q => some (p :: q)
    | _, _ => none
end
/-- the n-th box, a list -/
def boxAt (h : HD) (n : Nat) : Option (List D) := match h[n]? with
  | some (.lst l) => some l
  | _ => none
def lsts (h : HD) : D → Option (List D)
  | .fl l => some l
  | .ref n => boxAt h n
  | _ => none
def items (h : HD) : D → Option (List D)
  | .tup l => some l
  | .sc l => some l
  | d => lsts h d
/-- a boxed list is looked at as a frozen one -/
def look (h : HD) : D → D
  | .ref n => match boxAt h n with
    | some l => .fl l
    | none => .ref n
  | d => d
def eqD (h : HD) (a b : D) : Option Bool :=
  match toP (look h a), toP (look h b) with
  | some p, some q => if SeqAt.shaped p && SeqAt.shaped q then some (PyData.eqv p q) else none
  | _, _ => none

/-! ### results -/
def isEx : D → Bool
  | .ex _ _ => true
  | _ => false
def eVar (i : Nat) : EM := fun s h => match s[i]? with
  | some (some d) => if isEx d then .bad else .ok d h
  | _ => .bad
def eC (d : D) : EM := fun _ h => .ok d h
def aNil : AM := fun _ h => .ok [] h
def aCons (e : EM) (r : AM) : AM := fun s h => (e s h).bind fun d h1 => (r s h1).bind fun l h2 => .ok (d :: l) h2
def eTup (a : AM) : EM := fun s h => (a s h).bind fun l h1 => .ok (.tup l) h1
/-- a fresh list frozen, boxed -/
def eFz (m : AM) : EM := fun s h => (m s h).bind fun l h1 => .ok (.fl l) h1
def eBx (m : AM) : EM := fun s h => (m s h).bind fun l h1 => .ok (.ref h1.length) (h1 ++ [.lst l])
def eUn (f : HD → D → Option D) (a : EM) : EM := fun s h => (a s h).bind fun x h1 => .of (f h1 x) h1
def eBin (f : HD → D → D → Option D) (a b : EM) : EM := fun s h => (a s h).bind fun x h1 => (b s h1).bind fun y h2 => .of (f h2 x y) h2
def tBin (f : HD → D → D → Option Bool) (a b : EM) : TM := fun s h => (a s h).bind fun x h1 => (b s h1).bind fun y h2 => .of (f h2 x y) h2
def eT (t : TM) : EM := fun s h => (t s h).bind fun b h1 => .ok (.bl b) h1
def tE (e : EM) : TM := fun s h => (e s h).bind fun d h1 => match d with
  | .bl b => .ok b h1
  | _ => .bad
def tNot (t : TM) : TM := fun s h => (t s h).bind fun b h1 => .ok (!b) h1
def tAnd (t u : TM) : TM := fun s h => (t s h).bind fun b h1 => if b then u s h1 else .ok false h1
def tOr (t u : TM) : TM := fun s h => (t s h).bind fun b h1 => if b then .ok true h1 else u s h1
def eIf (t : TM) (a b : EM) : EM := fun s h => (t s h).bind fun c h1 => if c then a s h1 else b s h1
/-- a op1 b op2 c -/
def tChain (f g : HD → D → D → Option Bool) (a b c : EM) : TM := fun s h => (a s h).bind fun x h1 => (b s h1).bind fun y h2 => (Res.of (f h2 x y) h2).bind fun k h3 =>
  if k then (c s h3).bind fun z h4 => .of (g h4 y z) h4 else .ok false h3

/-! ### operations -/
def opAdd (h : HD) (x y : D) : Option D := match x, y with
  | .int i, .int j => some (.int (i + j))
  | .str a, .str b => if a.length + b.length ≤ LIM then some (.str (a ++ b)) else none
  | .tup a, .tup b => if a.length + b.length ≤ LIM then some (.tup (a ++ b)) else none
  | x, y => match lsts h x, lsts h y with
    | some a, some b => if a.length + b.length ≤ LIM then some (.fl (a ++ b)) else none
    | _, _ => none
def opSub (_ : HD) (x y : D) : Option D := match x, y with
  | .int i, .int j => some (.int (i - j))
  | _, _ => none
def rept {α : Type} (l : List α) (n : Nat) : List α := (List.replicate n l).flatten
def small (i : Int) : Bool := decide (-18446744073709551616 < i) && decide (i < 18446744073709551616)
def opMul (h : HD) (x y : D) : Option D := match x, y with
  | .int i, .int j => if small i || small j then some (.int (i * j)) else none
  | .tup a, .int j => if decide (0 < j) && decide (j ≤ 1000) && decide (0 < a.length) && decide (a.length ≤ 1000) then some (.tup (rept a j.toNat)) else none
  | x, y => match lsts h x, y with
    | some a, .int j => if decide (j < 1000000) && decide (-1000000 < j) && decide (a.length * j.toNat ≤ LIM) then some (.fl (rept a j.toNat)) else none
    | _, _ => none
def opMod (_ : HD) (x y : D) : Option D := match x, y with
  | .int i, .int j => if 0 < j then some (.int (i % j)) else none
  | _, _ => none
def opDiv (_ : HD) (x y : D) : Option D := match x, y with
  | .int i, .int j => if decide (0 < j) && decide (j < 1073741824) then some (.int (i / j)) else none
  | _, _ => none
def opPow (_ : HD) (x y : D) : Option D := match x, y with
  | .int i, .int j => if decide (0 ≤ j) && decide (j ≤ 1000000) && decide (i.natAbs < 18446744073709551616) then some (.int (i ^ j.toNat)) else none
  | _, _ => none
def opNeg (_ : HD) (x : D) : Option D := match x with
  | .int i => some (.int (-i))
  | _ => none
def cLt (_ : HD) (x y : D) : Option Bool := match x, y with
  | .int i, .int j => some (decide (i < j))
  | .tup a, .tup b => match toPs a, toPs b with
    | some p, some q => if W.alike (.tuple p) (.tuple q) && SeqAt.shaped (.tuple p) then some (W.dataLt (.tuple p) (.tuple q)) else none
    | _, _ => none
  | _, _ => none
def cLe (_ : HD) (x y : D) : Option Bool := match x, y with
  | .int i, .int j => some (decide (i ≤ j))
  | _, _ => none
def cGt (_ : HD) (x y : D) : Option Bool := match x, y with
  | .int i, .int j => some (decide (j < i))
  | _, _ => none
def cGe (_ : HD) (x y : D) : Option Bool := match x, y with
  | .int i, .int j => some (decide (j ≤ i))
  | _, _ => none
def cEq (h : HD) (x y : D) : Option Bool := eqD h x y
def cNe (h : HD) (x y : D) : Option Bool := (eqD h x y).map (!·)
def isN : D → Bool
  | .non => true
  | _ => false
def tIsN (a : EM) : TM := fun s h => (a s h).bind fun x h1 => .ok (isN x) h1
def tNotN (a : EM) : TM := fun s h => (a s h).bind fun x h1 => .ok (!isN x) h1
def keyOf : D → Option Key
  | .int i => some (.inl i)
  | .str s => some (.inr s)
  | _ => none
def keysOf : List D → Option (List Key)
  | [] => some []
  | d :: l => match keyOf d, keysOf l with
    | some k, some r => some (k :: r)
    | _, _ => none
def tkeyOf : D → Option (List Key)
  | .tup l => keysOf l
  | _ => none
def lookK {κ : Type} [DecidableEq κ] (k : κ) : List (κ × D) → Option D
  | [] => none
  | (c, v) :: r => if c = k then some v else lookK k r
def putK {κ : Type} [DecidableEq κ] (k : κ) (v : D) (l : List (κ × D)) : List (κ × D) :=
  if (l.any fun kv => decide (kv.1 = k)) = true then l.map (fun kv => if kv.1 = k then (kv.1, v) else kv) else l ++ [(k, v)]
inductive DV where
  | k (l : List (Key × D)) | t (l : List (List Key × D))
def dictOf (h : HD) : D → Option DV
  | .fdk ks l => some (.k (ks.zip l))
  | .fdt ks l => some (.t (ks.zip l))
  | .ref n => match h[n]? with
    | some (.dk l) => some (.k l)
    | some (.dt l) => some (.t l)
    | _ => none
  | _ => none
def getD (h : HD) (d k : D) : Option (Option D) := match dictOf h d with
  | some (.k l) => (keyOf k).map fun c => lookK c l
  | some (.t l) => (tkeyOf k).map fun c => lookK c l
  | none => none
def cIn (h : HD) (x c : D) : Option Bool := match items h c with
  | some l => match toPs l, toP (look h x) with
    | some ps, some p => if SeqAt.shaped p && SeqAt.shaped (.list ps) then some (ps.any fun z => PyData.eqv z p) else none
    | _, _ => none
  | none => (getD h c x).map (·.isSome)
def cNotIn (h : HD) (x c : D) : Option Bool := (cIn h x c).map (!·)
/-- c[i] -/
def atI {α : Type} (l : List α) (i : Int) : Option α := if 0 ≤ i then l[i.toNat]? else if 0 ≤ i + l.length then l[(i + l.length).toNat]? else none
def opIx (h : HD) (c i : D) : Option D := match items h c with
  | some l => match i with
    | .int j => atI l j
    | _ => none
  | none => (getD h c i).join
def clip (n : Nat) (i : Int) : Nat := if 0 ≤ i then min i.toNat n else (i + n).toNat
def cut {α : Type} (l : List α) (i j : Option Int) : List α :=
  let lo := (i.map (clip l.length)).getD 0
  let hi := (j.map (clip l.length)).getD l.length
  (l.drop lo).take (hi - lo)
def opSlT (c : D) (i j : Option Int) : Option D := match c with
  | .tup l => some (.tup (cut l i j))
  | .fl l => some (.fl (cut l i j))
  | .sc l => some (.fl (cut l i j))
  | _ => none
def eOpt (e : Option EM) : SD → HD → Res (Option Int) := fun s h => match e with
  | none => .ok none h
  | some m => (m s h).bind fun d h1 => match d with
    | .int i => .ok (some i) h1
    | _ => .bad
def eSl (a : EM) (i j : Option EM) : EM := fun s h => (a s h).bind fun c h1 => (eOpt i s h1).bind fun x h2 => (eOpt j s h2).bind fun y h3 => .of (opSlT (look h3 c) x y) h3
/-- c[::-1] -/
def opRev (h : HD) (c : D) : Option D := match look h c with
  | .tup l => some (.tup l.reverse)
  | .fl l => some (.fl l.reverse)
  | _ => none
def opLen (h : HD) (c : D) : Option D := match c with
  | .str s => if s.length ≤ LIM then some (.int s.length) else none
  | c => match items h c with
    | some l => some (.int l.length)
    | none => match dictOf h c with
      | some (.k l) => some (.int l.length)
      | some (.t l) => some (.int l.length)
      | none => none
def bools : List D → Option (List Bool)
  | [] => some []
  | .bl b :: l => (bools l).map (b :: ·)
  | _ => none
def intsOf : List D → Option (List Int)
  | [] => some []
  | .int i :: l => (intsOf l).map (i :: ·)
  | _ => none
def lBin (f : HD → D → D → Option (List D)) (a b : EM) : AM := fun s h => (a s h).bind fun x h1 => (b s h1).bind fun y h2 => .of (f h2 x y) h2
def lCat (h : HD) (x y : D) : Option (List D) := match lsts h x, lsts h y with
  | some a, some b => if a.length + b.length ≤ LIM then some (a ++ b) else none
  | _, _ => none
def lMul (h : HD) (x y : D) : Option (List D) := match lsts h x, y with
  | some a, .int j => if decide (j < 1000000) && decide (-1000000 < j) && decide (a.length * j.toNat ≤ LIM) then some (rept a j.toNat) else none
  | _, _ => none
def opAll (h : HD) (c : D) : Option D := ((lsts h c).bind bools).map fun l => .bl (l.all id)
def opAny (h : HD) (c : D) : Option D := ((lsts h c).bind bools).map fun l => .bl (l.any id)
def opSum (h : HD) (c : D) : Option D := ((lsts h c).bind intsOf).map fun l => .int l.sum
def opAbs (_ : HD) (x : D) : Option D := match x with
  | .int i => some (.int (if i < 0 then -i else i))
  | _ => none
def opInt (_ : HD) (x : D) : Option D := match x with
  | .int i => some (.int i)
  | .bl b => some (.int (if b then 1 else 0))
  | _ => none
def opTuple (h : HD) (c : D) : Option D := (items h c).map .tup
def opMin2 (_ : HD) (x y : D) : Option D := match x, y with
  | .int i, .int j => some (.int (if j < i then j else i))
  | _, _ => none
def opMax2 (_ : HD) (x y : D) : Option D := match x, y with
  | .int i, .int j => some (.int (if j > i then j else i))
  | _, _ => none
/-- classes for isinstance -/
inductive Ty where
  | int | bool | str | tuple | list | dict | cls (c : Nat)
  deriving DecidableEq
/-- the classes of the program: which one is another one's child -/
def subc (c e : Nat) : Bool := c == e || (c == 1 && e == 0)
/-- the kind of a value: a built-in type's name, or an own class -/
inductive Kd where
  | bt (n : String) | own (c : Nat)
def kindD (h : HD) : D → Option Kd
  | .non => some (.bt "NoneType")
  | .bl _ => some (.bt "bool")
  | .int _ => some (.bt "int")
  | .str _ => some (.bt "str")
  | .tup _ => some (.bt "tuple")
  | .fl _ => some (.bt "list")
  | .sc _ => none
  | .fdk _ _ => some (.bt "dict")
  | .fdt _ _ => some (.bt "dict")
  | .fo c _ => some (.own c)
  | .ex _ _ => none
  | .ref n => match h[n]? with
    | some (.lst _) => some (.bt "list")
    | some (.dk _) => some (.bt "dict")
    | some (.dt _) => some (.bt "dict")
    | some (.ins c _) => some (.own c)
    | none => none
def tyB (n : String) : Ty → Bool
  | .int => n == "int" || n == "bool"
  | .bool => n == "bool"
  | .str => n == "str"
  | .tuple => n == "tuple"
  | .list => n == "list"
  | .dict => n == "dict"
  | .cls _ => false
def tyO (c : Nat) : Ty → Bool
  | .cls e => subc c e
  | _ => false
def anyTy (cs : List Nat) (h : HD) (d : D) (ts : List Ty) : Option Bool := match kindD h d with
  | some (.bt n) => some (ts.any (tyB n))
  | some (.own c) => if c ∈ cs then some (ts.any (tyO c)) else none
  | none => none
def tIs (cs : List Nat) (a : EM) (ts : List Ty) : TM := fun s h => (a s h).bind fun x h1 => .of (anyTy cs h1 x ts) h1
/-- o.f, the f-th attribute -/
def opFld (c f : Nat) (h : HD) (o : D) : Option D := match o with
  | .fo e l => if c = e then l[f]? else none
  | .ref n => match h[n]? with
    | some (.ins e l) => if c = e then l[f]? else none
    | _ => none
  | _ => none

/-! ### what is walked -/
/-- items, and the boxed lists that must stand still meanwhile -/
structure Src where
  its : List D
  watch : List (Nat × List D)
def watchOf (h : HD) (c : D) : List (Nat × List D) := match c with
  | .ref n => match boxAt h n with
    | some l => [(n, l)]
    | none => []
  | _ => []
abbrev IM := SD → HD → Res Src
def iIt (a : EM) : IM := fun s h => (a s h).bind fun c h1 => .of ((items h1 c).map fun l => ⟨l, watchOf h1 c⟩) h1
def iRange (lo hi : Int) : Option Src := if decide (-1000000000 < lo) && decide (lo < 1000000000) && decide (-1000000000 < hi) && decide (hi < 1000000000) && decide ((hi - lo).toNat ≤ LIM) then some ⟨(List.range (hi - lo).toNat).map fun (k : Nat) => D.int (lo + (k : Int)), []⟩ else none
def iRng1 (a : EM) : IM := fun s h => (a s h).bind fun x h1 => match x with
  | .int n => .of (iRange 0 n) h1
  | _ => .bad
def iRng2 (a b : EM) : IM := fun s h => (a s h).bind fun x h1 => (b s h1).bind fun y h2 => match x, y with
  | .int m, .int n => .of (iRange m n) h2
  | _, _ => .bad
def iEnum (a : EM) : IM := fun s h => (a s h).bind fun c h1 => .of ((items h1 c).map fun l => ⟨l.zipIdx.map fun p => .tup [.int p.2, p.1], watchOf h1 c⟩) h1
def iZip (a b : EM) : IM := fun s h => (a s h).bind fun c h1 => (b s h1).bind fun e h2 => .of (match items h2 c, items h2 e with
  | some l, some m => some ⟨(l.zip m).map fun p => .tup [p.1, p.2], watchOf h2 c ++ watchOf h2 e⟩
  | _, _ => none) h2
mutual
def D.same : D → D → Bool
  | .non, .non => true
  | .bl a, .bl b => a == b
  | .int a, .int b => a == b
  | .str a, .str b => a == b
  | .tup l, .tup m => sames l m
  | .fl l, .fl m => sames l m
  | .sc l, .sc m => sames l m
  | .fo c l, .fo e m => c == e && sames l m
  | .fdk ks l, .fdk cs m => decide (ks = cs) && sames l m
  | .fdt ks l, .fdt cs m => decide (ks = cs) && sames l m
  | .ref n, .ref m => n == m
  | .ex c l, .ex e m => c == e && sames l m
  | _, _ => false
def sames : List D → List D → Bool
  | [], [] => true
  | d :: l, e :: m => D.same d e && sames l m
  | _, _ => false
end
def O.same : O → O → Bool
  | .lst l, .lst m => sames l m
  | .dk l, .dk m => decide (l.map (·.1) = m.map (·.1)) && sames (l.map (·.2)) (m.map (·.2))
  | .dt l, .dt m => decide (l.map (·.1) = m.map (·.1)) && sames (l.map (·.2)) (m.map (·.2))
  | .ins c l, .ins e m => c == e && sames l m
  | _, _ => false
def hsame : HD → HD → Bool
  | [], [] => true
  | a :: l, b :: m => O.same a b && hsame l m
  | _, _ => false
def stays (h : HD) : List (Nat × List D) → Bool
  | [] => true
  | (n, l) :: r => (match boxAt h n with | some m => sames m l | none => false) && stays h r
inductive Pat where
  | nm (i : Nat) | tp (l : List Pat)
mutual
def Pat.set : Pat → D → SD → Option SD
  | .nm i, d, s => some (s.set i (some d))
  | .tp ps, d, s => match d with
    | .tup l => Pat.sets ps l s
    | _ => none
def Pat.sets : List Pat → List D → SD → Option SD
  | [], [], s => some s
  | p :: ps, d :: l, s => match p.set d s with
    | some t => Pat.sets ps l t
    | none => none
  | _, _, _ => none
end
def wipeD (s : SD) : List Nat → SD
  | [] => s
  | v :: vs => (wipeD s vs).set v none
def tYes : TM := fun _ h => .ok true h
def Res.calm {α : Type} (r : Res α) : Res α := match r with
  | .ok a h => .ok a h
  | .exc _ _ => .bad
  | .bad => .bad
def lcGo (s : SD) (p : Pat) (t : TM) (e : EM) (own : List Nat) (w : List (Nat × List D)) : List D → HD → List D → Res (List D)
  | [], h, acc => .ok acc h
  | x :: xs, h, acc => match p.set x (wipeD s own) with
    | none => .bad
    | some s1 => (t s1 h).calm.bind fun b h1 => if b then (e s1 h1).calm.bind fun y h2 => if stays h2 w then lcGo s p t e own w xs h2 (acc ++ [y]) else .bad
      else if stays h1 w then lcGo s p t e own w xs h1 acc else .bad
/-- [e for p in i if t] -/
def lComp (own : List Nat) (i : IM) (p : Pat) (t : TM) (e : EM) : AM := fun s h => (i s h).bind fun c h1 => lcGo s p t e own c.watch c.its h1 []
def lDisp (a : AM) : AM := a
/-- list(c) -/
def lList (a : EM) : AM := fun s h => (a s h).bind fun c h1 => .of (items h1 c) h1
def lRange (a : EM) : AM := fun s h => (iRng1 a s h).bind fun c h1 => .ok c.its h1

/-! ### statements -/
def sNx : SM := fun s h => .nx s h
def sSeq (a b : SM) : SM := fun s h => match a s h with
  | .nx s1 h1 => b s1 h1
  | o => o
def Res.out (r : Res D) (s : SD) (f : D → HD → Out) : Out := match r with
  | .ok d h => f d h
  | .exc x h => .exc x s h
  | .bad => .bad
def sSet (i : Nat) (e : EM) : SM := fun s h => (e s h).out s fun d h1 => .nx (s.set i (some d)) h1
def sPat (p : Pat) (e : EM) : SM := fun s h => (e s h).out s fun d h1 => match p.set d s with
  | some t => .nx t h1
  | none => .bad
def sDrop (e : EM) : SM := fun s h => (e s h).out s fun _ h1 => .nx s h1
def sRet (e : EM) : SM := fun s h => (e s h).out s fun d h1 => .rt d h1
def sRetN : SM := fun _ h => .rt .non h
def sIf (t : TM) (a b : SM) : SM := fun s h => match t s h with
  | .ok c h1 => if c then a s h1 else b s h1
  | .exc x h1 => .exc x s h1
  | .bad => .bad
def sBreak : SM := fun s h => .bk s h
def sCont : SM := fun s h => .ct s h
def sNever : SM := fun _ _ => .bad
def forGo (p : Pat) (b : SM) (w : List (Nat × List D)) : List D → SD → HD → Out
  | [], s, h => .nx s h
  | x :: xs, s, h => match p.set x s with
    | none => .bad
    | some s1 => match b s1 h with
      | .nx s2 h2 => if stays h2 w then forGo p b w xs s2 h2 else .bad
      | .ct s2 h2 => if stays h2 w then forGo p b w xs s2 h2 else .bad
      | .bk s2 h2 => .nx s2 h2
      | .rt d h2 => .rt d h2
      | .exc x s2 h2 => .exc x s2 h2
      | .bad => .bad
def sFor (i : IM) (p : Pat) (b : SM) : SM := fun s h => match i s h with
  | .ok c h1 => forGo p b c.watch c.its s h1
  | .exc x h1 => .exc x s h1
  | .bad => .bad
def whGo (t : TM) (b : SM) : Nat → SD → HD → Out
  | 0, _, _ => .bad
  | n + 1, s, h => match t s h with
    | .ok c h1 => if c then (match b s h1 with
        | .nx s2 h2 => whGo t b n s2 h2
        | .ct s2 h2 => whGo t b n s2 h2
        | .bk s2 h2 => .nx s2 h2
        | .rt d h2 => .rt d h2
        | .exc x s2 h2 => .exc x s2 h2
        | .bad => .bad) else .nx s h1
    | .exc x h1 => .exc x s h1
    | .bad => .bad
/-- while, at most so many turns -/
def sWhile (n : Nat) (t : TM) (b : SM) : SM := whGo t b n
def boxL (h : HD) (d : D) : Option (Nat × List D) := match d with
  | .ref n => (boxAt h n).map fun l => (n, l)
  | _ => none
def ixOf (i : Int) (n : Nat) : Option Nat := if 0 ≤ i then (if i.toNat < n then some i.toNat else none) else if 0 ≤ i + n then some (i + n).toNat else none
/-- c[i] = v -/
def setIt (h : HD) (c i v : D) : Option HD := match c with
  | .ref n => match h[n]? with
    | some (.lst l) => match i with
      | .int j => (ixOf j l.length).map fun k => h.set n (.lst (l.set k v))
      | _ => none
    | some (.dk l) => (keyOf i).bind fun k => if l.length < LIM then some (h.set n (.dk (putK k v l))) else none
    | some (.dt l) => (tkeyOf i).bind fun k => if l.length < LIM then some (h.set n (.dt (putK k v l))) else none
    | _ => none
  | _ => none
/-- {} -/
def eDk : EM := fun _ h => .ok (.ref h.length) (h ++ [.dk []])
def eDt : EM := fun _ h => .ok (.ref h.length) (h ++ [.dt []])
/-- o.f = e: the f-th attribute, there or the next one -/
def putAt {α : Type} (l : List α) (f : Nat) (v : α) : Option (List α) := if f < l.length then some (l.set f v) else if f = l.length then some (l ++ [v]) else none
def setFld (c f : Nat) (h : HD) (o v : D) : Option HD := match o with
  | .ref n => match h[n]? with
    | some (.ins e l) => if c = e then (putAt l f v).map fun m => h.set n (.ins c m) else none
    | _ => none
  | _ => none
/-! ### targets that write the heap -/
abbrev GM := SD → HD → D → Option (SD × HD)
def gNm (i : Nat) : GM := fun s h d => some (s.set i (some d), h)
def gFl (c f : Nat) (o : EM) : GM := fun s h d => match o s h with
  | .ok x h1 => (setFld c f h1 x d).map fun h2 => (s, h2)
  | _ => none
def gSb (o i : EM) : GM := fun s h d => match o s h with
  | .ok c h1 => match i s h1 with
    | .ok k h2 => (setIt h2 c k d).map fun h3 => (s, h3)
    | _ => none
  | _ => none
def gsGo : List GM → List D → SD → HD → Option (SD × HD)
  | [], [], s, h => some (s, h)
  | g :: gs, d :: ds, s, h => match g s h d with
    | some (s1, h1) => gsGo gs ds s1 h1
    | none => none
  | _, _, _, _ => none
def gTp (gs : List GM) : GM := fun s h d => match d with
  | .tup l => gsGo gs l s h
  | _ => none
def sAsg (g : GM) (e : EM) : SM := fun s h => (e s h).out s fun d h1 => match g s h1 d with
  | some (s1, h2) => .nx s1 h2
  | none => .bad
/-- a, b = x, y of plain locals -/
def setsN : List Nat → List D → SD → Option SD
  | [], [], s => some s
  | i :: is, d :: ds, s => setsN is ds (s.set i (some d))
  | _, _, _ => none
def sPar (is : List Nat) (a : AM) : SM := fun s h => match a s h with
  | .ok l h1 => match setsN is l s with
    | some t => .nx t h1
    | none => .bad
  | .exc x h1 => .exc x s h1
  | .bad => .bad

/-! ### exceptions -/
def sRaise (c : Nat) (a : AM) : SM := fun s h => match a s h with
  | .ok l h1 => .exc ⟨c, l⟩ s h1
  | .exc x h1 => .exc x s h1
  | .bad => .bad
/-- which exception class is one of another; none: not known -/
abbrev SubX := Nat → Nat → Option Bool
def unEx : Option D → Option D
  | some (.ex _ _) => none
  | o => o
def clr (i : Nat) : Out → Out
  | .nx s h => .nx ((s.map unEx).set i none) h
  | .bk s h => .bk ((s.map unEx).set i none) h
  | .ct s h => .ct ((s.map unEx).set i none) h
  | .rt d h => .rt d h
  | .exc _ _ _ => .bad
  | .bad => .bad
/-- try: b except c as i: u -/
def sTryAs (sb : SubX) (c i : Nat) (b u : SM) : SM := fun s h => match b s h with
  | .exc x s1 h1 => match sb x.c c with
    | some true => clr i (u (s1.set i (some (.ex x.c x.l))) h1)
    | some false => .exc x s1 h1
    | none => .bad
  | o => o
def noX : Out → Out
  | .exc _ _ _ => .bad
  | o => o
/-- try: b except c: u -/
def sTryOnly (sb : SubX) (c : Nat) (b u : SM) : SM := fun s h => match b s h with
  | .exc x s1 h1 => match sb x.c c with
    | some true => noX (u s1 h1)
    | some false => .exc x s1 h1
    | none => .bad
  | o => o
/-- isinstance(e, c), e.f of the held exception in slot i -/
def tIsX (sb : SubX) (i c : Nat) : TM := fun s h => match s[i]? with
  | some (some (.ex e _)) => .of (sb e c) h
  | _ => .bad
def eXfE (es : List Nat) (xf : Nat → Str) (f : Str) (i : Nat) : EM := fun s h => match s[i]? with
  | some (some (.ex e [v])) => if e ∈ es ∧ xf e = f then .ok v h else .bad
  | _ => .bad

/-! ### functions -/
mutual
/-- what of a value points to boxes below n alone -/
def D.under (n : Nat) : D → Bool
  | .tup l => unders n l
  | .fl l => unders n l
  | .sc l => unders n l
  | .fo _ l => unders n l
  | .fdk _ l => unders n l
  | .fdt _ l => unders n l
  | .ref m => decide (m < n)
  | .ex _ l => unders n l
  | _ => true
def unders (n : Nat) : List D → Bool
  | [] => true
  | d :: l => D.under n d && unders n l
end
def O.under (n : Nat) : O → Bool
  | .lst l => unders n l
  | .dk l => unders n (l.map (·.2))
  | .dt l => unders n (l.map (·.2))
  | .ins _ l => unders n l
def each {α β : Type} (g : α → Option β) : List α → Option (List β)
  | [] => some []
  | d :: l => match g d, each g l with
    | some a, some b => some (a :: b)
    | _, _ => none
/-- boxes from n on are frozen -/
def freeze (h : HD) (n : Nat) : Nat → D → Option D
  | 0, _ => none
  | f + 1, d => if D.under n d then some d else match d with
    | .tup l => (each (freeze h n f) l).map .tup
    | .fl l => (each (freeze h n f) l).map .fl
    | .fo c l => (each (freeze h n f) l).map (.fo c)
    | .fdk ks l => (each (freeze h n f) l).map (.fdk ks)
    | .fdt ks l => (each (freeze h n f) l).map (.fdt ks)
    | .ref m => match h[m]? with
      | some (.lst l) => (each (freeze h n f) l).map .fl
      | some (.dk l) => (each (freeze h n f) (l.map (·.2))).map (.fdk (l.map (·.1)))
      | some (.dt l) => (each (freeze h n f) (l.map (·.2))).map (.fdt (l.map (·.1)))
      | some (.ins c l) => (each (freeze h n f) l).map (.fo c)
      | none => none
    | _ => none
/-- what stood ahead of a call stands, or points to nothing new -/
def clean (h0 h1 : HD) : Bool := hsame (h1.take h0.length) h0 || (h1.take h0.length).all (O.under h0.length)
def trim (h0 : HD) (r : Res D) : Res D := match r with
  | .ok d h1 => if decide (h0.length ≤ h1.length) && clean h0 h1 then (match freeze h1 h0.length 60 d with
      | some e => .ok e (h1.take h0.length)
      | none => .ok d h1) else .ok d h1
  | .exc x h1 => if decide (h0.length ≤ h1.length) && clean h0 h1 && unders h0.length x.l then .exc x (h1.take h0.length) else .exc x h1
  | .bad => .bad
/-- a def: so many parameters, so many slots -/
def fnM (np ns : Nat) (b : SM) : FM := fun ds h => if ds.length = np then (match b (ds.map some ++ List.replicate (ns - np) none) h with
  | .nx _ h1 => .ok .non h1
  | .rt d h1 => .ok d h1
  | .exc x _ h1 => .exc x h1
  | _ => .bad) else .bad
/-- .. whose new boxes are frozen and let go -/
def fnT (np ns : Nat) (b : SM) : FM := fun ds h => trim h (fnM np ns b ds h)
def eCall (f : FM) (a : AM) : EM := fun s h => (a s h).bind fun ds h1 => f ds h1
/-- C(..): the new instance, its __init__ -/
def mkM (c : Nat) (f : FM) : FM := fun ds h => (f (.ref h.length :: ds) (h ++ [.ins c []])).bind fun d h2 => match d with
  | .non => .ok (.ref h.length) h2
  | _ => .bad
def mkT (c : Nat) (f : FM) : FM := fun ds h => trim h (mkM c f ds h)
/-- o.m(e, ..), o an instance of the class -/
def isIns (c : Nat) (h : HD) : D → Bool
  | .fo e _ => c == e
  | .ref n => match h[n]? with
    | some (.ins e _) => c == e
    | _ => false
  | _ => false
def eMeth (c : Nat) (f : FM) (o : EM) (a : AM) : EM := fun s h => (o s h).bind fun x h1 => if isIns c h1 x then (a s h1).bind fun ds h2 => f (x :: ds) h2 else .bad
/-- o.m(e, ..), a method of a built-in type, by values -/
def eMb0 (f : HD → D → Res D) (o : EM) : EM := fun s h => (o s h).bind fun x h1 => f h1 x
def eMb1 (f : HD → D → D → Res D) (o a : EM) : EM := fun s h => (o s h).bind fun x h1 => if (boxL h1 x).isSome then (a s h1).bind fun y h2 => f h2 x y else .bad
def mApp (h : HD) (x y : D) : Res D := match boxL h x with
  | some (n, l) => if l.length < LIM then .ok .non (h.set n (.lst (l ++ [y]))) else .bad
  | none => .bad
def mExt (h : HD) (x y : D) : Res D := match boxL h x, lsts h y with
  | some (n, l), some m => if l.length + m.length ≤ LIM then .ok .non (h.set n (.lst (l ++ m))) else .bad
  | _, _ => .bad
def mPop (h : HD) (x : D) : Res D := match boxL h x with
  | some (n, l) => match l[l.length - 1]? with
    | some y => .ok y (h.set n (.lst l.dropLast))
    | none => .bad
  | none => .bad
def mPopI (h : HD) (x y : D) : Res D := match boxL h x, y with
  | some (n, l), .int i => match (if decide (-1000000000 < i) && decide (i < 1000000000) then ixOf i l.length else none) with
    | some k => match l[k]? with
      | some z => .ok z (h.set n (.lst (l.eraseIdx k)))
      | none => .bad
    | none => .bad
  | _, _ => .bad
/-! ### sorted -/
def keyD : Key → D
  | .inl i => .int i
  | .inr x => .str x
def encD (d : D) : PyData := (toP d).getD .none
def isTup1 : PyData → Bool
  | .tuple (_ :: _) => true
  | _ => false
def noTupN : PyData → Bool
  | .tuple _ => false
  | .none => false
  | _ => true
def sortOk (l : List D) : Bool := match toPs l with
  | some ps => ps.all (fun p => ps.all fun q => W.alike p q) && (ps.all isTup1 || ps.all noTupN) && ps.all SeqAt.shaped && decide (l.length ≤ LIM)
  | none => false
def sortD (l : List D) : List D := l.mergeSort fun a b => W.dataLe false encD a b
def keysD (h : HD) (c : D) : Option (List D) := match lsts h c with
  | some l => some l
  | none => match dictOf h c with
    | some (.t l) => some (l.map fun p => .tup (p.1.map keyD))
    | _ => none
def opSorted (h : HD) (c : D) : Option D := match keysD h c with
  | some l => if sortOk l then some (.fl (sortD l)) else none
  | none => none
def opList (h : HD) (c : D) : Option D := (items h c).map .fl
/-! ### == of instances -/
def flagR (r : Res D) : Res Bool := r.bind fun d h => match d with
  | .bl b => .ok b h
  | _ => .bad
/-- a value whose kind is known -/
def okR (cs : List Nat) (h : HD) (y : D) : Bool := match kindD h y with
  | some (.bt _) => true
  | some (.own e) => decide (e ∈ cs)
  | none => false
def eqX (cs : List Nat) (c : Nat) (f : FM) (h : HD) (x y : D) : Res Bool := if isIns c h x then (if okR cs h y then flagR (f [x, y] h) else .bad) else .of (eqD h x y) h
def tEqX (cs : List Nat) (c : Nat) (f : FM) (ng : Bool) (a b : EM) : TM := fun s h => (a s h).bind fun x h1 => (b s h1).bind fun y h2 => (eqX cs c f h2 x y).calm.bind fun b h3 => .ok (if ng then !b else b) h3
end DM
set_option Elab.async false
set_option linter.all false
set_option maxRecDepth 100000
set_option maxHeartbeats 1000000
/-! Machine D over the hand layer: what a value stands for, what a boxed object stands for, how a reading follows. -/
namespace DM
open PySem PySem.Spec PyProof.Rows L2

/-- a lambda that was handed in: where it stands, its code object and this one's name; how all stood then -/
structure ActT where
  f : Addr
  c : Addr
  q : Str
  ρ : List Addr
  Z : List Addr
  H : Hp
/-- what stands for it in a slot -/
def CALL : Nat := 999999
/-- the written part; where a class stands and its attributes in order; where an exception's class stands and its attribute -/
structure Tx where
  K : PySem.W.Frag
  ca : Nat → Addr
  fs : Nat → List Str
  xa : Nat → Addr
  xf : Nat → Str
  /-- the exception that the suite holds: its address, its class, its dict -/
  cur : Option (Addr × Value × Option Addr)
  /-- the tables of code objects, and what is made there -/
  tabs : List (Addr × Str) := []
  act : Option ActT := none
abbrev SV := List (Option V)
theorem LIM_eq : LIM = sizeLine := by rw [sizeLine_eq]; rfl

mutual
def Rep (T : Tx) (ρ Z : List Addr) (H : Hp) : D → V → Prop
  | .non, v => v = .non
  | .bl b, v => v = .bl b
  | .int i, v => v = .int i
  | .str s, v => v = .str s
  | .tup l, v => l.length ≤ LIM ∧ ∃ a xs, v = .ref a ∧ H a = some (.tup xs) ∧ RepL T ρ Z H l xs
  | .fl l, v => l.length ≤ LIM ∧ ∃ a xs, v = .ref a ∧ a ∉ ρ ∧ a ∉ Z ∧ H a = some (.lst xs) ∧ RepL T ρ Z H l xs
  | .sc l, v => l.length ≤ LIM ∧ ∃ a xs, v = .ref a ∧ ((Rd H a (.lst xs) ∧ a ∉ ρ ∧ a ∉ Z) ∨ ∃ (o : Obj) (its : Array Value) (n : Nat), T.K.lookup a = some o ∧ o.cls = .type "list" ∧ o.dict = none ∧ o.data = .seq its n ∧ its.size ≤ sizeLine ∧ Vals xs its.toList) ∧ RepL T ρ Z H l xs
  | .fo c l, v => l.length ≤ (T.fs c).length ∧ ∃ a dx xs, v = .ref a ∧ a ∉ ρ ∧ a ∉ Z ∧ H a = some (.ins (T.ca c) dx ((T.fs c).zip xs)) ∧ RepL T ρ Z H l xs
  | .fdk ks l, v => ks.length = l.length ∧ ∃ a xs, v = .ref a ∧ a ∉ ρ ∧ a ∉ Z ∧ H a = some (.dK (ks.zip xs)) ∧ RepL T ρ Z H l xs
  | .fdt ks l, v => ks.length = l.length ∧ ∃ a xs, v = .ref a ∧ a ∉ ρ ∧ a ∉ Z ∧ H a = some (.dT (ks.zip xs)) ∧ RepL T ρ Z H l xs
  | .ref n, v => ∃ a, ρ[n]? = some a ∧ v = .ref a
  | .ex _ _, _ => False
def RepL (T : Tx) (ρ Z : List Addr) (H : Hp) : List D → List V → Prop
  | [], xs => xs = []
  | d :: l, xs => ∃ v r, xs = v :: r ∧ Rep T ρ Z H d v ∧ RepL T ρ Z H l r
end

/-- nothing stands there, or a table that may go -/
def Nw (H : Hp) (a : Addr) : Prop := ∀ o, H a = some o → ∃ ps, o = .tbl ps
theorem Nw.of {H : Hp} {a : Addr} (h : H a = none) : Nw H a := fun o e => by rw [h] at e; cases e
structure Gr (ρ : List Addr) (H : Hp) (ρ' : List Addr) (H' : Hp) : Prop where
  pre : ∃ r, ρ' = ρ ++ r
  frm' : ∀ a o, H a = some o → (∀ ps, o ≠ .tbl ps) → a ∉ ρ → H' a = some o
  new : ∀ a, a ∈ ρ' → a ∉ ρ → Nw H a
  tup : ∀ a xs, H a = some (.tup xs) → H' a = some (.tup xs)
theorem Gr.frm {ρ ρ' : List Addr} {H H' : Hp} (g : Gr ρ H ρ' H') (a : Addr) (o : HO) (h : H a = some o) (n : a ∉ ρ) (nt : ∀ ps, o ≠ .tbl ps := by intro ps z; cases z) : H' a = some o := g.frm' a o h nt n
section
variable {T : Tx} {ρ ρ' ρ'' Z : List Addr} {H H' H'' : Hp}
theorem Gr.refl : Gr ρ H ρ H := ⟨⟨[], by simp⟩, fun _ _ h _ _ => h, fun _ h n => absurd h n, fun _ _ h => h⟩
theorem Gr.out (g : Gr ρ H ρ' H') {a : Addr} {o : HO} (h : H a = some o) (n : a ∉ ρ) (nt : ∀ ps, o ≠ .tbl ps := by intro ps z; cases z) : a ∉ ρ' := fun m => by
  obtain ⟨ps, e⟩ := g.new a m n o h
  exact nt ps e
theorem Gr.trans (g : Gr ρ H ρ' H') (k : Gr ρ' H' ρ'' H'') : Gr ρ H ρ'' H'' where
  pre := by
    obtain ⟨r, rfl⟩ := g.pre
    obtain ⟨q, rfl⟩ := k.pre
    exact ⟨r ++ q, by simp⟩
  frm' := fun a o h t n => k.frm' a o (g.frm' a o h t n) t (g.out h n t)
  new := fun a h n => by
    by_cases m : a ∈ ρ'
    · exact g.new a m n
    · intro o e
      by_cases t : ∀ ps, o ≠ .tbl ps
      · exact k.new a h m o (g.frm' a o e t n)
      · exact Classical.byContradiction fun z => t fun ps q => z ⟨ps, q⟩
  tup := fun a xs h => k.tup a xs (g.tup a xs h)
theorem Gr.get (g : Gr ρ H ρ' H') {n : Nat} {a : Addr} (h : ρ[n]? = some a) : ρ'[n]? = some a := by
  obtain ⟨r, rfl⟩ := g.pre
  rw [List.getElem?_append_left (List.getElem?_eq_some_iff.mp h).1]
  exact h
theorem Gr.rd (g : Gr ρ H ρ' H') {a : Addr} {u : HO} (h : Rd H a u) (n : a ∉ ρ) (nt : ∀ ps, u ≠ .tbl ps := by intro ps z; cases z) : Rd H' a u ∧ a ∉ ρ' := by
  rcases h with h | ⟨o, h⟩
  · exact ⟨.inl (g.frm _ _ h n nt), g.out h n nt⟩
  · exact ⟨.inr ⟨o, g.frm _ _ h n⟩, g.out h n⟩
mutual
theorem Rep.mono (g : Gr ρ H ρ' H') : ∀ (d : D) (v : V), Rep T ρ Z H d v → Rep T ρ' Z H' d v
  | .non, _, h => by rw [Rep] at h ⊢; exact h
  | .bl _, _, h => by rw [Rep] at h ⊢; exact h
  | .int _, _, h => by rw [Rep] at h ⊢; exact h
  | .str _, _, h => by rw [Rep] at h ⊢; exact h
  | .tup l, _, h => by
    rw [Rep] at h ⊢
    obtain ⟨z, a, xs, e, q, r⟩ := h
    exact ⟨z, a, xs, e, g.tup a xs q, RepL.mono g l xs r⟩
  | .fl l, _, h => by
    rw [Rep] at h ⊢
    obtain ⟨z, a, xs, e, n, nz, q, r⟩ := h
    exact ⟨z, a, xs, e, g.out q n, nz, g.frm _ _ q n, RepL.mono g l xs r⟩
  | .sc l, _, h => by
    rw [Rep] at h ⊢
    obtain ⟨z, a, xs, e, q, r⟩ := h
    refine ⟨z, a, xs, e, q.imp (fun ⟨q, n, nz⟩ => ?_) id, RepL.mono g l xs r⟩
    obtain ⟨q', n'⟩ := g.rd q n
    exact ⟨q', n', nz⟩
  | .fo c l, _, h => by
    rw [Rep] at h ⊢
    obtain ⟨z, a, dx, xs, e, n, nz, q, r⟩ := h
    exact ⟨z, a, dx, xs, e, g.out q n, nz, g.frm _ _ q n, RepL.mono g l xs r⟩
  | .fdk ks l, _, h => by
    rw [Rep] at h ⊢
    obtain ⟨z, a, xs, e, n, nz, q, r⟩ := h
    exact ⟨z, a, xs, e, g.out q n, nz, g.frm _ _ q n, RepL.mono g l xs r⟩
  | .fdt ks l, _, h => by
    rw [Rep] at h ⊢
    obtain ⟨z, a, xs, e, n, nz, q, r⟩ := h
    exact ⟨z, a, xs, e, g.out q n, nz, g.frm _ _ q n, RepL.mono g l xs r⟩
  | .ref n, _, h => by
    rw [Rep] at h ⊢
    obtain ⟨a, e, q⟩ := h
    exact ⟨a, g.get e, q⟩
  | .ex _ _, _, h => by rw [Rep] at h; exact h.elim
theorem RepL.mono (g : Gr ρ H ρ' H') : ∀ (l : List D) (xs : List V), RepL T ρ Z H l xs → RepL T ρ' Z H' l xs
  | [], _, h => by rw [RepL] at h ⊢; exact h
  | d :: l, _, h => by
    rw [RepL] at h ⊢
    obtain ⟨v, r, e, p, q⟩ := h
    exact ⟨v, r, e, Rep.mono g d v p, RepL.mono g l r q⟩
end
theorem RepL.nil_iff {xs : List V} : RepL T ρ Z H [] xs ↔ xs = [] := by rw [RepL]
theorem RepL.cons_iff {d : D} {l : List D} {xs : List V} : RepL T ρ Z H (d :: l) xs ↔ ∃ v r, xs = v :: r ∧ Rep T ρ Z H d v ∧ RepL T ρ Z H l r := by rw [RepL]
theorem RepL.nil : RepL T ρ Z H [] [] := RepL.nil_iff.mpr rfl
theorem RepL.cons {d : D} {l : List D} {v : V} {r : List V} (h : Rep T ρ Z H d v) (k : RepL T ρ Z H l r) : RepL T ρ Z H (d :: l) (v :: r) := RepL.cons_iff.mpr ⟨v, r, rfl, h, k⟩
theorem RepL.length : ∀ {l : List D} {xs : List V}, RepL T ρ Z H l xs → l.length = xs.length
  | [], _, h => by rw [RepL.nil_iff] at h; subst h; rfl
  | d :: l, _, h => by
    obtain ⟨v, r, rfl, _, k⟩ := RepL.cons_iff.mp h
    simp [RepL.length k]
theorem RepL.get : ∀ {l : List D} {xs : List V} {i : Nat} {d : D}, RepL T ρ Z H l xs → l[i]? = some d → ∃ v, xs[i]? = some v ∧ Rep T ρ Z H d v
  | [], _, _, _, _, e => by simp at e
  | d :: l, _, 0, _, h, e => by
    obtain ⟨v, r, rfl, p, k⟩ := RepL.cons_iff.mp h
    simp at e; subst e
    exact ⟨v, rfl, p⟩
  | d :: l, _, i + 1, _, h, e => by
    obtain ⟨v, r, rfl, p, k⟩ := RepL.cons_iff.mp h
    simpa using RepL.get k (by simpa using e)
theorem RepL.get' : ∀ {l : List D} {xs : List V} {i : Nat} {v : V}, RepL T ρ Z H l xs → xs[i]? = some v → ∃ d, l[i]? = some d ∧ Rep T ρ Z H d v
  | [], _, _, _, h, e => by rw [RepL.nil_iff] at h; subst h; simp at e
  | d :: l, _, 0, _, h, e => by
    obtain ⟨v, r, rfl, p, k⟩ := RepL.cons_iff.mp h
    simp at e; subst e
    exact ⟨d, rfl, p⟩
  | d :: l, _, i + 1, _, h, e => by
    obtain ⟨v, r, rfl, p, k⟩ := RepL.cons_iff.mp h
    simpa using RepL.get' k (by simpa using e)
theorem RepL.append : ∀ {l m : List D} {xs ys : List V}, RepL T ρ Z H l xs → RepL T ρ Z H m ys → RepL T ρ Z H (l ++ m) (xs ++ ys)
  | [], _, _, _, h, k => by rw [RepL.nil_iff] at h; subst h; exact k
  | d :: l, _, _, _, h, k => by
    obtain ⟨v, r, rfl, p, q⟩ := RepL.cons_iff.mp h
    exact RepL.cons p (RepL.append q k)
theorem RepL.take : ∀ {l : List D} {xs : List V} (n : Nat), RepL T ρ Z H l xs → RepL T ρ Z H (l.take n) (xs.take n)
  | _, _, 0, _ => by simpa using RepL.nil
  | [], _, n + 1, h => by rw [RepL.nil_iff] at h; subst h; simpa using RepL.nil
  | d :: l, _, n + 1, h => by
    obtain ⟨v, r, rfl, p, q⟩ := RepL.cons_iff.mp h
    exact RepL.cons p (RepL.take n q)
theorem RepL.drop : ∀ {l : List D} {xs : List V} (n : Nat), RepL T ρ Z H l xs → RepL T ρ Z H (l.drop n) (xs.drop n)
  | _, _, 0, h => h
  | [], _, n + 1, h => by rw [RepL.nil_iff] at h; subst h; simpa using RepL.nil
  | d :: l, _, n + 1, h => by
    obtain ⟨v, r, rfl, p, q⟩ := RepL.cons_iff.mp h
    exact RepL.drop n q
theorem RepL.set {d : D} {v : V} (p : Rep T ρ Z H d v) : ∀ {l : List D} {xs : List V} (n : Nat), RepL T ρ Z H l xs → RepL T ρ Z H (l.set n d) (xs.set n v)
  | [], _, _, h => by rw [RepL.nil_iff] at h; subst h; exact RepL.nil
  | e :: l, _, 0, h => by
    obtain ⟨w, r, rfl, _, q⟩ := RepL.cons_iff.mp h
    exact RepL.cons p q
  | e :: l, _, n + 1, h => by
    obtain ⟨w, r, rfl, p', q⟩ := RepL.cons_iff.mp h
    exact RepL.cons p' (RepL.set p n q)
theorem RepL.reverse : ∀ {l : List D} {xs : List V}, RepL T ρ Z H l xs → RepL T ρ Z H l.reverse xs.reverse
  | [], _, h => by rw [RepL.nil_iff] at h; subst h; exact RepL.nil
  | d :: l, _, h => by
    obtain ⟨v, r, rfl, p, q⟩ := RepL.cons_iff.mp h
    rw [List.reverse_cons, List.reverse_cons]
    exact (RepL.reverse q).append (RepL.cons p RepL.nil)
theorem RepL.eraseIdx : ∀ {l : List D} {xs : List V} (n : Nat), RepL T ρ Z H l xs → RepL T ρ Z H (l.eraseIdx n) (xs.eraseIdx n)
  | [], _, _, h => by rw [RepL.nil_iff] at h; subst h; exact RepL.nil
  | d :: l, _, 0, h => by
    obtain ⟨v, r, rfl, p, q⟩ := RepL.cons_iff.mp h
    exact q
  | d :: l, _, n + 1, h => by
    obtain ⟨v, r, rfl, p, q⟩ := RepL.cons_iff.mp h
    exact RepL.cons p (RepL.eraseIdx n q)
theorem RepL.dropLast {l : List D} {xs : List V} (h : RepL T ρ Z H l xs) : RepL T ρ Z H l.dropLast xs.dropLast := by
  rw [List.dropLast_eq_take, List.dropLast_eq_take, h.length]
  exact h.take _
theorem RepL.rept {l : List D} {xs : List V} (h : RepL T ρ Z H l xs) : ∀ n : Nat, RepL T ρ Z H (rept l n) (DM.rept xs n)
  | 0 => RepL.nil
  | n + 1 => by
    have ih := RepL.rept h n
    unfold DM.rept at ih ⊢
    rw [List.replicate_succ, List.replicate_succ, List.flatten_cons, List.flatten_cons]
    exact h.append ih
end

/-- what a boxed object stands for -/
def OR (T : Tx) (ρ Z : List Addr) (H : Hp) (a : Addr) : O → Prop
  | .lst l => l.length ≤ LIM ∧ ∃ xs, H a = some (.lst xs) ∧ RepL T ρ Z H l xs
  | .dk l => ∃ xs, H a = some (.dK ((l.map (·.1)).zip xs)) ∧ RepL T ρ Z H (l.map (·.2)) xs
  | .dt l => ∃ xs, H a = some (.dT ((l.map (·.1)).zip xs)) ∧ RepL T ρ Z H (l.map (·.2)) xs
  | .ins c l => l.length ≤ (T.fs c).length ∧ ∃ dx xs, H a = some (.ins (T.ca c) dx ((T.fs c).zip xs)) ∧ RepL T ρ Z H l xs
structure Rl (T : Tx) (ρ Z : List Addr) (h : HD) (H : Hp) : Prop where
  len : ρ.length = h.length
  nd : ρ.Nodup
  ob : ∀ (n : Nat) (o : O) (a : Addr), h[n]? = some o → ρ[n]? = some a → OR T ρ Z H a o
  hid : ∀ z, z ∈ Z → z ∉ ρ ∧ ∃ o, H z = some o ∧ ∀ ps, o ≠ .tbl ps
  tab : LamX.Tabs T.tabs H
/-- the lambda at hand -/
def ActF (T : Tx) (ρ Z : List Addr) (H : Hp) (v : V) : Prop := ∃ A : ActT, T.act = some A ∧ v = .ref A.f ∧ H A.c = some (LamX.CodeO A.c A.q) ∧ A.c ∉ ρ ∧ Gr A.ρ A.H ρ H ∧ ∀ z ∈ Z, z ∈ A.Z ∨ Nw A.H z
/-- the held exception in a slot -/
def ExH (T : Tx) (ρ Z : List Addr) (H : Hp) (d : D) (v : V) : Prop := ∃ (c : Nat) (l : List D) (a : Addr) (dd : Option Addr), d = .ex c l ∧ v = .ref a ∧ T.cur = some (a, .ref (T.xa c), dd) ∧ match l with
    | [] => dd = none
    | [x] => ∃ b u, dd = some b ∧ b ∉ ρ ∧ b ∉ Z ∧ H b = some (.xd [(T.xf c, u)]) ∧ Rep T ρ Z H x u
    | _ => False
def ExR (T : Tx) (ρ Z : List Addr) (H : Hp) (d : D) (v : V) : Prop := ExH T ρ Z H d v ∨ (d = .ex CALL [] ∧ ActF T ρ Z H v)
def RepX (T : Tx) (ρ Z : List Addr) (H : Hp) (d : D) (v : V) : Prop := if isEx d then ExR T ρ Z H d v else Rep T ρ Z H d v
structure EnvR (T : Tx) (ρ Z : List Addr) (H : Hp) (s : SD) (σ : SV) : Prop where
  len : s.length = σ.length
  at_ : ∀ (i : Nat) (d : D), s[i]? = some (some d) → ∃ v, σ[i]? = some (some v) ∧ RepX T ρ Z H d v
/-- an exception: its class, its dict -/
def XR (T : Tx) (ρ Z : List Addr) (H : Hp) (x : Xn) (c : Value) (dd : Option Addr) : Prop :=
  c = .ref (T.xa x.c) ∧ match x.l with
    | [] => dd = none
    | [v] => ∃ a u, dd = some a ∧ a ∉ ρ ∧ a ∉ Z ∧ H a = some (.xd [(T.xf x.c, u)]) ∧ Rep T ρ Z H v u
    | _ => False
section
variable {T : Tx} {ρ ρ' Z : List Addr} {H H' : Hp} {h : HD} {s : SD} {σ : SV}
theorem RepX.map {ρ' Z' : List Addr} {H' : Hp} (k : ∀ d v, Rep T ρ Z H d v → Rep T ρ' Z' H' d v) (x : ∀ b fs, H b = some (.xd fs) → b ∉ ρ → b ∉ Z → b ∉ ρ' ∧ b ∉ Z' ∧ H' b = some (.xd fs)) (y : ∀ v, ActF T ρ Z H v → ActF T ρ' Z' H' v) {d : D} {v : V} (h : RepX T ρ Z H d v) : RepX T ρ' Z' H' d v := by
  unfold RepX at h ⊢
  split
  · rename_i e
    rw [if_pos e] at h
    rcases h with h | ⟨h1, h2⟩
    · left
      obtain ⟨c, l, a, dd, e1, e2, e3, m⟩ := h
      refine ⟨c, l, a, dd, e1, e2, e3, ?_⟩
      revert m
      match l with
      | [] => exact fun m => m
      | [y] =>
        rintro ⟨b, u, e4, n1, n2, e5, r⟩
        obtain ⟨q1, q2, q3⟩ := x b _ e5 n1 n2
        exact ⟨b, u, e4, q1, q2, q3, k _ _ r⟩
      | _ :: _ :: _ => exact fun m => m
    · exact .inr ⟨h1, y v h2⟩
  · rename_i e
    rw [if_neg e] at h
    exact k _ _ h
theorem code_nt {c : Addr} {q : Str} : ∀ ps, LamX.CodeO c q ≠ .tbl ps := fun ps z => by unfold LamX.CodeO at z; cases z
theorem ActF.mono (g : Gr ρ H ρ' H') {v : V} (h : ActF T ρ Z H v) : ActF T ρ' Z H' v := by
  obtain ⟨A, h1, h2, h3, h4, h6, h7⟩ := h
  exact ⟨A, h1, h2, g.frm' _ _ h3 code_nt h4, g.out h3 h4 code_nt, h6.trans g, h7⟩
theorem RepX.of {d : D} {v : V} (h : Rep T ρ Z H d v) : RepX T ρ Z H d v := by
  unfold RepX
  cases d with
  | ex c l => rw [Rep] at h; exact h.elim
  | _ => exact h
theorem RepX.mono (g : Gr ρ H ρ' H') {d : D} {v : V} (h : RepX T ρ Z H d v) : RepX T ρ' Z H' d v := h.map (fun d v => Rep.mono g d v) (fun b fs e n1 n2 => ⟨g.out e n1, n2, g.frm b _ e n1⟩) fun v h => h.mono g
theorem EnvR.mono (g : Gr ρ H ρ' H') (e : EnvR T ρ Z H s σ) : EnvR T ρ' Z H' s σ := ⟨e.len, fun i d q => let ⟨v, h1, h2⟩ := e.at_ i d q; ⟨v, h1, h2.mono g⟩⟩
theorem EnvR.set (e : EnvR T ρ Z H s σ) {d : D} {v : V} (p : Rep T ρ Z H d v) (i : Nat) : EnvR T ρ Z H (s.set i (some d)) (σ.set i (some v)) := by
  refine ⟨by simp [e.len], fun j c q => ?_⟩
  by_cases hj : i = j
  · subst hj
    rw [List.getElem?_set] at q ⊢
    simp only [if_true] at q ⊢
    split at q
    · injection q with q
      injection q with q
      subst q
      rename_i hl
      rw [if_pos (by rw [← e.len]; exact hl)]
      exact ⟨v, rfl, .of p⟩
    · cases q
  · rw [List.getElem?_set_ne hj] at q ⊢
    exact e.at_ j c q
theorem EnvR.wipe (e : EnvR T ρ Z H s σ) : ∀ vs : List Nat, EnvR T ρ Z H (wipeD s vs) (L2.wipe σ vs)
  | [] => e
  | v :: vs => by
    have ih := EnvR.wipe e vs
    refine ⟨by show ((wipeD s vs).set v none).length = ((L2.wipe σ vs).set v none).length; rw [List.length_set, List.length_set]; exact ih.len, fun j c q => ?_⟩
    have q : ((wipeD s vs).set v none)[j]? = some (some c) := q
    show ∃ u, ((L2.wipe σ vs).set v none)[j]? = some (some u) ∧ _
    by_cases hj : v = j
    · subst hj
      rw [List.getElem?_set] at q
      simp only [if_true] at q
      split at q <;> cases q
    · rw [List.getElem?_set_ne hj] at q ⊢
      exact ih.at_ j c q
theorem Rl.at_ (r : Rl T ρ Z h H) {n : Nat} {a : Addr} (e : ρ[n]? = some a) : ∃ o, h[n]? = some o ∧ OR T ρ Z H a o := by
  have hn : n < h.length := by rw [← r.len]; exact (List.getElem?_eq_some_iff.mp e).1
  exact ⟨h[n], by simp [hn], r.ob n _ a (by simp [hn]) e⟩
end

section
variable {T : Tx} {ρ ρ' Z Z' : List Addr} {H H' : Hp} {h : HD} {s : SD} {σ : SV} {p : Addr} {o : HO}
mutual
/-- nothing points to a new address -/
theorem Rep.fresh (hp : H p = none) : ∀ (d : D) (v : V), Rep T ρ Z H d v → Rep T ρ (p :: Z) (upd H p o) d v
  | .non, _, h => by rw [Rep] at h ⊢; exact h
  | .bl _, _, h => by rw [Rep] at h ⊢; exact h
  | .int _, _, h => by rw [Rep] at h ⊢; exact h
  | .str _, _, h => by rw [Rep] at h ⊢; exact h
  | .tup l, _, h => by
    rw [Rep] at h ⊢
    obtain ⟨z, a, xs, e, q, r⟩ := h
    exact ⟨z, a, xs, e, by rw [upd_ne (ne_of_none q hp)]; exact q, RepL.fresh hp l xs r⟩
  | .fl l, _, h => by
    rw [Rep] at h ⊢
    obtain ⟨z, a, xs, e, n, nz, q, r⟩ := h
    have ne : a ≠ p := ne_of_none q hp
    exact ⟨z, a, xs, e, n, by simp [ne, nz], by rw [upd_ne ne]; exact q, RepL.fresh hp l xs r⟩
  | .sc l, _, h => by
    rw [Rep] at h ⊢
    obtain ⟨z, a, xs, e, q, r⟩ := h
    refine ⟨z, a, xs, e, q.imp (fun ⟨q, n, nz⟩ => ?_) id, RepL.fresh hp l xs r⟩
    have ne : a ≠ p := by rcases q with q | ⟨u, q⟩ <;> exact ne_of_none q hp
    refine ⟨q.imp (fun q => ?_) fun ⟨u, q⟩ => ⟨u, ?_⟩, n, by simp [ne, nz]⟩
    · rw [upd_ne ne]; exact q
    · rw [upd_ne ne]; exact q
  | .fo c l, _, h => by
    rw [Rep] at h ⊢
    obtain ⟨z, a, dx, xs, e, n, nz, q, r⟩ := h
    have ne : a ≠ p := ne_of_none q hp
    exact ⟨z, a, dx, xs, e, n, by simp [ne, nz], by rw [upd_ne ne]; exact q, RepL.fresh hp l xs r⟩
  | .fdk ks l, _, h => by
    rw [Rep] at h ⊢
    obtain ⟨z, a, xs, e, n, nz, q, r⟩ := h
    have ne : a ≠ p := ne_of_none q hp
    exact ⟨z, a, xs, e, n, by simp [ne, nz], by rw [upd_ne ne]; exact q, RepL.fresh hp l xs r⟩
  | .fdt ks l, _, h => by
    rw [Rep] at h ⊢
    obtain ⟨z, a, xs, e, n, nz, q, r⟩ := h
    have ne : a ≠ p := ne_of_none q hp
    exact ⟨z, a, xs, e, n, by simp [ne, nz], by rw [upd_ne ne]; exact q, RepL.fresh hp l xs r⟩
  | .ref n, _, h => by rw [Rep] at h ⊢; exact h
  | .ex _ _, _, h => by rw [Rep] at h; exact h.elim
theorem RepL.fresh (hp : H p = none) : ∀ (l : List D) (xs : List V), RepL T ρ Z H l xs → RepL T ρ (p :: Z) (upd H p o) l xs
  | [], _, h => by rw [RepL] at h ⊢; exact h
  | d :: l, _, h => by
    rw [RepL] at h ⊢
    obtain ⟨v, r, e, q, k⟩ := h
    exact ⟨v, r, e, Rep.fresh hp d v q, RepL.fresh hp l r k⟩
end
mutual
/-- boxes and hidden addresses in other lists -/
theorem Rep.shift (sub : ∀ (n : Nat) (a : Addr), ρ[n]? = some a → ρ'[n]? = some a) (k : ∀ a o, H a = some o → (∀ ps, o ≠ .tbl ps) → a ∉ ρ → a ∉ Z → a ∉ ρ' ∧ a ∉ Z') : ∀ (d : D) (v : V), Rep T ρ Z H d v → Rep T ρ' Z' H d v
  | .non, _, h => by rw [Rep] at h ⊢; exact h
  | .bl _, _, h => by rw [Rep] at h ⊢; exact h
  | .int _, _, h => by rw [Rep] at h ⊢; exact h
  | .str _, _, h => by rw [Rep] at h ⊢; exact h
  | .tup l, _, h => by
    rw [Rep] at h ⊢
    obtain ⟨z, a, xs, e, q, r⟩ := h
    exact ⟨z, a, xs, e, q, RepL.shift sub k l xs r⟩
  | .fl l, _, h => by
    rw [Rep] at h ⊢
    obtain ⟨z, a, xs, e, n, nz, q, r⟩ := h
    have w := k a _ q (fun _ z => nomatch z) n nz
    exact ⟨z, a, xs, e, w.1, w.2, q, RepL.shift sub k l xs r⟩
  | .sc l, _, h => by
    rw [Rep] at h ⊢
    obtain ⟨z, a, xs, e, q, r⟩ := h
    refine ⟨z, a, xs, e, q.imp (fun ⟨q, n, nz⟩ => ?_) id, RepL.shift sub k l xs r⟩
    have w : a ∉ ρ' ∧ a ∉ Z' := by rcases q with q | ⟨u, q⟩ <;> exact k a _ q (fun _ z => nomatch z) n nz
    exact ⟨q, w⟩
  | .fo c l, _, h => by
    rw [Rep] at h ⊢
    obtain ⟨z, a, dx, xs, e, n, nz, q, r⟩ := h
    have w := k a _ q (fun _ z => nomatch z) n nz
    exact ⟨z, a, dx, xs, e, w.1, w.2, q, RepL.shift sub k l xs r⟩
  | .fdk ks l, _, h => by
    rw [Rep] at h ⊢
    obtain ⟨z, a, xs, e, n, nz, q, r⟩ := h
    have w := k a _ q (fun _ z => nomatch z) n nz
    exact ⟨z, a, xs, e, w.1, w.2, q, RepL.shift sub k l xs r⟩
  | .fdt ks l, _, h => by
    rw [Rep] at h ⊢
    obtain ⟨z, a, xs, e, n, nz, q, r⟩ := h
    have w := k a _ q (fun _ z => nomatch z) n nz
    exact ⟨z, a, xs, e, w.1, w.2, q, RepL.shift sub k l xs r⟩
  | .ref n, _, h => by
    rw [Rep] at h ⊢
    obtain ⟨a, e, q⟩ := h
    exact ⟨a, sub n a e, q⟩
  | .ex _ _, _, h => by rw [Rep] at h; exact h.elim
theorem RepL.shift (sub : ∀ (n : Nat) (a : Addr), ρ[n]? = some a → ρ'[n]? = some a) (k : ∀ a o, H a = some o → (∀ ps, o ≠ .tbl ps) → a ∉ ρ → a ∉ Z → a ∉ ρ' ∧ a ∉ Z') : ∀ (l : List D) (xs : List V), RepL T ρ Z H l xs → RepL T ρ' Z' H l xs
  | [], _, h => by rw [RepL] at h ⊢; exact h
  | d :: l, _, h => by
    rw [RepL] at h ⊢
    obtain ⟨v, r, e, q, w⟩ := h
    exact ⟨v, r, e, Rep.shift sub k d v q, RepL.shift sub k l r w⟩
end
/-- an object's word follows its items' -/
theorem OR.map {a : Addr} {x : O} (h : OR T ρ Z H a x) (hH : H' a = H a) (k : ∀ l xs, RepL T ρ Z H l xs → RepL T ρ' Z' H' l xs) : OR T ρ' Z' H' a x := by
  cases x with
  | lst l =>
    obtain ⟨z, xs, q, r⟩ := h
    exact ⟨z, xs, by rw [hH]; exact q, k _ _ r⟩
  | dk l =>
    obtain ⟨xs, q, r⟩ := h
    exact ⟨xs, by rw [hH]; exact q, k _ _ r⟩
  | dt l =>
    obtain ⟨xs, q, r⟩ := h
    exact ⟨xs, by rw [hH]; exact q, k _ _ r⟩
  | ins c l =>
    obtain ⟨z, dx, xs, q, r⟩ := h
    exact ⟨z, dx, xs, by rw [hH]; exact q, k _ _ r⟩
theorem OR.has {a : Addr} {x : O} (h : OR T ρ Z H a x) : ∃ o, H a = some o := by
  cases x with
  | lst l => obtain ⟨z, xs, q, r⟩ := h; exact ⟨_, q⟩
  | dk l => obtain ⟨xs, q, r⟩ := h; exact ⟨_, q⟩
  | dt l => obtain ⟨xs, q, r⟩ := h; exact ⟨_, q⟩
  | ins c l => obtain ⟨z, dx, xs, q, r⟩ := h; exact ⟨_, q⟩
theorem Rl.has (r : Rl T ρ Z h H) {a : Addr} (m : a ∈ ρ) : ∃ o, H a = some o := by
  obtain ⟨n, hn⟩ := List.mem_iff_getElem?.mp m
  obtain ⟨x, _, q⟩ := r.at_ hn
  exact q.has
theorem Rl.fresh (r : Rl T ρ Z h H) (hp : H p = none) (nt : ∀ ps, o ≠ .tbl ps := by (intro ps z; cases z)) : Rl T ρ (p :: Z) h (upd H p o) := ⟨r.len, r.nd, fun n x a h1 h2 => by
  have q := r.ob n x a h1 h2
  obtain ⟨u, hu⟩ := q.has
  exact q.map (upd_ne (ne_of_none hu hp)) fun l xs => RepL.fresh hp l xs, fun z m => by
  rcases List.mem_cons.mp m with e | m
  · rw [e]
    exact ⟨fun m => (by obtain ⟨o, ho⟩ := r.has m; rw [hp] at ho; cases ho), _, upd_same, nt⟩
  · obtain ⟨m1, o', ho, nt'⟩ := r.hid z m
    exact ⟨m1, o', by rw [upd_ne (ne_of_none ho hp)]; exact ho, nt'⟩, r.tab.ext fun b u e => by rw [upd_ne (ne_of_none e hp)]; exact e⟩
theorem Rl.lose (r : Rl T ρ (p :: Z) h H) : Rl T ρ Z h H := ⟨r.len, r.nd, fun n x a h1 h2 => (r.ob n x a h1 h2).map rfl fun l xs => RepL.shift (fun _ _ q => q) (fun a o _ _ m n => ⟨m, fun z => n (List.mem_cons_of_mem _ z)⟩) l xs, fun z m => r.hid z (List.mem_cons_of_mem _ m), r.tab⟩
theorem Rl.back (r : Rl T ρ' Z h H') (g : Gr ρ H ρ' H') {a : Addr} (e : H' a = none) : Nw H a := by
  intro o q
  by_cases m : a ∈ ρ
  · obtain ⟨w, hw⟩ := g.pre
    obtain ⟨u, hu⟩ := r.has (a := a) (by rw [hw]; exact List.mem_append_left _ m)
    rw [e] at hu; cases hu
  · by_cases t : ∀ ps, o ≠ .tbl ps
    · have := g.frm' a o q t m
      rw [e] at this; cases this
    · exact Classical.byContradiction fun z => t fun ps q => z ⟨ps, q⟩
theorem Rl.outZ (r : Rl T ρ Z h H) {a : Addr} (e : H a = none) : a ∉ ρ ∧ a ∉ Z := by
  refine ⟨fun m => ?_, fun m => ?_⟩
  · obtain ⟨o, ho⟩ := r.has m
    rw [e] at ho; cases ho
  · obtain ⟨_, o, ho, _⟩ := r.hid a m
    rw [e] at ho; cases ho
/-- a hidden object becomes a box -/
theorem Rl.box (r : Rl T ρ (p :: Z) h H) (n : p ∉ ρ) (nz : p ∉ Z) {x : O} (hx : OR T ρ (p :: Z) H p x) : Rl T (ρ ++ [p]) Z (h ++ [x]) H := by
  have sub : ∀ (n : Nat) (a : Addr), ρ[n]? = some a → (ρ ++ [p])[n]? = some a := fun n a e => by
    rw [List.getElem?_append_left (List.getElem?_eq_some_iff.mp e).1]; exact e
  have mv : ∀ l xs, RepL T ρ (p :: Z) H l xs → RepL T (ρ ++ [p]) Z H l xs := fun l xs => RepL.shift sub (fun a o _ _ m n => by
    rw [List.mem_cons, not_or] at n
    exact ⟨by rw [List.mem_append, List.mem_singleton, not_or]; exact ⟨m, n.1⟩, n.2⟩) l xs
  refine ⟨by simp [r.len], ?_, fun k y a h1 h2 => ?_, fun z m => ?_, r.tab⟩
  rotate_left 2
  · obtain ⟨m1, q⟩ := r.hid z (List.mem_cons_of_mem _ m)
    refine ⟨fun w => ?_, q⟩
    rcases List.mem_append.mp w with w | w
    · exact m1 w
    · simp at w; subst w; exact nz m
  · rw [List.nodup_append]
    exact ⟨r.nd, by simp, fun a ha b hb e => by simp at hb; subst hb; subst e; exact n ha⟩
  · by_cases hk : k < h.length
    · rw [List.getElem?_append_left hk] at h1
      rw [List.getElem?_append_left (by rw [r.len]; exact hk)] at h2
      exact (r.ob k y a h1 h2).map rfl mv
    · have hk2 : k = h.length := by
        have := (List.getElem?_eq_some_iff.mp h1).1
        simp at this; omega
      subst hk2
      rw [List.getElem?_append_right (Nat.le_refl _)] at h1
      rw [← r.len, List.getElem?_append_right (Nat.le_refl _)] at h2
      simp at h1 h2
      subst h1 h2
      exact hx.map rfl mv
theorem OR.ne_tbl {a : Addr} {x : O} (h : OR T ρ Z H a x) : (∀ ps, H a ≠ some (.tbl ps)) ∧ (∀ c q, H a ≠ some (LamX.CodeO c q)) ∧ ∀ xs, H a ≠ some (.tup xs) := by
  unfold LamX.CodeO
  cases x with
  | lst l => obtain ⟨z, xs, q, r⟩ := h; rw [q]; exact ⟨(fun _ z => nomatch z), (fun _ _ z => nomatch z), (fun _ z => nomatch z)⟩
  | dk l => obtain ⟨xs, q, r⟩ := h; rw [q]; exact ⟨(fun _ z => nomatch z), (fun _ _ z => nomatch z), (fun _ z => nomatch z)⟩
  | dt l => obtain ⟨xs, q, r⟩ := h; rw [q]; exact ⟨(fun _ z => nomatch z), (fun _ _ z => nomatch z), (fun _ z => nomatch z)⟩
  | ins c l => obtain ⟨z, dx, xs, q, r⟩ := h; rw [q]; exact ⟨(fun _ z => nomatch z), (fun _ _ z => nomatch z), (fun _ z => nomatch z)⟩
/-- the tables stand where a box is written -/
theorem Rl.tabs_upd (r : Rl T ρ Z h H) {a : Addr} {o : HO} (am : a ∈ ρ) : LamX.Tabs T.tabs (upd H a o) := by
  intro p hp
  obtain ⟨n, hn⟩ := List.mem_iff_getElem?.mp am
  obtain ⟨x, _, q⟩ := r.at_ hn
  obtain ⟨n1, n2, _⟩ := q.ne_tbl
  obtain ⟨ps, h1, h2, h3⟩ := r.tab p hp
  refine ⟨ps, by rw [upd_ne (fun z => n1 ps (by rw [← z]; exact h1))]; exact h1, h2, fun pos cv hc => ?_⟩
  obtain ⟨c, e1, e2⟩ := h3 pos cv hc
  exact ⟨c, e1, by rw [upd_ne (fun z => n2 c p.2 (by rw [← z]; exact e2))]; exact e2⟩
/-- a box is written -/
theorem Rl.gr_upd (r : Rl T ρ Z h H) {a : Addr} {o : HO} (am : a ∈ ρ) : Gr ρ H ρ (upd H a o) := by
  obtain ⟨n, hn⟩ := List.mem_iff_getElem?.mp am
  obtain ⟨x, _, q⟩ := r.at_ hn
  obtain ⟨_, _, n3⟩ := q.ne_tbl
  refine ⟨⟨[], by simp⟩, fun b u e _ m => by rw [upd_ne (fun z : b = a => m (by rw [z]; exact am))]; exact e, fun _ m n => absurd m n, fun b xs e => ?_⟩
  have ne : b ≠ a := fun z => n3 xs (z ▸ e)
  rw [upd_ne ne]; exact e
/-- one box is written -/
theorem Rl.write (r : Rl T ρ Z h H) {n : Nat} {a : Addr} {x : O} {o : HO} (ha : ρ[n]? = some a) (nt : ∀ xs, H a ≠ some (.tup xs)) (hx : OR T ρ Z (upd H a o) a x) : Rl T ρ Z (h.set n x) (upd H a o) ∧ Gr ρ H ρ (upd H a o) := by
  have am : a ∈ ρ := List.mem_iff_getElem?.mpr ⟨n, ha⟩
  have g : Gr ρ H ρ (upd H a o) := r.gr_upd am
  refine ⟨⟨by simp [r.len], r.nd, fun k y b h1 h2 => ?_, fun z m => ?_, r.tabs_upd am⟩, g⟩
  rotate_left 1
  · obtain ⟨m1, o', ho, nt'⟩ := r.hid z m
    refine ⟨m1, o', ?_, nt'⟩
    rw [upd_ne (fun q : z = a => m1 (by rw [q]; exact am))]; exact ho
  by_cases hk : n = k
  · subst hk
    rw [ha] at h2; cases h2
    rw [List.getElem?_set] at h1
    simp only [if_true] at h1
    split at h1
    · cases h1; exact hx
    · cases h1
  · rw [List.getElem?_set_ne hk] at h1
    have nb : b ≠ a := fun z => by
      subst z
      obtain ⟨i1, e1⟩ := List.getElem?_eq_some_iff.mp ha
      obtain ⟨i2, e2⟩ := List.getElem?_eq_some_iff.mp h2
      exact hk ((List.getElem_inj r.nd).mp (e1.trans e2.symm))
    exact (r.ob k y b h1 h2).map (upd_ne nb) fun l xs => RepL.mono g l xs
/-- a new object that is no box -/
theorem Gr.laid (hp : H p = none) : Gr ρ H ρ (upd H p o) := ⟨⟨[], by simp⟩, fun a u e _ _ => by rw [upd_ne (ne_of_none e hp)]; exact e, fun _ m n => absurd m n, fun a xs e => by rw [upd_ne (ne_of_none e hp)]; exact e⟩
theorem EnvR.lose (e : EnvR T ρ (p :: Z) H s σ) : EnvR T ρ Z H s σ := ⟨e.len, fun i d q => let ⟨v, h1, h2⟩ := e.at_ i d q; ⟨v, h1, h2.map (fun d v => Rep.shift (fun _ _ q => q) (fun a o _ _ m n => ⟨m, fun z => n (List.mem_cons_of_mem _ z)⟩) d v) (fun b fs e n1 n2 => ⟨n1, fun z => n2 (List.mem_cons_of_mem _ z), e⟩) fun v ⟨A, q1, q2, q3, q4, q6, q7⟩ => ⟨A, q1, q2, q3, q4, q6, fun z m => q7 z (List.mem_cons_of_mem _ m)⟩⟩⟩
theorem ActF.fresh (hm : ∀ a ∈ ρ, ∃ o, H a = some o) (hp : H p = none) {v : V} (h : ActF T ρ Z H v) : ActF T ρ (p :: Z) (upd H p o) v := by
  obtain ⟨A, h1, h2, h3, h4, h6, h7⟩ := h
  have g : Gr ρ H ρ (upd H p o) := Gr.laid hp
  refine ⟨A, h1, h2, g.frm' _ _ h3 code_nt h4, h4, h6.trans g, fun z m => ?_⟩
  · rcases List.mem_cons.mp m with e | m
    · right
      subst e
      intro u hu
      by_cases t : ∀ ps, u ≠ .tbl ps
      · by_cases w : z ∈ A.ρ
        · obtain ⟨r, hr⟩ := h6.pre
          obtain ⟨u', hu'⟩ := hm z (by rw [hr]; exact List.mem_append_left _ w)
          rw [hp] at hu'; cases hu'
        · have := h6.frm' z u hu t w
          rw [hp] at this; cases this
      · exact Classical.byContradiction fun z => t fun ps q => z ⟨ps, q⟩
    · exact h7 z m
theorem ActF.hide (hm : ∀ a ∈ ρ, ∃ o, H a = some o) (hp : H p = none) {v : V} (h : ActF T ρ Z H v) : ActF T ρ (p :: Z) H v := by
  obtain ⟨A, h1, h2, h3, h4, h6, h7⟩ := h
  refine ⟨A, h1, h2, h3, h4, h6, fun z m => ?_⟩
  · obtain ⟨B, k1, k2, k3, k4, k6, k7⟩ := ActF.fresh (o := .lst []) hm hp ⟨A, h1, h2, h3, h4, h6, h7⟩
    rw [h1] at k1
    cases k1
    exact k7 z m
theorem EnvR.fresh (hm : ∀ a ∈ ρ, ∃ o, H a = some o) (e : EnvR T ρ Z H s σ) (hp : H p = none) : EnvR T ρ (p :: Z) (upd H p o) s σ := ⟨e.len, fun i d q => let ⟨v, h1, h2⟩ := e.at_ i d q; ⟨v, h1, h2.map (fun d v => Rep.fresh hp d v) (fun b fs e n1 n2 => ⟨n1, by rw [List.mem_cons, not_or]; exact ⟨ne_of_none e hp, n2⟩, by rw [upd_ne (ne_of_none e hp)]; exact e⟩) fun v h => h.fresh hm hp⟩⟩
theorem Gr.box (g : Gr ρ H ρ' H') (hp : Nw H p) : Gr ρ H (ρ' ++ [p]) H' := ⟨by obtain ⟨r, e⟩ := g.pre; exact ⟨r ++ [p], by rw [e, List.append_assoc]⟩, g.frm', fun a m n => by
  rcases List.mem_append.mp m with m | m
  · exact g.new a m n
  · simp at m; subst m; exact hp, g.tup⟩
end

/-- what follows on a result -/
def Fin {α β : Type} (T : Tx) (W : WX) (Z : List Addr) (R : List Addr → HD → Hp → α → β → Prop) (ρ : List Addr) (H : Hp) (σ : SV) (r : Res α) (Q : β → Hp → Prop) : Prop :=
  match r with
  | .ok a h => ∀ ρ' H' b, Gr ρ H ρ' H' → Rl T ρ' Z h H' → R ρ' h H' a b → Q b H'
  | .exc x h => ∀ ρ' H' c d, Gr ρ H ρ' H' → Rl T ρ' Z h H' → XR T ρ' Z H' x c d → W c d σ H'
  | .bad => False
section
variable {T : Tx} {W : WX} {ρ ρ' Z : List Addr} {H H' : Hp} {h : HD} {s : SD} {σ : SV} {α β γ δ : Type} {R : List Addr → HD → Hp → α → β → Prop} {R2 : List Addr → HD → Hp → γ → δ → Prop}
theorem Fin.grow {r : Res α} {Q : β → Hp → Prop} (g : Gr ρ H ρ' H') (f : Fin T W Z R ρ H σ r Q) : Fin T W Z R ρ' H' σ r Q := by
  cases r with
  | ok a h => exact fun ρ2 H2 b k => f ρ2 H2 b (g.trans k)
  | exc x h => exact fun ρ2 H2 c d k => f ρ2 H2 c d (g.trans k)
  | bad => exact f
theorem Fin.imp {r : Res α} {Q Q' : β → Hp → Prop} (f : Fin T W Z R ρ H σ r Q) (k : ∀ b H', Q b H' → Q' b H') : Fin T W Z R ρ H σ r Q' := by
  cases r with
  | ok a h => exact fun ρ2 H2 b g l q => k b H2 (f ρ2 H2 b g l q)
  | exc x h => exact f
  | bad => exact f
theorem Fin.bind {r : Res α} {f : α → HD → Res γ} {Q : δ → Hp → Prop} (k : Fin T W Z R2 ρ H σ (r.bind f) Q) :
    Fin T W Z R ρ H σ r (fun b H1 => ∃ ρ1 a h1, Gr ρ H ρ1 H1 ∧ Rl T ρ1 Z h1 H1 ∧ R ρ1 h1 H1 a b ∧ Fin T W Z R2 ρ1 H1 σ (f a h1) Q) := by
  cases r with
  | ok a h => exact fun ρ1 H1 b g l q => ⟨ρ1, a, h, g, l, q, Fin.grow g k⟩
  | exc x h => exact k
  | bad => exact k
theorem Fin.here {a : α} {b : β} {Q : β → Hp → Prop} (f : Fin T W Z R ρ H σ (.ok a h) Q) (l : Rl T ρ Z h H) (r : R ρ h H a b) : Q b H := f ρ H b Gr.refl l r
end
/-- a value, a flag, a list of values; a fresh list: at an address that is no box, and was nothing ahead of it -/
abbrev RV (T : Tx) (Z : List Addr) : List Addr → HD → Hp → D → V → Prop := fun ρ _ H => Rep T ρ Z H
abbrev RB : List Addr → HD → Hp → Bool → Bool → Prop := fun _ _ _ a b => a = b
abbrev RA (T : Tx) (Z : List Addr) : List Addr → HD → Hp → List D → List V → Prop := fun ρ _ H => RepL T ρ Z H
def RF (T : Tx) (Z : List Addr) (H0 : Hp) (ρ : List Addr) (h : HD) (H : Hp) (l : List D) (v : V) : Prop :=
  l.length ≤ LIM ∧ ∃ a xs, v = .ref a ∧ a ∉ ρ ∧ a ∉ Z ∧ Nw H0 a ∧ H a = some (.lst xs) ∧ Rl T ρ (a :: Z) h H ∧ RepL T ρ (a :: Z) H l xs
def rdE (T : Tx) (W : WX) (m : EM) : TE := fun σ H Q => ∃ ρ Z s h, Rl T ρ Z h H ∧ EnvR T ρ Z H s σ ∧ Fin T W Z (RV T Z) ρ H σ (m s h) Q
def rdT (T : Tx) (W : WX) (m : TM) : TT := fun σ H Q => ∃ ρ Z s h, Rl T ρ Z h H ∧ EnvR T ρ Z H s σ ∧ Fin T W Z RB ρ H σ (m s h) Q
def rdA (T : Tx) (W : WX) (m : AM) : TA := fun σ H Q => ∃ ρ Z s h, Rl T ρ Z h H ∧ EnvR T ρ Z H s σ ∧ Fin T W Z (RA T Z) ρ H σ (m s h) Q
def rdF (T : Tx) (W : WX) (m : AM) : TE := fun σ H Q => ∃ ρ Z s h, Rl T ρ Z h H ∧ EnvR T ρ Z H s σ ∧ Fin T W Z (RF T Z H) ρ H σ (m s h) Q

theorem PE.imp {X : Cx} {e : Expr} {t t' : TE} (p : PE X e t) (k : ∀ σ H Q, t' σ H Q → t σ H Q) : PE X e t' := ⟨fun pins s σ H Q I h => p.run pins s σ H Q I (k σ H Q h)⟩
theorem PT.imp {X : Cx} {e : Expr} {t t' : TT} (p : PT X e t) (k : ∀ σ H Q, t' σ H Q → t σ H Q) : PT X e t' := ⟨fun pins s σ H Q I h => p.run pins s σ H Q I (k σ H Q h)⟩
theorem PW.imp {X : Cx} {e : Expr} {t t' : TT} (p : PW X e t) (k : ∀ σ H Q, t' σ H Q → t σ H Q) : PW X e t' := ⟨fun wh pins s σ H Q I h => p.run wh pins s σ H Q I (k σ H Q h)⟩
theorem PA.imp {X : Cx} {e : List Expr} {t t' : TA} (p : PA X e t) (k : ∀ σ H Q, t' σ H Q → t σ H Q) : PA X e t' := ⟨fun pos pins s σ H Q I h => p.run pos pins s σ H Q I (k σ H Q h)⟩
theorem PS.imp {X : Cx} {e : Stmt} {t t' : TS} (p : PS X e t) (k : ∀ D σ H, t' D σ H → t D σ H) : PS X e t' := ⟨fun pins s σ H D I h => p.run pins s σ H D I (k D σ H h)⟩
theorem PSs.imp {X : Cx} {e : List Stmt} {t t' : TS} (p : PSs X e t) (k : ∀ D σ H, t' D σ H → t D σ H) : PSs X e t' := ⟨fun pins s σ H D I h => p.run pins s σ H D I (k D σ H h)⟩
end DM
set_option Elab.async false
set_option linter.all false
set_option maxRecDepth 100000
set_option maxHeartbeats 1000000
/-! Machine D: the rules of expressions, arguments, tests. -/
namespace DM
open PySem PySem.Spec PyProof.Rows L2
section
variable {X : Cx} {T : Tx} {W : WX} {e a b c : Expr} {es rest : List Expr} {m ma mb mc : EM} {t u : TM} {am : AM} {pos : Pos}

/-- what a sub-reading gives: the reading of what comes behind it -/
theorem Fin.step {T : Tx} {W : WX} {ρ Z : List Addr} {H : Hp} {s : SD} {h : HD} {σ : SV} {γ δ : Type} {R2 : List Addr → HD → Hp → γ → δ → Prop} {f : D → HD → Res γ} {Q : δ → Hp → Prop} {Q' : VK}
    (l : Rl T ρ Z h H) (er : EnvR T ρ Z H s σ) (k : Fin T W Z R2 ρ H σ ((m s h).bind f) Q)
    (n : ∀ ρ1 d h1 v H1, Gr ρ H ρ1 H1 → Rl T ρ1 Z h1 H1 → EnvR T ρ1 Z H1 s σ → Rep T ρ1 Z H1 d v → Fin T W Z R2 ρ1 H1 σ (f d h1) Q → Q' v H1) : rdE T W m σ H Q' :=
  ⟨ρ, Z, s, h, l, er, (Fin.bind (R := RV T Z) k).imp fun v H1 ⟨ρ1, d, h1, g, l1, r1, k1⟩ => n ρ1 d h1 v H1 g l1 (er.mono g) r1 k1⟩
theorem Fin.stepT {T : Tx} {W : WX} {ρ Z : List Addr} {H : Hp} {s : SD} {h : HD} {σ : SV} {γ δ : Type} {R2 : List Addr → HD → Hp → γ → δ → Prop} {f : Bool → HD → Res γ} {Q : δ → Hp → Prop} {Q' : Bool → Hp → Prop}
    (l : Rl T ρ Z h H) (er : EnvR T ρ Z H s σ) (k : Fin T W Z R2 ρ H σ ((t s h).bind f) Q)
    (n : ∀ ρ1 d h1 H1, Gr ρ H ρ1 H1 → Rl T ρ1 Z h1 H1 → EnvR T ρ1 Z H1 s σ → Fin T W Z R2 ρ1 H1 σ (f d h1) Q → Q' d H1) : rdT T W t σ H Q' :=
  ⟨ρ, Z, s, h, l, er, (Fin.bind (R := RB) k).imp fun v H1 ⟨ρ1, d, h1, g, l1, r1, k1⟩ => by cases r1; exact n ρ1 _ h1 H1 g l1 (er.mono g) k1⟩
theorem Fin.stepA {T : Tx} {W : WX} {ρ Z : List Addr} {H : Hp} {s : SD} {h : HD} {σ : SV} {γ δ : Type} {R2 : List Addr → HD → Hp → γ → δ → Prop} {f : List D → HD → Res γ} {Q : δ → Hp → Prop} {Q' : List V → Hp → Prop}
    (l : Rl T ρ Z h H) (er : EnvR T ρ Z H s σ) (k : Fin T W Z R2 ρ H σ ((am s h).bind f) Q)
    (n : ∀ ρ1 d h1 v H1, Gr ρ H ρ1 H1 → Rl T ρ1 Z h1 H1 → EnvR T ρ1 Z H1 s σ → RepL T ρ1 Z H1 d v → Fin T W Z R2 ρ1 H1 σ (f d h1) Q → Q' v H1) : rdA T W am σ H Q' :=
  ⟨ρ, Z, s, h, l, er, (Fin.bind (R := RA T Z) k).imp fun v H1 ⟨ρ1, d, h1, g, l1, r1, k1⟩ => n ρ1 d h1 v H1 g l1 (er.mono g) r1 k1⟩
theorem Fin.res {T : Tx} {W : WX} {ρ Z : List Addr} {H : Hp} {h : HD} {σ : SV} {α β : Type} {R : List Addr → HD → Hp → α → β → Prop} {o : Option α} {Q : β → Hp → Prop} (k : Fin T W Z R ρ H σ (Res.of o h) Q) : ∃ a, o = some a ∧ Fin T W Z R ρ H σ (.ok a h) Q := by
  cases o with
  | none => exact False.elim k
  | some a => exact ⟨a, rfl, k⟩

/-! ### names, constants -/
theorem x_var {i : Nat} {x : Str} (hN : X.N[i]? = some x) (hv : Vis X.env.scope x) (hd : (x == ("__debug__" : Str)) = false := by decide) (hcd : (x == ("__classdict__" : Str)) = false := by decide) : PE X (.Name x pos) (rdE T W (eVar i)) := by
  refine PE.imp (pe_var hN hv hd hcd) fun σ H Q ⟨ρ, Z, s, h, l, er, k⟩ => ?_
  unfold eVar at k
  split at k
  · rename_i d e
    obtain ⟨v, e1, r⟩ := er.at_ i d e
    unfold RepX at r
    split at k
    · exact k.elim
    · rename_i hx
      rw [if_neg hx] at r
      exact ⟨v, e1, k.here l r⟩
  · exact k.elim
theorem x_const {e : Expr} {v : V} {d : D} (p : PE X e (tC v)) (r : ∀ ρ Z H, Rep T ρ Z H d v) : PE X e (rdE T W (eC d)) :=
  PE.imp p fun σ H Q ⟨ρ, Z, s, h, l, er, k⟩ => k.here l (r ρ Z H)
theorem x_int {i : Int} {j : Nat} : PE X (.Constant (.int i) j pos) (rdE T W (eC (.int i))) := x_const pe_int fun _ _ _ => by rw [Rep]
theorem x_bl {i : Bool} {j : Nat} : PE X (.Constant (.bool i) j pos) (rdE T W (eC (.bl i))) := x_const pe_bl fun _ _ _ => by rw [Rep]
theorem x_non {j : Nat} : PE X (.Constant .none j pos) (rdE T W (eC .non)) := x_const pe_non fun _ _ _ => by rw [Rep]
theorem x_str {i : Str} {j : Nat} : PE X (.Constant (.str i) j pos) (rdE T W (eC (.str i))) := x_const pe_str fun _ _ _ => by rw [Rep]
/-- a module's constant -/
theorem x_glob {x : Str} {u : Value} {v : V} {d : D} (hg : Gl X x) (hm : X.mg x = some u) (r : RelV v u) (rd : ∀ ρ Z H, Rep T ρ Z H d v) (hd : (x == ("__debug__" : Str)) = false := by decide) : PE X (.Name x pos) (rdE T W (eC d)) := x_const (pe_glob hg hm r hd) rd

/-! ### arguments, displays -/
theorem xa_nil : PA X [] (rdA T W aNil) := PA.imp pa_nil fun σ H Q ⟨ρ, Z, s, h, l, er, k⟩ => k.here l RepL.nil
theorem xa_cons (ha : PE X e (rdE T W m)) (hr : PA X es (rdA T W am)) (hs : starEach (e :: es) X.env = (false, eval e X.env) :: starEach es X.env := by rfl) : PA X (e :: es) (rdA T W (aCons m am)) := by
  refine PA.imp (pa_cons ha hr hs) fun σ H Q ⟨ρ, Z, s, h, l, er, k⟩ => ?_
  refine Fin.step l er k fun ρ1 d h1 v H1 g l1 er1 r1 k1 => ?_
  refine Fin.stepA l1 er1 k1 fun ρ2 ds h2 vs H2 g2 l2 er2 r2 k2 => ?_
  exact k2.here l2 (RepL.cons (Rep.mono g2 _ _ r1) r2)
def AL (a : AM) (n : Nat) : Prop := ∀ s h l h', a s h = .ok l h' → l.length = n
theorem al_nil : AL aNil 0 := fun s h l h' e => by cases e; rfl
theorem al_cons {n : Nat} (q : AL am n) : AL (aCons m am) (n + 1) := fun s h l h' e => by
  unfold aCons at e
  cases e1 : m s h with
  | ok d h1 =>
    rw [e1] at e
    cases e2 : am s h1 with
    | ok ds h2 =>
      simp only [Res.bind, e2] at e
      cases e
      simp [q _ _ _ _ e2]
    | exc x h2 => simp only [Res.bind, e2] at e; cases e
    | bad => simp only [Res.bind, e2] at e; cases e
  | exc x h1 => rw [e1] at e; cases e
  | bad => rw [e1] at e; cases e
theorem fin_bind_tup {T : Tx} {ρ Z : List Addr} {H : Hp} {s : SD} {h : HD} {σ : SV} {Q : VK} {n : Nat} (al : AL am n) (hn : n ≤ 1000) (l : Rl T ρ Z h H) (er : EnvR T ρ Z H s σ)
    (k : Fin T W Z (RV T Z) ρ H σ (eTup am s h) Q) : rdA T W am σ H fun xs H1 => xs.length ≤ sizeLine ∧ ∀ p, H1 p = none → Q (.ref p) (upd H1 p (.tup xs)) := by
  unfold eTup at k
  have hL : LIM = 16777216 := rfl
  cases e : am s h with
  | ok ds h1 =>
    rw [e] at k
    have hl := al _ _ _ _ e
    refine ⟨ρ, Z, s, h, l, er, ?_⟩
    rw [e]
    intro ρ1 H1 vs g l1 r1
    have r1 : RepL T ρ1 Z H1 ds vs := r1
    have hv := r1.length
    refine ⟨by rw [← hv, hl, sizeLine_eq]; omega, fun p hp => ?_⟩
    refine k ρ1 (upd H1 p (.tup vs)) (.ref p) (g.trans (Gr.laid hp)) (l1.fresh hp).lose ?_
    show Rep T ρ1 Z _ (.tup ds) (.ref p)
    rw [Rep]
    exact ⟨by rw [hl, hL]; omega, p, vs, rfl, upd_same, RepL.mono (Gr.laid hp) _ _ r1⟩
  | exc x h1 =>
    rw [e] at k
    refine ⟨ρ, Z, s, h, l, er, ?_⟩
    rw [e]
    exact k
  | bad =>
    rw [e] at k
    exact k.elim
theorem x_tup {n k : Nat} (ha : PA X es (rdA T W am)) (al : AL am n) (hn : n ≤ 1000 := by decide) : PE X (.Tuple es k pos) (rdE T W (eTup am)) :=
  PE.imp (pe_tup ha) fun σ H Q ⟨ρ, Z, s, h, l, er, k⟩ => fin_bind_tup al hn l er k
/-- a fresh list -/
theorem xf_disp {n : Nat} (ha : PA X es (rdA T W am)) (al : AL am n) (hn : n ≤ 1000 := by decide) : PE X (.List es pos) (rdF T W (lDisp am)) := by
  refine PE.imp (pe_lst ha) fun σ H Q ⟨ρ, Z, s, h, l, er, k⟩ => ?_
  have hL : LIM = 16777216 := rfl
  refine ⟨ρ, Z, s, h, l, er, ?_⟩
  unfold lDisp at k
  cases e : am s h with
  | ok ds h1 =>
    rw [e] at k
    have hl := al _ _ _ _ e
    intro ρ1 H1 vs g l1 r1
    have r1 : RepL T ρ1 Z H1 ds vs := r1
    have hv := r1.length
    refine ⟨by rw [← hv, hl, sizeLine_eq]; omega, fun p hp => ?_⟩
    refine k ρ1 (upd H1 p (.lst vs)) (.ref p) (g.trans (Gr.laid hp)) (l1.fresh hp).lose ?_
    exact ⟨by rw [hl, hL]; omega, p, vs, rfl, (l1.outZ hp).1, (l1.outZ hp).2, l1.back g hp, upd_same, l1.fresh hp, RepL.fresh hp _ _ r1⟩
  | exc x h1 =>
    rw [e] at k
    exact k
  | bad =>
    rw [e] at k
    exact k.elim
theorem x_fz (p : PE X e (rdF T W am)) : PE X e (rdE T W (eFz am)) := by
  refine PE.imp p fun σ H Q ⟨ρ, Z, s, h, l, er, k⟩ => ⟨ρ, Z, s, h, l, er, ?_⟩
  unfold eFz at k
  cases e : am s h with
  | ok ds h1 =>
    rw [e] at k
    intro ρ1 H1 v g l1 ⟨z, a, xs, ev, n, nz, h0, ha, l2, r⟩
    refine k ρ1 H1 v g l1 ?_
    show Rep T ρ1 Z H1 (.fl ds) v
    rw [Rep]
    exact ⟨z, a, xs, ev, n, nz, ha, RepL.shift (fun _ _ q => q) (fun b o _ _ m n => ⟨m, fun z => n (List.mem_cons_of_mem _ z)⟩) _ _ r⟩
  | exc x h1 => rw [e] at k; exact k
  | bad => rw [e] at k; exact k.elim
theorem x_bx (p : PE X e (rdF T W am)) : PE X e (rdE T W (eBx am)) := by
  refine PE.imp p fun σ H Q ⟨ρ, Z, s, h, l, er, k⟩ => ⟨ρ, Z, s, h, l, er, ?_⟩
  unfold eBx at k
  cases e : am s h with
  | ok ds h1 =>
    rw [e] at k
    intro ρ1 H1 v g l1 ⟨z, a, xs, ev, n, nz, h0, ha, l2, r⟩
    refine k (ρ1 ++ [a]) H1 v (g.box h0) (l2.box n nz ⟨z, xs, ha, r⟩) ?_
    show Rep T (ρ1 ++ [a]) Z H1 (.ref h1.length) v
    rw [Rep]
    exact ⟨a, by rw [← l1.len]; simp, ev⟩
  | exc x h1 => rw [e] at k; exact k
  | bad => rw [e] at k; exact k.elim

/-! ### operations by values -/
def rF (T : Tx) (f : HD → D → D → Option D) : R2 := fun u v H Q => ∃ ρ Z h x y d, Rl T ρ Z h H ∧ Rep T ρ Z H x u ∧ Rep T ρ Z H y v ∧ f h x y = some d ∧ ∀ ρ' H' w, Gr ρ H ρ' H' → Rl T ρ' Z h H' → Rep T ρ' Z H' d w → Q w H'
def rB (T : Tx) (f : HD → D → D → Option Bool) : R2 := fun u v H Q => ∃ ρ Z h x y d, Rl T ρ Z h H ∧ Rep T ρ Z H x u ∧ Rep T ρ Z H y v ∧ f h x y = some d ∧ Q (.bl d) H
def rU1 (T : Tx) (f : HD → D → Option D) : V → Hp → VK → Prop := fun u H Q => ∃ ρ Z h x d, Rl T ρ Z h H ∧ Rep T ρ Z H x u ∧ f h x = some d ∧ ∀ ρ' H' w, Gr ρ H ρ' H' → Rl T ρ' Z h H' → Rep T ρ' Z H' d w → Q w H'
theorem bin_read {f : HD → D → D → Option D} {σ : SV} {H : Hp} {Q : VK} (k : rdE T W (eBin f ma mb) σ H Q) : tOp (rF T f) (rdE T W ma) (rdE T W mb) σ H Q := by
  obtain ⟨ρ, Z, s, h, l, er, k⟩ := k
  refine Fin.step l er k fun ρ1 d h1 v H1 g l1 er1 r1 k1 => ?_
  refine Fin.step l1 er1 k1 fun ρ2 d2 h2 v2 H2 g2 l2 er2 r2 k2 => ?_
  obtain ⟨w, e, k3⟩ := k2.res
  exact ⟨ρ2, Z, h2, d, d2, w, l2, Rep.mono g2 _ _ r1, r2, e, fun ρ' H' z g' l' r' => k3 ρ' H' z g' l' r'⟩
theorem x_bin {op : Operator} {f : HD → D → D → Option D} (ho : OpR X (binaryOp op) (rF T f)) (ha : PE X a (rdE T W ma)) (hb : PE X b (rdE T W mb)) : PE X (.BinOp a op b pos) (rdE T W (eBin f ma mb)) :=
  PE.imp (pe_op ho ha hb) fun σ H Q k => bin_read k
theorem cmp_read {f : HD → D → D → Option Bool} {σ : SV} {H : Hp} {Q : VK} (k : rdE T W (eT (tBin f ma mb)) σ H Q) : tOp (rB T f) (rdE T W ma) (rdE T W mb) σ H Q := by
  obtain ⟨ρ, Z, s, h, l, er, k⟩ := k
  have k : Fin T W Z (RV T Z) ρ H σ (((ma s h).bind fun x h1 => (mb s h1).bind fun y h2 => Res.of (f h2 x y) h2).bind fun b h1 => .ok (.bl b) h1) Q := k
  have ass : ∀ {α β γ : Type} (r : Res α) (f : α → HD → Res β) (g : β → HD → Res γ), (r.bind f).bind g = r.bind fun a h => (f a h).bind g := fun r f g => by cases r <;> rfl
  rw [ass] at k
  refine Fin.step l er k fun ρ1 d h1 v H1 g l1 er1 r1 k1 => ?_
  rw [ass] at k1
  refine Fin.step l1 er1 k1 fun ρ2 d2 h2 v2 H2 g2 l2 er2 r2 k2 => ?_
  cases e : f h2 d d2 with
  | none => rw [e] at k2; exact k2.elim
  | some w =>
    rw [e] at k2
    exact ⟨ρ2, Z, h2, d, d2, w, l2, Rep.mono g2 _ _ r1, r2, e, k2 ρ2 H2 (.bl w) Gr.refl l2 (by show Rep T ρ2 Z H2 (.bl w) (.bl w); rw [Rep])⟩
theorem x_vcmp {op : CmpOp} {f : HD → D → D → Option Bool} (ho : OpR X (compareOp op) (rB T f)) (ha : PE X a (rdE T W ma)) (hb : PE X b (rdE T W mb)) (hm : behindInMarks op b = false) : PE X (.Compare a [op] [b] pos) (rdE T W (eT (tBin f ma mb))) :=
  PE.imp (pe_cmpR ho ha hb hm) fun σ H Q k => cmp_read k
theorem t_read {σ : SV} {H : Hp} {Q : Bool → Hp → Prop} (k : rdT T W t σ H Q) : rdE T W (eT t) σ H fun x H1 => ∃ c, x = .bl c ∧ Q c H1 := by
  obtain ⟨ρ, Z, s, h, l, er, k⟩ := k
  refine ⟨ρ, Z, s, h, l, er, ?_⟩
  unfold eT
  cases e : t s h with
  | ok b h1 =>
    rw [e] at k
    intro ρ1 H1 v g l1 r
    have r : Rep T ρ1 Z H1 (.bl b) v := r
    rw [Rep] at r
    exact ⟨b, r, k ρ1 H1 b g l1 rfl⟩
  | exc x h1 => rw [e] at k; exact k
  | bad => rw [e] at k; exact k.elim
theorem x_tcmp {op : CmpOp} {f : HD → D → D → Option Bool} (ho : OpR X (compareOp op) (rB T f)) (ha : PE X a (rdE T W ma)) (hb : PE X b (rdE T W mb)) (hm : behindInMarks op b = false) : PT X (.Compare a [op] [b] pos) (rdT T W (tBin f ma mb)) :=
  PT.imp (pt_cmpR ho ha hb hm) fun σ H Q k => by
    obtain ⟨ρ, Z, s, h, l, er, k⟩ := cmp_read (t_read k)
    exact ⟨ρ, Z, s, h, l, er, k⟩
/-- a value as a flag -/
theorem x_asT (p : PE X e (rdE T W m)) : PE X e (rdE T W (eT (tE m))) := by
  refine PE.imp p fun σ H Q ⟨ρ, Z, s, h, l, er, k⟩ => ⟨ρ, Z, s, h, l, er, ?_⟩
  unfold eT tE at k
  cases e : m s h with
  | ok d h1 =>
    rw [e] at k
    cases d with
    | bl b => exact k
    | _ => exact k.elim
  | exc x h1 => rw [e] at k; exact k
  | bad => rw [e] at k; exact k.elim
theorem x_pt (p : PE X e (rdE T W (eT t))) (he : ∀ whole, isTrue e X.env whole = (do let v ← whole; standAt e.pos; holding [v] (truthy v)) := by intro _; rfl) : PT X e (rdT T W t) :=
  PT.imp (pt_val p he) fun σ H Q k => t_read k
theorem ass {α β γ : Type} (r : Res α) (f : α → HD → Res β) (g : β → HD → Res γ) : (r.bind f).bind g = r.bind fun a h => (f a h).bind g := by cases r <;> rfl
theorem x_tnot (p : PT X a (rdT T W t)) : PT X (.UnaryOp .Not a pos) (rdT T W (tNot t)) :=
  PT.imp (pt_not p) fun σ H Q ⟨ρ, Z, s, h, l, er, k⟩ => Fin.stepT l er k fun ρ1 d h1 H1 g l1 er1 k1 => k1 ρ1 H1 (!d) Gr.refl l1 rfl
theorem x_wand1 (p : PT X a (rdT T W t)) : PW X (.BoolOp .And [a] pos) (rdT T W t) := pw_and1 p
theorem x_wor1 (p : PT X a (rdT T W t)) : PW X (.BoolOp .Or [a] pos) (rdT T W t) := pw_or1 p
theorem x_wand (p : PT X a (rdT T W t)) (q : PW X (.BoolOp .And (b :: rest) pos) (rdT T W u)) : PW X (.BoolOp .And (a :: b :: rest) pos) (rdT T W (tAnd t u)) :=
  PW.imp (pw_and p q) fun σ H Q ⟨ρ, Z, s, h, l, er, k⟩ => Fin.stepT l er k fun ρ1 d h1 H1 g l1 er1 k1 => by
    cases d with
    | true => exact ⟨ρ1, Z, s, h1, l1, er1, k1⟩
    | false => exact k1 ρ1 H1 false Gr.refl l1 rfl
theorem x_wor (p : PT X a (rdT T W t)) (q : PW X (.BoolOp .Or (b :: rest) pos) (rdT T W u)) : PW X (.BoolOp .Or (a :: b :: rest) pos) (rdT T W (tOr t u)) :=
  PW.imp (pw_or p q) fun σ H Q ⟨ρ, Z, s, h, l, er, k⟩ => Fin.stepT l er k fun ρ1 d h1 H1 g l1 er1 k1 => by
    cases d with
    | true => exact k1 ρ1 H1 true Gr.refl l1 rfl
    | false => exact ⟨ρ1, Z, s, h1, l1, er1, k1⟩
/-- the same as values: all are flags -/
theorem vt_read {σ : SV} {H : Hp} {Q : VK} {t : TM} (k : rdE T W (eT t) σ H Q) : rdT T W t σ H fun b H1 => Q (.bl b) H1 := by
  obtain ⟨ρ, Z, s, h, l, er, k⟩ := k
  refine ⟨ρ, Z, s, h, l, er, ?_⟩
  unfold eT at k
  cases e : t s h with
  | ok b h1 =>
    rw [e] at k
    intro ρ1 H1 v g l1 r
    cases r
    exact k ρ1 H1 (.bl b) g l1 (by show Rep T ρ1 Z H1 (.bl b) (.bl b); rw [Rep])
  | exc x h1 => rw [e] at k; exact k
  | bad => rw [e] at k; exact k.elim
theorem x_vone (p : PE X a (rdE T W (eT t))) {op : BoolOp} : PE X (.BoolOp op [a] pos) (rdE T W (eT t)) := pe_one p
theorem x_vand (p : PE X a (rdE T W (eT t))) (q : PE X (.BoolOp .And (b :: rest) pos) (rdE T W (eT u))) : PE X (.BoolOp .And (a :: b :: rest) pos) (rdE T W (eT (tAnd t u))) :=
  PE.imp (pe_and p q) fun σ H Q k => by
    obtain ⟨ρ, Z, s, h, l, er, k⟩ := k
    have k : Fin T W Z (RV T Z) ρ H σ ((tAnd t u s h).bind fun b h1 => .ok (.bl b) h1) Q := k
    unfold tAnd at k
    rw [ass] at k
    exact t_read (Fin.stepT l er k fun ρ1 d h1 H1 g l1 er1 k1 => by
      cases d with
      | true => exact ⟨ρ1, Z, s, h1, l1, er1, k1⟩
      | false => exact k1 ρ1 H1 (.bl false) Gr.refl l1 (by show Rep T ρ1 Z H1 (.bl false) (.bl false); rw [Rep]))
theorem x_vor (p : PE X a (rdE T W (eT t))) (q : PE X (.BoolOp .Or (b :: rest) pos) (rdE T W (eT u))) : PE X (.BoolOp .Or (a :: b :: rest) pos) (rdE T W (eT (tOr t u))) :=
  PE.imp (pe_or p q) fun σ H Q k => by
    obtain ⟨ρ, Z, s, h, l, er, k⟩ := k
    have k : Fin T W Z (RV T Z) ρ H σ ((tOr t u s h).bind fun b h1 => .ok (.bl b) h1) Q := k
    unfold tOr at k
    rw [ass] at k
    exact t_read (Fin.stepT l er k fun ρ1 d h1 H1 g l1 er1 k1 => by
      cases d with
      | true => exact k1 ρ1 H1 (.bl true) Gr.refl l1 (by show Rep T ρ1 Z H1 (.bl true) (.bl true); rw [Rep])
      | false => exact ⟨ρ1, Z, s, h1, l1, er1, k1⟩)
theorem x_vnot (p : PE X a (rdE T W (eT t))) : PE X (.UnaryOp .Not a pos) (rdE T W (eT (tNot t))) :=
  PE.imp (pe_not p) fun σ H Q k => by
    obtain ⟨ρ, Z, s, h, l, er, k⟩ := k
    have k : Fin T W Z (RV T Z) ρ H σ ((tNot t s h).bind fun b h1 => .ok (.bl b) h1) Q := k
    unfold tNot at k
    rw [ass] at k
    exact t_read (Fin.stepT l er k fun ρ1 d h1 H1 g l1 er1 k1 => k1 ρ1 H1 (.bl (!d)) Gr.refl l1 (by show Rep T ρ1 Z H1 (.bl (!d)) (.bl (!d)); rw [Rep]))
theorem x_if (p : PT X c (rdT T W t)) (ha : PE X a (rdE T W ma)) (hb : PE X b (rdE T W mb)) : PE X (.IfExp c a b pos) (rdE T W (eIf t ma mb)) :=
  PE.imp (pe_ifExp p ha hb) fun σ H Q ⟨ρ, Z, s, h, l, er, k⟩ => Fin.stepT l er k fun ρ1 d h1 H1 g l1 er1 k1 => by
    cases d with
    | true => exact ⟨ρ1, Z, s, h1, l1, er1, k1⟩
    | false => exact ⟨ρ1, Z, s, h1, l1, er1, k1⟩
theorem isN_rep {ρ Z : List Addr} {H : Hp} : ∀ (d : D) (v : V), Rep T ρ Z H d v → decide (v = .non) = isN d
  | .non, _, r => by rw [Rep] at r; subst r; rfl
  | .bl _, _, r => by rw [Rep] at r; subst r; rfl
  | .int _, _, r => by rw [Rep] at r; subst r; rfl
  | .str _, _, r => by rw [Rep] at r; subst r; rfl
  | .tup _, _, r => by rw [Rep] at r; obtain ⟨_, a, _, e, _⟩ := r; subst e; rfl
  | .fl _, _, r => by rw [Rep] at r; obtain ⟨_, a, _, e, _⟩ := r; subst e; rfl
  | .sc _, _, r => by rw [Rep] at r; obtain ⟨_, a, _, e, _⟩ := r; subst e; rfl
  | .fo _ _, _, r => by rw [Rep] at r; obtain ⟨_, a, _, _, e, _⟩ := r; subst e; rfl
  | .fdk _ _, _, r => by rw [Rep] at r; obtain ⟨_, a, _, e, _⟩ := r; subst e; rfl
  | .fdt _ _, _, r => by rw [Rep] at r; obtain ⟨_, a, _, e, _⟩ := r; subst e; rfl
  | .ref _, _, r => by rw [Rep] at r; obtain ⟨a, _, e⟩ := r; subst e; rfl
theorem isN_read {σ : SV} {H : Hp} {Q : VK} (k : rdE T W (eT (tIsN ma)) σ H Q) : L2.tIsN (rdE T W ma) σ H Q := by
  obtain ⟨ρ, Z, s, h, l, er, k⟩ := k
  have k : Fin T W Z (RV T Z) ρ H σ ((DM.tIsN ma s h).bind fun b h1 => .ok (.bl b) h1) Q := k
  unfold DM.tIsN at k
  rw [ass] at k
  refine Fin.step l er k fun ρ1 d h1 v H1 g l1 er1 r1 k1 => ?_
  rw [isN_rep d v r1]
  exact k1 ρ1 H1 (.bl (isN d)) Gr.refl l1 (by show Rep T ρ1 Z H1 (.bl (isN d)) (.bl (isN d)); rw [Rep])
theorem notN_read {σ : SV} {H : Hp} {Q : VK} (k : rdE T W (eT (tNotN ma)) σ H Q) : L2.tNotN (rdE T W ma) σ H Q := by
  obtain ⟨ρ, Z, s, h, l, er, k⟩ := k
  have k : Fin T W Z (RV T Z) ρ H σ ((DM.tNotN ma s h).bind fun b h1 => .ok (.bl b) h1) Q := k
  unfold DM.tNotN at k
  rw [ass] at k
  refine Fin.step l er k fun ρ1 d h1 v H1 g l1 er1 r1 k1 => ?_
  rw [isN_rep d v r1]
  exact k1 ρ1 H1 (.bl (!isN d)) Gr.refl l1 (by show Rep T ρ1 Z H1 (.bl (!isN d)) (.bl (!isN d)); rw [Rep])
theorem x_visN {j : Nat} {pos' : Pos} (ha : PE X a (rdE T W ma)) : PE X (.Compare a [.Is] [.Constant .none j pos'] pos) (rdE T W (eT (DM.tIsN ma))) := PE.imp (pe_cmp (pc_isN ha)) fun σ H Q k => isN_read k
theorem x_vnotN {j : Nat} {pos' : Pos} (ha : PE X a (rdE T W ma)) : PE X (.Compare a [.IsNot] [.Constant .none j pos'] pos) (rdE T W (eT (DM.tNotN ma))) := PE.imp (pe_cmp (pc_notN ha)) fun σ H Q k => notN_read k
theorem x_tisN {j : Nat} {pos' : Pos} (ha : PE X a (rdE T W ma)) : PT X (.Compare a [.Is] [.Constant .none j pos'] pos) (rdT T W (DM.tIsN ma)) := PT.imp (pt_cmp (pc_isN ha)) fun σ H Q k => isN_read (t_read k)
theorem x_tnotN {j : Nat} {pos' : Pos} (ha : PE X a (rdE T W ma)) : PT X (.Compare a [.IsNot] [.Constant .none j pos'] pos) (rdT T W (DM.tNotN ma)) := PT.imp (pt_cmp (pc_notN ha)) fun σ H Q k => notN_read (t_read k)
/-- a op1 b op2 c -/
theorem chain_read {f g : HD → D → D → Option Bool} {σ : SV} {H : Hp} {Q : VK} (k : rdE T W (eT (DM.tChain f g ma mb mc)) σ H Q) : L2.tChain (rB T f) (rB T g) (rdE T W ma) (rdE T W mb) (rdE T W mc) σ H Q := by
  obtain ⟨ρ, Z, s, h, l, er, k⟩ := k
  have k : Fin T W Z (RV T Z) ρ H σ ((DM.tChain f g ma mb mc s h).bind fun b h1 => .ok (.bl b) h1) Q := k
  unfold DM.tChain at k
  rw [ass] at k
  refine Fin.step l er k fun ρ1 d h1 v H1 g1 l1 er1 r1 k1 => ?_
  rw [ass] at k1
  refine Fin.step l1 er1 k1 fun ρ2 d2 h2 v2 H2 g2 l2 er2 r2 k2 => ?_
  cases e : f h2 d d2 with
  | none => rw [e] at k2; exact k2.elim
  | some w =>
    rw [e] at k2
    refine ⟨ρ2, Z, h2, d, d2, w, l2, Rep.mono g2 _ _ r1, r2, e, w, rfl, ?_⟩
    cases w with
    | false => exact k2 ρ2 H2 (.bl false) Gr.refl l2 (by show Rep T ρ2 Z H2 (.bl false) (.bl false); rw [Rep])
    | true =>
      have k2 : Fin T W Z (RV T Z) ρ2 H2 σ (((mc s h2).bind fun z h4 => Res.of (g h4 d2 z) h4).bind fun b h1 => .ok (.bl b) h1) Q := k2
      rw [ass] at k2
      refine Fin.step l2 er2 k2 fun ρ3 d3 h3 v3 H3 g3 l3 er3 r3 k3 => ?_
      cases e3 : g h3 d2 d3 with
      | none => rw [e3] at k3; exact k3.elim
      | some w3 =>
        rw [e3] at k3
        exact ⟨ρ3, Z, h3, d2, d3, w3, l3, Rep.mono g3 _ _ r2, r3, e3, k3 ρ3 H3 (.bl w3) Gr.refl l3 (by show Rep T ρ3 Z H3 (.bl w3) (.bl w3); rw [Rep])⟩
theorem x_vchain {op op' : CmpOp} {f g : HD → D → D → Option Bool} (ho : OpR X (compareOp op) (rB T f)) (ho' : OpR X (compareOp op') (rB T g)) (ha : PE X a (rdE T W ma)) (hb : PE X b (rdE T W mb)) (hc : PE X c (rdE T W mc))
    (hm : lastMarks [op, op'] [b, c] = false := by with_unfolding_all rfl) : PE X (.Compare a [op, op'] [b, c] pos) (rdE T W (eT (DM.tChain f g ma mb mc))) := PE.imp (pe_chain ho ho' ha hb hc hm) fun σ H Q k => chain_read k
theorem x_tchain {op op' : CmpOp} {f g : HD → D → D → Option Bool} (ho : OpR X (compareOp op) (rB T f)) (ho' : OpR X (compareOp op') (rB T g)) (ha : PE X a (rdE T W ma)) (hb : PE X b (rdE T W mb)) (hc : PE X c (rdE T W mc))
    (hm : lastMarks [op, op'] [b, c] = false := by with_unfolding_all rfl) : PT X (.Compare a [op, op'] [b, c] pos) (rdT T W (DM.tChain f g ma mb mc)) := PT.imp (pt_chain ho ho' ha hb hc hm) fun σ H Q k => by
    have := chain_read (t_read k)
    exact this
/-- a built-in of one argument, by its rule on values -/
theorem un_read {f : HD → D → Option D} {σ : SV} {H : Hp} {Q : VK} (k : rdE T W (eUn f ma) σ H Q) : rdE T W ma σ H fun u H1 => rU1 T f u H1 Q := by
  obtain ⟨ρ, Z, s, h, l, er, k⟩ := k
  refine Fin.step l er k fun ρ1 d h1 v H1 g l1 er1 r1 k1 => ?_
  obtain ⟨w, e, k3⟩ := k1.res
  exact ⟨ρ1, Z, h1, d, w, l1, r1, e, fun ρ' H' z g' l' r' => k3 ρ' H' z g' l' r'⟩
theorem x_un {op : UnaryOp} {f : HD → D → Option D} (ho : UnR X (unaryOp op) (rU1 T f)) (ha : PE X a (rdE T W ma)) : PE X (.UnaryOp op a pos) (rdE T W (eUn f ma)) := PE.imp (pe_un ho ha) fun σ H Q k => un_read k
def rC1 (T : Tx) (f : HD → D → Option D) : List V → Hp → VK → Prop := fun us H Q => ∃ u, us = [u] ∧ rU1 T f u H Q
def rC2 (T : Tx) (f : HD → D → D → Option D) : List V → Hp → VK → Prop := fun us H Q => ∃ u v, us = [u, v] ∧ rF T f u v H Q
theorem x_callB1 {x : Str} {p : Pos} {id : String} {f : HD → D → Option D} (hc : CallR X (.builtin id) (rC1 T f)) (hg : Gl X x) (hm : X.mg x = none) (hv : bootBuiltins x = some (.builtin id)) (ha : PE X a (rdE T W ma)) (hn : x ≠ "__name__" := by decide) (hdb : (x == ("__debug__" : Str)) = false := by decide)
    (he : starEach [a] X.env = (false, eval a X.env) :: starEach [] X.env := by rfl) (hpl : (backTo pos (starEach [] X.env)).any (·.1) = false := by rfl) : PE X (.Call (.Name x p) [a] [] pos) (rdE T W (eUn f ma)) :=
  PE.imp (pe_callB hc hg hm hv (pa_cons ha pa_nil he) hn hdb he hpl) fun σ H Q k => by
    obtain ⟨ρ, Z, s, h, l, er, k⟩ := un_read k
    exact ⟨ρ, Z, s, h, l, er, k.imp fun v H1 q => ⟨v, rfl, q⟩⟩
theorem x_callT1 {x : Str} {p : Pos} {id : String} {f : HD → D → Option D} (hc : CallR X (.type id) (rC1 T f)) (hg : Gl X x) (hm : X.mg x = none) (hv : bootBuiltins x = some (.type id)) (ha : PE X a (rdE T W ma)) (hn : x ≠ "__name__" := by decide) (hdb : (x == ("__debug__" : Str)) = false := by decide)
    (he : starEach [a] X.env = (false, eval a X.env) :: starEach [] X.env := by rfl) (hpl : (backTo pos (starEach [] X.env)).any (·.1) = false := by rfl) : PE X (.Call (.Name x p) [a] [] pos) (rdE T W (eUn f ma)) :=
  PE.imp (pe_callTy hc hg hm hv (pa_cons ha pa_nil he) hn hdb he hpl) fun σ H Q k => by
    obtain ⟨ρ, Z, s, h, l, er, k⟩ := un_read k
    exact ⟨ρ, Z, s, h, l, er, k.imp fun v H1 q => ⟨v, rfl, q⟩⟩
theorem x_callB2 {x : Str} {p : Pos} {id : String} {f : HD → D → D → Option D} (hc : CallR X (.builtin id) (rC2 T f)) (hg : Gl X x) (hm : X.mg x = none) (hv : bootBuiltins x = some (.builtin id)) (ha : PE X a (rdE T W ma)) (hb : PE X b (rdE T W mb)) (hn : x ≠ "__name__" := by decide) (hdb : (x == ("__debug__" : Str)) = false := by decide)
    (he : starEach [a, b] X.env = (false, eval a X.env) :: starEach [b] X.env := by rfl) (he2 : starEach [b] X.env = (false, eval b X.env) :: starEach [] X.env := by rfl) (hpl : (backTo pos (starEach [b] X.env)).any (·.1) = false := by rfl) : PE X (.Call (.Name x p) [a, b] [] pos) (rdE T W (eBin f ma mb)) :=
  PE.imp (pe_callB hc hg hm hv (pa_cons ha (pa_cons hb pa_nil he2) he) hn hdb he hpl) fun σ H Q k => by
    have := bin_read k
    obtain ⟨ρ, Z, s, h, l, er, k⟩ := this
    refine ⟨ρ, Z, s, h, l, er, k.imp fun v H1 q => ?_⟩
    obtain ⟨ρ, Z, s, h, l, er, k⟩ := q
    exact ⟨ρ, Z, s, h, l, er, k.imp fun w H2 q => ⟨v, w, rfl, q⟩⟩
end
end DM
set_option Elab.async false
set_option linter.all false
set_option maxRecDepth 100000
set_option maxHeartbeats 1000000
/-! Machine D: the operations on values. -/
namespace DM
open PySem PySem.Spec PyProof.Rows L2
section
variable {X : Cx} {T : Tx} {ρ Z : List Addr} {H : Hp} {h : HD}

theorem boxAt_rep (l : Rl T ρ Z h H) {n : Nat} {a : Addr} {xs : List D} (ea : ρ[n]? = some a) (e : boxAt h n = some xs) : h[n]? = some (.lst xs) ∧ xs.length ≤ LIM ∧ ∃ vs, H a = some (.lst vs) ∧ RepL T ρ Z H xs vs := by
  unfold boxAt at e
  split at e
  · rename_i m hm
    cases e
    obtain ⟨z, vs, hv, rl⟩ := l.ob n _ a hm ea
    exact ⟨hm, z, vs, hv, rl⟩
  · cases e
theorem lsts_rep (l : Rl T ρ Z h H) {x : D} {u : V} {xs : List D} (r : Rep T ρ Z H x u) (e : lsts h x = some xs) : xs.length ≤ LIM ∧ ∃ a vs, u = .ref a ∧ H a = some (.lst vs) ∧ RepL T ρ Z H xs vs := by
  cases x with
  | fl m =>
    rw [Rep] at r
    obtain ⟨z, a, vs, eu, _, _, q, rl⟩ := r
    cases e
    exact ⟨z, a, vs, eu, q, rl⟩
  | ref n =>
    rw [Rep] at r
    obtain ⟨a, ea, eu⟩ := r
    obtain ⟨_, z, vs, hv, rl⟩ := boxAt_rep l ea e
    exact ⟨z, a, vs, eu, hv, rl⟩
  | _ => cases e
theorem items_rep (l : Rl T ρ Z h H) {x : D} {u : V} {xs : List D} (r : Rep T ρ Z H x u) (e : items h x = some xs) : xs.length ≤ LIM ∧ ∃ a vs, u = .ref a ∧ (SqL T.K H a vs ∨ SqT T.K H a vs) ∧ RepL T ρ Z H xs vs := by
  have go : ∀ y, Rep T ρ Z H y u → lsts h y = some xs → xs.length ≤ LIM ∧ ∃ a vs, u = .ref a ∧ (SqL T.K H a vs ∨ SqT T.K H a vs) ∧ RepL T ρ Z H xs vs := fun y r e => by
    obtain ⟨z, a, vs, eu, q, rl⟩ := lsts_rep l r e
    exact ⟨z, a, vs, eu, .inl (.inl (.inl q)), rl⟩
  cases x with
  | tup m =>
    rw [Rep] at r
    obtain ⟨z, a, vs, eu, q, rl⟩ := r
    cases e
    exact ⟨z, a, vs, eu, .inr (SqT.of q), rl⟩
  | sc m =>
    rw [Rep] at r
    obtain ⟨z, a, vs, eu, q, rl⟩ := r
    cases e
    exact ⟨z, a, vs, eu, .inl (q.imp (fun q => q.1) id), rl⟩
  | _ => exact go _ r e
theorem look_rep (l : Rl T ρ Z h H) {x : D} {u : V} (r : Rep T ρ Z H x u) : (∃ xs, look h x = .fl xs ∧ xs.length ≤ LIM ∧ ∃ a vs, u = .ref a ∧ H a = some (.lst vs) ∧ RepL T ρ Z H xs vs) ∨ (look h x = x ∧ ∀ xs, look h x ≠ .fl xs) := by
  cases x with
  | fl m => exact .inl ⟨m, rfl, lsts_rep l r rfl⟩
  | ref n =>
    cases e : boxAt h n with
    | some xs =>
      have e1 : look h (.ref n) = .fl xs := by unfold look; simp only [e]
      exact .inl ⟨xs, e1, lsts_rep l r e⟩
    | none =>
      have e1 : look h (.ref n) = .ref n := by unfold look; simp only [e]
      exact .inr ⟨e1, fun xs z => by rw [e1] at z; cases z⟩
  | _ => exact .inr ⟨rfl, fun xs z => by cases z⟩
/-- data -/
theorem toP_dp : (∀ (d : D) (p : PyData) (v : V), toP d = some p → Rep T ρ Z H d v → Dp X.K H v p) := by
  have main : ∀ n : Nat, (∀ (d : D) (p : PyData) (v : V), sizeOf d ≤ n → toP d = some p → Rep T ρ Z H d v → Dp X.K H v p) ∧ (∀ (l : List D) (ps : List PyData) (vs : List V), sizeOf l ≤ n → toPs l = some ps → RepL T ρ Z H l vs → DpAll X.K H vs ps) := by
    intro n
    induction n with
    | zero =>
      refine ⟨fun d p v hs => ?_, fun l ps vs hs => ?_⟩
      · cases d <;> simp at hs
      · cases l <;> simp at hs
    | succ n ih =>
      refine ⟨fun d p v hs e r => ?_, fun l ps vs hs e r => ?_⟩
      · cases d with
        | non => rw [toP] at e; cases e; rw [Rep] at r; subst r; exact .non
        | bl b => rw [toP] at e; cases e; rw [Rep] at r; subst r; exact .bl b
        | int i => rw [toP] at e; cases e; rw [Rep] at r; subst r; exact .int i
        | str x => rw [toP] at e; cases e; rw [Rep] at r; subst r; exact .str x
        | tup l =>
          rw [toP] at e
          rw [Rep] at r
          obtain ⟨_, a, xs, rfl, q, rl⟩ := r
          cases e2 : toPs l with
          | none => rw [e2] at e; cases e
          | some ps =>
            rw [e2] at e; cases e
            exact .tup (SqT.of q) (ih.2 l ps xs (by simp at hs; omega) e2 rl)
        | fl l =>
          rw [toP] at e
          rw [Rep] at r
          obtain ⟨_, a, xs, rfl, _, _, q, rl⟩ := r
          cases e2 : toPs l with
          | none => rw [e2] at e; cases e
          | some ps =>
            rw [e2] at e; cases e
            exact .lst (SqL.of q) (ih.2 l ps xs (by simp at hs; omega) e2 rl)
        | sc l => rw [toP] at e; cases e
        | fo c l => rw [toP] at e; cases e
        | fdk c l => rw [toP] at e; cases e
        | fdt c l => rw [toP] at e; cases e
        | ref c => rw [toP] at e; cases e
        | ex c l => rw [toP] at e; cases e
      · cases l with
        | nil => rw [toPs] at e; cases e; rw [RepL.nil_iff] at r; subst r; exact .nil
        | cons d l =>
          obtain ⟨v, vs, rfl, r1, r2⟩ := RepL.cons_iff.mp r
          rw [toPs] at e
          cases e1 : toP d with
          | none => rw [e1] at e; cases e
          | some p =>
            cases e2 : toPs l with
            | none => rw [e1, e2] at e; cases e
            | some ps =>
              rw [e1, e2] at e; cases e
              simp at hs
              exact .cons (ih.1 d p v (by omega) e1 r1) (ih.2 l ps vs (by omega) e2 r2)
  exact fun d p v => (main (sizeOf d)).1 d p v (Nat.le_refl _)
theorem toPs_dp : ∀ (l : List D) (ps : List PyData) (vs : List V), toPs l = some ps → RepL T ρ Z H l vs → DpAll X.K H vs ps
  | [], _, _, e, r => by rw [toPs] at e; cases e; rw [RepL.nil_iff] at r; subst r; exact .nil
  | d :: l, _, _, e, r => by
    obtain ⟨v, vs, rfl, r1, r2⟩ := RepL.cons_iff.mp r
    rw [toPs] at e
    cases e1 : toP d with
    | none => rw [e1] at e; cases e
    | some p =>
      cases e2 : toPs l with
      | none => rw [e1, e2] at e; cases e
      | some ps =>
        rw [e1, e2] at e; cases e
        exact .cons (toP_dp d p v e1 r1) (toPs_dp l ps vs e2 r2)
theorem look_dp (l : Rl T ρ Z h H) {x : D} {u : V} {p : PyData} (r : Rep T ρ Z H x u) (e : toP (look h x) = some p) : Dp X.K H u p := by
  rcases look_rep l r with ⟨xs, e1, _, a, vs, rfl, q, rl⟩ | ⟨e1, _⟩
  · rw [e1, toP] at e
    cases e2 : toPs xs with
    | none => rw [e2] at e; cases e
    | some ps =>
      rw [e2] at e; cases e
      exact .lst (SqL.of q) (toPs_dp xs ps vs e2 rl)
  · rw [e1] at e
    exact toP_dp x p u e r

/-! ### results -/
theorem rep_int {i : Int} : Rep T ρ Z H (.int i) (.int i) := by rw [Rep]
theorem rep_bl {i : Bool} : Rep T ρ Z H (.bl i) (.bl i) := by rw [Rep]
theorem int_rep {i : Int} {v : V} (r : Rep T ρ Z H (.int i) v) : v = .int i := by rw [Rep] at r; exact r
theorem bl_rep {i : Bool} {v : V} (r : Rep T ρ Z H (.bl i) v) : v = .bl i := by rw [Rep] at r; exact r
theorem str_rep {i : Str} {v : V} (r : Rep T ρ Z H (.str i) v) : v = .str i := by rw [Rep] at r; exact r
theorem ref_rel {a : Addr} {v : Value} (r : RelV (.ref a) v) : v = .ref a := r

/-- two ints -/
theorem op_of_int {g : Value → Value → Sem Value} {C : Int → Int → Prop} {k : Int → Int → Int} {f : HD → D → D → Option D} (ho : OpR X g (rI C fun i j => .int (k i j)))
    (hf : ∀ h x y d, f h x y = some d → ∃ i j, x = .int i ∧ y = .int j ∧ C i j ∧ d = .int (k i j)) : OpR X g (rF T f) := by
  intro pins s σ H x y v u Q I rx ry ⟨ρ, Z, h, a, b, d, l, ra, rb, e, q⟩
  obtain ⟨i, j, rfl, rfl, c, rfl⟩ := hf h a b d e
  cases int_rep ra
  cases int_rep rb
  exact ho pins s σ H _ _ v u Q I rx ry ⟨i, j, rfl, rfl, c, q ρ H _ Gr.refl l rep_int⟩
theorem op_of_int0 {g : Value → Value → Sem Value} {k : Int → Int → Int} {f : HD → D → D → Option D} (ho : OpR X g (rI0 fun i j => .int (k i j)))
    (hf : ∀ h x y d, f h x y = some d → ∃ i j, x = .int i ∧ y = .int j ∧ d = .int (k i j)) : OpR X g (rF T f) :=
  op_of_int (C := fun _ _ => True) (fun pins s σ H x y v u Q I rx ry ⟨i, j, e1, e2, _, q⟩ => ho pins s σ H x y v u Q I rx ry ⟨i, j, e1, e2, q⟩) fun h x y d e => let ⟨i, j, a, b, c⟩ := hf h x y d e; ⟨i, j, a, b, trivial, c⟩
theorem o_sub : OpR X (binaryOp .Sub) (rF T opSub) := op_of_int0 op_sub fun h x y d e => by
  unfold opSub at e
  split at e
  · cases e; exact ⟨_, _, rfl, rfl, rfl⟩
  · cases e
theorem o_mod : OpR X (binaryOp .Mod) (rF T opMod) := op_of_int op_mod fun h x y d e => by
  unfold opMod at e
  split at e
  · split at e
    · cases e; exact ⟨_, _, rfl, rfl, by assumption, rfl⟩
    · cases e
  · cases e
theorem o_div : OpR X (binaryOp .FloorDiv) (rF T opDiv) := op_of_int op_fdiv fun h x y d e => by
  unfold opDiv at e
  split at e
  · split at e
    · rename_i c
      cases e
      rw [Bool.and_eq_true] at c
      exact ⟨_, _, rfl, rfl, ⟨of_decide_eq_true c.1, of_decide_eq_true c.2⟩, rfl⟩
    · cases e
  · cases e
theorem o_pow : OpR X (binaryOp .Pow) (rF T opPow) := op_of_int op_pow fun h x y d e => by
  unfold opPow at e
  split at e
  · split at e
    · rename_i c
      cases e
      rw [Bool.and_eq_true, Bool.and_eq_true] at c
      exact ⟨_, _, rfl, rfl, ⟨of_decide_eq_true c.1.1, of_decide_eq_true c.1.2, of_decide_eq_true c.2⟩, rfl⟩
    · cases e
  · cases e
theorem u_neg : UnR X (unaryOp .USub) (rU1 T opNeg) := by
  intro pins s σ H x v Q I rx ⟨ρ, Z, h, a, d, l, ra, e, q⟩
  unfold opNeg at e
  split at e
  · cases e
    cases int_rep ra
    exact un_neg pins s σ H _ v Q I rx ⟨_, rfl, q ρ H _ Gr.refl l rep_int⟩
  · cases e
/-- comparisons of two ints -/
theorem op_of_cmp {g : Value → Value → Sem Value} {k : Int → Int → Bool} {f : HD → D → D → Option Bool} (ho : OpR X g (rI0 fun i j => .bl (k i j)))
    (hf : ∀ h x y d, f h x y = some d → ∃ i j, x = .int i ∧ y = .int j ∧ d = k i j) : OpR X g (rB T f) := by
  intro pins s σ H x y v u Q I rx ry ⟨ρ, Z, h, a, b, d, l, ra, rb, e, q⟩
  obtain ⟨i, j, rfl, rfl, rfl⟩ := hf h a b d e
  cases int_rep ra
  cases int_rep rb
  exact ho pins s σ H _ _ v u Q I rx ry ⟨i, j, rfl, rfl, q⟩
theorem o_le : OpR X (compareOp .LtE) (rB T cLe) := op_of_cmp op_le fun h x y d e => by
  unfold cLe at e
  split at e
  · cases e; exact ⟨_, _, rfl, rfl, rfl⟩
  · cases e
theorem o_gt : OpR X (compareOp .Gt) (rB T cGt) := op_of_cmp op_gt fun h x y d e => by
  unfold cGt at e
  split at e
  · cases e; exact ⟨_, _, rfl, rfl, rfl⟩
  · cases e
theorem o_ge : OpR X (compareOp .GtE) (rB T cGe) := op_of_cmp op_ge fun h x y d e => by
  unfold cGe at e
  split at e
  · cases e; exact ⟨_, _, rfl, rfl, rfl⟩
  · cases e
theorem o_lt (hu : X.A.units + 64 < cLine) : OpR X (compareOp .Lt) (rB T cLt) := by
  intro pins s σ H x y v u Q I rx ry ⟨ρ, Z, h, a, b, d, l, ra, rb, e, q⟩
  unfold cLt at e
  split at e
  · cases e
    cases int_rep ra
    cases int_rep rb
    exact op_lt pins s σ H _ _ v u Q I rx ry ⟨_, _, rfl, rfl, q⟩
  · split at e
    · rename_i p p' ep ep'
      split at e
      · rename_i c
        cases e
        rw [Bool.and_eq_true] at c
        rename_i l1 l2 _ _
        have d1 : toP (.tup l1) = some (.tuple p) := by rw [toP, ep]; rfl
        have d2 : toP (.tup l2) = some (.tuple p') := by rw [toP, ep']; rfl
        obtain ⟨as, r1⟩ := Dp.reads I _ x v (toP_dp _ _ _ d1 ra) rx
        obtain ⟨bs, r2⟩ := Dp.reads I _ y u (toP_dp _ _ _ d2 rb) ry
        exact PySem.W.rcLt_alike _ _ X.A s v u as bs r1 r2 c.1 (fun z => by cases z) (SeqAt.room_of_shaped c.2 hu) X.prog X.w X.xe _ ⟨.bl _, H, I, rfl, q⟩
      · cases e
    · cases e
  · cases e
theorem o_eq (hu : X.A.units + 64 < cLine) : OpR X (compareOp .Eq) (rB T cEq) := by
  intro pins s σ H x y v u Q I rx ry ⟨ρ, Z, h, a, b, d, l, ra, rb, e, q⟩
  unfold cEq eqD at e
  split at e
  · rename_i p p' ep ep'
    split at e
    · rename_i c
      cases e
      rw [Bool.and_eq_true] at c
      exact op_eqD hu pins s σ H x y v u Q I rx ry ⟨p, p', look_dp l ra ep, look_dp l rb ep', c.1, c.2, q⟩
    · cases e
  · cases e
theorem o_ne (hu : X.A.units + 64 < cLine) : OpR X (compareOp .NotEq) (rB T cNe) := by
  intro pins s σ H x y v u Q I rx ry ⟨ρ, Z, h, a, b, d, l, ra, rb, e, q⟩
  unfold cNe eqD at e
  split at e
  · rename_i p p' ep ep'
    split at e
    · rename_i c
      cases e
      rw [Bool.and_eq_true] at c
      exact op_neD hu pins s σ H x y v u Q I rx ry ⟨p, p', look_dp l ra ep, look_dp l rb ep', c.1, c.2, q⟩
    · cases e
  · cases e
end
end DM
set_option Elab.async false
set_option linter.all false
set_option maxRecDepth 100000
set_option maxHeartbeats 2000000
/-! Machine D: sums of lists and tuples, items, slices, built-ins. -/
namespace DM
open PySem PySem.Spec PyProof.Rows L2
/-- t * 1 is t -/
theorem tuple_once (l : Addr) (its : Array Value) (n : Nat) (dd : Option Addr) (sl : Array (Option Value)) (u : Tok) :
    Meets (Builtin.«tuple.__mul__» ⟨[.ref l, .int 1 u], []⟩) (fun _ R s => s.heap.get? l = some { cls := .type "tuple", dict := dd, data := .seq its n, slots := sl } ∧ R (.ok (.ret (Value.ref l))) s) :=
  .of_wp fun prog w A R s h => by
    obtain ⟨hp, g, d, tk, os⟩ := s
    obtain ⟨hl, h⟩ := h
    have f1 := AutoSeq1.idx_int
    wp_walk using AutoSeq1.wpAny_loadPart' hl
    all_goals exact ⟨_, rfl, h⟩
section
variable {X : Cx} {T : Tx} {ρ Z : List Addr} {H : Hp} {h : HD}
theorem lim_line {n : Nat} (h : n ≤ LIM) : n ≤ sizeLine := by rw [← LIM_eq]; exact h
theorem rep_str {i : Str} : Rep T ρ Z H (.str i) (.str i) := by rw [Rep]
/-- a new frozen list, a new tuple -/
theorem new_fl {l : List D} {xs : List V} {p : Addr} (rl : Rl T ρ Z h H) (hp : H p = none) (r : RepL T ρ Z H l xs) (hz : l.length ≤ LIM) :
    Gr ρ H ρ (upd H p (.lst xs)) ∧ Rl T ρ Z h (upd H p (.lst xs)) ∧ Rep T ρ Z (upd H p (.lst xs)) (.fl l) (.ref p) := by
  refine ⟨Gr.laid hp, (rl.fresh hp).lose, ?_⟩
  rw [Rep]
  exact ⟨hz, p, xs, rfl, (rl.outZ hp).1, (rl.outZ hp).2, upd_same, RepL.mono (Gr.laid hp) _ _ r⟩
theorem new_tup {l : List D} {xs : List V} {p : Addr} (rl : Rl T ρ Z h H) (hp : H p = none) (r : RepL T ρ Z H l xs) (hz : l.length ≤ LIM) :
    Gr ρ H ρ (upd H p (.tup xs)) ∧ Rl T ρ Z h (upd H p (.tup xs)) ∧ Rep T ρ Z (upd H p (.tup xs)) (.tup l) (.ref p) := by
  refine ⟨Gr.laid hp, (rl.fresh hp).lose, ?_⟩
  rw [Rep]
  exact ⟨hz, p, xs, rfl, upd_same, RepL.mono (Gr.laid hp) _ _ r⟩
/-- what a fresh list asks -/
def rL2 (T : Tx) (f : HD → D → D → Option (List D)) : R2 := fun u v H Q => ∃ ρ Z h x y l, Rl T ρ Z h H ∧ Rep T ρ Z H x u ∧ Rep T ρ Z H y v ∧ f h x y = some l ∧ l.length ≤ LIM ∧ ∀ p xs, H p = none → RepL T ρ Z H l xs → Q (.ref p) (upd H p (.lst xs))
theorem o_lcat : OpR X (binaryOp .Add) (rL2 T lCat) := by
  intro pins s σ H x y v u Q I rx ry ⟨ρ, Z, h, a, b, l, rl, ra, rb, e, hz, q⟩
  unfold lCat at e
  split at e
  · rename_i p p' e1 e2
    split at e
    · rename_i c
      cases e
      obtain ⟨z1, a1, v1, rfl, h1, r1⟩ := lsts_rep rl ra e1
      obtain ⟨z2, a2, v2, rfl, h2, r2⟩ := lsts_rep rl rb e2
      exact op_cat pins s σ H _ _ v u Q I rx ry ⟨a1, a2, v1, v2, rfl, rfl, h1, h2, by rw [← r1.length, ← r2.length]; exact lim_line c, fun p hp => q p _ hp (r1.append r2)⟩
    · cases e
  · cases e
theorem rept_flat {α : Type} (l : List α) (n : Nat) : rept l n = (List.replicate n l).flatten := rfl
theorem rept_len {α : Type} (l : List α) (n : Nat) : (rept l n).length = l.length * n := by
  unfold rept
  induction n with
  | zero => simp
  | succ n ih => rw [List.replicate_succ, List.flatten_cons, List.length_append, ih, Nat.mul_succ, Nat.add_comm]
theorem o_lmul : OpR X (binaryOp .Mult) (rL2 T lMul) := by
  intro pins s σ H x y v u Q I rx ry ⟨ρ, Z, h, a, b, l, rl, ra, rb, e, hz, q⟩
  unfold lMul at e
  split at e
  · rename_i p j e1
    split at e
    · rename_i c
      cases e
      rw [Bool.and_eq_true, Bool.and_eq_true] at c
      have c1 := of_decide_eq_true c.1.1
      have c2 := of_decide_eq_true c.1.2
      have c3 := of_decide_eq_true c.2
      obtain ⟨z1, a1, v1, rfl, h1, r1⟩ := lsts_rep rl ra e1
      cases int_rep rb
      exact op_rep pins s σ H _ _ v u Q I rx ry ⟨a1, j, v1, rfl, rfl, h1, by omega, by omega, by rw [← r1.length]; exact lim_line c3, fun p hp => q p _ hp (r1.rept _)⟩
    · cases e
  · cases e
theorem o_add : OpR X (binaryOp .Add) (rF T opAdd) := by
  intro pins s σ H x y v u Q I rx ry ⟨ρ, Z, h, a, b, d, l, ra, rb, e, q⟩
  unfold opAdd at e
  split at e
  · cases e
    cases int_rep ra
    cases int_rep rb
    exact op_add pins s σ H _ _ v u Q I rx ry ⟨_, _, rfl, rfl, q ρ H _ Gr.refl l rep_int⟩
  · split at e
    · rename_i c
      cases e
      cases str_rep ra
      cases str_rep rb
      exact op_add_str pins s σ H _ _ v u Q I rx ry ⟨_, _, rfl, rfl, lim_line c, q ρ H _ Gr.refl l rep_str⟩
    · cases e
  · split at e
    · rename_i l1 l2 c
      cases e
      rw [Rep] at ra rb
      obtain ⟨z1, a1, v1, rfl, h1, r1⟩ := ra
      obtain ⟨z2, a2, v2, rfl, h2, r2⟩ := rb
      have n1 := r1.length
      have n2 := r2.length
      refine op_catA pins s σ H _ _ v u Q I rx ry ⟨a1, a2, v1, v2, rfl, rfl, SqT.of h1, SqT.of h2, by rw [← n1, ← n2]; exact lim_line c, fun e => ?_, fun e e' => ?_, fun _ _ p hp => ?_⟩
      · have : l1 = [] := List.eq_nil_of_length_eq_zero (by rw [n1, e]; rfl)
        subst this
        exact q ρ H _ Gr.refl l (by rw [List.nil_append, Rep]; exact ⟨z2, a2, v2, rfl, h2, r2⟩)
      · have : l2 = [] := List.eq_nil_of_length_eq_zero (by rw [n2, e']; rfl)
        subst this
        exact q ρ H _ Gr.refl l (by rw [List.append_nil, Rep]; exact ⟨z1, a1, v1, rfl, h1, r1⟩)
      · obtain ⟨g, l', r'⟩ := new_tup l hp (r1.append r2) (by rw [List.length_append]; exact c)
        exact q ρ _ _ g l' r'
    · cases e
  · split at e
    · rename_i p p' e1 e2
      split at e
      · rename_i c
        cases e
        refine o_lcat (T := T) pins s σ H x y v u Q I rx ry ⟨ρ, Z, h, _, _, p ++ p', l, ra, rb, by unfold lCat; rw [e1, e2]; exact if_pos c, by rw [List.length_append]; exact c, fun pp xs hp r => ?_⟩
        obtain ⟨g, l', r'⟩ := new_fl l hp r (by rw [List.length_append]; exact c)
        exact q ρ _ _ g l' r'
      · cases e
    · cases e
theorem small_cmul {i j : Int} (h : (small i || small j) = true) : CMul i j := by
  unfold small at h
  simp only [Bool.or_eq_true, Bool.and_eq_true, decide_eq_true_eq] at h
  unfold CMul
  rcases h with h | h
  · left; omega
  · right; omega
theorem o_mul : OpR X (binaryOp .Mult) (rF T opMul) := by
  intro pins s σ H x y v u Q I rx ry ⟨ρ, Z, h, a, b, d, l, ra, rb, e, q⟩
  unfold opMul at e
  split at e
  · split at e
    · rename_i c
      cases e
      cases int_rep ra
      cases int_rep rb
      exact op_mul pins s σ H _ _ v u Q I rx ry ⟨_, _, rfl, rfl, small_cmul c, q ρ H _ Gr.refl l rep_int⟩
    · cases e
  · split at e
    · rename_i l1 j c
      cases e
      simp only [Bool.and_eq_true, decide_eq_true_eq] at c
      obtain ⟨⟨⟨c1, c2⟩, c3⟩, c4⟩ := c
      rw [Rep] at ra
      obtain ⟨z1, a1, v1, rfl, h1, r1⟩ := ra
      cases int_rep rb
      have n1 := r1.length
      have hL : LIM = 16777216 := rfl
      by_cases h2 : 2 ≤ j
      · refine op_repT pins s σ H _ _ v u Q I rx ry ⟨a1, j, v1, rfl, rfl, SqT.of h1, fun e => ?_, h2, c2, by omega, fun p hp => ?_⟩
        · rw [e] at n1; simp at n1; rw [n1] at c3; simp at c3
        · have hz : (rept l1 j.toNat).length ≤ LIM := by
            rw [rept_len, hL]
            have : l1.length * j.toNat ≤ 1000 * 1000 := Nat.mul_le_mul c4 (by omega)
            omega
          obtain ⟨g, l', r'⟩ := new_tup l hp (r1.rept j.toNat) hz
          exact q ρ _ _ g l' r'
      · have hj : j = 1 := by omega
        subst hj
        have e1 : rept l1 (1 : Int).toNat = l1 := by show (List.replicate 1 l1).flatten = l1; simp
        cases ref_rel rx
        obtain ⟨t, rfl⟩ : ∃ t, u = Value.int 1 t := ry
        obtain ⟨its, r, ⟨⟨cls, dd, data, sl⟩, ho, hc, n, hd⟩, hs⟩ := I.tuple (SqT.of (K := X.K) h1)
        simp only at hc hd
        subst hc hd
        refine wpAny_binaryOp_repeat_ref (T := "tuple") (U := "int") (by decide) ⟨_, ho, rfl⟩ (fun s' => typeIs_int s' 1 t) noFill_tuple_mul F.fills_int_mul F.slot_int_rmul repeat_tuple F.slot_int_index.lookup
          (call_meets F.slot_int_rmul (typeIs_int s 1 t) F.entry_int_rmul (F.args_int_rmul_2 _ _) (int_rmul_tuple 1 t a1 its.toArray n dd sl)
            ⟨ho, rfl, ⟨_, ho, rfl⟩, call_meets F.slot_tuple_mul ⟨_, ho, rfl⟩ F.entry_tuple_mul (F.args_tuple_mul_2 _ _) (tuple_once a1 its.toArray n dd sl t) ⟨ho, ?_⟩⟩)
        exact ⟨.ref a1, H, I, rfl, q ρ H _ Gr.refl l (by rw [e1, Rep]; exact ⟨z1, a1, v1, rfl, h1, r1⟩)⟩
    · cases e
  · split at e
    · rename_i p j e1 _ _
      split at e
      · rename_i c
        cases e
        have c' := c
        simp only [Bool.and_eq_true, decide_eq_true_eq] at c'
        have hz : (rept p j.toNat).length ≤ LIM := by rw [rept_len]; exact c'.2
        refine o_lmul (T := T) pins s σ H x y v u Q I rx ry ⟨ρ, Z, h, _, _, rept p j.toNat, l, ra, rb, by unfold lMul; rw [e1]; exact if_pos c, hz, fun pp xs hp r => ?_⟩
        obtain ⟨g, l', r'⟩ := new_fl l hp r hz
        exact q ρ _ _ g l' r'
      · cases e
    · cases e
end
end DM
set_option Elab.async false
set_option linter.all false
set_option maxRecDepth 100000
set_option maxHeartbeats 2000000
/-! Machine D: in, items of dicts and rows, slices, built-ins of one argument. -/
namespace DM
open PySem PySem.Spec PyProof.Rows L2
section
variable {X : Cx} {T : Tx} {ρ Z : List Addr} {H : Hp} {h : HD}

/-- a dict's word -/
def DictAt (T : Tx) (ρ Z : List Addr) (H : Hp) (a : Addr) : DV → Prop
  | .k l => ∃ xs, H a = some (.dK ((l.map (·.1)).zip xs)) ∧ RepL T ρ Z H (l.map (·.2)) xs
  | .t l => ∃ xs, H a = some (.dT ((l.map (·.1)).zip xs)) ∧ RepL T ρ Z H (l.map (·.2)) xs
theorem zip_fst {α β : Type} : ∀ (l : List α) (m : List β), l.length = m.length → (l.zip m).map (·.1) = l
  | [], _, _ => rfl
  | a :: l, [], h => by simp at h
  | a :: l, b :: m, h => by simp at h; simp [zip_fst l m h]
theorem zip_snd {α β : Type} : ∀ (l : List α) (m : List β), l.length = m.length → (l.zip m).map (·.2) = m
  | [], [], _ => rfl
  | [], _ :: _, h => by simp at h
  | a :: l, [], h => by simp at h
  | a :: l, b :: m, h => by simp at h; simp [zip_snd l m h]
theorem dict_rep (l : Rl T ρ Z h H) {x : D} {u : V} {dv : DV} (r : Rep T ρ Z H x u) (e : dictOf h x = some dv) : ∃ a, u = .ref a ∧ DictAt T ρ Z H a dv := by
  cases x with
  | fdk ks m =>
    rw [Rep] at r
    obtain ⟨hl, a, xs, rfl, _, _, q, rl⟩ := r
    cases e
    exact ⟨a, rfl, xs, by rw [zip_fst _ _ hl]; exact q, by rw [zip_snd _ _ hl]; exact rl⟩
  | fdt ks m =>
    rw [Rep] at r
    obtain ⟨hl, a, xs, rfl, _, _, q, rl⟩ := r
    cases e
    exact ⟨a, rfl, xs, by rw [zip_fst _ _ hl]; exact q, by rw [zip_snd _ _ hl]; exact rl⟩
  | ref n =>
    rw [Rep] at r
    obtain ⟨a, ea, rfl⟩ := r
    unfold dictOf at e
    simp only at e
    split at e
    · rename_i m hm
      cases e
      exact ⟨a, rfl, l.ob n _ a hm ea⟩
    · rename_i m hm
      cases e
      exact ⟨a, rfl, l.ob n _ a hm ea⟩
    · cases e
  | _ => cases e
theorem look_val {κ : Type} [DecidableEq κ] (k : κ) : ∀ (l : List (κ × D)) (xs : List V), RepL T ρ Z H (l.map (·.2)) xs →
    (∀ d, lookK k l = some d → ∃ v, valV ((l.map (·.1)).zip xs) k = some v ∧ Rep T ρ Z H d v) ∧ (lookK k l = none → valV ((l.map (·.1)).zip xs) k = none)
  | [], xs, r => by
    refine ⟨fun d e => ?_, fun _ => ?_⟩
    · unfold lookK at e; cases e
    · simp [valV]
  | (c, d) :: l, xs, r => by
    obtain ⟨v, vs, rfl, r1, r2⟩ := RepL.cons_iff.mp r
    have ih := look_val k l vs r2
    refine ⟨fun d' e => ?_, fun e => ?_⟩
    · unfold lookK at e
      split at e
      · rename_i hc
        cases e
        exact ⟨v, by rw [List.map_cons, List.zip_cons_cons]; exact valV_pos hc, r1⟩
      · rename_i hc
        obtain ⟨w, q1, q2⟩ := ih.1 d' e
        exact ⟨w, by rw [List.map_cons, List.zip_cons_cons, valV_neg (by exact hc)]; exact q1, q2⟩
    · unfold lookK at e
      split at e
      · cases e
      · rename_i hc
        rw [List.map_cons, List.zip_cons_cons, valV_neg (by exact hc)]
        exact ih.2 e
theorem keyOf_rep {x : D} {u : V} {k : Key} (r : Rep T ρ Z H x u) (e : keyOf x = some k) : u = kV k := by
  cases x with
  | int i => cases e; exact int_rep r
  | str i => cases e; exact str_rep r
  | _ => cases e
theorem keysOf_rep : ∀ {l : List D} {xs : List V} {ks : List Key}, RepL T ρ Z H l xs → keysOf l = some ks → xs = ks.map kV
  | [], _, _, r, e => by rw [RepL.nil_iff] at r; subst r; rw [keysOf] at e; cases e; rfl
  | d :: l, _, _, r, e => by
    obtain ⟨v, vs, rfl, r1, r2⟩ := RepL.cons_iff.mp r
    rw [keysOf] at e
    cases e1 : keyOf d with
    | none => rw [e1] at e; cases e
    | some k =>
      cases e2 : keysOf l with
      | none => rw [e1, e2] at e; cases e
      | some ks =>
        rw [e1, e2] at e; cases e
        rw [keyOf_rep r1 e1, keysOf_rep r2 e2]
        rfl
theorem tkey_rep {x : D} {u : V} {ks : List Key} (r : Rep T ρ Z H x u) (e : tkeyOf x = some ks) : ∃ b, u = .ref b ∧ H b = some (.tup (ks.map kV)) := by
  cases x with
  | tup l =>
    rw [Rep] at r
    obtain ⟨_, a, xs, rfl, q, rl⟩ := r
    rw [keysOf_rep rl e] at q
    exact ⟨a, rfl, q⟩
  | _ => cases e
/-- what a dict gives at a key -/
theorem get_rep (l : Rl T ρ Z h H) {x y : D} {u v : V} {o : Option D} (rx : Rep T ρ Z H x u) (ry : Rep T ρ Z H y v) (e : getD h x y = some o) :
    ∃ a w, u = .ref a ∧ DGet H a v w ∧ (∀ d, o = some d → ∃ z, w = some z ∧ Rep T ρ Z H d z) ∧ (o = none → w = none) := by
  unfold getD at e
  split at e
  · rename_i m hm
    obtain ⟨a, rfl, xs, q, rl⟩ := dict_rep l rx hm
    cases ek : keyOf y with
    | none => rw [ek] at e; cases e
    | some k =>
      rw [ek] at e; cases e
      cases keyOf_rep ry ek
      have := look_val k m xs rl
      exact ⟨a, _, rfl, DGet.k q, fun d e => this.1 d e, this.2⟩
  · rename_i m hm
    obtain ⟨a, rfl, xs, q, rl⟩ := dict_rep l rx hm
    cases ek : tkeyOf y with
    | none => rw [ek] at e; cases e
    | some k =>
      rw [ek] at e; cases e
      obtain ⟨b, rfl, hb⟩ := tkey_rep ry ek
      have := look_val k m xs rl
      exact ⟨a, _, rfl, DGet.t q hb, fun d e => this.1 d e, this.2⟩
  · cases e

/-! ### in -/
theorem in_reads {pins : List (Addr × Obj)} {σ : SV} {s : Shared} {y : D} {v : V} {u : Value} {l : List D} {ps : List PyData} (I : Inv X pins σ H s) (rl : Rl T ρ Z h H) (rb : Rep T ρ Z H y v) (ry : RelV v u) (hK : X.K = T.K)
    (ei : items h y = some l) (ep : toPs l = some ps) : (∃ as, Reads s.heap u (.list ps) as) ∨ ∃ as, Reads s.heap u (.tuple ps) as := by
  obtain ⟨_, a, vs, rfl, q, r⟩ := items_rep rl rb ei
  have dp := toPs_dp (X := X) l ps vs ep r
  rcases q with q | q
  · exact .inl (Dp.reads I _ _ u (.lst (by rw [hK]; exact q) dp) ry)
  · exact .inr (Dp.reads I _ _ u (.tup (by rw [hK]; exact q) dp) ry)
theorem canL_list {ps : List PyData} (h : SeqAt.shaped (.list ps) = true) : PyData.canLayAll0 ps = true := SeqAt.canLay_of_shaped h
theorem o_in (hK : X.K = T.K) (hu : X.A.units + 65 < cLine) : OpR X (compareOp .In) (rB T cIn) := by
  intro pins s σ H x y v u Q I rx ry ⟨ρ, Z, h, a, b, d, l, ra, rb, e, q⟩
  unfold cIn at e
  split at e
  · rename_i xs ei
    split at e
    · rename_i ps p ep eq
      split at e
      · rename_i c
        cases e
        rw [Bool.and_eq_true] at c
        obtain ⟨as, r1⟩ := Dp.reads I _ x v (look_dp (X := X) l ra eq) rx
        rcases in_reads I l rb ry hK ei ep with ⟨bs, r2⟩ | ⟨bs, r2⟩
        · exact SeqAt.in_list_reads r2 r1 (canL_list c.2) (SeqAt.canLay_of_shaped c.1) (room_in_shaped c.1 hu) ⟨.bl _, H, I, rfl, q⟩
        · exact SeqAt.in_tuple_reads r2 r1 (canL_list c.2) (SeqAt.canLay_of_shaped c.1) (room_in_shaped c.1 hu) ⟨.bl _, H, I, rfl, q⟩
      · cases e
    · cases e
  · cases eg : getD h b a with
    | none => rw [eg] at e; cases e
    | some o =>
      rw [eg] at e; cases e
      obtain ⟨p, w, rfl, g, g1, g2⟩ := get_rep l rb ra eg
      cases ref_rel ry
      refine d_in (by omega) I g rx fun s' I' => ?_
      have : w.isSome = o.isSome := by
        cases o with
        | none => rw [g2 rfl]; rfl
        | some d => obtain ⟨z, e, _⟩ := g1 d rfl; rw [e]; rfl
      rw [this]
      exact ⟨.bl _, H, I', rfl, q⟩
theorem o_notin (hK : X.K = T.K) (hu : X.A.units + 65 < cLine) : OpR X (compareOp .NotIn) (rB T cNotIn) := by
  intro pins s σ H x y v u Q I rx ry ⟨ρ, Z, h, a, b, d, l, ra, rb, e, q⟩
  unfold cNotIn at e
  cases e0 : cIn h a b with
  | none => rw [e0] at e; cases e
  | some k =>
    rw [e0] at e; cases e
    have e := e0
    unfold cIn at e
    split at e
    · rename_i xs ei
      split at e
      · rename_i ps p ep eq
        split at e
        · rename_i c
          cases e
          rw [Bool.and_eq_true] at c
          obtain ⟨as, r1⟩ := Dp.reads I _ x v (look_dp (X := X) l ra eq) rx
          rcases in_reads I l rb ry hK ei ep with ⟨bs, r2⟩ | ⟨bs, r2⟩
          · exact SeqAt.notIn_list_reads r2 r1 (canL_list c.2) (SeqAt.canLay_of_shaped c.1) (room_in_shaped c.1 hu) ⟨.bl _, H, I, rfl, q⟩
          · exact SeqAt.notIn_tuple_reads r2 r1 (canL_list c.2) (SeqAt.canLay_of_shaped c.1) (room_in_shaped c.1 hu) ⟨.bl _, H, I, rfl, q⟩
        · cases e
      · cases e
    · cases eg : getD h b a with
      | none => rw [eg] at e; cases e
      | some o =>
        rw [eg] at e; cases e
        obtain ⟨p, w, rfl, g, g1, g2⟩ := get_rep l rb ra eg
        cases ref_rel ry
        refine d_notIn (by omega) I g rx fun s' I' => ?_
        have : w.isSome = o.isSome := by
          cases o with
          | none => rw [g2 rfl]; rfl
          | some d => obtain ⟨z, e, _⟩ := g1 d rfl; rw [e]; rfl
        rw [this]
        exact ⟨.bl _, H, I', rfl, q⟩

/-! ### c[i] -/
theorem atI_rep {l : List D} {xs : List V} {i : Int} {d : D} (r : RepL T ρ Z H l xs) (e : DM.atI l i = some d) : ∃ v, L2.atI xs i = some v ∧ Rep T ρ Z H d v := by
  unfold DM.atI at e
  have hl := r.length
  split at e
  · rename_i h0
    obtain ⟨v, q, rv⟩ := r.get e
    have hi : i.toNat < xs.length := (List.getElem?_eq_some_iff.mp q).1
    refine ⟨v, ?_, rv⟩
    unfold L2.atI ixN
    rw [if_pos h0, if_pos (by omega)]
    exact q
  · rename_i h0
    split at e
    · rename_i h1
      obtain ⟨v, q, rv⟩ := r.get e
      refine ⟨v, ?_, rv⟩
      unfold L2.atI ixN
      rw [if_neg h0, if_pos (by omega), ← hl]
      exact q
    · cases e
theorem dict_sub {pins : List (Addr × Obj)} {σ : SV} {s : Shared} {a : Addr} {y : V} {u : Value} {z : V} {Q : VK} {value slice : Expr} (hu : X.A.units + 1 < cLine) (I : Inv X pins σ H s) (g : DGet H a y (some z)) (ry : RelV y u) (q : Q z H)
    (hs : subscripted slice false (.ref a) u = operate [.ref a, u] (getItem (.ref a) u)) : wpAny (model X.prog X.w) X.A (subscriptTail value slice (.ref a) u) (EP X pins σ Q) X.xe s := by
  exact tail_any (dict_typeIs I g) PySem.F.slot_dict_getitem.lookup (d_getItem hu I g ry fun w' s' I' rw' => ⟨z, H, I', rw', q⟩) hs
theorem i_ix (hK : X.K = T.K) (hu : X.A.units + 65 < cLine) : IxR X (rF T opIx) := by
  intro value slice pins s σ H x y v u Q I rx ry ⟨ρ, Z, h, a, b, d, l, ra, rb, e, q⟩ hs
  unfold opIx at e
  split at e
  · rename_i xs ei
    split at e
    · cases int_rep rb
      obtain ⟨_, p, vs, rfl, qs, r⟩ := items_rep l ra ei
      obtain ⟨w, hw, rw'⟩ := atI_rep r e
      rcases qs with qs | qs
      · exact ix_list value slice pins s σ H _ _ v u Q I rx ry ⟨p, vs, _, w, rfl, rfl, by rw [hK]; exact qs, hw, q ρ H w Gr.refl l rw'⟩ hs
      · exact ix_tup value slice pins s σ H _ _ v u Q I rx ry ⟨p, vs, _, w, rfl, rfl, by rw [hK]; exact qs, hw, q ρ H w Gr.refl l rw'⟩ hs
    · cases e
  · cases eg : getD h a b with
    | none => rw [eg] at e; cases e
    | some o =>
      rw [eg] at e
      obtain ⟨p, w, rfl, g, g1, g2⟩ := get_rep l ra rb eg
      obtain ⟨z, rfl, rz⟩ := g1 d e
      cases ref_rel rx
      exact dict_sub (by omega) I g ry (q ρ H z Gr.refl l rz) hs
theorem x_ix {a b : Expr} {ma mb : EM} {W : WX} {pos : Pos} (hi : IxR X (rF T opIx)) (ha : PE X a (rdE T W ma)) (hb : PE X b (rdE T W mb)) (hs : PlainIx b := by exact fun _ _ => rfl) : PE X (.Subscript a b pos) (rdE T W (eBin opIx ma mb)) :=
  PE.imp (pe_ix hi ha hb hs) fun σ H Q k => bin_read k
end
end DM
set_option Elab.async false
set_option linter.all false
set_option maxRecDepth 100000
set_option maxHeartbeats 2000000
/-! Machine D: slices, built-ins, isinstance. -/
namespace DM
open PySem PySem.Spec PyProof.Rows L2
section
variable {X : Cx} {T : Tx} {W : WX} {ρ Z : List Addr} {H : Hp} {h : HD}

/-! ### slices -/
theorem clip_sIx (n d : Nat) (i : Int) : clip n i = HT.sIx n d (some i) := by
  show clip n i = if i < 0 then (i + (n : Int)).toNat else min i.toNat n
  unfold clip
  by_cases h : 0 ≤ i
  · rw [if_pos h, if_neg (by omega)]
  · rw [if_neg h, if_pos (by omega)]
theorem cut_len {α : Type} (l : List α) (i j : Option Int) : (cut l i j).length ≤ l.length := by
  unfold cut
  rw [List.length_take, List.length_drop]
  omega
theorem cut_rep {l : List D} {xs : List V} (r : RepL T ρ Z H l xs) (i j : Option Int) : RepL T ρ Z H (cut l i j) (cutV xs i j) := by
  have hl := r.length
  have e1 : (i.map (clip l.length)).getD 0 = HT.sIx xs.length 0 i := by
    cases i with
    | none => rfl
    | some v => rw [← hl]; exact clip_sIx _ _ _
  have e2 : (j.map (clip l.length)).getD l.length = HT.sIx xs.length xs.length j := by
    cases j with
    | none => exact hl
    | some v => rw [← hl]; exact clip_sIx _ _ _
  unfold cut cutV
  rw [e1, e2]
  exact (r.drop _).take _
theorem cut_all {l : List D} {xs : List V} (r : RepL T ρ Z H l xs) {i j : Option Int} (h1 : HT.sIx xs.length 0 i = 0) (h2 : HT.sIx xs.length xs.length j = xs.length) : cut l i j = l := by
  have hl := r.length
  have e1 : (i.map (clip l.length)).getD 0 = 0 := by
    cases i with
    | none => rfl
    | some v => rw [← h1, ← hl]; exact clip_sIx _ _ _
  have e2 : (j.map (clip l.length)).getD l.length = l.length := by
    cases j with
    | none => rfl
    | some v => rw [hl, ← h2, Option.map_some, Option.getD_some]; rw [h2]; exact (clip_sIx _ _ _).trans h2
  unfold cut
  rw [e1, e2]
  simp
def rSl (T : Tx) : V → Option Int → Option Int → Hp → VK → Prop := fun u i j H Q => ∃ ρ Z h x d, Rl T ρ Z h H ∧ Rep T ρ Z H x u ∧ opSlT (look h x) i j = some d ∧ ∀ ρ' H' w, Gr ρ H ρ' H' → Rl T ρ' Z h H' → Rep T ρ' Z H' d w → Q w H'
theorem s_sl (hK : X.K = T.K) : SlR X (rSl T) := by
  intro pins s σ H x v vl vu lo hi sl Q I rx hs pl pu ⟨ρ, Z, h, a, d, l, ra, e, q⟩
  have go : ∀ (xs : List D) (ad : Addr) (vs : List V), xs.length ≤ LIM → x = .ref ad → SqL X.K H ad vs → RepL T ρ Z H xs vs → d = .fl (cut xs lo hi) → ∃ T id, typeLookup (.type T) "__getitem__" = pure (some (.builtin id)) ∧ s.TypeIs v T ∧ wpAny (model X.prog X.w) X.A (getItem v (.ref sl)) (EP X pins σ Q) X.xe s := fun xs ad vs hz ex hq r ed => by
    subst ex ed
    refine sl_list pins s σ H _ v vl vu lo hi sl Q I rx hs pl pu ⟨ad, vs, rfl, hq, fun p hp => ?_⟩
    obtain ⟨g, l', r'⟩ := new_fl l hp (cut_rep r lo hi) (Nat.le_trans (cut_len _ _ _) hz)
    exact q ρ _ _ g l' r'
  rcases look_rep l ra with ⟨xs, e1, hz, ad, vs, rfl, hv, r⟩ | ⟨e1, e2⟩
  · rw [e1] at e
    cases e
    exact go xs ad vs hz rfl (SqL.of hv) r rfl
  · rw [e1] at e
    cases a with
    | tup xs =>
      cases e
      rw [Rep] at ra
      obtain ⟨hz, ad, vs, rfl, hv, r⟩ := ra
      refine sl_tupA pins s σ H _ v vl vu lo hi sl Q I rx hs pl pu ⟨ad, vs, rfl, SqT.of hv, fun hw => ?_, fun hw p hp => ?_⟩
      · refine q ρ H _ Gr.refl l ?_
        rw [cut_all r hw.1 hw.2, Rep]
        exact ⟨hz, ad, vs, rfl, hv, r⟩
      · obtain ⟨g, l', r'⟩ := new_tup l hp (cut_rep r lo hi) (Nat.le_trans (cut_len _ _ _) hz)
        exact q ρ _ _ g l' r'
    | fl xs => exact absurd e1 (e2 xs)
    | sc xs =>
      cases e
      rw [Rep] at ra
      obtain ⟨hz, ad, vs, rfl, hv, r⟩ := ra
      exact go xs ad vs hz rfl (by rw [hK]; exact hv.imp (fun z => z.1) id) r rfl
    | _ => cases e
/-- a bound of a slice -/
def rdO (T : Tx) (W : WX) (m : SD → HD → Res (Option Int)) : TO := fun σ H Q => ∃ ρ Z s h, Rl T ρ Z h H ∧ EnvR T ρ Z H s σ ∧ Fin T W Z (fun _ _ _ (a b : Option Int) => a = b) ρ H σ (m s h) Q
theorem PO.imp {X : Cx} {e : Option Expr} {t t' : TO} (p : PO X e t) (k : ∀ σ H Q, t' σ H Q → t σ H Q) : PO X e t' := ⟨fun pins s σ H Q I h => p.run pins s σ H Q I (k σ H Q h)⟩
theorem x_ono : PO X none (rdO T W (eOpt none)) := PO.imp po_none fun σ H Q ⟨ρ, Z, s, h, l, er, k⟩ => k ρ H none Gr.refl l rfl
theorem x_osome {e : Expr} {m : EM} (p : PE X e (rdE T W m)) : PO X (some e) (rdO T W (eOpt (some m))) := PO.imp (po_some p) fun σ H Q ⟨ρ, Z, s, h, l, er, k⟩ => by
  unfold eOpt at k
  refine Fin.step l er k fun ρ1 d h1 v H1 g l1 er1 r1 k1 => ?_
  cases d with
  | int i =>
    cases int_rep r1
    exact ⟨i, rfl, k1 ρ1 H1 (some i) Gr.refl l1 rfl⟩
  | _ => exact k1.elim
theorem Fin.stepO {ρ Z : List Addr} {H : Hp} {s : SD} {h : HD} {σ : SV} {γ δ : Type} {R2 : List Addr → HD → Hp → γ → δ → Prop} {m : SD → HD → Res (Option Int)} {f : Option Int → HD → Res γ} {Q : δ → Hp → Prop} {Q' : Option Int → Hp → Prop}
    (l : Rl T ρ Z h H) (er : EnvR T ρ Z H s σ) (k : Fin T W Z R2 ρ H σ ((m s h).bind f) Q)
    (n : ∀ ρ1 d h1 H1, Gr ρ H ρ1 H1 → Rl T ρ1 Z h1 H1 → EnvR T ρ1 Z H1 s σ → Fin T W Z R2 ρ1 H1 σ (f d h1) Q → Q' d H1) : rdO T W m σ H Q' :=
  ⟨ρ, Z, s, h, l, er, (Fin.bind (R := fun _ _ _ (a b : Option Int) => a = b) k).imp fun v H1 ⟨ρ1, d, h1, g, l1, r1, k1⟩ => by cases r1; exact n ρ1 _ h1 H1 g l1 (er.mono g) k1⟩
theorem x_sl {a : Expr} {lo hi : Option Expr} {ma : EM} {mi mj : Option EM} {pos p2 : Pos} (hK : X.K = T.K) (ha : PE X a (rdE T W ma)) (hi' : PO X lo (rdO T W (eOpt mi))) (hj : PO X hi (rdO T W (eOpt mj))) : PE X (.Subscript a (.Slice lo hi none p2) pos) (rdE T W (eSl ma mi mj)) :=
  PE.imp (pe_slice (s_sl (T := T) hK) ha hi' hj) fun σ H Q ⟨ρ, Z, s, h, l, er, k⟩ => by
    unfold eSl at k
    refine Fin.step l er k fun ρ1 d h1 v H1 g l1 er1 r1 k1 => ?_
    refine Fin.stepO l1 er1 k1 fun ρ2 i h2 H2 g2 l2 er2 k2 => ?_
    refine Fin.stepO l2 er2 k2 fun ρ3 j h3 H3 g3 l3 er3 k3 => ?_
    obtain ⟨w, e, k4⟩ := k3.res
    exact ⟨ρ3, Z, h3, d, w, l3, Rep.mono (g2.trans g3) _ _ r1, e, fun ρ' H' z g' l' r' => k4 ρ' H' z g' l' r'⟩

/-! ### built-ins -/
theorem bools_rep : ∀ {l : List D} {xs : List V} {bs : List Bool}, RepL T ρ Z H l xs → bools l = some bs → xs = bs.map V.bl
  | [], _, _, r, e => by rw [RepL.nil_iff] at r; subst r; cases e; rfl
  | .bl b :: l, _, _, r, e => by
    obtain ⟨v, vs, rfl, r1, r2⟩ := RepL.cons_iff.mp r
    unfold bools at e
    cases e2 : bools l with
    | none => rw [e2] at e; cases e
    | some bs =>
      rw [e2] at e; cases e
      rw [bl_rep r1, bools_rep r2 e2]; rfl
  | .non :: _, _, _, _, e | .int _ :: _, _, _, _, e | .str _ :: _, _, _, _, e | .tup _ :: _, _, _, _, e | .fl _ :: _, _, _, _, e | .sc _ :: _, _, _, _, e | .fo _ _ :: _, _, _, _, e | .fdk _ _ :: _, _, _, _, e | .fdt _ _ :: _, _, _, _, e | .ref _ :: _, _, _, _, e => by cases e
theorem ints_rep : ∀ {l : List D} {xs : List V} {bs : List Int}, RepL T ρ Z H l xs → intsOf l = some bs → xs = bs.map V.int
  | [], _, _, r, e => by rw [RepL.nil_iff] at r; subst r; cases e; rfl
  | .int b :: l, _, _, r, e => by
    obtain ⟨v, vs, rfl, r1, r2⟩ := RepL.cons_iff.mp r
    unfold intsOf at e
    cases e2 : intsOf l with
    | none => rw [e2] at e; cases e
    | some bs =>
      rw [e2] at e; cases e
      rw [int_rep r1, ints_rep r2 e2]; rfl
  | .non :: _, _, _, _, e | .bl _ :: _, _, _, _, e | .str _ :: _, _, _, _, e | .tup _ :: _, _, _, _, e | .fl _ :: _, _, _, _, e | .sc _ :: _, _, _, _, e | .fo _ _ :: _, _, _, _, e | .fdk _ _ :: _, _, _, _, e | .fdt _ _ :: _, _, _, _, e | .ref _ :: _, _, _, _, e => by cases e
theorem c_all (hc : X.calm = true) : CallR X (.builtin "all") (rC1 T opAll) := by
  intro pins s σ H us ws Q I r ⟨u, e, ρ, Z, h, x, d, l, ra, e2, q⟩
  subst e
  unfold opAll at e2
  cases e3 : lsts h x with
  | none => rw [e3] at e2; cases e2
  | some xs =>
    rw [e3] at e2
    simp only [Option.bind_some] at e2
    cases e4 : bools xs with
    | none => rw [e4] at e2; cases e2
    | some bs =>
      rw [e4] at e2; cases e2
      obtain ⟨_, a, vs, rfl, hv, rl⟩ := lsts_rep l ra e3
      rw [bools_rep rl e4] at hv
      exact cr_all hc pins s σ H _ ws Q I r ⟨a, bs, rfl, SqL.of hv, q ρ H _ Gr.refl l rep_bl⟩
theorem c_any (hc : X.calm = true) : CallR X (.builtin "any") (rC1 T opAny) := by
  intro pins s σ H us ws Q I r ⟨u, e, ρ, Z, h, x, d, l, ra, e2, q⟩
  subst e
  unfold opAny at e2
  cases e3 : lsts h x with
  | none => rw [e3] at e2; cases e2
  | some xs =>
    rw [e3] at e2
    simp only [Option.bind_some] at e2
    cases e4 : bools xs with
    | none => rw [e4] at e2; cases e2
    | some bs =>
      rw [e4] at e2; cases e2
      obtain ⟨_, a, vs, rfl, hv, rl⟩ := lsts_rep l ra e3
      rw [bools_rep rl e4] at hv
      exact cr_any hc pins s σ H _ ws Q I r ⟨a, bs, rfl, SqL.of hv, q ρ H _ Gr.refl l rep_bl⟩
theorem c_sum (hc : X.calm = true) : CallR X (.builtin "sum") (rC1 T opSum) := by
  intro pins s σ H us ws Q I r ⟨u, e, ρ, Z, h, x, d, l, ra, e2, q⟩
  subst e
  unfold opSum at e2
  cases e3 : lsts h x with
  | none => rw [e3] at e2; cases e2
  | some xs =>
    rw [e3] at e2
    simp only [Option.bind_some] at e2
    cases e4 : intsOf xs with
    | none => rw [e4] at e2; cases e2
    | some bs =>
      rw [e4] at e2; cases e2
      obtain ⟨_, a, vs, rfl, hv, rl⟩ := lsts_rep l ra e3
      rw [ints_rep rl e4] at hv
      exact cr_sum hc pins s σ H _ ws Q I r ⟨a, bs, rfl, SqL.of hv, q ρ H _ Gr.refl l rep_int⟩
theorem c_abs : CallR X (.builtin "abs") (rC1 T opAbs) := by
  intro pins s σ H us ws Q I r ⟨u, e, ρ, Z, h, x, d, l, ra, e2, q⟩
  subst e
  unfold opAbs at e2
  split at e2
  · cases e2
    cases int_rep ra
    exact call_abs pins s σ H _ ws Q I r ⟨_, rfl, q ρ H _ Gr.refl l rep_int⟩
  · cases e2
theorem c_int : CallR X (.type "int") (rC1 T opInt) := by
  intro pins s σ H us ws Q I r ⟨u, e, ρ, Z, h, x, d, l, ra, e2, q⟩
  subst e
  unfold opInt at e2
  split at e2
  · cases e2
    cases int_rep ra
    exact call_int1 pins s σ H _ ws Q I r (.inl ⟨_, rfl, q ρ H _ Gr.refl l rep_int⟩)
  · cases e2
    cases bl_rep ra
    exact call_int1 pins s σ H _ ws Q I r (.inr ⟨_, rfl, q ρ H _ Gr.refl l rep_int⟩)
  · cases e2
theorem c_tuple (hK : X.K = T.K) : CallR X (.type "tuple") (rC1 T opTuple) := by
  intro pins s σ H us ws Q I r ⟨u, e, ρ, Z, h, x, d, l, ra, e2, q⟩
  subst e
  unfold opTuple at e2
  cases e3 : items h x with
  | none => rw [e3] at e2; cases e2
  | some xs =>
    rw [e3] at e2; cases e2
    cases x with
    | tup m =>
      cases e3
      have ra' := ra
      rw [Rep] at ra
      obtain ⟨z, a, vs, rfl, hv, rl⟩ := ra
      exact call_tuple_of pins s σ H _ ws Q I r ⟨a, vs, rfl, .inr ⟨SqT.of hv, q ρ H _ Gr.refl l ra'⟩⟩
    | sc m =>
      cases e3
      rw [Rep] at ra
      obtain ⟨z, a, vs, rfl, hv, rl⟩ := ra
      refine call_tuple_of pins s σ H _ ws Q I r ⟨a, vs, rfl, .inl ⟨by rw [hK]; exact hv.imp (fun z => z.1) id, fun p hp => ?_⟩⟩
      obtain ⟨g, l', r'⟩ := new_tup l hp rl z
      exact q ρ _ _ g l' r'
    | _ =>
      obtain ⟨z, a, vs, rfl, hv, rl⟩ := lsts_rep l ra e3
      refine call_tuple_of pins s σ H _ ws Q I r ⟨a, vs, rfl, .inl ⟨SqL.of hv, fun p hp => ?_⟩⟩
      obtain ⟨g, l', r'⟩ := new_tup l hp rl z
      exact q ρ _ _ g l' r'
theorem c_len (hK : X.K = T.K) : CallR X (.builtin "len") (rC1 T opLen) := by
  intro pins s σ H us ws Q I r ⟨u, e, ρ, Z, h, x, d, l, ra, e2, q⟩
  subst e
  unfold opLen at e2
  split at e2
  · split at e2
    · rename_i c
      cases e2
      cases str_rep ra
      exact call_len pins s σ H _ ws Q I r ⟨_, _, rfl, ⟨lim_line c, rfl⟩, q ρ H _ Gr.refl l rep_int⟩
    · cases e2
  · split at e2
    · rename_i xs ei
      cases e2
      obtain ⟨_, a, vs, rfl, hv, rl⟩ := items_rep l ra ei
      refine call_len pins s σ H _ ws Q I r ⟨_, vs.length, rfl, ?_, by rw [← rl.length]; exact q ρ H _ Gr.refl l rep_int⟩
      exact hv.imp (fun z => ⟨vs, by rw [hK]; exact z, rfl⟩) fun z => ⟨vs, by rw [hK]; exact z, rfl⟩
    · split at e2
      · rename_i m hm
        cases e2
        obtain ⟨a, rfl, xs, hv, rl⟩ := dict_rep l ra hm
        obtain ⟨u1, rfl, ru⟩ := vals1 r
        cases ref_rel ru
        refine d_len I (.inl hv) fun t s' I' => ⟨.int _, H, I', ⟨t, rfl⟩, ?_⟩
        have : (((m.map (·.1)).zip xs).length : Int) = (m.length : Int) := by
          have := rl.length
          simp at this
          simp [← this]
        rw [this]
        exact q ρ H _ Gr.refl l rep_int
      · rename_i m hm
        cases e2
        obtain ⟨a, rfl, xs, hv, rl⟩ := dict_rep l ra hm
        refine call_len_dT pins s σ H _ ws Q I r ⟨a, _, rfl, hv, ?_⟩
        have : (((m.map (·.1)).zip xs).length : Int) = (m.length : Int) := by
          have := rl.length
          simp at this
          simp [← this]
        rw [this]
        exact q ρ H _ Gr.refl l rep_int
      · cases e2
theorem c_min2 (hc : X.calm = true) : CallR X (.builtin "min") (rC2 T opMin2) := by
  intro pins s σ H us ws Q I r ⟨u, v, e, ρ, Z, h, x, y, d, l, ra, rb, e2, q⟩
  subst e
  unfold opMin2 at e2
  split at e2
  · cases e2
    cases int_rep ra
    cases int_rep rb
    exact call_min2 hc pins s σ H _ ws Q I r ⟨_, _, rfl, q ρ H _ Gr.refl l rep_int⟩
  · cases e2
theorem c_max2 (hc : X.calm = true) : CallR X (.builtin "max") (rC2 T opMax2) := by
  intro pins s σ H us ws Q I r ⟨u, v, e, ρ, Z, h, x, y, d, l, ra, rb, e2, q⟩
  subst e
  unfold opMax2 at e2
  split at e2
  · cases e2
    cases int_rep ra
    cases int_rep rb
    exact call_max2 hc pins s σ H _ ws Q I r ⟨_, _, rfl, q ρ H _ Gr.refl l rep_int⟩
  · cases e2
end
end DM
set_option Elab.async false
set_option linter.all false
set_option maxRecDepth 100000
set_option maxHeartbeats 2000000
/-! Machine D: iterators over lists and tuples alike: enumerate, zip. -/
namespace DM
open PySem PySem.Spec PyProof.Rows L2

/-- a list (false) or a tuple (true) -/
def SqK (K : PySem.W.Frag) (k : Bool) (H : Hp) (a : Addr) (xs : List V) : Prop := if k then SqT K H a xs else SqL K H a xs
def SeqH (k : Bool) (h : Heap) (a : Addr) (its : Array Value) : Prop := if k then h.IsTuple a its else h.IsList a its
def IterH (k : Bool) (h : Heap) (it a : Addr) (i : Nat) : Prop := if k then h.IsTupleIter it a i else h.IsListIter it a i
def iterObj (k : Bool) (a : Addr) : Obj := if k then { cls := .type "tuple_iterator", data := .fields #[.ref a, .int 0 0] } else { cls := .type "list_iterator", data := .fields #[.ref a, .int 0 0] }
theorem seqK {X : Cx} {pins : List (Addr × Obj)} {σ : SV} {H : Hp} {s : Shared} {k : Bool} {a : Addr} {xs : List V} (I : Inv X pins σ H s) (h : SqK X.K k H a xs) : ∃ its : List Value, Vals xs its ∧ SeqH k s.heap a its.toArray ∧ a < s.heap.objs.size ∧ xs.length ≤ sizeLine := by
  cases k with
  | true =>
    obtain ⟨its, r, p, z⟩ := I.tuple h
    have q : s.heap.IsTuple a its.toArray := p
    obtain ⟨o, ho, _⟩ := id q
    exact ⟨its, r, q, Heap.lt_size ho, z⟩
  | false =>
    obtain ⟨its, r, p, z⟩ := I.list h
    exact ⟨its, r, p.isList, p.lt, z⟩
theorem seqK_inj {X : Cx} {pins : List (Addr × Obj)} {σ : SV} {H : Hp} {s : Shared} {k : Bool} {a : Addr} {xs ys : List V} (I : Inv X pins σ H s) (h : SqK X.K k H a xs) (h' : SqK X.K k H a ys) : xs = ys := by
  cases k with
  | true => exact I.tuple_inj h h'
  | false => exact I.list_inj h h'
theorem IterH.at {k : Bool} {h h' : Heap} {it a : Addr} {i : Nat} (x : IterH k h it a i) (e : ∀ o, h.get? it = some o → h'.get? it = some o) : IterH k h' it a i := by
  cases k with
  | true => exact Heap.IsTupleIter.at x e
  | false => exact Heap.IsListIter.at x e
theorem IterH.obj {k : Bool} {h : Heap} {it a : Addr} {i : Nat} (x : IterH k h it a i) : ∃ o, h.get? it = some o ∧ ∀ v, o.data ≠ .cell v := by
  cases k with
  | true =>
    obtain ⟨o, ho, hc, hd⟩ := x
    exact ⟨o, ho, fun v q => by rw [hd] at q; cases q⟩
  | false =>
    obtain ⟨o, ho, hc, hd⟩ := x
    exact ⟨o, ho, fun v q => by rw [hd] at q; cases q⟩
theorem IterH.new {k : Bool} {h : Heap} {it a : Addr} (e : h.get? it = some (iterObj k a)) : IterH k h it a 0 := by
  cases k with
  | true => exact ⟨_, e, rfl, rfl⟩
  | false => exact ⟨_, e, rfl, rfl⟩
theorem drawsK {prog : Program} {w : World} {A : Around} (k : Bool) (hh : A.handled = none) (it l : Addr) (hne : l ≠ it) (items : Array Value) :
    Draws prog w A it [it, l] items.size (fun i v => items[i]? = some v) (fun i h => IterH k h it l i ∧ SeqH k h l items) := by
  cases k with
  | true => exact Draws.tuple hh it l hne items
  | false => exact Draws.list hh it l hne items
theorem beginsK (k : Bool) (l : Addr) (items : Array Value) : Begins (.ref l) (iterObj k l) fun h => SeqH k h l items := by
  cases k with
  | true => exact begins_tuple l items
  | false => exact begins_list l items

/-! ### enumerate -/
def ItE (K : PySem.W.Frag) (k : Bool) (a : Addr) : It :=
  ⟨fun i H => ∃ (xs : List V) (x : V), SqK K k H a xs ∧ xs[i]? = some x, fun i H v H' => ∃ T x, v = .ref T ∧ H T = none ∧ H' = upd H T (.tup [.int (i : Nat), x]) ∧ ∀ xs, SqK K k H a xs → xs[i]? = some x, fun i H => ∃ xs : List V, SqK K k H a xs ∧ xs.length = i⟩
theorem turnE {P : Program} {w : World} {K : PySem.W.Frag} {elts : List Expr} {kk : Nat} {tpos : Pos} (k : Bool) (a e it : Addr) (hei : e ≠ it) (hea : e ≠ a) (hai : a ≠ it) :
    Turn P w K (.Tuple elts kk tpos) (ItE K k a) [e, it] e (fun i h => (∃ old, IsEnum h e it ((i : Nat) : Int) old) ∧ IterH k h it a i) where
  mem := by simp
  obj := fun i h st b hb => by
    obtain ⟨⟨old, he⟩, hi⟩ := st
    have e' : b = e ∨ b = it := by simpa using hb
    rcases e' with z | z
    · rw [z]; exact ⟨_, he, fun v q => nomatch q⟩
    · rw [z]; exact hi.obj
  keep := fun i h h' st kp => let ⟨⟨old, he⟩, hi⟩ := st; ⟨⟨old, kp e (by simp) _ he⟩, hi.at fun o q => kp it (by simp) o q⟩
  item := by
    intro X hP hw hK hc i pins s σ H E I hf st hg
    subst hP hw hK
    obtain ⟨⟨old, he⟩, hit⟩ := st
    obtain ⟨xs, x, hq, hx⟩ := hg
    obtain ⟨its, rv, p, hal, hz⟩ := seqK I hq
    obtain ⟨u, hu, ru⟩ := rv.get hx
    have hel : e < s.heap.objs.size := Heap.lt_size he
    have hil : it < s.heap.objs.size := by obtain ⟨o, q, _⟩ := hit.obj; exact Heap.lt_size q
    have W := GoesN.enumFrom (prog := X.prog) (w := X.w) (A := X.A) (elts := elts) (x1 := kk) (pos := tpos) 0 (drawsK (A := X.A.in1) k (I.ok.hd hc) it a hai its.toArray) e hei (by simp [hei, hea]) (by simp)
    have hlt : i < its.toArray.size := by
      have := (List.getElem?_eq_some_iff.mp hx).1
      rw [List.size_toArray, ← rv.length]; exact this
    refine thn (W.goes i s (fun v s2 => ∃ x H', Inv X pins σ H' s2 ∧ RelV x v ∧ (ItE X.K k a).yld i H x H' ∧ ((∃ old, IsEnum s2.heap e it (((i + 1 : Nat) : Int)) old) ∧ IterH k s2.heap it a (i + 1)) ∧ ∀ b ∈ [e, it], H' b = none) E hlt ⟨⟨old, by simpa using he⟩, hit, p⟩ fun v h' tk y st' kk2 htk => ?_) fun r s1 h1 => ?_
    · obtain ⟨T, t, z, rfl, hT, hz1, hTt⟩ := y
      obtain ⟨⟨old', he'⟩, hit', p'⟩ := st'
      have ez : z = u := by
        have h2 : its.toArray[i]? = some u := by simpa using hu
        rw [h2] at hz1; cases hz1; rfl
      subst ez
      have new : ObjOk X.prog X.w (upd H T (.tup [.int (i : Nat), x])) h' T (.tup [.int (i : Nat), x]) :=
        ⟨by show 2 ≤ sizeLine; decide, [.int ((i : Nat) : Int) t, z], .cons ⟨_, rfl⟩ (.cons ru .nil), (by rw [Int.zero_add] at hTt; exact hTt)⟩
      have I1 : Inv X pins σ (upd H T (.tup [.int (i : Nat), x])) { s with heap := h', toks := tk } :=
        I.turnedNew (ch := [e, it]) (fun b ob hb q => kk2 b ob hb q) hf hT new
      refine ⟨.ref T, _, I1, rfl, ⟨T, x, rfl, I.hok.fresh hT, rfl, fun ys hy => by rw [seqK_inj I hy hq]; exact hx⟩, ⟨⟨old', by simpa using he'⟩, hit'⟩, fun b hb => ?_⟩
      have hb' : b < s.heap.objs.size := by
        have e' : b = e ∨ b = it := by simpa using hb
        rcases e' with z | z
        · rw [z]; exact hel
        · rw [z]; exact hil
      rw [upd_ne (Nat.ne_of_lt (Nat.lt_of_lt_of_le hb' hT))]
      exact (hf b hb).1
    · obtain ⟨v, rfl, h2⟩ := h1
      exact ⟨v, rfl, h2⟩
  done := by
    intro X hP hw hK hc i pins s σ H E I hf st hg
    subst hP hw hK
    obtain ⟨⟨old, he⟩, hit⟩ := st
    obtain ⟨xs, hq, hx⟩ := hg
    obtain ⟨its, rv, p, hal, hz⟩ := seqK I hq
    have W := GoesN.enumFrom (prog := X.prog) (w := X.w) (A := X.A) (elts := elts) (x1 := kk) (pos := tpos) 0 (drawsK (A := X.A.in1) k (I.ok.hd hc) it a hai its.toArray) e hei (by simp [hei, hea]) (by simp)
    have hn : its.toArray.size = i := by rw [List.size_toArray, ← rv.length]; exact hx
    have he2 : IsEnum s.heap e it (0 + ((its.toArray.size : Nat) : Int)) old := by rw [hn]; simpa using he
    exact W.stops s (fun s1 => Inv X pins σ H s1) E ⟨⟨old, he2⟩, by rw [hn]; exact hit, p⟩ fun h' tk kk2 htk => I.turnedL (ch := [e, it]) (fun b ob hb q => kk2 b ob hb q) hf
  self := fun A i s Q E st h => let ⟨⟨_, he⟩, _⟩ := st; wpAny_pyIter_enum he h

set_option maxHeartbeats 4000000 in
theorem meets_enumerate_newT1 (l : Addr) (items : Array Value) (o : Obj) (hc : o.cls = .type "tuple") (hd : ∃ n, o.data = .seq items n) :
    Meets (Builtin.«enumerate.__new__» ⟨[.type "enumerate", .ref l], []⟩) (fun _ R s => s.heap.get? l = some o ∧
      R (.ok (.ret (.ref (s.heap.push { cls := .type "tuple_iterator", data := .fields #[.ref l, .int 0 0] }).objs.size)))
        { s with heap := (s.heap.push { cls := .type "tuple_iterator", data := .fields #[.ref l, .int 0 0] }).push { cls := .type "enumerate", data := .fields #[.none, .bool false, .ref s.heap.objs.size, rawInt 0, .none, .none] } }) :=
  .of_wp fun prog w A R s h => by
    obtain ⟨c, dct, dt, sl⟩ := o
    obtain ⟨n, hd⟩ := hd
    replace hc : c = .type "tuple" := hc
    replace hd : dt = .seq items n := hd
    subst hc hd
    obtain ⟨hp, g, d, tk, os⟩ := s; obtain ⟨hl, h⟩ := h
    have hsub := sub_enumerate
    have hL : Heap.IsTuple (Shared.heap ⟨hp, g, d, tk, os⟩) l items := ⟨_, hl, rfl, n, rfl⟩
    wp_walk using AutoSeq1.wpAny_loadPart' hl
    refine wpAny_stack_any fun st => wpAny_pure ?_
    split
    · rename_i c _ _ _ _ _
      cases (c == Value.type "enumerate")
      · wp_walk using AutoSeq1.wpAny_loadPart' hl, wpAny_pyIter_tuple hL
        exact ⟨_, rfl, h⟩
      · wp_walk using AutoSeq1.wpAny_loadPart' hl, wpAny_pyIter_tuple hL
        exact ⟨_, rfl, h⟩
    · wp_walk using AutoSeq1.wpAny_loadPart' hl, wpAny_pyIter_tuple hL
      exact ⟨_, rfl, h⟩
theorem call_enumK {prog : Program} {w : World} {A : Around} {E : Value → Shared → Prop} {s : Shared} (k : Bool) {l : Addr} {items : Array Value} {Q : Value → Shared → Prop} (hL : SeqH k s.heap l items)
    (h : ∀ h', IsEnum h' (s.heap.objs.size + 1) s.heap.objs.size 0 .none → IterH k h' s.heap.objs.size l 0 → h'.objs.size = s.heap.objs.size + 2 →
      (∀ b o, s.heap.get? b = some o → h'.get? b = some o) → Q (.ref (s.heap.objs.size + 1)) { s with heap := h' }) :
    wpAny (model prog w) A (call (.type "enumerate") [.ref l]) Q E s := by
  cases k with
  | false => exact call_enumerate_list hL h
  | true =>
    obtain ⟨o, hl, hc, hd⟩ := hL
    refine callType_new F.called_enumerate (by decide) (F.typeCall_enumerate_1 _) (F.newCall_enumerate_1 _) (fun obj => F.args_object_init_2 obj _) F.entry_enumerate_new
      (meets_enumerate_newT1 l items o hc hd) ⟨hl, ?_⟩
    have hz : (s.heap.push { cls := .type "tuple_iterator", data := .fields #[.ref l, .int 0 0] }).objs.size = s.heap.objs.size + 1 := Heap.size_push ..
    show _ ∧ _
    rw [hz]
    have he : IsEnum ((s.heap.push { cls := .type "tuple_iterator", data := .fields #[.ref l, .int 0 0] }).push
        { cls := .type "enumerate", data := .fields #[.none, .bool false, .ref s.heap.objs.size, rawInt 0, .none, .none] }) (s.heap.objs.size + 1) s.heap.objs.size 0 .none := by
      have := Heap.get?_push_size (s.heap.push { cls := .type "tuple_iterator", data := .fields #[.ref l, .int 0 0] })
        (o := { cls := .type "enumerate", data := .fields #[.none, .bool false, .ref s.heap.objs.size, rawInt 0, .none, .none] }) rfl
      rw [hz] at this; exact this
    refine ⟨⟨_, he, rfl⟩, h _ he ⟨_, Heap.get?_push_of_some _ (Heap.get?_push_size _ rfl), rfl, rfl⟩ (by rw [Heap.size_push, hz]) fun b o x => Heap.get?_push_of_some _ (Heap.get?_push_of_some _ x)⟩
def iEnumK (K : PySem.W.Frag) (ta : TA) : TI := fun σ H R => ta σ H fun vs H1 => ∃ k a xs, vs = [.ref a] ∧ SqK K k H1 a xs ∧ R (ItE K k a) H1
theorem pi_enumK {X : Cx} {e : Expr} {ta : TA} {p pos tpos : Pos} {elts : List Expr} {kk : Nat} (hg : Gl X "enumerate") (hm : X.mg "enumerate" = none) (ha : PA X [e] ta) (hs : starEach [e] X.env = [(false, eval e X.env)] := by rfl) :
    PI X (.Tuple elts kk tpos) (.Call (.Name "enumerate" p) [e] [] pos) (iEnumK X.K ta) := by
  refine ⟨fun pins s σ H R I h => ?_⟩
  refine Call_ (ld_blt I hg hm boot_enumerate (PyProof.Rows.callWith_type1 (thn (ha.run pos pins s σ H _ I h) fun us s1 ⟨vs, H1, I1, r1, q1⟩ => ?_) hs rfl))
  obtain ⟨k, a, xs, ex, hq, q⟩ := q1
  subst ex
  cases r1 with
  | cons r rr =>
    cases rr
    cases r
    obtain ⟨its, rv, p', hal, hz⟩ := seqK I1 hq
    refine call_enumK k p' fun h' he hit hsz hk => wpAny_pyIter_enum he ?_
    have I2 : Inv X pins σ H1 { s1 with heap := h' } := I1.kept (t' := s1.toks) hk
    refine ⟨s1.heap.objs.size + 1, [s1.heap.objs.size + 1, s1.heap.objs.size], _, _, H1, rfl, I2, turnE k a (s1.heap.objs.size + 1) s1.heap.objs.size (Nat.succ_ne_self _) (Nat.ne_of_gt (Nat.lt_succ_of_lt hal)) (Nat.ne_of_lt hal), ⟨⟨.none, he⟩, hit⟩, fun b hb => ?_, q⟩
    have e' : b = s1.heap.objs.size + 1 ∨ b = s1.heap.objs.size := by simpa using hb
    have hle : s1.heap.objs.size ≤ b := by
      rcases e' with z | z
      · rw [z]; exact Nat.le_add_right _ _
      · rw [z]; exact Nat.le_refl _
    exact I1.fpOk hle (I1.hok.fresh hle)

/-! ### zip -/
def ItZ (K : PySem.W.Frag) (k1 k2 : Bool) (a b : Addr) : It :=
  ⟨fun i H => ∃ (xs ys : List V) (x y : V), SqK K k1 H a xs ∧ SqK K k2 H b ys ∧ xs[i]? = some x ∧ ys[i]? = some y,
    fun i H v H' => ∃ T x y, v = .ref T ∧ H T = none ∧ H' = upd H T (.tup [x, y]) ∧ (∀ xs, SqK K k1 H a xs → xs[i]? = some x) ∧ ∀ ys, SqK K k2 H b ys → ys[i]? = some y,
    fun i H => ∃ xs ys : List V, SqK K k1 H a xs ∧ SqK K k2 H b ys ∧ min xs.length ys.length = i⟩
theorem turnZ {P : Program} {w : World} {K : PySem.W.Frag} {elts : List Expr} {kk : Nat} {tpos : Pos} (k1 k2 : Bool) {a b z TI TO i1 i2 : Addr} (D : ZipSep2 z TI TO i1 i2 [i1, a] [i2, b]) (ha : a ≠ i1) (hb : b ≠ i2) :
    Turn P w K (.Tuple elts kk tpos) (ItZ K k1 k2 a b) [z, TI, TO, i1, i2] z (fun i h => IsZip h z TI TO .none ∧ IsTupOf2 h TI (.ref i1) (.ref i2) ∧ (∃ a1 a2, IsTupOf2 h TO a1 a2) ∧ IterH k1 h i1 a i ∧ IterH k2 h i2 b i) where
  mem := by simp
  obj := fun i h st c hc => by
    obtain ⟨hz, hTI, ⟨x0, y0, hTO⟩, h1, h2⟩ := st
    have e' : c = z ∨ c = TI ∨ c = TO ∨ c = i1 ∨ c = i2 := by simpa using hc
    rcases e' with q | q | q | q | q
    · rw [q]; exact ⟨_, hz, fun v q => nomatch q⟩
    · rw [q]; exact ⟨_, hTI, fun v q => nomatch q⟩
    · rw [q]; exact ⟨_, hTO, fun v q => nomatch q⟩
    · rw [q]; exact h1.obj
    · rw [q]; exact h2.obj
  keep := fun i h h' st kp => let ⟨hz, hTI, ⟨x0, y0, hTO⟩, h1, h2⟩ := st
    ⟨kp z (by simp) _ hz, kp TI (by simp) _ hTI, ⟨x0, y0, kp TO (by simp) _ hTO⟩, h1.at fun o q => kp i1 (by simp) o q, h2.at fun o q => kp i2 (by simp) o q⟩
  item := by
    intro X hP hw hK hc i pins s σ H E I hf st hg
    subst hP hw hK
    obtain ⟨hz, hTI, hTO, h1, h2⟩ := st
    obtain ⟨xs, ys, x, y, hqx, hqy, hx, hy⟩ := hg
    obtain ⟨its1, rv1, p1, hal1, _⟩ := seqK I hqx
    obtain ⟨its2, rv2, p2, hal2, _⟩ := seqK I hqy
    obtain ⟨u1, hu1, ru1⟩ := rv1.get hx
    obtain ⟨u2, hu2, ru2⟩ := rv2.get hy
    have W := GoesN.zip2 (prog := X.prog) (w := X.w) (A := X.A) (elts := elts) (x1 := kk) (pos := tpos) D (drawsK (A := X.A.in1) k1 (I.ok.hd hc) i1 a ha its1.toArray) (drawsK (A := X.A.in1) k2 (I.ok.hd hc) i2 b hb its2.toArray)
    have hlt : i < min its1.toArray.size its2.toArray.size := by
      have q1 := (List.getElem?_eq_some_iff.mp hx).1
      have q2 := (List.getElem?_eq_some_iff.mp hy).1
      have l1 := rv1.length
      have l2 := rv2.length
      rw [List.size_toArray, List.size_toArray]; omega
    have live : ∀ c ∈ [z, TI, TO, i1, i2], c < s.heap.objs.size := fun c hc => by
      have e' : c = z ∨ c = TI ∨ c = TO ∨ c = i1 ∨ c = i2 := by simpa using hc
      rcases e' with q | q | q | q | q
      · rw [q]; exact Heap.lt_size hz
      · rw [q]; exact Heap.lt_size hTI
      · rw [q]; obtain ⟨_, _, hTO⟩ := hTO; exact Heap.lt_size hTO
      · rw [q]; obtain ⟨o, q, _⟩ := h1.obj; exact Heap.lt_size q
      · rw [q]; obtain ⟨o, q, _⟩ := h2.obj; exact Heap.lt_size q
    refine thn (W.goes i s (fun v s2 => ∃ x H', Inv X pins σ H' s2 ∧ RelV x v ∧ (ItZ X.K k1 k2 a b).yld i H x H' ∧ (IsZip s2.heap z TI TO .none ∧ IsTupOf2 s2.heap TI (.ref i1) (.ref i2) ∧ (∃ a1 a2, IsTupOf2 s2.heap TO a1 a2) ∧ IterH k1 s2.heap i1 a (i + 1) ∧ IterH k2 s2.heap i2 b (i + 1)) ∧ ∀ b ∈ [z, TI, TO, i1, i2], H' b = none) E hlt ⟨hz, hTI, hTO, ⟨h1, p1⟩, h2, p2⟩ fun v h' tk yv st' kk2 htk => ?_) fun r s1 q1 => ?_
    · obtain ⟨T, v1, v2, rfl, hT, hv1, hv2, hTt⟩ := yv
      obtain ⟨hz', hTI', hTO', ⟨h1', _⟩, h2', _⟩ := st'
      have e1 : v1 = u1 := by
        have h2 : its1.toArray[i]? = some u1 := by simpa using hu1
        rw [h2] at hv1; cases hv1; rfl
      have e2 : v2 = u2 := by
        have h2 : its2.toArray[i]? = some u2 := by simpa using hu2
        rw [h2] at hv2; cases hv2; rfl
      subst e1 e2
      have new : ObjOk X.prog X.w (upd H T (.tup [x, y])) h' T (.tup [x, y]) :=
        ⟨by show 2 ≤ sizeLine; decide, [v1, v2], .cons ru1 (.cons ru2 .nil), hTt⟩
      have I1 : Inv X pins σ (upd H T (.tup [x, y])) { s with heap := h', toks := tk } :=
        I.turnedNew (ch := [z, TI, TO, i1, i2]) (fun c ob hc q => kk2 c ob (fun m => hc (by
          have e' : c = z ∨ c = TO ∨ c = i1 ∨ c = i2 := by simpa using m
          rcases e' with q | q | q | q <;> simp [q])) q) hf hT new
      refine ⟨.ref T, _, I1, rfl, ⟨T, x, y, rfl, I.hok.fresh hT, rfl, fun l hl => by rw [seqK_inj I hl hqx]; exact hx, fun l hl => by rw [seqK_inj I hl hqy]; exact hy⟩, ⟨hz', hTI', hTO', h1', h2'⟩, fun c hc => ?_⟩
      rw [upd_ne (Nat.ne_of_lt (Nat.lt_of_lt_of_le (live c hc) hT))]
      exact (hf c hc).1
    · obtain ⟨v, rfl, h2⟩ := q1
      exact ⟨v, rfl, h2⟩
  done := by
    intro X hP hw hK hc i pins s σ H E I hf st hg
    subst hP hw hK
    obtain ⟨hz, hTI, hTO, h1, h2⟩ := st
    obtain ⟨xs, ys, hqx, hqy, hn⟩ := hg
    obtain ⟨its1, rv1, p1, hal1, _⟩ := seqK I hqx
    obtain ⟨its2, rv2, p2, hal2, _⟩ := seqK I hqy
    have W := GoesN.zip2 (prog := X.prog) (w := X.w) (A := X.A) (elts := elts) (x1 := kk) (pos := tpos) D (drawsK (A := X.A.in1) k1 (I.ok.hd hc) i1 a ha its1.toArray) (drawsK (A := X.A.in1) k2 (I.ok.hd hc) i2 b hb its2.toArray)
    have hn : min its1.toArray.size its2.toArray.size = i := by rw [List.size_toArray, List.size_toArray, ← rv1.length, ← rv2.length]; exact hn
    exact W.stops s (fun s1 => Inv X pins σ H s1) E (by rw [hn]; exact ⟨hz, hTI, hTO, ⟨h1, p1⟩, h2, p2⟩) fun h' tk kk2 htk => I.turnedL (ch := [z, TI, TO, i1, i2]) (fun c ob hc q => kk2 c ob (fun m => hc (by
          have e' : c = z ∨ c = TO ∨ c = i1 ∨ c = i2 := by simpa using m
          rcases e' with q | q | q | q <;> simp [q])) q) hf
  self := fun A i s Q E st h => wpAny_pyIter_zip st.1 h
def iZipK (K : PySem.W.Frag) (ta : TA) : TI := fun σ H R => ta σ H fun vs H1 => ∃ k1 k2 a b xs ys, vs = [.ref a, .ref b] ∧ SqK K k1 H1 a xs ∧ SqK K k2 H1 b ys ∧ R (ItZ K k1 k2 a b) H1
theorem pi_zipK {X : Cx} {e e2 : Expr} {ta : TA} {p pos tpos : Pos} {elts : List Expr} {kk : Nat} (hg : Gl X "zip") (hm : X.mg "zip" = none) (ha : PA X [e, e2] ta)
    (hs : starEach [e, e2] X.env = (false, eval e X.env) :: starEach [e2] X.env := by rfl) (hpl : (backTo pos (starEach [e2] X.env)).any (·.1) = false := by rfl) :
    PI X (.Tuple elts kk tpos) (.Call (.Name "zip" p) [e, e2] [] pos) (iZipK X.K ta) := by
  refine ⟨fun pins s σ H R I h => ?_⟩
  refine Call_ (ld_blt I hg hm PyProof.Rows.boot_zip (PyProof.Rows.callWith_type1 (thn (ha.run pos pins s σ H _ I h) fun us s1 ⟨vs, H1, I1, r1, q1⟩ => ?_) hs hpl))
  obtain ⟨k1, k2, a, b, xs, ys, ex, hqx, hqy, q⟩ := q1
  subst ex
  cases r1 with
  | cons r rr =>
    cases rr with
    | cons r' rr =>
      cases rr
      cases r
      cases r'
      obtain ⟨its, rv, p1, hal1, _⟩ := seqK I1 hqx
      obtain ⟨its2, rv2, p2, hal2, _⟩ := seqK I1 hqy
      refine zip_begins2 (beginsK k1 a its.toArray) (beginsK k2 b its2.toArray) p1 p2 fun h' hz hTI hTO h1 h2 hsz hk => wpAny_pyIter_zip hz ?_
      have I2 : Inv X pins σ H1 { s1 with heap := h' } := I1.kept (t' := s1.toks) hk
      have D : ZipSep2 (s1.heap.objs.size + 4) (s1.heap.objs.size + 2) (s1.heap.objs.size + 3) s1.heap.objs.size (s1.heap.objs.size + 1) [s1.heap.objs.size, a] [s1.heap.objs.size + 1, b] :=
        zip_sep2 (fun c hc => by simp at hc; rw [hc]; exact hal1) (fun c hc => by simp at hc; rw [hc]; exact hal2)
      refine ⟨s1.heap.objs.size + 4, [s1.heap.objs.size + 4, s1.heap.objs.size + 2, s1.heap.objs.size + 3, s1.heap.objs.size, s1.heap.objs.size + 1], _, _, H1, rfl, I2, turnZ k1 k2 D (Nat.ne_of_lt hal1) (Nat.ne_of_lt (Nat.lt_succ_of_lt hal2)), ⟨hz, hTI, ⟨_, _, hTO⟩, IterH.new h1, IterH.new h2⟩, fun c hcm => ?_, q⟩
      have e' : c = s1.heap.objs.size + 4 ∨ c = s1.heap.objs.size + 2 ∨ c = s1.heap.objs.size + 3 ∨ c = s1.heap.objs.size ∨ c = s1.heap.objs.size + 1 := by simpa using hcm
      have hle : s1.heap.objs.size ≤ c := by
        rcases e' with z | z | z | z | z
        · rw [z]; exact Nat.le_add_right _ _
        · rw [z]; exact Nat.le_add_right _ _
        · rw [z]; exact Nat.le_add_right _ _
        · rw [z]; exact Nat.le_refl _
        · rw [z]; exact Nat.le_add_right _ _
      exact I1.fpOk hle (I1.hok.fresh hle)
end DM
set_option Elab.async false
set_option linter.all false
set_option maxRecDepth 100000
set_option maxHeartbeats 2000000
/-! Machine D: targets, what is walked, comprehensions. -/
namespace DM
open PySem PySem.Spec PyProof.Rows L2

theorem PG.imp {X : Cx} {e : Expr} {t t' : TG} (p : PG X e t) (k : ∀ v σ H Q, t' v σ H Q → t v σ H Q) : PG X e t' := ⟨fun pins s σ H v u Q I r h => p.run pins s σ H v u Q I r (k v σ H Q h)⟩
theorem PGs.imp {X : Cx} {e : List Expr} {t t' : TGs} (p : PGs X e t) (k : ∀ v σ H Q, t' v σ H Q → t v σ H Q) : PGs X e t' := ⟨fun pins s σ H v u Q I r h => p.run pins s σ H v u Q I r (k v σ H Q h)⟩
theorem PI.imp {X : Cx} {tg e : Expr} {t t' : TI} (p : PI X tg e t) (k : ∀ σ H Q, t' σ H Q → t σ H Q) : PI X tg e t' := ⟨fun pins s σ H Q I h => p.run pins s σ H Q I (k σ H Q h)⟩
theorem PTs.imp {X : Cx} {e : List Expr} {t t' : TT} (p : PTs X e t) (k : ∀ σ H Q, t' σ H Q → t σ H Q) : PTs X e t' := ⟨fun pins s σ H Q I h => p.run pins s σ H Q I (k σ H Q h)⟩

/-! ### targets -/
mutual
def Pat.vars : Pat → List Nat
  | .nm i => [i]
  | .tp ps => Pat.varss ps
def Pat.varss : List Pat → List Nat
  | [] => []
  | p :: ps => p.vars ++ Pat.varss ps
end
structure Off (vs : List Nat) (σ σ' : SV) : Prop where
  len : σ'.length = σ.length
  at_ : ∀ i, i ∉ vs → σ'[i]? = σ[i]?
theorem Off.refl {vs : List Nat} {σ : SV} : Off vs σ σ := ⟨rfl, fun _ _ => rfl⟩
theorem Off.trans {vs ws : List Nat} {σ σ' σ'' : SV} (a : Off vs σ σ') (b : Off ws σ' σ'') : Off (vs ++ ws) σ σ'' := ⟨b.len.trans a.len, fun i hi => by
  rw [List.mem_append, not_or] at hi
  rw [b.at_ i hi.2, a.at_ i hi.1]⟩
theorem wipe_get {σ : SV} {i : Nat} : ∀ {vs : List Nat}, (L2.wipe σ vs)[i]? = if i ∈ vs ∧ i < σ.length then some none else σ[i]?
  | [] => by simp [L2.wipe]
  | v :: vs => by
    show ((L2.wipe σ vs).set v none)[i]? = _
    rw [List.getElem?_set, wipe_length, wipe_get (vs := vs)]
    by_cases hv : v = i
    · subst hv
      by_cases hl : v < σ.length
      · simp [hl]
      · simp [hl, List.getElem?_eq_none (Nat.le_of_not_lt hl)]
    · have : i ≠ v := fun e => hv e.symm
      simp [hv, this]
theorem Off.wipe {vs ws : List Nat} {σ σ' : SV} (o : Off vs σ σ') (h : ∀ i ∈ vs, i ∈ ws) : L2.wipe σ' ws = L2.wipe σ ws := by
  refine List.ext_getElem? fun i => ?_
  rw [wipe_get, wipe_get, o.len]
  by_cases hi : i ∈ ws
  · by_cases hl : i < σ.length
    · simp [hi, hl]
    · rw [if_neg (fun z => hl z.2), if_neg (fun z => hl z.2), List.getElem?_eq_none (Nat.le_of_not_lt hl), List.getElem?_eq_none (by rw [o.len]; exact Nat.le_of_not_lt hl)]
  · rw [if_neg (fun z => hi z.1), if_neg (fun z => hi z.1), o.at_ i fun m => hi (h i m)]
def rdG (T : Tx) (p : Pat) : TG := fun v σ H Q => ∃ ρ Z s h d t, Rl T ρ Z h H ∧ EnvR T ρ Z H s σ ∧ Rep T ρ Z H d v ∧ p.set d s = some t ∧ ∀ σ', EnvR T ρ Z H t σ' → Off p.vars σ σ' → Q σ' H
def rdGs (T : Tx) (ps : List Pat) : TGs := fun vs σ H Q => ∃ ρ Z s h ds t, Rl T ρ Z h H ∧ EnvR T ρ Z H s σ ∧ RepL T ρ Z H ds vs ∧ Pat.sets ps ds s = some t ∧ ∀ σ', EnvR T ρ Z H t σ' → Off (Pat.varss ps) σ σ' → Q σ' H
section
variable {X : Cx} {T : Tx} {W : WX} {e : Expr} {es : List Expr} {p : Pat} {ps : List Pat} {pos : Pos} {m : EM}
theorem g_nm {i : Nat} {x : Str} (hN : X.N.Nodup) (hi : X.N[i]? = some x) (hx : Loc X.env.scope x) (hf : X.fn x = true ∨ X.env.scope.names.lookup x = some .local := by first | exact .inl rfl | exact .inr rfl | assumption) : PG X (.Name x pos) (rdG T (.nm i)) :=
  PG.imp (pg_name hN hi hx hf) fun v σ H Q ⟨ρ, Z, s, h, d, t, l, er, r, e, k⟩ => by
    rw [Pat.set] at e
    cases e
    refine k _ (er.set r i) ⟨by simp, fun j hj => ?_⟩
    rw [Pat.vars, List.mem_singleton] at hj
    rw [List.getElem?_set_ne (fun z => hj z.symm)]
theorem gs_nil : PGs X [] (rdGs T []) := PGs.imp pgs_nil fun v σ H Q ⟨ρ, Z, s, h, d, t, l, er, r, e, k⟩ => by
  cases d with
  | nil =>
    rw [Pat.sets] at e
    cases e
    exact ⟨RepL.nil_iff.mp r, k σ er Off.refl⟩
  | cons a b => simp [Pat.sets] at e
theorem gs_cons (h1 : PG X e (rdG T p)) (h2 : PGs X es (rdGs T ps)) (hs : (assignEach (e :: es) X.env).map (·.2) = assign e X.env :: (assignEach es X.env).map (·.2) := by rfl) : PGs X (e :: es) (rdGs T (p :: ps)) :=
  PGs.imp (pgs_cons h1 h2 hs) fun v σ H Q ⟨ρ, Z, s, h, d, t, l, er, r, e, k⟩ => by
    cases d with
    | nil => simp [Pat.sets] at e
    | cons a b =>
      rw [Pat.sets] at e
      obtain ⟨va, vb, rfl, ra, rb⟩ := RepL.cons_iff.mp r
      cases e1 : p.set a s with
      | none => rw [e1] at e; cases e
      | some s1 =>
        rw [e1] at e
        refine ⟨va, vb, rfl, ρ, Z, s, h, a, s1, l, er, ra, e1, fun σ1 er1 o1 => ?_⟩
        refine ⟨ρ, Z, s1, h, b, t, l, er1, rb, e, fun σ2 er2 o2 => k σ2 er2 ?_⟩
        rw [Pat.varss]
        exact o1.trans o2
theorem sets_length : ∀ {ps : List Pat} {ds : List D} {s t : SD}, Pat.sets ps ds s = some t → ds.length = ps.length
  | [], [], _, _, _ => rfl
  | [], _ :: _, _, _, e => by simp [Pat.sets] at e
  | _ :: _, [], _, _, e => by simp [Pat.sets] at e
  | p :: ps, d :: l, s, t, e => by
    rw [Pat.sets] at e
    split at e
    · simp [sets_length e]
    · cases e
theorem g_tp {k : Nat} (hc : X.calm = true) (h : PGs X es (rdGs T ps)) (hn : (assignEach es X.env).length = ps.length := by rfl) (hst : (assignEach es X.env).findIdx? (·.1) = none := by rfl) : PG X (.Tuple es k pos) (rdG T (.tp ps)) :=
  PG.imp (pg_tup hc h hn hst) fun v σ H Q ⟨ρ, Z, s, h, d, t, l, er, r, e, k⟩ => by
    cases d with
    | tup ds =>
      rw [Pat.set] at e
      rw [Rep] at r
      obtain ⟨z, a, xs, rfl, hq, rl⟩ := r
      refine ⟨a, xs, rfl, .inl (.inl hq), by rw [← rl.length, sets_length e], ρ, Z, s, h, ds, t, l, er, rl, e, fun σ' er' o => k σ' er' ?_⟩
      rw [Pat.vars]; exact o
    | _ => simp [Pat.set] at e

/-! ### what is walked -/
mutual
theorem same_eq : ∀ (d e : D), D.same d e = true → d = e
  | .non, e, h => by cases e <;> first | rfl | (simp [D.same] at h)
  | .bl a, e, h => by cases e <;> simp [D.same] at h; rw [h]
  | .int a, e, h => by cases e <;> simp [D.same] at h; rw [h]
  | .str a, e, h => by cases e <;> simp [D.same] at h; rw [h]
  | .tup l, e, h => by cases e <;> simp [D.same] at h; rw [sames_eq l _ h]
  | .fl l, e, h => by cases e <;> simp [D.same] at h; rw [sames_eq l _ h]
  | .sc l, e, h => by cases e <;> simp [D.same] at h; rw [sames_eq l _ h]
  | .fo c l, e, h => by cases e <;> simp [D.same] at h; rw [sames_eq l _ h.2, h.1]
  | .fdk c l, e, h => by cases e <;> simp [D.same] at h; rw [sames_eq l _ h.2, h.1]
  | .fdt c l, e, h => by cases e <;> simp [D.same] at h; rw [sames_eq l _ h.2, h.1]
  | .ref a, e, h => by cases e <;> simp [D.same] at h; rw [h]
  | .ex c l, e, h => by cases e <;> simp [D.same] at h; rw [sames_eq l _ h.2, h.1]
theorem sames_eq : ∀ (l m : List D), sames l m = true → l = m
  | [], m, h => by cases m <;> first | rfl | (simp [sames] at h)
  | d :: l, m, h => by
    cases m with
    | nil => simp [sames] at h
    | cons e m =>
      simp [sames] at h
      rw [same_eq d e h.1, sames_eq l m h.2]
end
mutual
theorem same_refl : ∀ d : D, D.same d d = true
  | .non => by simp [D.same]
  | .bl a => by simp [D.same]
  | .int a => by simp [D.same]
  | .str a => by simp [D.same]
  | .tup l => by simp [D.same, sames_refl l]
  | .fl l => by simp [D.same, sames_refl l]
  | .sc l => by simp [D.same, sames_refl l]
  | .fo c l => by simp [D.same, sames_refl l]
  | .fdk c l => by simp [D.same, sames_refl l]
  | .fdt c l => by simp [D.same, sames_refl l]
  | .ref a => by simp [D.same]
  | .ex c l => by simp [D.same, sames_refl l]
theorem sames_refl : ∀ l : List D, sames l l = true
  | [] => by simp [sames]
  | d :: l => by simp [sames, same_refl d, sames_refl l]
end
theorem stays_append {h : HD} : ∀ {a b : List (Nat × List D)}, stays h (a ++ b) = true ↔ stays h a = true ∧ stays h b = true
  | [], b => by simp [stays]
  | (n, l) :: a, b => by
    simp only [List.cons_append, stays, Bool.and_eq_true, stays_append (a := a)]
    exact and_assoc.symm
theorem stays_watch (h : HD) (c : D) : stays h (watchOf h c) = true := by
  unfold watchOf
  split
  · rename_i n
    cases e : boxAt h n with
    | none => rfl
    | some l => simp [stays, e, sames_refl]
  · rfl
structure SrcAt (T : Tx) (Z ρ0 : List Addr) (h0 : HD) (H0 : Hp) (c : Src) (J : It) : Prop where
  len : c.its.length ≤ LIM
  now : stays h0 c.watch = true
  at_ : ∀ ρ Z' h H, Gr ρ0 H0 ρ H → (∀ z ∈ Z', z ∈ Z ∨ H0 z = none) → Rl T ρ Z' h H → stays h c.watch = true → (∀ i d, c.its[i]? = some d → J.go i H ∧ ∀ x H', J.yld i H x H' → Gr ρ H ρ H' ∧ Rl T ρ Z' h H' ∧ Rep T ρ Z' H' d x) ∧ J.stop c.its.length H
abbrev RS (T : Tx) (Z : List Addr) : List Addr → HD → Hp → Src → It → Prop := fun ρ h H c J => SrcAt T Z ρ h H c J
def rdI (T : Tx) (W : WX) (m : IM) : TI := fun σ H R => ∃ ρ Z s h, Rl T ρ Z h H ∧ EnvR T ρ Z H s σ ∧ Fin T W Z (RS T Z) ρ H σ (m s h) R
def ItS (K : PySem.W.Frag) (k : Bool) (a : Addr) : It := if k then Itt K a else Itl K a
def iSeqK (K : PySem.W.Frag) (tl : TE) : TI := fun σ H R => tl σ H fun x H1 => ∃ k a xs, x = .ref a ∧ SqK K k H1 a xs ∧ R (ItS K k a) H1
theorem pi_seqK {tg l : Expr} {tl : TE} (hl : PE X l tl) : PI X tg l (iSeqK X.K tl) := by
  refine ⟨fun pins s σ H R I h => ?_⟩
  refine thn (hl.run pins s σ H _ I h) fun v s1 ⟨x, H1, I1, r1, q1⟩ => ?_
  obtain ⟨k, a, xs, e, hq, q⟩ := q1
  subst e
  cases r1
  obtain ⟨its, rv, p, hal, hz⟩ := seqK I1 hq
  cases k with
  | true =>
    refine wpAny_pyIter_tuple p ?_
    refine ⟨s1.heap.objs.size, [s1.heap.objs.size], _, _, H1, rfl, I1.kept (t' := s1.toks) fun b o e => Heap.get?_push_of_some _ e, turn_tuple a _, ⟨_, Heap.get?_push_size _ rfl, rfl, rfl⟩, fun b hb => ?_, q⟩
    have e : b = s1.heap.objs.size := by simpa using hb
    subst e
    exact I1.fpOk (Nat.le_refl _) (I1.hok.fresh (Nat.le_refl _))
  | false =>
    refine wpAny_pyIter_list p ?_
    refine ⟨s1.heap.objs.size, [s1.heap.objs.size], _, _, H1, rfl, I1.kept (t' := s1.toks) fun b o e => Heap.get?_push_of_some _ e, turn_list a _, ⟨_, Heap.get?_push_size _ rfl, rfl, rfl⟩, fun b hb => ?_, q⟩
    have e : b = s1.heap.objs.size := by simpa using hb
    subst e
    exact I1.fpOk (Nat.le_refl _) (I1.hok.fresh (Nat.le_refl _))
/-- a sequence, now and later -/
theorem seq_later {ρ0 Z : List Addr} {h0 : HD} {H0 : Hp} {c : D} {v : V} {l : List D} (r0 : Rl T ρ0 Z h0 H0) (rc : Rep T ρ0 Z H0 c v) (e : items h0 c = some l) :
    l.length ≤ LIM ∧ ∃ k a, v = .ref a ∧ ∀ ρ Z' h H, Gr ρ0 H0 ρ H → (∀ z ∈ Z', z ∈ Z ∨ H0 z = none) → Rl T ρ Z' h H → stays h (watchOf h0 c) = true → ∃ xs, SqK T.K k H a xs ∧ RepL T ρ Z' H l xs := by
  have mv : ∀ {Z' : List Addr}, (∀ z ∈ Z', z ∈ Z ∨ H0 z = none) → ∀ (d : D) (v : V), Rep T ρ0 Z H0 d v → Rep T ρ0 Z' H0 d v := fun hz d v => Rep.shift (fun _ _ q => q) (fun a o ea _ m n => ⟨m, fun hm => (hz a hm).elim n fun q => by rw [ea] at q; cases q⟩) d v
  cases c with
  | tup xs =>
    cases e
    have rc0 := rc
    rw [Rep] at rc0
    obtain ⟨z, a, ys, rfl, hq, rl⟩ := rc0
    refine ⟨z, true, a, rfl, fun ρ Z' h H g hz r st => ?_⟩
    have q := Rep.mono g _ _ (mv hz _ _ rc)
    rw [Rep] at q
    obtain ⟨_, a', ys', e1, hq', rl'⟩ := q
    cases e1
    exact ⟨ys', .inl (.inl hq'), rl'⟩
  | fl xs =>
    cases e
    have rc0 := rc
    rw [Rep] at rc0
    obtain ⟨z, a, ys, rfl, _, _, hq, rl⟩ := rc0
    refine ⟨z, false, a, rfl, fun ρ Z' h H g hz r st => ?_⟩
    have q := Rep.mono g _ _ (mv hz _ _ rc)
    rw [Rep] at q
    obtain ⟨_, a', ys', e1, _, _, hq', rl'⟩ := q
    cases e1
    exact ⟨ys', .inl (.inl hq'), rl'⟩
  | sc xs =>
    cases e
    have rc0 := rc
    rw [Rep] at rc0
    obtain ⟨z, a, ys, rfl, hq, rl⟩ := rc0
    refine ⟨z, false, a, rfl, fun ρ Z' h H g hz r st => ?_⟩
    have q := Rep.mono g _ _ (mv hz _ _ rc)
    rw [Rep] at q
    obtain ⟨_, a', ys', e1, hq', rl'⟩ := q
    cases e1
    exact ⟨ys', hq'.imp (fun z => z.1) id, rl'⟩
  | ref n =>
    have e : boxAt h0 n = some l := e
    rw [Rep] at rc
    obtain ⟨a, ha, rfl⟩ := rc
    have hl : l.length ≤ LIM := by
      unfold boxAt at e
      split at e
      · rename_i l' e2
        cases e
        exact (r0.ob n _ a e2 ha).1
      · cases e
    refine ⟨hl, false, a, rfl, fun ρ Z' h H g hz r st => ?_⟩
    have hw : watchOf h0 (.ref n) = [(n, l)] := by simp only [watchOf, e]
    rw [hw] at st
    simp only [stays, Bool.and_true] at st
    cases e1 : boxAt h n with
    | none => rw [e1] at st; cases st
    | some m =>
      rw [e1] at st
      cases sames_eq _ _ st
      unfold boxAt at e1
      split at e1
      · rename_i l' e2
        cases e1
        obtain ⟨_, xs, hx, rl⟩ := r.ob n _ a e2 (g.get ha)
        exact ⟨xs, .inl (.inl hx), rl⟩
      · cases e1
  | _ => cases e
theorem x_iIt {tg : Expr} (hK : X.K = T.K) (he : PE X e (rdE T W m)) : PI X tg e (rdI T W (iIt m)) :=
  PI.imp (pi_seqK he) fun σ H R ⟨ρ, Z, s, h, l, er, k⟩ => by
    refine Fin.step l er k fun ρ1 d h1 v H1 g l1 er1 r1 k1 => ?_
    obtain ⟨c, ec, k2⟩ := k1.res
    cases ei : items h1 d with
    | none => rw [ei] at ec; cases ec
    | some its =>
      rw [ei] at ec; cases ec
      obtain ⟨z, kk, a, rfl, q⟩ := seq_later l1 r1 ei
      obtain ⟨xs, hx, _⟩ := q ρ1 Z h1 H1 Gr.refl (fun z m => .inl m) l1 (stays_watch _ _)
      refine ⟨kk, a, xs, rfl, by rw [hK]; exact hx, k2.here l1 ⟨z, stays_watch _ _, fun ρ Z' h H g hz r st => ?_⟩⟩
      obtain ⟨ys, hy, rl⟩ := q ρ Z' h H g hz r st
      rw [hK]
      cases kk with
      | true =>
        refine ⟨fun i d hd => ?_, ys, hy, Nat.le_of_eq rl.length.symm⟩
        obtain ⟨v, hv, rv⟩ := rl.get hd
        refine ⟨⟨ys, v, hy, hv⟩, fun x H' hx => ?_⟩
        obtain ⟨rfl, hx⟩ := hx
        have := hx ys hy
        rw [hv] at this; cases this
        exact ⟨Gr.refl, r, rv⟩
      | false =>
        refine ⟨fun i d hd => ?_, ys, hy, Nat.le_of_eq rl.length.symm⟩
        obtain ⟨v, hv, rv⟩ := rl.get hd
        refine ⟨⟨ys, v, hy, hv⟩, fun x H' hx => ?_⟩
        obtain ⟨rfl, hx⟩ := hx
        have := hx ys hy
        rw [hv] at this; cases this
        exact ⟨Gr.refl, r, rv⟩
theorem rg_src {T : Tx} {Z ρ : List Addr} {h : HD} {H : Hp} {lo hi : Int} {c : Src} (e : iRange lo hi = some c) : (-1000000000 < lo ∧ lo < 1000000000 ∧ -1000000000 < hi ∧ hi < 1000000000) ∧ SrcAt T Z ρ h H c (Itr lo (hi - lo).toNat) := by
  unfold iRange at e
  split at e
  · rename_i hb
    cases e
    simp only [Bool.and_eq_true, decide_eq_true_eq] at hb
    refine ⟨⟨hb.1.1.1.1, hb.1.1.1.2, hb.1.1.2, hb.1.2⟩, by simpa using hb.2, rfl, fun ρ Z' h H g hz r st => ⟨fun i d hd => ?_, ?_⟩⟩
    · simp only [List.getElem?_map, Option.map_eq_some_iff] at hd
      obtain ⟨k, hk, rfl⟩ := hd
      have hk2 := List.getElem?_eq_some_iff.mp hk
      obtain ⟨hl, ek⟩ := hk2
      simp at ek hl
      subst ek
      refine ⟨by show _ < (hi - lo).toNat; omega, fun x H' hx => ?_⟩
      obtain ⟨rfl, rfl⟩ := hx
      exact ⟨Gr.refl, r, by rw [Rep]⟩
    · show (hi - lo).toNat ≤ _
      simp
  · cases e
theorem x_iRng1 {a : Expr} {tg : Expr} {p : Pos} (hg : Gl X "range") (hm : X.mg "range" = none) (ha : PE X a (rdE T W m)) (hs : starEach [a] X.env = [(false, eval a X.env)] := by rfl) : PI X tg (.Call (.Name "range" p) [a] [] pos) (rdI T W (DM.iRng1 m)) :=
  PI.imp (pi_range1 hg hm (pa_cons ha pa_nil (by rw [hs]; rfl)) hs) fun σ H R ⟨ρ, Z, s, h, l, er, k⟩ => by
    refine Fin.step l er k fun ρ1 d h1 v H1 g l1 er1 r1 k1 => ?_
    cases d with
    | int n =>
      rw [Rep] at r1
      subst r1
      obtain ⟨c, ec, k2⟩ := k1.res
      obtain ⟨⟨b1, b2, b3, b4⟩, sr⟩ := rg_src (T := T) (Z := Z) (ρ := ρ1) (h := h1) (H := H1) ec
      have q := k2.here l1 sr
      exact ⟨n, rfl, by omega, by omega, by simpa using q⟩
    | _ => exact k1.elim
theorem x_iRng2 {a b : Expr} {tg : Expr} {p : Pos} {mb : EM} (hg : Gl X "range") (hm : X.mg "range" = none) (ha : PE X a (rdE T W m)) (hb : PE X b (rdE T W mb)) (hs : starEach [a, b] X.env = [(false, eval a X.env), (false, eval b X.env)] := by rfl) (hs2 : starEach [b] X.env = [(false, eval b X.env)] := by rfl) :
    PI X tg (.Call (.Name "range" p) [a, b] [] pos) (rdI T W (DM.iRng2 m mb)) :=
  PI.imp (pi_range2 hg hm (pa_cons ha (pa_cons hb pa_nil (by rw [hs2]; rfl)) (by rw [hs, hs2])) hs hs2) fun σ H R ⟨ρ, Z, s, h, l, er, k⟩ => by
    refine Fin.step l er k fun ρ1 d h1 v H1 g l1 er1 r1 k1 => ?_
    refine Fin.step l1 er1 k1 fun ρ2 d2 h2 v2 H2 g2 l2 er2 r2 k2 => ?_
    have r1 := Rep.mono g2 _ _ r1
    cases d with
    | int x =>
      cases d2 with
      | int y =>
        rw [Rep] at r1 r2
        subst r1 r2
        obtain ⟨c, ec, k3⟩ := k2.res
        obtain ⟨⟨b1, b2, b3, b4⟩, sr⟩ := rg_src (T := T) (Z := Z) (ρ := ρ2) (h := h2) (H := H2) ec
        exact ⟨x, y, rfl, ⟨by omega, by omega, by omega, by omega⟩, k3.here l2 sr⟩
      | _ => exact k2.elim
    | _ => exact k2.elim
theorem x_iEnum {e : Expr} {p tpos : Pos} {elts : List Expr} {kk : Nat} (hK : X.K = T.K) (hg : Gl X "enumerate") (hm : X.mg "enumerate" = none) (he : PE X e (rdE T W m)) (hs : starEach [e] X.env = [(false, eval e X.env)] := by rfl) :
    PI X (.Tuple elts kk tpos) (.Call (.Name "enumerate" p) [e] [] pos) (rdI T W (DM.iEnum m)) :=
  PI.imp (pi_enumK hg hm (pa_cons he pa_nil (by rw [hs]; rfl)) hs) fun σ H R ⟨ρ, Z, s, h, l, er, k⟩ => by
    refine Fin.step l er k fun ρ1 d h1 v H1 g l1 er1 r1 k1 => ?_
    obtain ⟨c, ec, k2⟩ := k1.res
    cases ei : items h1 d with
    | none => rw [ei] at ec; cases ec
    | some its =>
      rw [ei] at ec; cases ec
      obtain ⟨z, kk, a, rfl, q⟩ := seq_later l1 r1 ei
      obtain ⟨xs, hx, _⟩ := q ρ1 Z h1 H1 Gr.refl (fun z m => .inl m) l1 (stays_watch _ _)
      rw [hK]
      refine ⟨kk, a, xs, rfl, hx, k2.here l1 ⟨by simpa using z, stays_watch _ _, fun ρ Z' h H g hz r st => ?_⟩⟩
      obtain ⟨ys, hy, rl⟩ := q ρ Z' h H g hz r st
      refine ⟨fun i d hd => ?_, ys, hy, by simpa using rl.length.symm⟩
      simp only [List.getElem?_map, Option.map_eq_some_iff, List.getElem?_zipIdx] at hd
      obtain ⟨⟨d', j⟩, ⟨d2, hd2, e3⟩, rfl⟩ := hd
      cases e3
      obtain ⟨v, hv, rv⟩ := rl.get hd2
      refine ⟨⟨ys, v, hy, hv⟩, fun x H' hx => ?_⟩
      obtain ⟨p, x', rfl, hp, rfl, hx⟩ := hx
      have := hx ys hy
      rw [hv] at this; cases this
      obtain ⟨g', l', r'⟩ := new_tup (l := [.int ((0 + i : Nat) : Int), d']) (xs := [.int (i : Nat), v]) r hp (RepL.cons (by rw [Rep, Nat.zero_add]) (RepL.cons rv RepL.nil)) (by simp [LIM])
      exact ⟨g', l', r'⟩
theorem x_iZip {e e2 : Expr} {p tpos : Pos} {elts : List Expr} {kk : Nat} {mb : EM} (hK : X.K = T.K) (hg : Gl X "zip") (hm : X.mg "zip" = none) (ha : PE X e (rdE T W m)) (hb : PE X e2 (rdE T W mb))
    (hs : starEach [e, e2] X.env = (false, eval e X.env) :: starEach [e2] X.env := by rfl) (hs2 : starEach [e2] X.env = (false, eval e2 X.env) :: starEach [] X.env := by rfl) (hpl : (backTo pos (starEach [e2] X.env)).any (·.1) = false := by rfl) :
    PI X (.Tuple elts kk tpos) (.Call (.Name "zip" p) [e, e2] [] pos) (rdI T W (DM.iZip m mb)) :=
  PI.imp (pi_zipK hg hm (pa_cons ha (pa_cons hb pa_nil hs2) hs) hs hpl) fun σ H R ⟨ρ, Z, s, h, l, er, k⟩ => by
    refine Fin.step l er k fun ρ1 d h1 v H1 g l1 er1 r1 k1 => ?_
    refine Fin.step l1 er1 k1 fun ρ2 d2 h2 v2 H2 g2 l2 er2 r2 k2 => ?_
    have r1 := Rep.mono g2 _ _ r1
    obtain ⟨c, ec, k3⟩ := k2.res
    cases e1 : items h2 d with
    | none => rw [e1] at ec; cases ec
    | some its1 =>
      cases e2 : items h2 d2 with
      | none => rw [e1, e2] at ec; cases ec
      | some its2 =>
        rw [e1, e2] at ec; cases ec
        obtain ⟨z1, kk1, a1, rfl, q1⟩ := seq_later l2 r1 e1
        obtain ⟨z2, kk2, a2, rfl, q2⟩ := seq_later l2 r2 e2
        obtain ⟨xs1, hx1, _⟩ := q1 ρ2 Z h2 H2 Gr.refl (fun z m => .inl m) l2 (stays_watch _ _)
        obtain ⟨xs2, hx2, _⟩ := q2 ρ2 Z h2 H2 Gr.refl (fun z m => .inl m) l2 (stays_watch _ _)
        rw [hK]
        refine ⟨kk1, kk2, a1, a2, xs1, xs2, rfl, hx1, hx2, k3.here l2 ⟨by simp only [List.length_map, List.length_zip]; omega, stays_append.mpr ⟨stays_watch _ _, stays_watch _ _⟩, fun ρ Z' h H g hz r st => ?_⟩⟩
        obtain ⟨st1, st2⟩ := stays_append.mp st
        obtain ⟨ys1, hy1, rl1⟩ := q1 ρ Z' h H g hz r st1
        obtain ⟨ys2, hy2, rl2⟩ := q2 ρ Z' h H g hz r st2
        refine ⟨fun i d hd => ?_, ys1, ys2, hy1, hy2, by simp only [List.length_map, List.length_zip, rl1.length, rl2.length]⟩
        simp only [List.getElem?_map, Option.map_eq_some_iff] at hd
        obtain ⟨⟨u1, u2⟩, hd, rfl⟩ := hd
        obtain ⟨hu1, hu2⟩ := List.getElem?_zip_eq_some.mp hd
        obtain ⟨v1, hv1, rv1⟩ := rl1.get hu1
        obtain ⟨v2, hv2, rv2⟩ := rl2.get hu2
        refine ⟨⟨ys1, ys2, v1, v2, hy1, hy2, hv1, hv2⟩, fun x H' hx => ?_⟩
        obtain ⟨p, x', y', rfl, hp, rfl, hx, hy⟩ := hx
        have := hx ys1 hy1
        rw [hv1] at this; cases this
        have := hy ys2 hy2
        rw [hv2] at this; cases this
        obtain ⟨g', l', r'⟩ := new_tup (l := [u1, u2]) (xs := [v1, v2]) r hp (RepL.cons rv1 (RepL.cons rv2 RepL.nil)) (by simp [LIM])
        exact ⟨g', l', r'⟩
end
end DM
set_option Elab.async false
set_option linter.all false
set_option maxRecDepth 100000
set_option maxHeartbeats 2000000
/-! Machine D: list comprehensions, statements, loops. -/
namespace DM
open PySem PySem.Spec PyProof.Rows L2

/-- nothing may be raised in a comprehension's block -/
abbrev WN : WX := fun _ _ _ _ => False
section
variable {T : Tx} {ρ ρ' Z : List Addr} {H H' : Hp} {h : HD} {s : SD} {σ : SV} {p : Addr} {o u : HO}
mutual
/-- a hidden object is written -/
theorem Rep.hid (hp : H p = some u) (nt : ∀ xs, u ≠ .tup xs) (hz : p ∈ Z) (hn : p ∉ ρ) : ∀ (d : D) (v : V), Rep T ρ Z H d v → Rep T ρ Z (upd H p o) d v
  | .non, _, h => by rw [Rep] at h ⊢; exact h
  | .bl _, _, h => by rw [Rep] at h ⊢; exact h
  | .int _, _, h => by rw [Rep] at h ⊢; exact h
  | .str _, _, h => by rw [Rep] at h ⊢; exact h
  | .tup l, _, h => by
    rw [Rep] at h ⊢
    obtain ⟨z, a, xs, e, q, r⟩ := h
    have ne : a ≠ p := fun z => by subst z; rw [hp] at q; cases q; exact nt _ rfl
    exact ⟨z, a, xs, e, by rw [upd_ne ne]; exact q, RepL.hid hp nt hz hn l xs r⟩
  | .fl l, _, h => by
    rw [Rep] at h ⊢
    obtain ⟨z, a, xs, e, n, nz, q, r⟩ := h
    have ne : a ≠ p := fun z => nz (z ▸ hz)
    exact ⟨z, a, xs, e, n, nz, by rw [upd_ne ne]; exact q, RepL.hid hp nt hz hn l xs r⟩
  | .sc l, _, h => by
    rw [Rep] at h ⊢
    obtain ⟨z, a, xs, e, q, r⟩ := h
    refine ⟨z, a, xs, e, q.imp (fun ⟨q, n, nz⟩ => ?_) id, RepL.hid hp nt hz hn l xs r⟩
    have ne : a ≠ p := fun z => nz (z ▸ hz)
    refine ⟨q.imp (fun q => ?_) fun ⟨u, q⟩ => ⟨u, ?_⟩, n, nz⟩
    · rw [upd_ne ne]; exact q
    · rw [upd_ne ne]; exact q
  | .fo c l, _, h => by
    rw [Rep] at h ⊢
    obtain ⟨z, a, dx, xs, e, n, nz, q, r⟩ := h
    have ne : a ≠ p := fun z => nz (z ▸ hz)
    exact ⟨z, a, dx, xs, e, n, nz, by rw [upd_ne ne]; exact q, RepL.hid hp nt hz hn l xs r⟩
  | .fdk ks l, _, h => by
    rw [Rep] at h ⊢
    obtain ⟨z, a, xs, e, n, nz, q, r⟩ := h
    have ne : a ≠ p := fun z => nz (z ▸ hz)
    exact ⟨z, a, xs, e, n, nz, by rw [upd_ne ne]; exact q, RepL.hid hp nt hz hn l xs r⟩
  | .fdt ks l, _, h => by
    rw [Rep] at h ⊢
    obtain ⟨z, a, xs, e, n, nz, q, r⟩ := h
    have ne : a ≠ p := fun z => nz (z ▸ hz)
    exact ⟨z, a, xs, e, n, nz, by rw [upd_ne ne]; exact q, RepL.hid hp nt hz hn l xs r⟩
  | .ref n, _, h => by rw [Rep] at h ⊢; exact h
  | .ex _ _, _, h => by rw [Rep] at h; exact h.elim
theorem RepL.hid (hp : H p = some u) (nt : ∀ xs, u ≠ .tup xs) (hz : p ∈ Z) (hn : p ∉ ρ) : ∀ (l : List D) (xs : List V), RepL T ρ Z H l xs → RepL T ρ Z (upd H p o) l xs
  | [], _, h => by rw [RepL] at h ⊢; exact h
  | d :: l, _, h => by
    rw [RepL] at h ⊢
    obtain ⟨v, r, e, q, k⟩ := h
    exact ⟨v, r, e, Rep.hid hp nt hz hn d v q, RepL.hid hp nt hz hn l r k⟩
end
theorem Rl.hidw (r : Rl T ρ Z h H) (hp : H p = some u) (nt : ∀ xs, u ≠ .tup xs) (hz : p ∈ Z) (no : ∀ ps, o ≠ .tbl ps := by (intro ps z; cases z)) (nb : (∀ ps, u ≠ .tbl ps) ∧ ∀ c q, u ≠ LamX.CodeO c q := by exact ⟨(by intro ps z; cases z), (by intro c q z; unfold LamX.CodeO at z; cases z)⟩) : Rl T ρ Z h (upd H p o) := by
  have hn := (r.hid p hz).1
  have ht : LamX.Tabs T.tabs (upd H p o) := by
    intro w hw
    obtain ⟨ps, h1, h2, h3⟩ := r.tab w hw
    have ne1 : w.1 ≠ p := fun z => by rw [z, hp] at h1; exact nb.1 ps (Option.some.inj h1)
    refine ⟨ps, by rw [upd_ne ne1]; exact h1, h2, fun pos cv hc => ?_⟩
    obtain ⟨c, e1, e2⟩ := h3 pos cv hc
    have ne2 : c ≠ p := fun z => by rw [z, hp] at e2; exact nb.2 p w.2 (Option.some.inj e2)
    exact ⟨c, e1, by rw [upd_ne ne2]; exact e2⟩
  refine ⟨r.len, r.nd, fun n x a h1 h2 => ?_, fun z m => ?_, ht⟩
  · have q := r.ob n x a h1 h2
    have ne : a ≠ p := fun z => hn (z ▸ List.mem_iff_getElem?.mpr ⟨n, h2⟩)
    exact q.map (upd_ne ne) fun l xs => RepL.hid hp nt hz hn l xs
  · obtain ⟨m1, o', ho, nt'⟩ := r.hid z m
    refine ⟨m1, ?_⟩
    by_cases e : z = p
    · subst e; exact ⟨o, upd_same, no⟩
    · exact ⟨o', by rw [upd_ne e]; exact ho, nt'⟩
/-- .. what was not there at first -/
theorem Gr.hidw (g : Gr ρ H ρ' H') (hp : H p = none) (hu : H' p = some u) (hn : p ∉ ρ') : Gr ρ H ρ' (upd H' p o) := ⟨g.pre, fun a x e nt n => by
  rw [upd_ne (ne_of_none e hp)]; exact g.frm' a x e nt n, g.new, fun a xs e => by rw [upd_ne (ne_of_none e hp)]; exact g.tup a xs e⟩
end
section
variable {X : Cx} {T : Tx} {W : WX} {m : EM} {t : TM} {p : Pat} {i : IM}
theorem lc_read {σ : SV} {H : Hp} {Q : VK} {own : List Nat} (hv : ∀ j ∈ p.vars, j ∈ own) (k : rdF T W (lComp own i p t m) σ H Q) : tLc (rdI T W i) (rdG T p) (rdT T WN t) (rdE T WN m) own σ H Q := by
  obtain ⟨ρ0, Z, s, h0, l0, er0, k⟩ := k
  unfold lComp at k
  refine ⟨ρ0, Z, s, h0, l0, er0, (Fin.bind (R := RS T Z) k).imp fun J H1 ⟨ρ1, c, h1, g1, l1, sr, k1⟩ => fun D hD => ?_⟩
  have er1 := er0.mono g1
  have hD0 : Nw H D := l1.back g1 hD
  refine ⟨fun i n H' => n = c.its.length - i ∧ i ≤ c.its.length ∧ ∃ ρ h acc vs, Gr ρ1 H1 ρ H' ∧ Rl T ρ (D :: Z) h H' ∧ H' D = some (.lst vs) ∧ RepL T ρ (D :: Z) H' acc vs ∧ acc.length ≤ i ∧ stays h c.watch = true ∧ Fin T W Z (RF T Z H) ρ1 H1 σ (lcGo s p t m own c.watch (c.its.drop i) h acc) Q,
    ⟨_, rfl, Nat.zero_le _, ρ1, h1, [], [], Gr.laid hD, l1.fresh hD, upd_same, RepL.nil, Nat.le_refl _, sr.now, k1⟩, ?_⟩
  rintro i m' H' ⟨rfl, hi, ρ, h, acc, vs, g, l, hd, r, ha, st, f⟩
  have nD : D ∉ ρ ∧ D ∉ Z := ⟨(l.hid D (List.mem_cons_self ..)).1, (l1.outZ hD).2⟩
  obtain ⟨sgo, sstop⟩ := sr.at_ ρ (D :: Z) h H' g (fun z hz => by
    rcases List.mem_cons.mp hz with e | e
    · exact .inr (e ▸ hD)
    · exact .inl e) l st
  by_cases hlt : i < c.its.length
  · obtain ⟨go, yl⟩ := sgo i c.its[i] (by simp [hlt])
    refine .inr ⟨go, fun H2 => i + 1 ≤ c.its.length ∧ ∃ ρ h acc vs, Gr ρ1 H1 ρ H2 ∧ Rl T ρ (D :: Z) h H2 ∧ H2 D = some (.lst vs) ∧ RepL T ρ (D :: Z) H2 acc vs ∧ acc.length ≤ i + 1 ∧ stays h c.watch = true ∧ Fin T W Z (RF T Z H) ρ1 H1 σ (lcGo s p t m own c.watch (c.its.drop (i + 1)) h acc) Q,
      fun H2 n => ⟨c.its.length - (i + 1), by omega, rfl, n⟩, fun x Hx hx => ?_⟩
    obtain ⟨gx, lx, rx⟩ := yl x Hx hx
    rw [List.drop_eq_getElem_cons hlt] at f
    unfold lcGo at f
    have erw : EnvR T ρ (D :: Z) Hx (wipeD s own) (L2.wipe σ own) := by
      have e1 : EnvR T ρ1 (D :: Z) (upd H1 D (.lst [])) s σ := EnvR.fresh (fun a m => l1.has m) er1 hD
      have e2 : EnvR T ρ (D :: Z) H' s σ := by
        refine ⟨e1.len, fun j d q => ?_⟩
        obtain ⟨v, q1, q2⟩ := er1.at_ j d q
        refine ⟨v, q1, RepX.mono g ?_⟩
        refine q2.map (fun d v => Rep.shift (fun _ _ q => q) (fun a o ea _ m n => ⟨m, fun hm => by
          rcases List.mem_cons.mp hm with e | e
          · rw [e, hD] at ea; cases ea
          · exact n e⟩) d v) (fun b fs ea n1 n2 => ⟨n1, fun hm => by
          rcases List.mem_cons.mp hm with e | e
          · rw [e, hD] at ea; cases ea
          · exact n2 e, ea⟩) fun v h => h.hide (fun a m => l1.has m) hD
      exact (e2.mono gx).wipe own
    cases e1 : p.set c.its[i] (wipeD s own) with
    | none => rw [e1] at f; exact f.elim
    | some s1 =>
      rw [e1] at f
      have f : Fin T W Z (RF T Z H) ρ1 H1 σ ((t s1 h).calm.bind fun b h1 => if b then (m s1 h1).calm.bind fun y h2 => if stays h2 c.watch then lcGo s p t m own c.watch (c.its.drop (i + 1)) h2 (acc ++ [y]) else .bad
            else if stays h1 c.watch then lcGo s p t m own c.watch (c.its.drop (i + 1)) h1 acc else .bad) Q := f
      refine ⟨ρ, D :: Z, wipeD s own, h, c.its[i], s1, lx, erw, rx, e1, fun σ2 er2 off => ⟨?_, ρ, D :: Z, s1, h, lx, er2, ?_⟩⟩
      · rw [off.wipe hv]
        refine List.ext_getElem? fun j => ?_
        rw [wipe_get, wipe_get, wipe_length]
        by_cases hj : j ∈ own ∧ j < σ.length
        · rw [if_pos hj, if_pos hj]
        · rw [if_neg hj, if_neg hj]
      · have gx1 : Gr ρ1 H1 ρ Hx := g.trans gx
        have hdx : Hx D = some (.lst vs) := gx.frm D _ hd nD.1
        have rax := RepL.mono gx _ _ r
        cases et : t s1 h with
        | bad => rw [et] at f; exact f.elim
        | exc x h2 => rw [et] at f; exact f.elim
        | ok b h2 =>
          rw [et] at f
          have f : Fin T W Z (RF T Z H) ρ1 H1 σ (if b then (m s1 h2).calm.bind fun y h3 => if stays h3 c.watch then lcGo s p t m own c.watch (c.its.drop (i + 1)) h3 (acc ++ [y]) else .bad
            else if stays h2 c.watch then lcGo s p t m own c.watch (c.its.drop (i + 1)) h2 acc else .bad) Q := f
          intro ρ2 H2 b' g2 l2 eb
          cases eb
          cases b with
          | false =>
            simp only [Bool.false_eq_true, if_false] at f ⊢
            split at f
            · rename_i st2
              exact ⟨hlt, ρ2, h2, acc, vs, gx1.trans g2, l2, g2.frm D _ hdx nD.1, RepL.mono g2 _ _ rax, Nat.le_succ_of_le ha, st2, f⟩
            · exact f.elim
          | true =>
            simp only [if_true] at f ⊢
            refine ⟨ρ2, D :: Z, s1, h2, l2, er2.mono g2, ?_⟩
            cases em : m s1 h2 with
            | bad => rw [em] at f; exact f.elim
            | exc x h3 => rw [em] at f; exact f.elim
            | ok y h3 =>
              rw [em] at f
              intro ρ3 H3 v g3 l3 r3
              have g23 := g2.trans g3
              have hd3 : H3 D = some (.lst vs) := g23.frm D _ hdx nD.1
              have ra3 := RepL.mono g23 _ _ rax
              have nD3 : D ∉ ρ3 := (l3.hid D (List.mem_cons_self ..)).1
              have hz := sr.len
              have hl : vs.length < sizeLine := by rw [← ra3.length, ← LIM_eq]; omega
              refine ⟨vs, hd3, hl, ?_⟩
              have f : Fin T W Z (RF T Z H) ρ1 H1 σ (if stays h3 c.watch then lcGo s p t m own c.watch (c.its.drop (i + 1)) h3 (acc ++ [y]) else .bad) Q := f
              split at f
              · rename_i st3
                refine ⟨hlt, ρ3, h3, acc ++ [y], vs ++ [v], (gx1.trans g23).hidw hD hd3 nD3, l3.hidw hd3 (fun _ z => nomatch z) (List.mem_cons_self ..), upd_same, ?_, by simp; omega, st3, f⟩
                exact (RepL.hid hd3 (fun _ z => nomatch z) (List.mem_cons_self ..) nD3 _ _ ra3).append (RepL.cons (Rep.hid hd3 (fun _ z => nomatch z) (List.mem_cons_self ..) nD3 _ _ r3) RepL.nil)
              · exact f.elim
  · have e : i = c.its.length := by omega
    subst e
    refine .inl ⟨sstop, ?_⟩
    rw [List.drop_length] at f
    unfold lcGo at f
    refine f ρ H' (.ref D) g l.lose ⟨Nat.le_trans ha sr.len, D, vs, rfl, nD.1, nD.2, hD0, hd, l, r⟩
variable {elt tg iter : Expr} {ifs : List Expr} {scope : Scope} {own : List (Str × Nat)} {pos : Pos}
theorem t_yes {X : Cx} : PTs X [] (rdT T W DM.tYes) := PTs.imp pts_nil fun σ H Q ⟨ρ, Z, s, h, l, er, k⟩ => k.here l rfl
/-- [elt for tg in iter if ..], fresh -/
theorem xf_lc (hc : X.calm = true) (hN : X.N.Nodup) (hi : PI X tg iter (rdI T W i)) (ok : BlkOk X.N X.env.scope scope own) (hv : ∀ j ∈ p.vars, j ∈ own.map (·.2))
    (hg : ∀ (s : Shared) (H : Hp) (C : Addr) (cl : List (Str × Addr)) (fp : List Addr), PG (X.blk s H scope (compEnvC scope cl C X.env) fp) tg (rdG T p)) (ht : ∀ (s : Shared) (H : Hp) (C : Addr) (cl : List (Str × Addr)) (fp : List Addr), PTs (X.blk s H scope (compEnvC scope cl C X.env) fp) ifs (rdT T WN t))
    (he : ∀ (s : Shared) (H : Hp) (C : Addr) (cl : List (Str × Addr)) (fp : List Addr), PE (X.blk s H scope (compEnvC scope cl C X.env) fp) elt (rdE T WN m)) (hs : ∀ x, foldedSetIterable iter X.env x = pure x := by intro _; rfl) :
    PE X (.ListComp elt [⟨tg, iter, ifs, 0⟩] scope pos) (rdF T W (lComp (own.map (·.2)) i p t m)) :=
  PE.imp (pe_lc hc hN hi ok hg ht he hs) fun σ H Q k => lc_read hv k

/-! ### statements -/
def FinS (T : Tx) (W : WX) (Z : List Addr) (ρ : List Addr) (H : Hp) (o : Out) (D : Ends) : Prop :=
  match o with
  | .nx s h => ∀ ρ' H' σ', Gr ρ H ρ' H' → Rl T ρ' Z h H' → EnvR T ρ' Z H' s σ' → D.nx σ' H'
  | .bk s h => ∀ ρ' H' σ', Gr ρ H ρ' H' → Rl T ρ' Z h H' → EnvR T ρ' Z H' s σ' → D.bk σ' H'
  | .ct s h => ∀ ρ' H' σ', Gr ρ H ρ' H' → Rl T ρ' Z h H' → EnvR T ρ' Z H' s σ' → D.ct σ' H'
  | .rt d h => ∀ ρ' H' v, Gr ρ H ρ' H' → Rl T ρ' Z h H' → Rep T ρ' Z H' d v → D.rt v H'
  | .exc x s h => ∀ ρ' H' σ' c d, Gr ρ H ρ' H' → Rl T ρ' Z h H' → EnvR T ρ' Z H' s σ' → XR T ρ' Z H' x c d → W c d σ' H'
  | .bad => False
theorem FinS.grow {T : Tx} {W : WX} {Z ρ ρ' : List Addr} {H H' : Hp} {o : Out} {D : Ends} (g : Gr ρ H ρ' H') (f : FinS T W Z ρ H o D) : FinS T W Z ρ' H' o D := by
  cases o with
  | nx s h => exact fun ρ2 H2 σ2 k => f ρ2 H2 σ2 (g.trans k)
  | bk s h => exact fun ρ2 H2 σ2 k => f ρ2 H2 σ2 (g.trans k)
  | ct s h => exact fun ρ2 H2 σ2 k => f ρ2 H2 σ2 (g.trans k)
  | rt d h => exact fun ρ2 H2 σ2 k => f ρ2 H2 σ2 (g.trans k)
  | exc x s h => exact fun ρ2 H2 σ2 c d k => f ρ2 H2 σ2 c d (g.trans k)
  | bad => exact f
def rdS (T : Tx) (W : WX) (m : SM) : TS := fun D σ H => ∃ ρ Z s h, Rl T ρ Z h H ∧ EnvR T ρ Z H s σ ∧ FinS T W Z ρ H (m s h) D
/-- an expression ahead of a statement's rest -/
theorem out_step {ρ Z : List Addr} {H : Hp} {s : SD} {h : HD} {σ : SV} {f : D → HD → Out} {D : Ends} {Q : VK} (l : Rl T ρ Z h H) (er : EnvR T ρ Z H s σ) (k : FinS T W Z ρ H ((m s h).out s f) D)
    (n : ∀ ρ1 d h1 v H1, Gr ρ H ρ1 H1 → Rl T ρ1 Z h1 H1 → EnvR T ρ1 Z H1 s σ → Rep T ρ1 Z H1 d v → FinS T W Z ρ1 H1 (f d h1) D → Q v H1) : rdE T W m σ H Q := by
  refine ⟨ρ, Z, s, h, l, er, ?_⟩
  cases e : m s h with
  | ok d h1 =>
    rw [e] at k
    exact fun ρ1 H1 v g l1 r => n ρ1 d h1 v H1 g l1 (er.mono g) r (FinS.grow g k)
  | exc x h1 =>
    rw [e] at k
    exact fun ρ1 H1 c d g l1 r => k ρ1 H1 σ c d g l1 (er.mono g) r
  | bad => rw [e] at k; exact k.elim
/-- a fresh list ahead of a store: frozen, boxed -/
theorem fz_step {ρ Z : List Addr} {H : Hp} {s : SD} {h : HD} {σ : SV} {a : AM} {Q Q' : VK} (k : Fin T W Z (RV T Z) ρ H σ (eFz a s h) Q) : Fin T W Z (RF T Z H) ρ H σ (a s h) Q := by
  unfold eFz at k
  cases e : a s h with
  | ok ds h1 =>
    rw [e] at k
    intro ρ1 H1 v g l1 ⟨z, a, xs, ev, n, nz, h0, ha, l2, r⟩
    refine k ρ1 H1 v g l1 ?_
    show Rep T ρ1 Z H1 (.fl ds) v
    rw [Rep]
    exact ⟨z, a, xs, ev, n, nz, ha, RepL.shift (fun _ _ q => q) (fun b o _ _ m n => ⟨m, fun z => n (List.mem_cons_of_mem _ z)⟩) _ _ r⟩
  | exc x h1 => rw [e] at k; exact k
  | bad => rw [e] at k; exact k.elim
theorem bx_step {ρ Z : List Addr} {H : Hp} {s : SD} {h : HD} {σ : SV} {a : AM} {Q Q' : VK} (k : Fin T W Z (RV T Z) ρ H σ (eBx a s h) Q) : Fin T W Z (RF T Z H) ρ H σ (a s h) Q := by
  unfold eBx at k
  cases e : a s h with
  | ok ds h1 =>
    rw [e] at k
    intro ρ1 H1 v g l1 ⟨z, a, xs, ev, n, nz, h0, ha, l2, r⟩
    refine k (ρ1 ++ [a]) H1 v (g.box h0) (l2.box n nz ⟨z, xs, ha, r⟩) ?_
    show Rep T (ρ1 ++ [a]) Z H1 (.ref h1.length) v
    rw [Rep]
    exact ⟨a, by rw [← l1.len]; simp, ev⟩
  | exc x h1 => rw [e] at k; exact k
  | bad => rw [e] at k; exact k.elim
variable {b : SM} {b2 : SM} {st : Stmt} {sts sts2 : List Stmt} {e : Expr}
theorem s_nil : PSs X [] (rdS T W sNx) := PSs.imp pss_nil fun D σ H ⟨ρ, Z, s, h, l, er, k⟩ => k ρ H σ Gr.refl l er
theorem s_pass : PS X (.Pass pos) (rdS T W sNx) := PS.imp ps_pass fun D σ H ⟨ρ, Z, s, h, l, er, k⟩ => k ρ H σ Gr.refl l er
theorem s_break : PS X (.Break pos) (rdS T W sBreak) := PS.imp ps_break fun D σ H ⟨ρ, Z, s, h, l, er, k⟩ => k ρ H σ Gr.refl l er
theorem s_cont : PS X (.Continue pos) (rdS T W sCont) := PS.imp ps_continue fun D σ H ⟨ρ, Z, s, h, l, er, k⟩ => k ρ H σ Gr.refl l er
theorem seq_read {D : Ends} {σ : SV} {H : Hp} (k : rdS T W (sSeq b b2) D σ H) : tSeq (rdS T W b) (rdS T W b2) D σ H := by
  obtain ⟨ρ, Z, s, h, l, er, k⟩ := k
  refine ⟨ρ, Z, s, h, l, er, ?_⟩
  unfold sSeq at k
  cases e : b s h with
  | nx s1 h1 =>
    rw [e] at k
    exact fun ρ1 H1 σ1 g l1 er1 => ⟨ρ1, Z, s1, h1, l1, er1, FinS.grow g k⟩
  | bk s1 h1 => rw [e] at k; exact k
  | ct s1 h1 => rw [e] at k; exact k
  | rt d h1 => rw [e] at k; exact k
  | exc x s1 h1 => rw [e] at k; exact k
  | bad => rw [e] at k; exact k.elim
theorem s_cons (h1 : PS X st (rdS T W b)) (h2 : PSs X sts (rdS T W b2)) : PSs X (st :: sts) (rdS T W (sSeq b b2)) := PSs.imp (pss_cons h1 h2) fun D σ H k => seq_read k
theorem s_one (h1 : PS X st (rdS T W b)) : PSs X [st] (rdS T W b) := pss_one h1
theorem s_never : PSs X sts (rdS T W sNever) := PSs.imp pss_never fun D σ H ⟨ρ, Z, s, h, l, er, k⟩ => k.elim
theorem s_never1 : PS X st (rdS T W sNever) := PS.imp ps_never fun D σ H ⟨ρ, Z, s, h, l, er, k⟩ => k.elim
theorem s_set {i : Nat} {x : Str} {npos : Pos} (hN : X.N.Nodup) (hi : X.N[i]? = some x) (hx : Loc X.env.scope x) (he : PE X e (rdE T W m)) (hf : X.fn x = true ∨ X.env.scope.names.lookup x = some .local := by first | exact .inl rfl | exact .inr rfl | assumption)
    (hs : swapsWithSole [.Name x npos] e pos.line X.env = pure false := by rfl) (hw : swappedStores [.Name x npos] e X.env = pure none := by rfl) : PS X (.Assign [.Name x npos] e pos) (rdS T W (sSet i m)) :=
  PS.imp (ps_asg he (pg_name hN hi hx hf) hs hw) fun D σ H ⟨ρ, Z, s, h, l, er, k⟩ => out_step l er k fun ρ1 d h1 v H1 g l1 er1 r1 k1 => k1 ρ1 H1 _ Gr.refl l1 (er1.set r1 i)
theorem s_pat {tg : Expr} (hg : PG X tg (rdG T p)) (he : PE X e (rdE T W m)) (hs : swapsWithSole [tg] e pos.line X.env = pure false := by rfl) (hw : swappedStores [tg] e X.env = pure none := by rfl) (h1 : (assignEach [tg] X.env).map (·.2) = [assign tg X.env] := by rfl) : PS X (.Assign [tg] e pos) (rdS T W (sPat p m)) :=
  PS.imp (ps_asg he hg hs hw h1) fun D σ H ⟨ρ, Z, s, h, l, er, k⟩ => out_step l er k fun ρ1 d h1 v H1 g l1 er1 r1 k1 => by
    cases e1 : p.set d s with
    | none => rw [e1] at k1; exact k1.elim
    | some t =>
      rw [e1] at k1
      exact ⟨ρ1, Z, s, h1, d, t, l1, er1, r1, e1, fun σ' er' _ => k1 ρ1 H1 σ' Gr.refl l1 er'⟩
theorem s_drop (he : PE X e (rdE T W m)) (hs : swapsWith e none pos.line X.env = pure false := by rfl) : PS X (.Expr e pos) (rdS T W (sDrop m)) :=
  PS.imp (ps_expr he hs) fun D σ H ⟨ρ, Z, s, h, l, er, k⟩ => out_step l er k fun ρ1 d h1 v H1 g l1 er1 r1 k1 => k1 ρ1 H1 _ Gr.refl l1 er1
theorem s_ret (he : PE X e (rdE T W m)) : PS X (.Return (some e) pos) (rdS T W (sRet m)) :=
  PS.imp (ps_ret he) fun D σ H ⟨ρ, Z, s, h, l, er, k⟩ => out_step l er k fun ρ1 d h1 v H1 g l1 er1 r1 k1 => k1 ρ1 H1 _ Gr.refl l1 r1
theorem s_retN : PS X (.Return none pos) (rdS T W sRetN) :=
  PS.imp ps_retN fun D σ H ⟨ρ, Z, s, h, l, er, k⟩ => k ρ H .non Gr.refl l (by rw [Rep])
theorem s_if {c : Expr} (hc : PT X c (rdT T W t)) (ha : PSs X sts (rdS T W b)) (hb : PSs X sts2 (rdS T W b2)) : PS X (.If c sts sts2 pos) (rdS T W (sIf t b b2)) :=
  PS.imp (ps_if hc ha hb) fun D σ H ⟨ρ, Z, s, h, l, er, k⟩ => by
    refine ⟨ρ, Z, s, h, l, er, ?_⟩
    unfold sIf at k
    cases e : t s h with
    | ok c h1 =>
      rw [e] at k
      intro ρ1 H1 c' g l1 ec
      cases ec
      cases c with
      | true => exact ⟨ρ1, Z, s, h1, l1, er.mono g, FinS.grow g k⟩
      | false => exact ⟨ρ1, Z, s, h1, l1, er.mono g, FinS.grow g k⟩
    | exc x h1 =>
      rw [e] at k
      exact fun ρ1 H1 c d g l1 r => k ρ1 H1 σ c d g l1 (er.mono g) r
    | bad => rw [e] at k; exact k.elim
/-- name = [..] on one line -/
theorem s_setLc {y : Str} {py spos : Pos} {n : Nat} {a : AM} (hc : X.calm = true) (hN : X.N.Nodup) (hy : X.N[n]? = some y) (hyl : X.env.scope.names.lookup y = some .local)
    (hsw : swapsWith (.ListComp elt [⟨tg, iter, ifs, 0⟩] scope pos) (some (.Name y py)) spos.line X.env = pure true) (hi : PI X tg iter (rdI T W i)) (ok : BlkOk X.N X.env.scope scope own) (hv : ∀ j ∈ p.vars, j ∈ own.map (·.2))
    (hg : ∀ (s : Shared) (H : Hp) (C : Addr) (cl : List (Str × Addr)) (fp : List Addr), PG (X.blk s H scope (compEnvC scope cl C X.env) fp) tg (rdG T p)) (ht : ∀ (s : Shared) (H : Hp) (C : Addr) (cl : List (Str × Addr)) (fp : List Addr), PTs (X.blk s H scope (compEnvC scope cl C X.env) fp) ifs (rdT T WN t))
    (he : ∀ (s : Shared) (H : Hp) (C : Addr) (cl : List (Str × Addr)) (fp : List Addr), PE (X.blk s H scope (compEnvC scope cl C X.env) fp) elt (rdE T WN m)) (bx : Bool) (hs : ∀ x, foldedSetIterable iter X.env x = pure x := by intro _; rfl) :
    PS X (.Assign [.Name y py] (.ListComp elt [⟨tg, iter, ifs, 0⟩] scope pos) spos) (rdS T W (sSet n (if bx then eBx (lComp (own.map (·.2)) i p t m) else eFz (lComp (own.map (·.2)) i p t m)))) :=
  PS.imp (ps_setLc hc hN hy hyl hsw hi ok hg ht he hs) fun D σ H ⟨ρ, Z, s, h, l, er, k⟩ => by
    have q := out_step (Q := fun v H1 => gName n v σ H1 D.nx) l er k fun ρ1 d h1 v H1 g l1 er1 r1 k1 => k1 ρ1 H1 _ Gr.refl l1 (er1.set r1 n)
    show tLc _ _ _ _ _ σ H (fun v H1 => gName n v σ H1 D.nx)
    refine lc_read hv ?_
    obtain ⟨ρ, Z, s, h, l, er, q⟩ := q
    refine ⟨ρ, Z, s, h, l, er, ?_⟩
    cases bx with
    | true => exact bx_step (Q' := fun _ _ => True) q
    | false => exact fz_step (Q' := fun _ _ => True) q
/-- for -/
theorem s_for {iter tg : Expr} {body : List Stmt} (hp : PassesOwn (model X.prog X.w) X.A X.env X.xe) (hc : X.calm = true) (hi : PI X tg iter (rdI T W i)) (hg : PG X tg (rdG T p)) (hb : PSs X body (rdS T W b))
    (hs : ∀ x, foldedSetIterable iter X.env x = pure x := by intro _; rfl) : PS X (.For tg iter body [] pos) (rdS T W (sFor i p b)) :=
  PS.imp (ps_for hp hc hi hg hb hs) fun D σ0 H0 ⟨ρ0, Z, s0, h0, l0, er0, k⟩ => by
    refine ⟨ρ0, Z, s0, h0, l0, er0, ?_⟩
    unfold sFor at k
    cases ei : i s0 h0 with
    | bad => rw [ei] at k; exact k.elim
    | exc x h1 =>
      rw [ei] at k
      exact fun ρ1 H1 c d g l1 r => k ρ1 H1 σ0 c d g l1 (er0.mono g) r
    | ok c h1 =>
      rw [ei] at k
      intro ρ1 H1 J g1 l1 sr
      have k : FinS T W Z ρ0 H0 (forGo p b c.watch c.its s0 h1) D := k
      refine ⟨fun i m σ H => m = c.its.length - i ∧ i ≤ c.its.length ∧ ∃ ρ h s, Gr ρ1 H1 ρ H ∧ Rl T ρ Z h H ∧ EnvR T ρ Z H s σ ∧ stays h c.watch = true ∧ FinS T W Z ρ H (forGo p b c.watch (c.its.drop i) s h) D,
        ⟨_, rfl, Nat.zero_le _, ρ1, h1, s0, Gr.refl, l1, er0.mono g1, sr.now, FinS.grow g1 k⟩, ?_⟩
      rintro i m' σ H ⟨rfl, hi, ρ, h, s, g, l, er, st, f⟩
      obtain ⟨sgo, sstop⟩ := sr.at_ ρ Z h H g (fun z hz => .inl hz) l st
      by_cases hlt : i < c.its.length
      · obtain ⟨go, yl⟩ := sgo i c.its[i] (by simp [hlt])
        rw [List.drop_eq_getElem_cons hlt] at f
        unfold forGo at f
        refine .inr ⟨go, fun σ2 H2 => i + 1 ≤ c.its.length ∧ ∃ ρ h s, Gr ρ1 H1 ρ H2 ∧ Rl T ρ Z h H2 ∧ EnvR T ρ Z H2 s σ2 ∧ stays h c.watch = true ∧ FinS T W Z ρ H2 (forGo p b c.watch (c.its.drop (i + 1)) s h) D,
          fun σ2 H2 n => ⟨c.its.length - (i + 1), by omega, rfl, n⟩, fun x Hx hx => ?_⟩
        obtain ⟨gx, lx, rx⟩ := yl x Hx hx
        cases e1 : p.set c.its[i] s with
        | none => rw [e1] at f; exact f.elim
        | some s1 =>
          rw [e1] at f
          refine ⟨ρ, Z, s, h, c.its[i], s1, lx, er.mono gx, rx, e1, fun σ2 er2 off => ⟨ρ, Z, s1, h, lx, er2, ?_⟩⟩
          have f : FinS T W Z ρ H (match b s1 h with
            | .nx s2 h2 => if stays h2 c.watch then forGo p b c.watch (c.its.drop (i + 1)) s2 h2 else .bad
            | .ct s2 h2 => if stays h2 c.watch then forGo p b c.watch (c.its.drop (i + 1)) s2 h2 else .bad
            | .bk s2 h2 => .nx s2 h2
            | .rt d h2 => .rt d h2
            | .exc x s2 h2 => .exc x s2 h2
            | .bad => .bad) D := f
          have f := FinS.grow gx f
          have gx1 := g.trans gx
          cases eb : b s1 h with
          | nx s2 h2 =>
            rw [eb] at f
            have f : FinS T W Z ρ Hx (if stays h2 c.watch then forGo p b c.watch (c.its.drop (i + 1)) s2 h2 else .bad) D := f
            split at f
            · rename_i st2
              exact fun ρ2 H2 σ3 g2 l2 er3 => ⟨hlt, ρ2, h2, s2, gx1.trans g2, l2, er3, st2, FinS.grow g2 f⟩
            · exact f.elim
          | ct s2 h2 =>
            rw [eb] at f
            have f : FinS T W Z ρ Hx (if stays h2 c.watch then forGo p b c.watch (c.its.drop (i + 1)) s2 h2 else .bad) D := f
            split at f
            · rename_i st2
              exact fun ρ2 H2 σ3 g2 l2 er3 => ⟨hlt, ρ2, h2, s2, gx1.trans g2, l2, er3, st2, FinS.grow g2 f⟩
            · exact f.elim
          | bk s2 h2 => rw [eb] at f; exact f
          | rt d h2 => rw [eb] at f; exact f
          | exc x s2 h2 => rw [eb] at f; exact f
          | bad => rw [eb] at f; exact f.elim
      · have e : i = c.its.length := by omega
        subst e
        rw [List.drop_length] at f
        unfold forGo at f
        exact .inl ⟨sstop, f ρ H σ Gr.refl l er⟩
/-- while -/
theorem s_while {c : Expr} {body : List Stmt} (n : Nat) (hp : PassesOwn (model X.prog X.w) X.A X.env X.xe) (hc : PT X c (rdT T W t)) (hb : PSs X body (rdS T W b)) : PS X (.While c body [] pos) (rdS T W (sWhile n t b)) :=
  PS.imp (ps_while hp hc hb) fun D σ0 H0 ⟨ρ0, Z, s0, h0, l0, er0, k⟩ => by
    refine ⟨fun m σ H => ∃ ρ s h, Rl T ρ Z h H ∧ EnvR T ρ Z H s σ ∧ FinS T W Z ρ H (whGo t b m s h) D, ⟨n, ρ0, s0, h0, l0, er0, k⟩, ?_⟩
    rintro m σ H ⟨ρ, s, h, l, er, f⟩
    cases m with
    | zero => exact f.elim
    | succ m =>
      refine ⟨ρ, Z, s, h, l, er, ?_⟩
      unfold whGo at f
      cases et : t s h with
      | bad => rw [et] at f; exact f.elim
      | exc x h1 =>
        rw [et] at f
        exact fun ρ1 H1 c d g l1 r => f ρ1 H1 σ c d g l1 (er.mono g) r
      | ok c h1 =>
        rw [et] at f
        intro ρ1 H1 c' g1 l1 ec
        cases ec
        have f := FinS.grow g1 f
        cases c with
        | false => exact f ρ1 H1 σ Gr.refl l1 (er.mono g1)
        | true =>
          simp only [if_true] at f ⊢
          refine ⟨fun σ' H' => ∃ ρ s h, Rl T ρ Z h H' ∧ EnvR T ρ Z H' s σ' ∧ FinS T W Z ρ H' (whGo t b m s h) D, fun σ' H' q => ⟨m, Nat.lt_succ_self m, q⟩, ρ1, Z, s, h1, l1, er.mono g1, ?_⟩
          cases eb : b s h1 with
          | nx s2 h2 => rw [eb] at f; exact fun ρ2 H2 σ2 g2 l2 er2 => ⟨ρ2, s2, h2, l2, er2, FinS.grow g2 f⟩
          | ct s2 h2 => rw [eb] at f; exact fun ρ2 H2 σ2 g2 l2 er2 => ⟨ρ2, s2, h2, l2, er2, FinS.grow g2 f⟩
          | bk s2 h2 => rw [eb] at f; exact f
          | rt d h2 => rw [eb] at f; exact f
          | exc x s2 h2 => rw [eb] at f; exact f
          | bad => rw [eb] at f; exact f.elim
end
end DM
set_option Elab.async false
set_option linter.all false
set_option maxRecDepth 100000
set_option maxHeartbeats 2000000
/-! Machine D: defs, calls, what is let go behind a call. -/
namespace DM
open PySem PySem.Spec PyProof.Rows L2

section
variable {T : Tx} {ρ ρ' Z : List Addr} {H H' : Hp} {h h1 : HD}
mutual
/-- a value points to boxes that are there -/
theorem under_of : ∀ (d : D) (v : V), Rep T ρ Z H d v → D.under ρ.length d = true
  | .non, _, _ => by simp [D.under]
  | .bl _, _, _ => by simp [D.under]
  | .int _, _, _ => by simp [D.under]
  | .str _, _, _ => by simp [D.under]
  | .tup l, _, h => by
    rw [Rep] at h
    obtain ⟨_, a, xs, _, _, r⟩ := h
    rw [D.under]; exact unders_of l xs r
  | .fl l, _, h => by
    rw [Rep] at h
    obtain ⟨_, a, xs, _, _, _, _, r⟩ := h
    rw [D.under]; exact unders_of l xs r
  | .sc l, _, h => by
    rw [Rep] at h
    obtain ⟨_, a, xs, _, _, r⟩ := h
    rw [D.under]; exact unders_of l xs r
  | .fo c l, _, h => by
    rw [Rep] at h
    obtain ⟨_, a, dx, xs, _, _, _, _, r⟩ := h
    rw [D.under]; exact unders_of l xs r
  | .fdk ks l, _, h => by
    rw [Rep] at h
    obtain ⟨_, a, xs, _, _, _, _, r⟩ := h
    rw [D.under]; exact unders_of l xs r
  | .fdt ks l, _, h => by
    rw [Rep] at h
    obtain ⟨_, a, xs, _, _, _, _, r⟩ := h
    rw [D.under]; exact unders_of l xs r
  | .ref n, _, h => by
    rw [Rep] at h
    obtain ⟨a, e, _⟩ := h
    rw [D.under, decide_eq_true_eq]
    exact (List.getElem?_eq_some_iff.mp e).1
  | .ex _ _, _, h => by rw [Rep] at h; exact h.elim
theorem unders_of : ∀ (l : List D) (xs : List V), RepL T ρ Z H l xs → unders ρ.length l = true
  | [], _, _ => by simp [unders]
  | d :: l, _, h => by
    rw [RepL] at h
    obtain ⟨v, r, _, p, q⟩ := h
    rw [unders, under_of d v p, unders_of l r q]; rfl
end
mutual
/-- .. to those of the first ones alone -/
theorem Rep.cut (s : ∃ r, ρ' = ρ ++ r) : ∀ (d : D) (v : V), D.under ρ.length d = true → Rep T ρ' Z H d v → Rep T ρ Z H d v
  | .non, _, _, h => by rw [Rep] at h ⊢; exact h
  | .bl _, _, _, h => by rw [Rep] at h ⊢; exact h
  | .int _, _, _, h => by rw [Rep] at h ⊢; exact h
  | .str _, _, _, h => by rw [Rep] at h ⊢; exact h
  | .tup l, _, u, h => by
    rw [D.under] at u
    rw [Rep] at h ⊢
    obtain ⟨z, a, xs, e, q, r⟩ := h
    exact ⟨z, a, xs, e, q, RepL.cut s l xs u r⟩
  | .fl l, _, u, h => by
    rw [D.under] at u
    rw [Rep] at h ⊢
    obtain ⟨z, a, xs, e, n, nz, q, r⟩ := h
    exact ⟨z, a, xs, e, fun m => n (by obtain ⟨w, rfl⟩ := s; exact List.mem_append_left _ m), nz, q, RepL.cut s l xs u r⟩
  | .sc l, _, u, h => by
    rw [D.under] at u
    rw [Rep] at h ⊢
    obtain ⟨z, a, xs, e, q, r⟩ := h
    exact ⟨z, a, xs, e, q.imp (fun ⟨q, n, nz⟩ => ⟨q, fun m => n (by obtain ⟨w, rfl⟩ := s; exact List.mem_append_left _ m), nz⟩) id, RepL.cut s l xs u r⟩
  | .fo c l, _, u, h => by
    rw [D.under] at u
    rw [Rep] at h ⊢
    obtain ⟨z, a, dx, xs, e, n, nz, q, r⟩ := h
    exact ⟨z, a, dx, xs, e, fun m => n (by obtain ⟨w, rfl⟩ := s; exact List.mem_append_left _ m), nz, q, RepL.cut s l xs u r⟩
  | .fdk ks l, _, u, h => by
    rw [D.under] at u
    rw [Rep] at h ⊢
    obtain ⟨z, a, xs, e, n, nz, q, r⟩ := h
    exact ⟨z, a, xs, e, fun m => n (by obtain ⟨w, rfl⟩ := s; exact List.mem_append_left _ m), nz, q, RepL.cut s l xs u r⟩
  | .fdt ks l, _, u, h => by
    rw [D.under] at u
    rw [Rep] at h ⊢
    obtain ⟨z, a, xs, e, n, nz, q, r⟩ := h
    exact ⟨z, a, xs, e, fun m => n (by obtain ⟨w, rfl⟩ := s; exact List.mem_append_left _ m), nz, q, RepL.cut s l xs u r⟩
  | .ref n, _, u, h => by
    rw [D.under, decide_eq_true_eq] at u
    rw [Rep] at h ⊢
    obtain ⟨a, e, q⟩ := h
    obtain ⟨w, rfl⟩ := s
    rw [List.getElem?_append_left u] at e
    exact ⟨a, e, q⟩
  | .ex _ _, _, _, h => by rw [Rep] at h; exact h.elim
theorem RepL.cut (s : ∃ r, ρ' = ρ ++ r) : ∀ (l : List D) (xs : List V), unders ρ.length l = true → RepL T ρ' Z H l xs → RepL T ρ Z H l xs
  | [], _, _, h => by rw [RepL] at h ⊢; exact h
  | d :: l, _, u, h => by
    rw [unders, Bool.and_eq_true] at u
    rw [RepL] at h ⊢
    obtain ⟨v, r, e, p, q⟩ := h
    exact ⟨v, r, e, Rep.cut s d v u.1 p, RepL.cut s l r u.2 q⟩
end
theorem each_length {α β : Type} {g : α → Option β} : ∀ {l : List α} {m : List β}, each g l = some m → m.length = l.length
  | [], _, e => by cases e; rfl
  | d :: l, m, e => by
    unfold each at e
    split at e
    · rename_i a b e1 e2
      cases e
      simp [each_length e2]
    · cases e
/-- new boxes are frozen -/
theorem freeze_rep (l1 : Rl T ρ' Z h1 H) (s : ∃ r, ρ' = ρ ++ r) : ∀ (f : Nat) (d e : D) (v : V), freeze h1 ρ.length f d = some e → Rep T ρ' Z H d v → Rep T ρ Z H e v
  | 0, _, _, _, k, _ => by simp [freeze] at k
  | f + 1, d, e, v, k, r => by
    have ih := freeze_rep l1 s f
    have sub : ∀ a, a ∉ ρ' → a ∉ ρ := fun a n m => n (by obtain ⟨w, rfl⟩ := s; exact List.mem_append_left _ m)
    have ihl : ∀ (l m : List D) (xs : List V), each (freeze h1 ρ.length f) l = some m → RepL T ρ' Z H l xs → RepL T ρ Z H m xs := fun l => by
      induction l with
      | nil =>
        intro m xs k r
        cases k
        rw [RepL.nil_iff] at r
        subst r
        exact RepL.nil
      | cons d l ihl =>
        intro m xs k r
        unfold each at k
        obtain ⟨va, vb, rfl, ra, rb⟩ := RepL.cons_iff.mp r
        split at k
        · rename_i a b e1 e2
          cases k
          exact RepL.cons (ih _ _ _ e1 ra) (ihl _ _ e2 rb)
        · cases k
    unfold freeze at k
    by_cases u : D.under ρ.length d = true
    · rw [if_pos u] at k
      cases k
      exact Rep.cut s d v u r
    · rw [if_neg u] at k
      cases d with
      | tup l =>
        simp only [Option.map_eq_some_iff] at k
        obtain ⟨m, km, rfl⟩ := k
        rw [Rep] at r ⊢
        obtain ⟨z, a, xs, ev, q, r⟩ := r
        exact ⟨by rw [each_length km]; exact z, a, xs, ev, q, ihl _ _ _ km r⟩
      | fl l =>
        simp only [Option.map_eq_some_iff] at k
        obtain ⟨m, km, rfl⟩ := k
        rw [Rep] at r ⊢
        obtain ⟨z, a, xs, ev, n, nz, q, r⟩ := r
        exact ⟨by rw [each_length km]; exact z, a, xs, ev, sub a n, nz, q, ihl _ _ _ km r⟩
      | fo c l =>
        simp only [Option.map_eq_some_iff] at k
        obtain ⟨m, km, rfl⟩ := k
        rw [Rep] at r ⊢
        obtain ⟨z, a, dx, xs, ev, n, nz, q, r⟩ := r
        exact ⟨by rw [each_length km]; exact z, a, dx, xs, ev, sub a n, nz, q, ihl _ _ _ km r⟩
      | fdk ks l =>
        simp only [Option.map_eq_some_iff] at k
        obtain ⟨m, km, rfl⟩ := k
        rw [Rep] at r ⊢
        obtain ⟨z, a, xs, ev, n, nz, q, r⟩ := r
        exact ⟨by rw [each_length km]; exact z, a, xs, ev, sub a n, nz, q, ihl _ _ _ km r⟩
      | fdt ks l =>
        simp only [Option.map_eq_some_iff] at k
        obtain ⟨m, km, rfl⟩ := k
        rw [Rep] at r ⊢
        obtain ⟨z, a, xs, ev, n, nz, q, r⟩ := r
        exact ⟨by rw [each_length km]; exact z, a, xs, ev, sub a n, nz, q, ihl _ _ _ km r⟩
      | ref m =>
        rw [Rep] at r
        obtain ⟨a, ea, rfl⟩ := r
        rw [D.under, decide_eq_true_eq] at u
        have na : a ∉ ρ := fun mm => by
          obtain ⟨w, rfl⟩ := s
          obtain ⟨i, hi⟩ := List.mem_iff_getElem?.mp mm
          have hi' : (ρ ++ w)[i]? = some a := by rw [List.getElem?_append_left (List.getElem?_eq_some_iff.mp hi).1]; exact hi
          obtain ⟨i1, e1⟩ := List.getElem?_eq_some_iff.mp hi'
          obtain ⟨i2, e2⟩ := List.getElem?_eq_some_iff.mp ea
          have := (List.getElem_inj l1.nd).mp (e1.trans e2.symm)
          exact u (this ▸ (List.getElem?_eq_some_iff.mp hi).1)
        have nz : a ∉ Z := fun mm => (l1.hid a mm).1 (List.mem_iff_getElem?.mpr ⟨m, ea⟩)
        obtain ⟨o, eo, ob⟩ := l1.at_ ea
        have k : (match h1[m]? with
          | some (.lst l) => (each (freeze h1 ρ.length f) l).map D.fl
          | some (.dk l) => (each (freeze h1 ρ.length f) (l.map (·.2))).map (D.fdk (l.map (·.1)))
          | some (.dt l) => (each (freeze h1 ρ.length f) (l.map (·.2))).map (D.fdt (l.map (·.1)))
          | some (.ins c l) => (each (freeze h1 ρ.length f) l).map (D.fo c)
          | none => none) = some e := k
        rw [eo] at k
        cases o with
        | lst l =>
          simp only [Option.map_eq_some_iff] at k
          obtain ⟨m, km, rfl⟩ := k
          obtain ⟨z, xs, q, r⟩ := ob
          rw [Rep]
          exact ⟨by rw [each_length km]; exact z, a, xs, rfl, na, nz, q, ihl _ _ _ km r⟩
        | dk l =>
          simp only [Option.map_eq_some_iff] at k
          obtain ⟨m, km, rfl⟩ := k
          obtain ⟨xs, q, r⟩ := ob
          rw [Rep]
          exact ⟨by simp [each_length km], a, xs, rfl, na, nz, q, ihl _ _ _ km r⟩
        | dt l =>
          simp only [Option.map_eq_some_iff] at k
          obtain ⟨m, km, rfl⟩ := k
          obtain ⟨xs, q, r⟩ := ob
          rw [Rep]
          exact ⟨by simp [each_length km], a, xs, rfl, na, nz, q, ihl _ _ _ km r⟩
        | ins c l =>
          simp only [Option.map_eq_some_iff] at k
          obtain ⟨m, km, rfl⟩ := k
          obtain ⟨z, dx, xs, q, r⟩ := ob
          rw [Rep]
          exact ⟨by rw [each_length km]; exact z, a, dx, xs, rfl, na, nz, q, ihl _ _ _ km r⟩
      | _ => simp at k
theorem hsame_eq : ∀ {l m : HD}, hsame l m = true → l = m
  | [], [], _ => rfl
  | [], _ :: _, e => by simp [hsame] at e
  | _ :: _, [], e => by simp [hsame] at e
  | a :: l, b :: m, e => by
    simp only [hsame, Bool.and_eq_true] at e
    rw [hsame_eq e.2]
    congr 1
    have zl : ∀ {κ : Type} [DecidableEq κ] {l m : List (κ × D)}, l.map (·.1) = m.map (·.1) → l.map (·.2) = m.map (·.2) → l = m := fun {κ} _ {l} => by
      induction l with
      | nil => intro m e1 _; cases m with | nil => rfl | cons => simp at e1
      | cons x l ih =>
        intro m e1 e2
        cases m with
        | nil => simp at e1
        | cons y m =>
          simp only [List.map_cons, List.cons.injEq] at e1 e2
          rw [ih e1.2 e2.2]
          congr 1
          exact Prod.ext e1.1 e2.1
    have e1 := e.1
    cases a <;> cases b <;> simp only [O.same, Bool.and_eq_true, decide_eq_true_eq, beq_iff_eq, Bool.false_eq_true] at e1
    · rw [sames_eq _ _ e1]
    · rw [zl e1.1 (sames_eq _ _ e1.2)]
    · rw [zl e1.1 (sames_eq _ _ e1.2)]
    · rw [e1.1, sames_eq _ _ e1.2]
theorem OR.under {a : Addr} {o : O} (q : OR T ρ Z H a o) : O.under ρ.length o = true := by
  cases o with
  | lst l => obtain ⟨_, xs, _, r⟩ := q; exact unders_of _ _ r
  | dk l => obtain ⟨xs, _, r⟩ := q; exact unders_of _ _ r
  | dt l => obtain ⟨xs, _, r⟩ := q; exact unders_of _ _ r
  | ins c l => obtain ⟨_, dx, xs, _, r⟩ := q; exact unders_of _ _ r
theorem OR.cut {a : Addr} {o : O} (s : ∃ r, ρ' = ρ ++ r) (u : O.under ρ.length o = true) (q : OR T ρ' Z H a o) : OR T ρ Z H a o := by
  cases o with
  | lst l => obtain ⟨z, xs, e, r⟩ := q; exact ⟨z, xs, e, RepL.cut s _ _ u r⟩
  | dk l => obtain ⟨xs, e, r⟩ := q; exact ⟨xs, e, RepL.cut s _ _ u r⟩
  | dt l => obtain ⟨xs, e, r⟩ := q; exact ⟨xs, e, RepL.cut s _ _ u r⟩
  | ins c l => obtain ⟨z, dx, xs, e, r⟩ := q; exact ⟨z, dx, xs, e, RepL.cut s _ _ u r⟩
theorem trim_rl (l0 : Rl T ρ Z h H) (g : Gr ρ H ρ' H') (l1 : Rl T ρ' Z h1 H') (hl : h.length ≤ h1.length) (c : clean h h1 = true) : Gr ρ H ρ H' ∧ Rl T ρ Z (h1.take h.length) H' := by
  have gg : Gr ρ H ρ H' := ⟨⟨[], by simp⟩, g.frm', fun _ m n => absurd m n, g.tup⟩
  have sub : ∀ a, a ∈ ρ → a ∈ ρ' := fun a m => by obtain ⟨w, rfl⟩ := g.pre; exact List.mem_append_left _ m
  refine ⟨gg, ⟨by rw [List.length_take, l0.len]; omega, l0.nd, fun n o a e1 e2 => ?_, fun z m => ⟨fun w => (l1.hid z m).1 (sub z w), (l1.hid z m).2⟩, l1.tab⟩⟩
  have hn : n < h.length := by rw [← l0.len]; exact (List.getElem?_eq_some_iff.mp e2).1
  have e1' := e1
  rw [List.getElem?_take_of_lt hn] at e1
  have q := l1.ob n o a e1 (g.get e2)
  refine q.cut g.pre ?_
  unfold clean at c
  rw [Bool.or_eq_true] at c
  rcases c with c | c
  · rw [hsame_eq c] at e1'
    exact (l0.ob n o a e1' e2).under
  · rw [List.all_eq_true] at c
    rw [l0.len]
    exact c o (List.mem_of_getElem? e1')
theorem trim_fin {W : WX} {σ : SV} {Q : VK} {r : Res D} (l0 : Rl T ρ Z h H) (k : Fin T W Z (RV T Z) ρ H σ (trim h r) Q) : Fin T W Z (RV T Z) ρ H σ r Q := by
  cases r with
  | bad => exact k
  | exc x h1 =>
    unfold trim at k
    by_cases hc : (decide (h.length ≤ h1.length) && clean h h1 && unders h.length x.l) = true
    · simp only [hc, if_true] at k
      simp only [Bool.and_eq_true, decide_eq_true_eq] at hc
      intro ρ' H' c d g l1 xr
      obtain ⟨gg, l2⟩ := trim_rl l0 g l1 hc.1.1 hc.1.2
      refine k ρ H' c d gg l2 ?_
      obtain ⟨e, m⟩ := xr
      refine ⟨e, ?_⟩
      have u := hc.2
      revert m u
      cases x.l with
      | nil => exact fun m _ => m
      | cons v t =>
        cases t with
        | nil =>
          rintro ⟨a, w, ed, na, nz, ha, r⟩ u
          refine ⟨a, w, ed, fun m => na (by obtain ⟨q, rfl⟩ := g.pre; exact List.mem_append_left _ m), nz, ha, Rep.cut g.pre _ _ ?_ r⟩
          simp only [unders, Bool.and_true] at u
          rw [l0.len]; exact u
        | cons => intro m; exact m.elim
    · simp only [hc, Bool.false_eq_true, if_false] at k
      exact k
  | ok d h1 =>
    unfold trim at k
    by_cases hc : (decide (h.length ≤ h1.length) && clean h h1) = true
    · simp only [hc, if_true] at k
      cases ef : freeze h1 h.length 60 d with
      | none => rw [ef] at k; exact k
      | some e =>
        rw [ef] at k
        simp only [Bool.and_eq_true, decide_eq_true_eq] at hc
        intro ρ' H' v g l1 r
        obtain ⟨gg, l2⟩ := trim_rl l0 g l1 hc.1 hc.2
        exact k ρ H' v gg l2 (freeze_rep l1 g.pre 60 d e v (by rw [l0.len]; exact ef) r)
    · simp only [hc, Bool.false_eq_true, if_false] at k
      exact k
end

/-! ### promises -/
def spM (T : Tx) (n : Nat) (f : FM) : Sp := fun vs H Q E => vs.length = n ∧ ∃ ρ Z h ds, Rl T ρ Z h H ∧ RepL T ρ Z H ds vs ∧ Fin T (fun c d _ H => E c d H) Z (RV T Z) ρ H [] (f ds h) Q
theorem start_env {T : Tx} {ρ Z : List Addr} {H : Hp} {N : List Str} {ds : List D} {vs : List V} (r : RepL T ρ Z H ds vs) : EnvR T ρ Z H (ds.map some ++ List.replicate (N.length - ds.length) none) (L2.start N vs) := by
  have hl := r.length
  refine ⟨by simp [L2.start, hl], fun i d e => ?_⟩
  by_cases hi : i < ds.length
  · rw [List.getElem?_append_left (by simpa using hi), List.getElem?_map] at e
    cases e1 : ds[i]? with
    | none => rw [e1] at e; cases e
    | some d' =>
      rw [e1] at e
      cases e
      obtain ⟨v, hv, rv⟩ := r.get e1
      refine ⟨v, ?_, .of rv⟩
      unfold L2.start
      rw [List.getElem?_append_left (by simp; omega), List.getElem?_map, hv]
      rfl
  · rw [List.getElem?_append_right (by simpa using hi), List.getElem?_replicate] at e
    split at e <;> simp at e
section
variable {P : Program} {w : World} {K : PySem.W.Frag} {mg : Str → Option Value} {base : Heap} {T : Tx}
theorem fnM_read {N : List Str} {np ns : Nat} (hN : N.length = ns) {b : SM} {vs : List V} {H : Hp} {Q : VK} {E : XK} (h : spM T np (fnM np ns b) vs H Q E) : rdS T (fun c d _ H => E c d H) b { nx := fun _ H' => Q .non H', rt := Q } (L2.start N vs) H := by
  obtain ⟨hl, ρ, Z, h, ds, l, r, k⟩ := h
  have hd : ds.length = np := by rw [r.length, hl]
  unfold fnM at k
  rw [if_pos hd] at k
  refine ⟨ρ, Z, _, h, l, start_env (N := N) r, ?_⟩
  rw [hN, hd]
  cases e : b (ds.map some ++ List.replicate (ns - np) none) h with
  | nx s h1 => rw [e] at k; exact fun ρ' H' σ' g l' er => k ρ' H' .non g l' (by show Rep T ρ' Z H' .non .non; rw [Rep])
  | rt d h1 => rw [e] at k; exact fun ρ' H' v g l' r' => k ρ' H' v g l' r'
  | bk s h1 => rw [e] at k; exact k.elim
  | ct s h1 => rw [e] at k; exact k.elim
  | exc x s h1 => rw [e] at k; exact fun ρ' H' σ' c d g l' er xr => k ρ' H' c d g l' xr
  | bad => rw [e] at k; exact k.elim
/-- THE RULE for a def -/
theorem fn_ok {x qual : Str} {st : Stmt} {f : Addr} {fd : FuncData} {N ps : List Str} {np ns k : Nat} {b : SM} (F : Fun K x qual st f fd) (S : FnScope N ps (defScope st)) (hp : ps.length = np) (hN : N.length = ns)
    (hb : ∀ (cdv : Value) (A : Around) (outer : List Env) (s : Shared) (H : Hp) (E : XK), Room k (A.deeper (envOfC qual (defScope st) s.heap.objs.size f cdv)) →
      PSs (cxOf (L2.CX P w) P w K mg base N qual (defScope st) f cdv A outer s H E) (defBody st) (rdS T (fun c d _ H => E c d H) b)) : FnOk P w K mg base (L2.CX P w) (k + 1) f fd ps (spM T np (fnM np ns b)) :=
  F.okX S (fun vs H Q E h => by rw [hp]; exact h.1) fun cdv A outer s H vs Q E hr h => ⟨_, hb cdv A outer s H E hr, fnM_read hN h⟩
theorem fn_trim {f : Addr} {fd : FuncData} {ps : List Str} {np k : Nat} {m : FM} (F : FnOk P w K mg base (L2.CX P w) k f fd ps (spM T np m)) : FnOk P w K mg base (L2.CX P w) k f fd ps (spM T np fun ds h => trim h (m ds h)) :=
  F.imp fun vs H Q E ⟨hl, ρ, Z, h, ds, l, r, k⟩ => ⟨hl, ρ, Z, h, ds, l, r, trim_fin l k⟩
theorem fn_okT {x qual : Str} {st : Stmt} {f : Addr} {fd : FuncData} {N ps : List Str} {np ns k : Nat} {b : SM} (F : Fun K x qual st f fd) (S : FnScope N ps (defScope st)) (hp : ps.length = np) (hN : N.length = ns)
    (hb : ∀ (cdv : Value) (A : Around) (outer : List Env) (s : Shared) (H : Hp) (E : XK), Room k (A.deeper (envOfC qual (defScope st) s.heap.objs.size f cdv)) →
      PSs (cxOf (L2.CX P w) P w K mg base N qual (defScope st) f cdv A outer s H E) (defBody st) (rdS T (fun c d _ H => E c d H) b)) : FnOk P w K mg base (L2.CX P w) (k + 1) f fd ps (spM T np (fnT np ns b)) := fn_trim (fn_ok F S hp hN hb)
end
section
variable {X : Cx} {T : Tx} {W : WX} {k n : Nat} {f : Addr} {fd : FuncData} {ps : List Str} {fm : FM} {x : Str} {p pos : Pos} {e : Expr} {es : List Expr} {am : AM}
theorem sp_fin {ρ Z : List Addr} {H : Hp} {σ : SV} {r : Res D} {Q : VK} (k : Fin T W Z (RV T Z) ρ H σ r Q) : Fin T (fun c d _ H => WE W σ c d H) Z (RV T Z) ρ H [] r Q := by
  cases r with
  | ok a h => exact k
  | exc x h => exact k
  | bad => exact k
theorem call_read {σ : SV} {H : Hp} {Q : VK} (al : AL am n) (h : rdE T W (eCall fm am) σ H Q) : tCallS (spM T n fm) (WE W) (rdA T W am) σ H Q := by
  obtain ⟨ρ, Z, s, h0, l, er, k⟩ := h
  refine ⟨ρ, Z, s, h0, l, er, ?_⟩
  unfold eCall at k
  cases ea : am s h0 with
  | bad => rw [ea] at k; exact k.elim
  | exc x h1 => rw [ea] at k; exact k
  | ok ds h1 =>
    rw [ea] at k
    intro ρ1 H1 vs g l1 r1
    have r1 : RepL T ρ1 Z H1 ds vs := r1
    exact ⟨by rw [← r1.length]; exact al _ _ _ _ ea, ρ1, Z, h1, ds, l1, r1, sp_fin (Fin.grow g k)⟩
/-- f(e, ..) -/
theorem x_call (F : FnOk X.prog X.w X.K X.mg X.base (L2.CX X.prog X.w) k f fd ps (spM T n fm)) (hr : Room k X.A) (hg : Gl X x) (hm : X.mg x = some (.ref f)) (hk : PySem.W.keepIn X.K (.ref f) = true) (hb : Binds X.K fd ps []) (tk : Takes X W) (al : AL am n)
    (ha : PA X (e :: es) (rdA T W am)) (hd : (x == ("__debug__" : Str)) = false := by decide) (he : starEach (e :: es) X.env = (false, eval e X.env) :: starEach es X.env := by rfl) (hpl : (backTo pos (starEach es X.env)).any (·.1) = false := by rfl) :
    PE X (.Call (.Name x p) (e :: es) [] pos) (rdE T W (eCall fm am)) :=
  PE.imp (pe_callS F hr hg hm hk hb (fun σ => passAt tk σ) ha hd he hpl) fun σ H Q k => call_read al k
end
end DM
set_option Elab.async false
set_option linter.all false
set_option maxRecDepth 100000
set_option maxHeartbeats 2000000
/-! Machine D: stores into lists, dicts, attributes; methods of lists; new instances. -/
namespace DM
open PySem PySem.Spec PyProof.Rows L2

section
variable {T : Tx} {ρ ρ' Z : List Addr} {H H' : Hp} {h h1 : HD}
theorem putK_rep {κ : Type} [DecidableEq κ] {k : κ} {d : D} {v : V} : ∀ {l : List (κ × D)} {xs : List V}, RepL T ρ Z H (l.map (·.2)) xs → Rep T ρ Z H d v →
    ∃ ys, L2.putK ((l.map (·.1)).zip xs) k v = ((DM.putK k d l).map (·.1)).zip ys ∧ RepL T ρ Z H ((DM.putK k d l).map (·.2)) ys := by
  intro l xs r rv
  have hl : l.length = xs.length := by simpa using r.length
  have any_eq : ∀ {l : List (κ × D)} {xs : List V}, l.length = xs.length → (((l.map (·.1)).zip xs).any fun kv => decide (kv.1 = k)) = (l.any fun kv => decide (kv.1 = k)) := fun {l} => by
    induction l with
    | nil => intro xs _; rfl
    | cons a l ih =>
      intro xs e
      cases xs with
      | nil => simp at e
      | cons x xs =>
        simp only [List.map_cons, List.zip_cons_cons, List.any_cons]
        rw [ih (by simpa using e)]
  unfold L2.putK DM.putK
  rw [any_eq hl]
  by_cases ha : (l.any fun kv => decide (kv.1 = k)) = true
  · rw [if_pos ha, if_pos ha]
    clear ha
    induction l generalizing xs with
    | nil =>
      rw [List.map_nil, RepL.nil_iff] at r
      subst r
      exact ⟨[], rfl, RepL.nil⟩
    | cons a l ih =>
      rw [List.map_cons] at r
      obtain ⟨x, t, rfl, rx, rt⟩ := RepL.cons_iff.mp r
      obtain ⟨ys, e, ry⟩ := ih rt (by simpa using hl)
      simp only [List.map_cons, List.zip_cons_cons]
      by_cases hk : a.1 = k
      · refine ⟨v :: ys, ?_, ?_⟩
        · simp only [hk, if_true, List.zip_cons_cons, e]
        · simp only [hk, if_true]
          exact RepL.cons rv ry
      · refine ⟨x :: ys, ?_, ?_⟩
        · simp only [hk, if_false, List.zip_cons_cons, e]
        · simp only [hk, if_false]
          exact RepL.cons rx ry
  · rw [if_neg ha, if_neg ha]
    refine ⟨xs ++ [v], ?_, ?_⟩
    · rw [List.map_append, List.zip_append (by simpa using hl)]
      rfl
    · rw [List.map_append]
      exact r.append (RepL.cons rv RepL.nil)
theorem zip_length {κ : Type} {l : List (κ × D)} {xs : List V} (r : RepL T ρ Z H (l.map (·.2)) xs) : ((l.map (·.1)).zip xs).length = l.length := by
  have := r.length
  simp only [List.length_map] at this
  simp [this]
theorem putF_zip {f : Str} {v : V} : ∀ {fs : List Str} {xs ys : List V} {i : Nat}, fs.Nodup → fs[i]? = some f → putAt xs i v = some ys → putF f v (fs.zip xs) = fs.zip ys
  | [], _, _, _, _, e, _ => by simp at e
  | g :: fs, [], ys, i, nd, e, p => by
    unfold putAt at p
    rw [if_neg (by simp)] at p
    split at p
    · rename_i hi
      cases p
      have : i = 0 := by simpa using hi
      subst this
      simp at e; subst e
      simp [putF]
    · cases p
  | g :: fs, x :: xs, ys, 0, nd, e, p => by
    unfold putAt at p
    simp at p e
    subst p e
    simp [putF]
  | g :: fs, x :: xs, ys, i + 1, nd, e, p => by
    have hg : g ≠ f := fun z => by
      subst z
      rw [List.nodup_cons] at nd
      exact nd.1 (List.mem_of_getElem? (by simpa using e))
    unfold putAt at p
    have hp : ∃ zs, putAt xs i v = some zs ∧ ys = x :: zs := by
      unfold putAt
      by_cases h1 : i + 1 < (x :: xs).length
      · rw [if_pos h1] at p
        cases p
        rw [if_pos (by simpa using h1)]
        exact ⟨_, rfl, rfl⟩
      · rw [if_neg h1] at p
        by_cases h2 : i + 1 = (x :: xs).length
        · rw [if_pos h2] at p
          cases p
          have h2' : i = xs.length := by simpa using h2
          rw [if_neg (by omega), if_pos h2']
          exact ⟨_, rfl, rfl⟩
        · rw [if_neg h2] at p; cases p
    obtain ⟨zs, hz, rfl⟩ := hp
    simp only [List.zip_cons_cons, putF, if_neg hg]
    rw [putF_zip (List.nodup_cons.mp nd).2 (by simpa using e) hz]
theorem lookup_zip {f : Str} {v : V} : ∀ {fs : List Str} {xs : List V} {i : Nat}, fs.Nodup → fs[i]? = some f → xs[i]? = some v → (fs.zip xs).lookup f = some v
  | [], _, _, _, e, _ => by simp at e
  | g :: fs, [], _, _, _, p => by simp at p
  | g :: fs, x :: xs, 0, nd, e, p => by
    simp at e p
    subst e p
    simp [List.lookup]
  | g :: fs, x :: xs, i + 1, nd, e, p => by
    have hg : g ≠ f := fun z => by
      subst z
      rw [List.nodup_cons] at nd
      exact nd.1 (List.mem_of_getElem? (by simpa using e))
    simp only [List.zip_cons_cons, List.lookup_cons]
    have : (f == g) = false := beq_eq_false_iff_ne.mpr fun z => hg z.symm
    rw [this]
    exact lookup_zip (List.nodup_cons.mp nd).2 (by simpa using e) (by simpa using p)
theorem putAt_rep {l m : List D} {xs : List V} {d : D} {v : V} {i : Nat} (r : RepL T ρ Z H l xs) (rv : Rep T ρ Z H d v) (e : putAt l i d = some m) : ∃ ys, putAt xs i v = some ys ∧ RepL T ρ Z H m ys ∧ m.length ≤ max l.length (i + 1) := by
  have hl := r.length
  unfold putAt at e ⊢
  rw [← hl]
  by_cases h1 : i < l.length
  · rw [if_pos h1] at e ⊢
    cases e
    exact ⟨_, rfl, r.set rv i, by simp; omega⟩
  · rw [if_neg h1] at e ⊢
    by_cases h2 : i = l.length
    · rw [if_pos h2] at e ⊢
      cases e
      exact ⟨_, rfl, r.append (RepL.cons rv RepL.nil), by simp; omega⟩
    · rw [if_neg h2] at e; cases e
end

/-! ### o[i] = v -/
def setR (T : Tx) : TSet := fun o i v H Q => ∃ ρ Z h c k d h', Rl T ρ Z h H ∧ Rep T ρ Z H c o ∧ Rep T ρ Z H k i ∧ Rep T ρ Z H d v ∧ setIt h c k d = some h' ∧ ∀ H', Gr ρ H ρ H' → Rl T ρ Z h' H' → Q H'
theorem p_set {X : Cx} {T : Tx} (hu : X.A.units + 1 < cLine) : PSet X (setR T) := by
  intro pins s σ H o i v ov iv u Q I ro ri rv ⟨ρ, Z, h, c, k, d, h', l, rc, rk, rd, e, q⟩
  cases c with
  | ref n =>
    rw [Rep] at rc
    obtain ⟨a, ha, rfl⟩ := rc
    obtain ⟨ob, eo, rob⟩ := l.at_ ha
    unfold setIt at e
    simp only [eo] at e
    have ea : ov = .ref a := ro
    cases ob with
    | lst xs =>
      cases k with
      | int j =>
        simp only [Option.map_eq_some_iff] at e
        obtain ⟨m, hm, rfl⟩ := e
        rw [Rep] at rk
        subst rk
        obtain ⟨z, ys, hy, rl⟩ := rob
        have hx : ixN ys.length j = some m := by
          unfold ixOf at hm
          unfold ixN
          rw [← rl.length]
          split at hm
          · rename_i h0
            split at hm
            · cases hm
              rw [if_pos h0, if_pos (by omega)]
            · cases hm
          · rename_i h0
            split at hm
            · cases hm
              rw [if_neg h0, if_pos (by omega)]
            · cases hm
        have w := l.write (n := n) (x := .lst (xs.set m d)) (o := .lst (ys.set m v)) ha (by rw [hy]; intro xs z; cases z) (by
          refine ⟨by simpa using z, _, upd_same, ?_⟩
          have g : Gr ρ H ρ (upd H a (.lst (ys.set m v))) := l.gr_upd (List.mem_iff_getElem?.mpr ⟨n, ha⟩)
          exact RepL.mono g _ _ (rl.set rd m))
        exact set_list pins s σ H _ _ v ov iv u Q I ro ri rv ⟨a, ys, j, m, rfl, rfl, hy, hx, q _ w.2 w.1⟩
      | _ => cases e
    | dk xs =>
      simp only [Option.bind_eq_some_iff] at e
      obtain ⟨kk, hk, e⟩ := e
      split at e
      · rename_i hz
        cases e
        obtain ⟨ys, hy, rl⟩ := rob
        have key := keyOf_rep rk hk
        subst key
        obtain ⟨zs, e1, rz⟩ := putK_rep (k := kk) rl rd
        have g : ∀ o, Gr ρ H ρ (upd H a o) := fun o => l.gr_upd (List.mem_iff_getElem?.mpr ⟨n, ha⟩)
        have w := l.write (n := n) (x := .dk (DM.putK kk d xs)) (o := .dK (L2.putK ((xs.map (·.1)).zip ys) kk v)) ha (by rw [hy]; intro xs z; cases z) ⟨zs, by rw [upd_same, e1], RepL.mono (g _) _ _ rz⟩
        subst ea
        refine d_setItem hu I (DPut.k hy (by rw [zip_length rl, ← LIM_eq]; exact hz)) ri rv fun s' I' => ⟨_, I', q _ w.2 w.1⟩
      · cases e
    | dt xs =>
      simp only [Option.bind_eq_some_iff] at e
      obtain ⟨kk, hk, e⟩ := e
      split at e
      · rename_i hz
        cases e
        obtain ⟨ys, hy, rl⟩ := rob
        obtain ⟨b, rfl, hb⟩ := tkey_rep rk hk
        obtain ⟨zs, e1, rz⟩ := putK_rep (k := kk) rl rd
        have g : ∀ o, Gr ρ H ρ (upd H a o) := fun o => l.gr_upd (List.mem_iff_getElem?.mpr ⟨n, ha⟩)
        have w := l.write (n := n) (x := .dt (DM.putK kk d xs)) (o := .dT (L2.putK ((xs.map (·.1)).zip ys) kk v)) ha (by rw [hy]; intro xs z; cases z) ⟨zs, by rw [upd_same, e1], RepL.mono (g _) _ _ rz⟩
        subst ea
        refine d_setItem hu I (DPut.t hy hb (by rw [zip_length rl, ← LIM_eq]; exact hz)) ri rv fun s' I' => ⟨_, I', q _ w.2 w.1⟩
      · cases e
    | ins c l => cases e
  | _ => cases e

/-! ### attributes -/
/-- what the text says of a class -/
structure ClsK (T : Tx) (c : Nat) : Prop where
  cls : Cls T.K (T.ca c)
  nd : (T.fs c).Nodup
  no : ∀ f ∈ T.fs c, NoAttr T.K (T.ca c) f
  few : (T.fs c).length < 1000
section
variable {X : Cx} {T : Tx} {W : WX} {c i : Nat} {f : Str} {e o : Expr} {pos apos : Pos} {m mo : EM}
theorem fld_get {ρ Z : List Addr} {h : HD} {H : Hp} {d x : D} {v : V} (l : Rl T ρ Z h H) (r : Rep T ρ Z H d v) (e : opFld c i h d = some x) : ∃ a dx xs u, v = .ref a ∧ H a = some (.ins (T.ca c) dx ((T.fs c).zip xs)) ∧ xs[i]? = some u ∧ Rep T ρ Z H x u := by
  unfold opFld at e
  cases d with
  | fo c' l' =>
    simp only at e
    split at e
    · rename_i hc
      subst hc
      rw [Rep] at r
      obtain ⟨z, a, dx, xs, rfl, _, _, q, rl⟩ := r
      obtain ⟨u, hu, ru⟩ := rl.get e
      exact ⟨a, dx, xs, u, rfl, q, hu, ru⟩
    · cases e
  | ref n =>
    simp only at e
    rw [Rep] at r
    obtain ⟨a, ha, rfl⟩ := r
    obtain ⟨ob, eo, rob⟩ := l.at_ ha
    rw [eo] at e
    cases ob with
    | ins c' l' =>
      simp only at e
      split at e
      · rename_i hc
        subst hc
        obtain ⟨z, dx, xs, q, rl⟩ := rob
        obtain ⟨u, hu, ru⟩ := rl.get e
        exact ⟨a, dx, xs, u, rfl, q, hu, ru⟩
      · cases e
    | _ => cases e
  | _ => cases e
/-- o.f -/
theorem x_fld (hK : X.K = T.K) (C : ClsK T c) (hf : (T.fs c)[i]? = some f) (he : PE X e (rdE T W m)) (hb : attributeBase e f X.env (eval e X.env) = eval e X.env := by rfl) : PE X (.Attribute e f pos) (rdE T W (eUn (opFld c i) m)) :=
  PE.imp (pe_fld he hb) fun σ H Q ⟨ρ, Z, s, h, l, er, k⟩ => Fin.step l er k fun ρ1 d h1 v H1 g l1 er1 r1 k1 => by
    obtain ⟨x, ex, k2⟩ := k1.res
    obtain ⟨a, dx, xs, u, rfl, hq, hu, ru⟩ := fld_get l1 r1 ex
    exact ⟨a, T.ca c, dx, _, u, rfl, hq, by rw [hK]; exact C.cls, by rw [hK]; exact C.no f (List.mem_of_getElem? hf), lookup_zip C.nd hf hu, k2.here l1 ru⟩
/-! ### targets that write -/
def rdM (T : Tx) (g : GM) : TG := fun v σ H Q => ∃ ρ Z s h d s' h', Rl T ρ Z h H ∧ EnvR T ρ Z H s σ ∧ Rep T ρ Z H d v ∧ g s h d = some (s', h') ∧ ∀ ρ' H' σ', Gr ρ H ρ' H' → Rl T ρ' Z h' H' → EnvR T ρ' Z H' s' σ' → Q σ' H'
def rdMs (T : Tx) (gs : List GM) : TGs := fun vs σ H Q => ∃ ρ Z s h ds s' h', Rl T ρ Z h H ∧ EnvR T ρ Z H s σ ∧ RepL T ρ Z H ds vs ∧ gsGo gs ds s h = some (s', h') ∧ ∀ ρ' H' σ', Gr ρ H ρ' H' → Rl T ρ' Z h' H' → EnvR T ρ' Z H' s' σ' → Q σ' H'
theorem m_nm {x : Str} (hN : X.N.Nodup) (hi : X.N[i]? = some x) (hx : Loc X.env.scope x) (hf : X.fn x = true ∨ X.env.scope.names.lookup x = some .local := by first | exact .inl rfl | exact .inr rfl | assumption) : PG X (.Name x pos) (rdM T (gNm i)) :=
  PG.imp (pg_name hN hi hx hf) fun v σ H Q ⟨ρ, Z, s, h, d, s', h', l, er, r, e, k⟩ => by
    cases e
    exact k ρ H _ Gr.refl l (er.set r i)
theorem m_sb {o i : Expr} {mo mi : EM} (hu : X.A.units + 1 < cLine) (ho : PE X o (rdE T WN mo)) (hi : PE X i (rdE T WN mi)) (ha : ∀ v, assign (.Subscript o i pos) X.env v = (do
      let ov ← holding [v] (eval o X.env)
      let iv ← holding [v, ov] (eval i X.env)
      standAt pos
      holding [v, ov, iv] (setItem ov iv v)
      release [v, ov, iv] []) := by intro _; rfl) : PG X (.Subscript o i pos) (rdM T (gSb mo mi)) :=
  PG.imp (pg_sub ho hi (p_set hu) ha) fun v σ H Q ⟨ρ, Z, s, h, d, s', h', l, er, r, e, k⟩ => by
    unfold gSb at e
    refine ⟨ρ, Z, s, h, l, er, ?_⟩
    cases e1 : mo s h with
    | ok c h1 =>
      rw [e1] at e
      intro ρ1 H1 v1 g1 l1 r1
      refine ⟨ρ1, Z, s, h1, l1, er.mono g1, ?_⟩
      simp only at e
      cases e2 : mi s h1 with
      | ok kk h2 =>
        rw [e2] at e
        intro ρ2 H2 v2 g2 l2 r2
        simp only [Option.map_eq_some_iff] at e
        obtain ⟨h3, e3, e⟩ := e
        cases e
        refine ⟨ρ2, Z, h2, c, kk, d, h', l2, Rep.mono g2 _ _ r1, r2, Rep.mono (g1.trans g2) _ _ r, e3, fun H3 g3 l3 => k ρ2 H3 σ ((g1.trans g2).trans g3) l3 (er.mono ((g1.trans g2).trans g3))⟩
      | exc x h2 => rw [e2] at e; cases e
      | bad => rw [e2] at e; cases e
    | exc x h1 => rw [e1] at e; cases e
    | bad => rw [e1] at e; cases e
theorem fld_put {ρ Z : List Addr} {h h' : HD} {H : Hp} {x d : D} {u v : V} (C : ClsK T c) (hf : (T.fs c)[i]? = some f) (l : Rl T ρ Z h H) (rx : Rep T ρ Z H x u) (rd : Rep T ρ Z H d v) (e : setFld c i h x d = some h') :
    ∃ a dx fs, u = .ref a ∧ H a = some (.ins (T.ca c) dx fs) ∧ fs.length < 1000 ∧ Gr ρ H ρ (upd H a (.ins (T.ca c) dx (putF f v fs))) ∧ Rl T ρ Z h' (upd H a (.ins (T.ca c) dx (putF f v fs))) := by
  unfold setFld at e
  cases x with
  | ref n =>
    simp only at e
    rw [Rep] at rx
    obtain ⟨a, ha, rfl⟩ := rx
    obtain ⟨ob, eo, rob⟩ := l.at_ ha
    rw [eo] at e
    cases ob with
    | ins c' l' =>
      simp only at e
      split at e
      · rename_i hc
        subst hc
        simp only [Option.map_eq_some_iff] at e
        obtain ⟨m, hm, rfl⟩ := e
        obtain ⟨z, dx, xs, q, rl⟩ := rob
        obtain ⟨ys, hy, ry, hmax⟩ := putAt_rep rl rd hm
        have hi := (List.getElem?_eq_some_iff.mp hf).1
        have hput := putF_zip C.nd hf hy
        have g : ∀ o, Gr ρ H ρ (upd H a o) := fun o => l.gr_upd (List.mem_iff_getElem?.mpr ⟨n, ha⟩)
        have w := l.write (n := n) (x := .ins c m) (o := .ins (T.ca c) dx (putF f v ((T.fs c).zip xs))) ha (by rw [q]; intro xs z; cases z) ⟨by omega, dx, ys, by rw [upd_same, hput], RepL.mono (g _) _ _ ry⟩
        exact ⟨a, dx, _, rfl, q, by have := C.few; simp; omega, w.2, w.1⟩
      · cases e
    | _ => cases e
  | _ => cases e
theorem m_fl (hK : X.K = T.K) (C : ClsK T c) (hf : (T.fs c)[i]? = some f) (ho : PE X o (rdE T WN mo)) (ha : ∀ v, assign (.Attribute o f pos) X.env v = (do
      let ov ← holding [v] (eval o X.env)
      standAt pos
      holding [v, ov] (setAttr ov f v)
      release [v, ov] []) := by intro _; rfl) : PG X (.Attribute o f pos) (rdM T (gFl c i mo)) := by
  refine ⟨fun pins s σ H v u Q I r ⟨ρ, Z, sd, h, d, s', h', l, er, rd, e, k⟩ => ?_⟩
  rw [ha]
  unfold gFl at e
  have he : rdE T WN mo σ H fun x H1 => ∃ ρ1 h1 xd h2, Gr ρ H ρ1 H1 ∧ Rl T ρ1 Z h1 H1 ∧ Rep T ρ1 Z H1 xd x ∧ setFld c i h1 xd d = some h2 ∧ s' = sd ∧ h' = h2 := by
    refine ⟨ρ, Z, sd, h, l, er, ?_⟩
    cases e1 : mo sd h with
    | ok x h1 =>
      rw [e1] at e
      simp only [Option.map_eq_some_iff] at e
      obtain ⟨h2, e2, e⟩ := e
      cases e
      exact fun ρ1 H1 v1 g1 l1 r1 => ⟨ρ1, h1, x, h', g1, l1, r1, e2, rfl, rfl⟩
    | exc x h1 => rw [e1] at e; cases e
    | bad => rw [e1] at e; cases e
  refine wpAny_bind (wpAny_holding (thn (ho.run pins s σ H _ I he) fun ov s1 ⟨x, H1, I1, rx, ρ1, h1, xd, h2, g1, l1, r1, e2, es, eh⟩ => ?_))
  refine wpAny_bind (wpAny_standAt (wpAny_bind (wpAny_holding ?_)))
  obtain ⟨a, dx, fs, rfl, hq, hl, g2, l2⟩ := fld_put C hf l1 r1 (Rep.mono g1 _ _ rd) e2
  obtain rfl : ov = Value.ref a := rx
  refine setattr_ok I1 hq (by rw [hK]; exact C.cls) (by rw [hK]; exact C.no f (List.mem_of_getElem? hf)) hl r fun s2 I2 => ?_
  subst es eh
  exact wpAny_release ⟨σ, _, I2, k ρ1 _ σ (g1.trans g2) l2 (er.mono (g1.trans g2))⟩
theorem ms_nil : PGs X [] (rdMs T []) := PGs.imp pgs_nil fun v σ H Q ⟨ρ, Z, s, h, d, s', h', l, er, r, e, k⟩ => by
  cases d with
  | nil =>
    cases e
    exact ⟨RepL.nil_iff.mp r, k ρ H σ Gr.refl l er⟩
  | cons a b => cases e
theorem ms_cons {es : List Expr} {g : GM} {gs : List GM} (h1 : PG X e (rdM T g)) (h2 : PGs X es (rdMs T gs)) (hs : (assignEach (e :: es) X.env).map (·.2) = assign e X.env :: (assignEach es X.env).map (·.2) := by rfl) : PGs X (e :: es) (rdMs T (g :: gs)) :=
  PGs.imp (pgs_cons h1 h2 hs) fun v σ H Q ⟨ρ, Z, s, h, d, s', h', l, er, r, e, k⟩ => by
    cases d with
    | nil => cases e
    | cons a b =>
      unfold gsGo at e
      obtain ⟨va, vb, rfl, ra, rb⟩ := RepL.cons_iff.mp r
      cases e1 : g s h a with
      | none => rw [e1] at e; cases e
      | some p =>
        obtain ⟨s1, h1⟩ := p
        rw [e1] at e
        exact ⟨va, vb, rfl, ρ, Z, s, h, a, s1, h1, l, er, ra, e1, fun ρ1 H1 σ1 g1 l1 er1 => ⟨ρ1, Z, s1, h1, b, s', h', l1, er1, RepL.mono g1 _ _ rb, e, fun ρ2 H2 σ2 g2 l2 er2 => k ρ2 H2 σ2 (g1.trans g2) l2 er2⟩⟩
theorem gsGo_length : ∀ {gs : List GM} {ds : List D} {s s' : SD} {h h' : HD}, gsGo gs ds s h = some (s', h') → ds.length = gs.length
  | [], [], _, _, _, _, _ => rfl
  | [], _ :: _, _, _, _, _, e => by cases e
  | _ :: _, [], _, _, _, _, e => by cases e
  | g :: gs, d :: ds, s, s', h, h', e => by
    unfold gsGo at e
    split at e
    · simp [gsGo_length e]
    · cases e
theorem m_tp {es : List Expr} {gs : List GM} {k : Nat} (hc : X.calm = true) (h : PGs X es (rdMs T gs)) (hn : (assignEach es X.env).length = gs.length := by rfl) (hst : (assignEach es X.env).findIdx? (·.1) = none := by rfl) : PG X (.Tuple es k pos) (rdM T (gTp gs)) :=
  PG.imp (pg_tup hc h hn hst) fun v σ H Q ⟨ρ, Z, s, h, d, s', h', l, er, r, e, k⟩ => by
    cases d with
    | tup ds =>
      rw [Rep] at r
      obtain ⟨z, a, xs, rfl, hq, rl⟩ := r
      exact ⟨a, xs, rfl, .inl (.inl hq), by rw [← rl.length, gsGo_length e], ρ, Z, s, h, ds, s', h', l, er, rl, e, k⟩
    | _ => cases e
theorem s_asg {tg : Expr} {g : GM} (hg : PG X tg (rdM T g)) (he : PE X e (rdE T W m)) (hs : swapsWithSole [tg] e pos.line X.env = pure false := by rfl) (hw : swappedStores [tg] e X.env = pure none := by rfl) (h1 : (assignEach [tg] X.env).map (·.2) = [assign tg X.env] := by rfl) : PS X (.Assign [tg] e pos) (rdS T W (sAsg g m)) :=
  PS.imp (ps_asg he hg hs hw h1) fun D σ H ⟨ρ, Z, s, h, l, er, k⟩ => out_step l er k fun ρ1 d h1 v H1 g1 l1 er1 r1 k1 => by
    cases e1 : g s h1 d with
    | none => rw [e1] at k1; exact k1.elim
    | some p =>
      obtain ⟨s2, h2⟩ := p
      rw [e1] at k1
      exact ⟨ρ1, Z, s, h1, d, s2, h2, l1, er1, r1, e1, fun ρ' H' σ' g' l' er' => k1 ρ' H' σ' g' l' er'⟩
/-! ### a, b = x, y of plain locals -/
theorem par_read {is : List Nat} {am : AM} {D : Ends} {σ : SV} {H : Hp} (k : rdS T W (sPar is am) D σ H) : rdA T W am σ H fun vs H1 => ∃ ρ Z s h ds t, Rl T ρ Z h H1 ∧ EnvR T ρ Z H1 s σ ∧ RepL T ρ Z H1 ds vs ∧ setsN is ds s = some t ∧ ∀ σ', EnvR T ρ Z H1 t σ' → D.nx σ' H1 := by
  obtain ⟨ρ, Z, s, h, l, er, k⟩ := k
  refine ⟨ρ, Z, s, h, l, er, ?_⟩
  unfold sPar at k
  cases e : am s h with
  | ok ds h1 =>
    rw [e] at k
    intro ρ1 H1 vs g l1 r
    cases e2 : setsN is ds s with
    | none => simp only [e2] at k; exact k.elim
    | some t =>
      simp only [e2] at k
      exact ⟨ρ1, Z, s, h1, ds, t, l1, er.mono g, r, e2, fun σ' er' => k ρ1 H1 σ' g l1 er'⟩
  | exc x h1 =>
    rw [e] at k
    exact fun ρ1 H1 c d g l1 r => k ρ1 H1 σ c d g l1 (er.mono g) r
  | bad => rw [e] at k; exact k.elim
theorem s_par {j : Nat} {x y : Str} {a b : Expr} {am : AM} {px py pt : Pos} {kt k2 pt2} (hc : X.calm = true) (hN : X.N.Nodup) (hi : X.N[i]? = some x) (hj : X.N[j]? = some y) (hij : i ≠ j)
    (hx : X.env.scope.names.lookup x = some .local) (hy : X.env.scope.names.lookup y = some .local) (ha : PA X [a, b] (rdA T W am))
    (hw : swappedStores [.Tuple [.Name x px, .Name y py] kt pt] (.Tuple [a, b] k2 pt2) X.env = pure (some [x, y]))
    (hs : swapsWithSole [.Tuple [.Name x px, .Name y py] kt pt] (.Tuple [a, b] k2 pt2) pos.line X.env = pure false := by rfl) :
    PS X (.Assign [.Tuple [.Name x px, .Name y py] kt pt] (.Tuple [a, b] k2 pt2) pos) (rdS T W (sPar [i, j] am)) :=
  PS.imp (ps_par hc hN hi hj hij hx hy ha hw hs) fun D σ H k => by
    obtain ⟨ρ, Z, s, h, l, er, k⟩ := par_read k
    refine ⟨ρ, Z, s, h, l, er, k.imp fun vs H1 ⟨ρ, Z, s, h, ds, t, l, er, r, e, q⟩ => ?_⟩
    match ds, r, e with
    | [d1, d2], r, e =>
      obtain ⟨v1, r1, rfl, rv1, r⟩ := RepL.cons_iff.mp r
      obtain ⟨v2, r2, rfl, rv2, r⟩ := RepL.cons_iff.mp r
      rw [RepL.nil_iff] at r
      subst r
      cases e
      exact ⟨v1, v2, rfl, q _ ((er.set rv1 i).set rv2 j)⟩
    | [], r, e => cases e
    | [_], r, e => cases e
    | _ :: _ :: _ :: _, r, e => cases e
theorem s_par3 {j n : Nat} {x y z : Str} {a b c : Expr} {am : AM} {px py pz pt pos : Pos} {kt k2 pt2} (hc : X.calm = true) (hN : X.N.Nodup) (hi : X.N[i]? = some x) (hj : X.N[j]? = some y) (hl : X.N[n]? = some z) (hij : i ≠ j) (hil : i ≠ n) (hjl : j ≠ n)
    (hx : X.env.scope.names.lookup x = some .local) (hy : X.env.scope.names.lookup y = some .local) (hz : X.env.scope.names.lookup z = some .local) (ha : PA X [a, b, c] (rdA T W am))
    (hw : swappedStores [.Tuple [.Name x px, .Name y py, .Name z pz] kt pt] (.Tuple [a, b, c] k2 pt2) X.env = pure (some [x, y, z]))
    (hs : swapsWithSole [.Tuple [.Name x px, .Name y py, .Name z pz] kt pt] (.Tuple [a, b, c] k2 pt2) pos.line X.env = pure false := by rfl) :
    PS X (.Assign [.Tuple [.Name x px, .Name y py, .Name z pz] kt pt] (.Tuple [a, b, c] k2 pt2) pos) (rdS T W (sPar [i, j, n] am)) :=
  PS.imp (ps_par3 hc hN hi hj hl hij hil hjl hx hy hz ha hw hs) fun D σ H k => by
    obtain ⟨ρ, Z, s, h, l, er, k⟩ := par_read k
    refine ⟨ρ, Z, s, h, l, er, k.imp fun vs H1 ⟨ρ, Z, s, h, ds, t, l, er, r, e, q⟩ => ?_⟩
    match ds, r, e with
    | [d1, d2, d3], r, e =>
      obtain ⟨v1, r1, rfl, rv1, r⟩ := RepL.cons_iff.mp r
      obtain ⟨v2, r2, rfl, rv2, r⟩ := RepL.cons_iff.mp r
      obtain ⟨v3, r3, rfl, rv3, r⟩ := RepL.cons_iff.mp r
      rw [RepL.nil_iff] at r
      subst r
      cases e
      exact ⟨v1, v2, v3, rfl, q _ (((er.set rv1 i).set rv2 j).set rv3 n)⟩
    | [], r, e => cases e
    | [_], r, e => cases e
    | [_, _], r, e => cases e
    | _ :: _ :: _ :: _ :: _, r, e => cases e
end
end DM
set_option Elab.async false
set_option linter.all false
set_option maxRecDepth 100000
set_option maxHeartbeats 2000000
/-! Machine D: isinstance; methods of lists; new dicts; new instances. -/
namespace DM
open PySem PySem.Spec PyProof.Rows L2

/-! ### isinstance -/
def tyv (T : Tx) : Ty → Value
  | .int => .type "int"
  | .bool => .type "bool"
  | .str => .type "str"
  | .tuple => .type "tuple"
  | .list => .type "list"
  | .dict => .type "dict"
  | .cls c => .ref (T.ca c)
def tyV1 (T : Tx) : Ty → V
  | .int => .ty "int"
  | .bool => .ty "bool"
  | .str => .ty "str"
  | .tuple => .ty "tuple"
  | .list => .ty "list"
  | .dict => .ty "dict"
  | .cls c => .ref (T.ca c)
theorem tyv_cls (T : Tx) : ∀ t : Ty, ClsV (tyV1 T t) (tyv T t)
  | .int => .ty _
  | .bool => .ty _
  | .str => .ty _
  | .tuple => .ty _
  | .list => .ty _
  | .dict => .ty _
  | .cls _ => .own _
/-- what the text says of an own class whose instances are asked for their class -/
structure InsK (T : Tx) (c : Nat) : Prop where
  cl : ClsK T c
  ha : PySem.W.findIn T.K (.ref (T.ca c)) "__class__" = some (some (.builtin "object.__class__"))
  hn : PySem.W.specialIn T.K (.builtin "object.__class__") "__get__" = some (some (.builtin "getset_descriptor.__get__"))
  htk : PySem.W.takesIn T.K (.builtin "object.__class__") = some true
  hm : PySem.W.mroIn T.K (T.ca c) (.type "object") = some true
def kinds : List String := ["NoneType", "bool", "int", "str", "tuple", "list", "dict"]
/-- .. and of a class that is asked for -/
structure TyK (T : Tx) (cs : List Nat) (t : Ty) : Prop where
  bt : ∀ n ∈ kinds, PySem.W.kitOne T.K (.type n) (tyv T t) = some (tyB n t)
  own : ∀ c ∈ cs, PySem.W.kitOne T.K (.ref (T.ca c)) (tyv T t) = some (tyO c t)
section
variable {X : Cx} {T : Tx} {W : WX} {ρ Z : List Addr} {H : Hp} {h : HD} {cs : List Nat}
theorem kind_rep (hI : ∀ c ∈ cs, InsK T c) (l : Rl T ρ Z h H) {d : D} {v : V} {k : Kd} (r : Rep T ρ Z H d v) (e : kindD h d = some k) :
    ∃ t, (match k with | .bt n => t = Value.type n ∧ n ∈ kinds | .own c => t = .ref (T.ca c)) ∧ ((∃ n, k = .bt n) ∨ (∃ c, k = .own c ∧ c ∈ cs) → TyX T.K H v t) := by
  cases d with
  | non => cases e; rw [Rep] at r; subst r; exact ⟨_, ⟨rfl, by decide⟩, fun _ => .base .non⟩
  | bl b => cases e; rw [Rep] at r; subst r; exact ⟨_, ⟨rfl, by decide⟩, fun _ => .base (.bl b)⟩
  | int i => cases e; rw [Rep] at r; subst r; exact ⟨_, ⟨rfl, by decide⟩, fun _ => .base (.int i)⟩
  | str x => cases e; rw [Rep] at r; subst r; exact ⟨_, ⟨rfl, by decide⟩, fun _ => .base (.str x)⟩
  | tup l => cases e; rw [Rep] at r; obtain ⟨_, a, xs, rfl, q, _⟩ := r; exact ⟨_, ⟨rfl, by decide⟩, fun _ => .base (.tup q)⟩
  | fl l => cases e; rw [Rep] at r; obtain ⟨_, a, xs, rfl, _, _, q, _⟩ := r; exact ⟨_, ⟨rfl, by decide⟩, fun _ => .base (.lst q)⟩
  | sc l => cases e
  | ex c l => cases e
  | fdk ks l => cases e; rw [Rep] at r; obtain ⟨_, a, xs, rfl, _, _, q, _⟩ := r; exact ⟨_, ⟨rfl, by decide⟩, fun _ => .base (.dK q)⟩
  | fdt ks l => cases e; rw [Rep] at r; obtain ⟨_, a, xs, rfl, _, _, q, _⟩ := r; exact ⟨_, ⟨rfl, by decide⟩, fun _ => .base (.dT q)⟩
  | fo c l =>
    cases e
    rw [Rep] at r
    obtain ⟨_, a, dx, xs, rfl, _, _, q, _⟩ := r
    refine ⟨_, rfl, fun z => ?_⟩
    have hc : c ∈ cs := by
      rcases z with ⟨n, z⟩ | ⟨c', z, m⟩
      · cases z
      · cases z; exact m
    have I := hI c hc
    exact .base (.ins q I.cl.cls I.ha I.hn I.htk I.hm)
  | ref n =>
    rw [Rep] at r
    obtain ⟨a, ha, rfl⟩ := r
    obtain ⟨ob, eo, rob⟩ := l.at_ ha
    simp only [kindD, eo] at e
    cases ob with
    | lst l => cases e; obtain ⟨_, xs, q, _⟩ := rob; exact ⟨_, ⟨rfl, by decide⟩, fun _ => .base (.lst q)⟩
    | dk l => cases e; obtain ⟨xs, q, _⟩ := rob; exact ⟨_, ⟨rfl, by decide⟩, fun _ => .base (.dK q)⟩
    | dt l => cases e; obtain ⟨xs, q, _⟩ := rob; exact ⟨_, ⟨rfl, by decide⟩, fun _ => .base (.dT q)⟩
    | ins c l =>
      cases e
      obtain ⟨_, dx, xs, q, _⟩ := rob
      refine ⟨_, rfl, fun z => ?_⟩
      have hc : c ∈ cs := by
        rcases z with ⟨n, z⟩ | ⟨c', z, m⟩
        · cases z
        · cases z; exact m
      have I := hI c hc
      exact .base (.ins q I.cl.cls I.ha I.hn I.htk I.hm)
theorem kit_any {K : PySem.W.Frag} {t : Value} {f : Ty → Bool} : ∀ {ts : List Ty}, (∀ u ∈ ts, PySem.W.kitOne K t (tyv T u) = some (f u)) → PySem.W.kitAny K t (ts.map (tyv T)) = some (ts.any f)
  | [], _ => rfl
  | u :: ts, q => by
    refine kitAny_cons (q u (List.mem_cons_self ..)) (fun hf => ?_) (fun ht => by simp [ht])
    rw [List.any_cons, hf, Bool.false_or]
    exact kit_any fun w m => q w (List.mem_cons_of_mem _ m)
theorem ty_all (hI : ∀ c ∈ cs, InsK T c) (l : Rl T ρ Z h H) {d : D} {v : V} {ts : List Ty} {b : Bool} (hT : ∀ t ∈ ts, TyK T cs t) (r : Rep T ρ Z H d v) (e : anyTy cs h d ts = some b) :
    ∃ t, TyX T.K H v t ∧ PySem.W.kitAny T.K t (ts.map (tyv T)) = some b ∧ ∀ u, ts = [u] → PySem.W.kitOne T.K t (tyv T u) = some b := by
  unfold anyTy at e
  cases ek : kindD h d with
  | none => rw [ek] at e; cases e
  | some k =>
    rw [ek] at e
    obtain ⟨t, ht, hx⟩ := kind_rep hI l r ek
    cases k with
    | bt n =>
      simp only at ht e
      cases e
      obtain ⟨rfl, hn⟩ := ht
      refine ⟨_, hx (.inl ⟨n, rfl⟩), kit_any fun u m => (hT u m).bt n hn, fun u eu => ?_⟩
      subst eu
      rw [(hT u (List.mem_cons_self ..)).bt n hn]
      simp
    | own c =>
      simp only at ht e
      split at e
      · rename_i hc
        cases e
        subst ht
        refine ⟨_, hx (.inr ⟨c, rfl, hc⟩), kit_any fun u m => (hT u m).own c hc, fun u eu => ?_⟩
        subst eu
        rw [(hT u (List.mem_cons_self ..)).own c hc]
        simp
      · cases e
variable {a c : Expr} {m : EM} {p pos : Pos}
theorem n_bt {x : Str} {n : String} (hg : Gl X x) (hm : X.mg x = none) (hv : bootBuiltins x = some (.type n)) (hd : (x == ("__debug__" : Str)) = false := by decide) (hn : x ≠ "__name__" := by decide) : PE X (.Name x pos) (tC (.ty n)) := by
  first
    | exact pe_bltn hg hm hv rfl hn hd
    | exact pe_bltn hg hm hv rfl hd hn
    | exact pe_bltn hg hm hv rfl
theorem n_cl {x : Str} {C : Addr} (hg : Gl X x) (hm : X.mg x = some (.ref C)) (hd : (x == ("__debug__" : Str)) = false := by decide) : PE X (.Name x pos) (tC (.ref C)) := pe_glob hg hm rfl hd
/-- isinstance(x, c) -/
theorem x_isi {t : Ty} (hK : X.K = T.K) (hI : ∀ c ∈ cs, InsK T c) (hT : TyK T cs t) (hg : Gl X "isinstance") (hm : X.mg "isinstance" = none) (ha : PE X a (rdE T W m)) (hc : PE X c (tC (tyV1 T t)))
    (he : starEach [a, c] X.env = (false, eval a X.env) :: starEach [c] X.env := by rfl) (he2 : starEach [c] X.env = (false, eval c X.env) :: starEach [] X.env := by rfl) (hpl : (backTo pos (starEach [c] X.env)).any (·.1) = false := by rfl) :
    PE X (.Call (.Name "isinstance" p) [a, c] [] pos) (rdE T W (eT (DM.tIs cs m [t]))) :=
  PE.imp (pe_callB call_isi hg hm PyProof.Rows.boot_isinstance (pa_cons ha (pa_cons hc pa_nil he2) he) (by decide) (by decide) he hpl) fun σ H Q ⟨ρ, Z, s, h, l, er, k⟩ => by
    have k : Fin T W Z (RV T Z) ρ H σ (((m s h).bind fun x h1 => Res.of (anyTy cs h1 x [t]) h1).bind fun b h1 => .ok (.bl b) h1) Q := k
    rw [ass] at k
    refine Fin.step l er k fun ρ1 d h1 v H1 g l1 er1 r1 k1 => ?_
    cases e : anyTy cs h1 d [t] with
    | none => rw [e] at k1; exact k1.elim
    | some b =>
      rw [e] at k1
      obtain ⟨tv, ht, _, hb⟩ := ty_all hI l1 (fun u m => by rw [List.mem_singleton] at m; subst m; exact hT) r1 e
      exact ⟨v, tyV1 T t, tv, tyv T t, b, rfl, tyv_cls T t, by rw [hK]; exact ht, by rw [hK]; exact hb t rfl, k1 ρ1 H1 (.bl b) Gr.refl l1 (by show Rep T ρ1 Z H1 (.bl b) (.bl b); rw [Rep])⟩
/-- isinstance(x, (c, d)) -/
theorem x_isi2 {c2 : Expr} {t t2 : Ty} {kk : Nat} {tp : Pos} (hK : X.K = T.K) (hI : ∀ c ∈ cs, InsK T c) (hT : TyK T cs t) (hT2 : TyK T cs t2) (hg : Gl X "isinstance") (hm : X.mg "isinstance" = none) (ha : PE X a (rdE T W m)) (hc : PE X c (tC (tyV1 T t))) (hc2 : PE X c2 (tC (tyV1 T t2)))
    (hi : starEach [c, c2] X.env = (false, eval c X.env) :: starEach [c2] X.env := by rfl) (hi2 : starEach [c2] X.env = (false, eval c2 X.env) :: starEach [] X.env := by rfl)
    (he : starEach [a, .Tuple [c, c2] kk tp] X.env = (false, eval a X.env) :: starEach [.Tuple [c, c2] kk tp] X.env := by rfl) (he2 : starEach [.Tuple [c, c2] kk tp] X.env = (false, eval (.Tuple [c, c2] kk tp) X.env) :: starEach [] X.env := by rfl) (hpl : (backTo pos (starEach [.Tuple [c, c2] kk tp] X.env)).any (·.1) = false := by rfl) :
    PE X (.Call (.Name "isinstance" p) [a, .Tuple [c, c2] kk tp] [] pos) (rdE T W (eT (DM.tIs cs m [t, t2]))) :=
  PE.imp (pe_callB call_isiT hg hm PyProof.Rows.boot_isinstance (pa_cons ha (pa_cons (pe_tup (pa_cons hc (pa_cons hc2 pa_nil hi2) hi)) pa_nil he2) he) (by decide) (by decide) he hpl) fun σ H Q ⟨ρ, Z, s, h, l, er, k⟩ => by
    have k : Fin T W Z (RV T Z) ρ H σ (((m s h).bind fun x h1 => Res.of (anyTy cs h1 x [t, t2]) h1).bind fun b h1 => .ok (.bl b) h1) Q := k
    rw [ass] at k
    refine Fin.step l er k fun ρ1 d h1 v H1 g l1 er1 r1 k1 => ?_
    cases e : anyTy cs h1 d [t, t2] with
    | none => rw [e] at k1; exact k1.elim
    | some b =>
      rw [e] at k1
      refine ⟨by show 2 ≤ sizeLine; decide, fun tp htp => ?_⟩
      have g2 : Gr ρ1 H1 ρ1 (upd H1 tp (.tup [tyV1 T t, tyV1 T t2])) := Gr.laid htp
      have l2 := (l1.fresh (o := .tup [tyV1 T t, tyV1 T t2]) htp).lose
      obtain ⟨tv, ht, hb, _⟩ := ty_all hI l2 (fun u m => by
        rcases List.mem_cons.mp m with m | m
        · subst m; exact hT
        · rw [List.mem_singleton] at m; subst m; exact hT2) (Rep.mono g2 _ _ r1) e
      exact ⟨v, tp, [tyV1 T t, tyV1 T t2], tv, [tyv T t, tyv T t2], b, rfl, upd_same, .cons (tyv_cls T t) (.cons (tyv_cls T t2) .nil), by rw [hK]; exact ht, by rw [hK]; exact hb, k1 ρ1 _ (.bl b) g2 l2 (by show Rep T ρ1 Z _ (.bl b) (.bl b); rw [Rep])⟩
end

/-! ### methods of lists -/
section
variable {X : Cx} {T : Tx} {W : WX} {ρ Z : List Addr} {H : Hp} {h : HD} {o a : Expr} {mo ma : EM} {apos cpos : Pos}
def rM1 (T : Tx) (f : HD → D → D → Res D) : V → List V → Hp → VK → Prop := fun x xs H Q => ∃ ρ Z h c d y, xs = [y] ∧ Rl T ρ Z h H ∧ Rep T ρ Z H c x ∧ Rep T ρ Z H d y ∧ Fin T WN Z (RV T Z) ρ H [] (f h c d) Q
def rM0 (T : Tx) (f : HD → D → Res D) : V → List V → Hp → VK → Prop := fun x xs H Q => ∃ ρ Z h c, xs = [] ∧ Rl T ρ Z h H ∧ Rep T ρ Z H c x ∧ Fin T WN Z (RV T Z) ρ H [] (f h c) Q
theorem boxL_rep (l : Rl T ρ Z h H) {c : D} {x : V} {n : Nat} {m : List D} (r : Rep T ρ Z H c x) (e : boxL h c = some (n, m)) : c = .ref n ∧ ∃ p xs, x = .ref p ∧ ρ[n]? = some p ∧ H p = some (.lst xs) ∧ RepL T ρ Z H m xs ∧ m.length ≤ LIM := by
  cases c with
  | ref k =>
    simp only [boxL, Option.map_eq_some_iff] at e
    obtain ⟨m', e1, e2⟩ := e
    cases e2
    rw [Rep] at r
    obtain ⟨p, hp, rfl⟩ := r
    obtain ⟨ob, eo, rob⟩ := l.at_ hp
    unfold boxAt at e1
    rw [eo] at e1
    cases ob with
    | lst m' =>
      cases e1
      obtain ⟨z, xs, q, rl⟩ := rob
      exact ⟨rfl, p, xs, rfl, hp, q, rl, z⟩
    | _ => cases e1
  | _ => cases e
theorem box_write (l : Rl T ρ Z h H) {n : Nat} {p : Addr} {xs ys : List V} {m : List D} (hp : ρ[n]? = some p) (hq : H p = some (.lst xs)) (rl : RepL T ρ Z H m ys) (hz : m.length ≤ LIM) : Rl T ρ Z (h.set n (.lst m)) (upd H p (.lst ys)) ∧ Gr ρ H ρ (upd H p (.lst ys)) := by
  have g : Gr ρ H ρ (upd H p (.lst ys)) := l.gr_upd (List.mem_iff_getElem?.mpr ⟨n, hp⟩)
  exact l.write hp (by rw [hq]; intro xs z; cases z) ⟨hz, ys, upd_same, RepL.mono g _ _ rl⟩
theorem mb_app : MtR X "list.append" (rM1 T mApp) := by
  intro pins s σ H x xs v us Q I rx rxs ⟨ρ, Z, h, c, d, y, ex, l, rc, rd, k⟩
  subst ex
  unfold mApp at k
  cases e : boxL h c with
  | none => rw [e] at k; exact k.elim
  | some q =>
    obtain ⟨n, m⟩ := q
    rw [e] at k
    simp only at k
    obtain ⟨rfl, p, ys, rfl, hp, hq, rl, hz⟩ := boxL_rep l rc e
    by_cases hm : m.length < LIM
    · rw [if_pos hm] at k
      obtain ⟨l2, g⟩ := box_write l hp hq (rl.append (RepL.cons rd RepL.nil)) (by simp; omega)
      exact mt_append pins s σ H _ _ v us Q I rx rxs ⟨p, ys, y, rfl, rfl, hq, by rw [← rl.length, ← LIM_eq]; exact hm, k ρ _ .non g l2 (by show Rep T ρ Z _ .non .non; rw [Rep])⟩
    · rw [if_neg hm] at k; exact k.elim
theorem mb_ext : MtR X "list.extend" (rM1 T mExt) := by
  intro pins s σ H x xs v us Q I rx rxs ⟨ρ, Z, h, c, d, y, ex, l, rc, rd, k⟩
  subst ex
  unfold mExt at k
  cases e : boxL h c with
  | none => rw [e] at k; exact k.elim
  | some q =>
    obtain ⟨n, m⟩ := q
    cases e2 : lsts h d with
    | none => rw [e, e2] at k; exact k.elim
    | some m2 =>
      rw [e, e2] at k
      simp only at k
      obtain ⟨rfl, p, ys, rfl, hp, hq, rl, hz⟩ := boxL_rep l rc e
      obtain ⟨hz2, p2, zs, rfl, hq2, rl2⟩ := lsts_rep l rd e2
      by_cases hm : m.length + m2.length ≤ LIM
      · rw [if_pos hm] at k
        obtain ⟨l2, g⟩ := box_write l hp hq (rl.append rl2) (by simp; omega)
        exact mt_extend pins s σ H _ _ v us Q I rx rxs ⟨p, p2, ys, zs, rfl, rfl, hq, hq2, by rw [← rl.length, ← rl2.length, ← LIM_eq]; exact hm, k ρ _ .non g l2 (by show Rep T ρ Z _ .non .non; rw [Rep])⟩
      · rw [if_neg hm] at k; exact k.elim
theorem mb_pop : MtR X "list.pop" (rM0 T mPop) := by
  intro pins s σ H x xs v us Q I rx rxs ⟨ρ, Z, h, c, ex, l, rc, k⟩
  subst ex
  unfold mPop at k
  cases e : boxL h c with
  | none => rw [e] at k; exact k.elim
  | some q =>
    obtain ⟨n, m⟩ := q
    rw [e] at k
    simp only at k
    obtain ⟨rfl, p, ys, rfl, hp, hq, rl, hz⟩ := boxL_rep l rc e
    cases ei : m[m.length - 1]? with
    | none => rw [ei] at k; exact k.elim
    | some y =>
      rw [ei] at k
      obtain ⟨w, hw, rw'⟩ := rl.get ei
      obtain ⟨l2, g⟩ := box_write l hp hq rl.dropLast (by simp; omega)
      exact mt_pop pins s σ H _ _ v us Q I rx rxs ⟨p, ys, w, rfl, rfl, hq, by rw [← rl.length]; exact hw, k ρ _ w g l2 (Rep.mono g _ _ rw')⟩
theorem mb_popI : MtR X "list.pop" (rM1 T mPopI) := by
  intro pins s σ H x xs v us Q I rx rxs ⟨ρ, Z, h, c, d, y, ex, l, rc, rd, k⟩
  subst ex
  unfold mPopI at k
  cases e : boxL h c with
  | none => rw [e] at k; exact k.elim
  | some q =>
    obtain ⟨n, m⟩ := q
    rw [e] at k
    cases d with
    | int i =>
      simp only at k
      obtain ⟨rfl, p, ys, rfl, hp, hq, rl, hz⟩ := boxL_rep l rc e
      rw [Rep] at rd
      subst rd
      by_cases hi : (decide (-1000000000 < i) && decide (i < 1000000000)) = true
      · rw [if_pos hi] at k
        rw [Bool.and_eq_true, decide_eq_true_eq, decide_eq_true_eq] at hi
        cases ek : ixOf i m.length with
        | none => rw [ek] at k; exact k.elim
        | some j =>
          rw [ek] at k
          cases ei : m[j]? with
          | none => simp only [ei] at k; exact k.elim
          | some y =>
            simp only [ei] at k
            obtain ⟨w, hw, rw'⟩ := rl.get ei
            obtain ⟨l2, g⟩ := box_write l hp hq (rl.eraseIdx j) (Nat.le_trans (len_erase m j) hz)
            have hix : ixN ys.length i = some j := by
              unfold ixOf at ek
              unfold ixN
              rw [← rl.length]
              split at ek
              · rename_i h0
                split at ek
                · cases ek
                  rw [if_pos h0, if_pos (by omega)]
                · cases ek
              · rename_i h0
                split at ek
                · cases ek
                  rw [if_neg h0, if_pos (by omega)]
                · cases ek
            exact mt_popAt pins s σ H _ _ v us Q I rx rxs ⟨p, ys, i, j, w, rfl, rfl, hq, by omega, by omega, (ixN_seq hix).1, hw, k ρ _ w g l2 (Rep.mono g _ _ rw')⟩
      · rw [if_neg hi] at k; exact k.elim
    | _ => exact k.elim
theorem finN {σ σ' : SV} {r : Res D} {Q : VK} (k : Fin T WN Z (RV T Z) ρ H σ r Q) : Fin T WN Z (RV T Z) ρ H σ' r Q := by
  cases r with
  | ok a h => exact k
  | exc x h => exact k
  | bad => exact k
/-- a rule that raises nothing, where something may be raised -/
def calmF (f : HD → D → D → Res D) : Prop := ∀ h c d, ∀ x h', f h c d ≠ .exc x h'
theorem calm_app : calmF mApp := fun h c d x h' e => by
  unfold mApp at e
  split at e
  · split at e <;> cases e
  · cases e
theorem calm_ext : calmF mExt := fun h c d x h' e => by
  unfold mExt at e
  split at e
  · split at e <;> cases e
  · cases e
theorem calm_popI : calmF mPopI := fun h c d x h' e => by
  unfold mPopI at e
  split at e
  · split at e
    · split at e <;> cases e
    · cases e
  · cases e
theorem fin_calm {σ σ' : SV} {r : Res D} {Q : VK} (n : ∀ x h', r ≠ .exc x h') (k : Fin T W Z (RV T Z) ρ H σ r Q) : Fin T WN Z (RV T Z) ρ H σ' r Q := by
  cases r with
  | ok a h => exact k
  | exc x h => exact absurd rfl (n x h)
  | bad => exact k
theorem x_mb1 {f : HD → D → D → Res D} {id : String} {name : Str} (hc : calmF f) (slot : Slot "list" name id) (hty : typeOf (.builtin id) = pure (.type "method_descriptor")) (hm : MtR X id (rM1 T f)) (ho : PE X o (rdE T W mo)) (ha : PE X a (rdE T W ma))
    (hbase : attributeBase o name X.env (eval o X.env) = eval o X.env := by rfl)
    (hfew : ((backTo cpos (starEach [a] X.env)).all (fun x => !x.1) && (backToKw cpos (keywordEach [] X.env)).all (fun x => x.1.isSome)
      && decide (([a] : List Expr).length + ([] : List Keyword).length + (if ([] : List Keyword).isEmpty then 0 else 1) < 30)) = true := by rfl)
    (hline : (apos.endLine == cpos.line) = true := by rfl) (hs : starEach [a] X.env = (false, eval a X.env) :: starEach [] X.env := by rfl) (hplain : (backTo cpos (starEach [] X.env)).any (·.1) = false := by rfl) :
    PE X (.Call (.Attribute o name apos) [a] [] cpos) (rdE T W (eMb1 f mo ma)) :=
  PE.imp (pe_bm PySem.F.plainAttrs_list slot hty hm ho (pa_cons ha pa_nil hs) hbase hfew hline hs hplain) fun σ H Q ⟨ρ, Z, s, h, l, er, k⟩ => by
    refine Fin.step l er k fun ρ1 d h1 v H1 g l1 er1 r1 k1 => ?_
    cases eb : (boxL h1 d).isSome with
    | false => simp only [eb, Bool.false_eq_true, if_false] at k1; exact k1.elim
    | true =>
      simp only [eb, if_true] at k1
      obtain ⟨q, hq⟩ := Option.isSome_iff_exists.mp eb
      obtain ⟨n, m⟩ := q
      obtain ⟨rfl, p, ys, rfl, hp, hh, rl, hz⟩ := boxL_rep l1 r1 hq
      refine ⟨.inl ⟨rfl, ys, .inl (.inl hh)⟩, ?_⟩
      refine Fin.step l1 er1 k1 fun ρ2 d2 h2 v2 H2 g2 l2 er2 r2 k2 => ?_
      have r1' := Rep.mono g2 _ _ r1
      exact ⟨ρ2, Z, h2, .ref n, d2, v2, rfl, l2, r1', r2, fin_calm (fun x h' => hc _ _ _ x h') k2⟩
end
end DM
set_option Elab.async false
set_option linter.all false
set_option maxRecDepth 100000
set_option maxHeartbeats 2000000
/-! Machine D: new instances, methods of own classes, new dicts. -/
namespace DM
open PySem PySem.Spec PyProof.Rows L2

section
variable {X : Cx} {T : Tx} {W : WX} {k n c : Nat} {f C : Addr} {fd : FuncData} {ps : List Str} {fm : FM} {x m : Str} {p pos apos : Pos} {e o : Expr} {es : List Expr} {am : AM} {mo : EM}
/-! ### {} -/
theorem x_dk : PE X (.Dict [] [] pos) (rdE T W eDk) := PE.imp pe_dnewK fun σ H Q ⟨ρ, Z, s, h, l, er, k⟩ => fun p hp => by
  have l2 := l.fresh (o := .dK []) hp
  have no := l.outZ hp
  refine k (ρ ++ [p]) _ (.ref p) ((Gr.laid hp).box (.of hp)) (l2.box no.1 no.2 ⟨[], upd_same, RepL.nil⟩) ?_
  show Rep T (ρ ++ [p]) Z _ (.ref h.length) (.ref p)
  rw [Rep]
  exact ⟨p, by rw [← l.len]; simp, rfl⟩
theorem x_dt : PE X (.Dict [] [] pos) (rdE T W eDt) := PE.imp pe_dnewT fun σ H Q ⟨ρ, Z, s, h, l, er, k⟩ => fun p hp => by
  have l2 := l.fresh (o := .dT []) hp
  have no := l.outZ hp
  refine k (ρ ++ [p]) _ (.ref p) ((Gr.laid hp).box (.of hp)) (l2.box no.1 no.2 ⟨[], upd_same, RepL.nil⟩) ?_
  show Rep T (ρ ++ [p]) Z _ (.ref h.length) (.ref p)
  rw [Rep]
  exact ⟨p, by rw [← l.len]; simp, rfl⟩

/-! ### C(..) -/
def tMakeS (C : Addr) (sp : Sp) (E : SV → XK) (t : TA) : TE := fun σ H Q => t σ H fun vs H1 => ∀ x dx, H1 x = none → H1 dx = none → dx ≠ x →
  sp (.ref x :: vs) (upd (upd H1 dx (.own x)) x (.ins C dx [])) (fun v H2 => v = .non ∧ Q (.ref x) H2) (E σ)
theorem run_makeS {CX : CXT} {sp : Sp} {E : SV → XK} {pins : List (Addr × Obj)} {σ : SV} {H : Hp} {s : Shared} {Q : VK} {us : List Value} {vs : List V} (M : Mk X.K C f) (F : FnOk X.prog X.w X.K X.mg X.base CX k f fd ps sp) (hr : Room (k + 1) X.A) (hb : Binds X.K fd ps [])
    (hx : PassesAt CX X σ (E σ)) (I : Inv X pins σ H s) (r : Vals vs us)
    (h : ∀ x dx, H x = none → H dx = none → dx ≠ x → sp (.ref x :: vs) (upd (upd H dx (.own x)) x (.ins C dx [])) (fun v H2 => v = .non ∧ Q (.ref x) H2) (E σ)) :
    wpAny (model X.prog X.w) X.A (call (.ref C) us) (EP X pins σ Q) X.xe s := by
  have hq := h (s.heap.objs.size + 1) s.heap.objs.size (I.hok.fresh (Nat.le_succ _)) (I.hok.fresh (Nat.le_refl _)) (Nat.ne_of_lt (Nat.lt_succ_self _))
  have I2 := Inv.made (C := C) I
  have r2 : Vals (V.ref (s.heap.objs.size + 1) :: vs) (Value.ref (s.heap.objs.size + 1) :: us) := .cons rfl r
  have hl : (Value.ref (s.heap.objs.size + 1) :: us).length = ps.length := by
    have e := r2.length
    rw [F.len _ _ _ _ hq] at e
    exact e.symm
  have b := hb ⟨_, s.gens, s.drawn, s.toks, s.os⟩ (Value.ref (s.heap.objs.size + 1) :: us) I2.kIn (by rw [List.append_nil]; exact hl)
  rw [List.append_nil] at b
  refine wpAny_call (make_map (f := f) I.kIn M.makes M.init (beq_iff_eq.mp M.fn) (codeAny_mono (F.run _ X.stack _ _ ⟨Value.ref (s.heap.objs.size + 1) :: us, []⟩ (Value.ref (s.heap.objs.size + 1) :: us) _ _ (E σ) (hr.make C us [])
    (I2.env0.make C us []) b r2 hq) fun r s' hq' => ?_))
  cases r with
  | error e => exact hx pins _ _ e s' I2 hq'
  | ok fl =>
    cases fl with
    | ret u =>
      obtain ⟨v, H', I3, rv, ev, q3⟩ := I2.after hq'
      subst ev
      exact ⟨rv, ⟨V.ref (s.heap.objs.size + 1), H', I3, rfl, q3⟩⟩
    | next => exact False.elim hq'
    | brk => exact False.elim hq'
    | cont => exact False.elim hq'
theorem make_read {σ : SV} {H : Hp} {Q : VK} (al : AL am n) (h : rdE T W (eCall (mkT c fm) am) σ H Q) : tMakeS (T.ca c) (spM T (n + 1) fm) (WE W) (rdA T W am) σ H Q := by
  obtain ⟨ρ, Z, s, h0, l, er, k⟩ := h
  refine ⟨ρ, Z, s, h0, l, er, ?_⟩
  unfold eCall at k
  cases ea : am s h0 with
  | bad => rw [ea] at k; exact k.elim
  | exc x h1 => rw [ea] at k; exact k
  | ok ds h1 =>
    rw [ea] at k
    intro ρ1 H1 vs g l1 r1
    have r1 : RepL T ρ1 Z H1 ds vs := r1
    have k1 := trim_fin l1 (Fin.grow g k)
    intro x dx hx hdx ne
    have l2 := (l1.fresh (o := .own x) hdx).lose
    have hx2 : upd H1 dx (.own x) x = none := by rw [upd_ne (Ne.symm ne)]; exact hx
    have l3 := l2.fresh (o := .ins (T.ca c) dx []) hx2
    have no := l2.outZ hx2
    have g3 : Gr ρ1 H1 (ρ1 ++ [x]) (upd (upd H1 dx (.own x)) x (.ins (T.ca c) dx [])) := ((Gr.laid hdx).trans (Gr.laid hx2)).box (.of hx)
    have l4 : Rl T (ρ1 ++ [x]) Z (h1 ++ [.ins c []]) (upd (upd H1 dx (.own x)) x (.ins (T.ca c) dx [])) := l3.box no.1 no.2 ⟨by simp, dx, [], by rw [upd_same]; simp, RepL.nil⟩
    refine ⟨by simp [← r1.length, al _ _ _ _ ea], ρ1 ++ [x], Z, h1 ++ [.ins c []], .ref h1.length :: ds, l4, ?_, ?_⟩
    · refine RepL.cons ?_ (RepL.mono g3 _ _ r1)
      rw [Rep]
      exact ⟨x, by rw [← l1.len]; simp, rfl⟩
    · unfold mkM at k1
      cases er : fm (.ref h1.length :: ds) (h1 ++ [.ins c []]) with
      | bad => rw [er] at k1; exact k1.elim
      | exc y h2 => rw [er] at k1; exact fun ρ' H' cc dd g' l' xr => k1 ρ' H' cc dd (g3.trans g') l' xr
      | ok d h2 =>
        rw [er] at k1
        cases d with
        | non =>
          intro ρ' H' v g' l' rv
          have rv : Rep T ρ' Z H' .non v := rv
          rw [Rep] at rv
          refine ⟨rv, k1 ρ' H' (.ref x) (g3.trans g') l' ?_⟩
          show Rep T ρ' Z H' (.ref h1.length) (.ref x)
          rw [Rep]
          exact ⟨x, g'.get (by rw [← l1.len]; simp), rfl⟩
        | _ => exact k1.elim
theorem x_make (M : Mk X.K (T.ca c) f) (F : FnOk X.prog X.w X.K X.mg X.base (L2.CX X.prog X.w) k f fd ps (spM T (n + 1) fm)) (hr : Room (k + 1) X.A) (hg : Gl X x) (hm : X.mg x = some (.ref (T.ca c))) (hb : Binds X.K fd ps []) (tk : Takes X W) (al : AL am n)
    (ha : PA X (e :: es) (rdA T W am)) (hd : (x == ("__debug__" : Str)) = false := by decide) (he : starEach (e :: es) X.env = (false, eval e X.env) :: starEach es X.env := by rfl) (hpl : (backTo pos (starEach es X.env)).any (·.1) = false := by rfl) :
    PE X (.Call (.Name x p) (e :: es) [] pos) (rdE T W (eCall (mkT c fm) am)) := by
  refine ⟨fun pins s σ H Q I h => ?_⟩
  have h := make_read al h
  refine wpAny_Call_Name_kw (ld_glob I hg hm ?_ hd)
  refine PySem.W.callWith_K (h₀ := X.base) I.ok.mod.kin M.kp (thn (ha.run pos pins s σ H _ I h) fun us s1 ⟨vs, H1, I1, r, q⟩ => ⟨I1.kIn, ?_⟩) he hpl
  exact run_makeS M F hr hb (passAt tk σ) I1 r q
/-! ### o.m(..) -/
structure MethK (T : Tx) (c : Nat) (m : Str) (f : Addr) : Prop where
  me : Meth T.K (T.ca c) m f
  no : m ∉ T.fs c
theorem ins_of {ρ Z : List Addr} {h : HD} {H : Hp} {d : D} {v : V} (l : Rl T ρ Z h H) (r : Rep T ρ Z H d v) (e : isIns c h d = true) : ∃ a dx xs, v = .ref a ∧ H a = some (.ins (T.ca c) dx ((T.fs c).zip xs)) := by
  unfold isIns at e
  cases d with
  | fo c' l' =>
    simp only [beq_iff_eq] at e
    subst e
    rw [Rep] at r
    obtain ⟨z, a, dx, xs, rfl, _, _, q, rl⟩ := r
    exact ⟨a, dx, xs, rfl, q⟩
  | ref n =>
    simp only at e
    rw [Rep] at r
    obtain ⟨a, ha, rfl⟩ := r
    obtain ⟨ob, eo, rob⟩ := l.at_ ha
    rw [eo] at e
    cases ob with
    | ins c' l' =>
      simp only [beq_iff_eq] at e
      subst e
      obtain ⟨z, dx, xs, q, rl⟩ := rob
      exact ⟨a, dx, xs, rfl, q⟩
    | _ => cases e
  | _ => cases e
theorem lookup_out {f : Str} : ∀ {fs : List Str} {xs : List V}, f ∉ fs → (fs.zip xs).lookup f = none
  | [], _, _ => rfl
  | _ :: _, [], _ => rfl
  | g :: fs, x :: xs, h => by
    rw [List.mem_cons, not_or] at h
    rw [List.zip_cons_cons, List.lookup_cons, beq_eq_false_iff_ne.mpr h.1]
    exact lookup_out h.2
theorem run_meth {pins : List (Addr × Obj)} {σ : SV} {Q : VK} (hK : X.K = T.K) (C : ClsK T c) (M : MethK T c m f) (F : FnOk X.prog X.w X.K X.mg X.base (L2.CX X.prog X.w) k f fd ps (spM T (n + 1) fm)) (hr : Room k X.A) (hb : Binds X.K fd ps []) (tk : Takes X W) (al : AL am n)
    (he : PE X o (rdE T W mo)) {pl : Sem Bool} (rest : List Expr) (ha : PA X rest (rdA T W am))
    (hcw : ∀ (s1 : Shared) (H1 : Hp) (a : Addr), Inv X pins σ H1 s1 → (rdA T W am σ H1 fun vs H2 => spM T (n + 1) fm (.ref a :: vs) H2 Q (WE W σ)) → wpAny (model X.prog X.w) X.A (callWith pos (.ref f) [.ref a] (backTo pos (starEach rest X.env)) (backToKw pos (keywordEach [] X.env))) (EP X pins σ Q) X.xe s1)
    (ht : eval (.Call (.Attribute o m apos) rest [] pos) X.env = (do
      let ov ← eval o X.env
      standAt apos.atName
      let (f, first) ← holding [ov] (getMethod ov m pl)
      callWith pos f first (backTo pos (starEach rest X.env)) (backToKw pos (keywordEach [] X.env)))) {s : Shared} {H : Hp} (I : Inv X pins σ H s) (h : rdE T W (eMeth c fm mo am) σ H Q) :
    wpAny (model X.prog X.w) X.A (eval (.Call (.Attribute o m apos) rest [] pos) X.env) (EP X pins σ Q) X.xe s := by
  have hh : rdE T W mo σ H fun v H1 => ∃ a dx xs, v = .ref a ∧ H1 a = some (.ins (T.ca c) dx ((T.fs c).zip xs)) ∧ rdA T W am σ H1 fun vs H2 => spM T (n + 1) fm (.ref a :: vs) H2 Q (WE W σ) := by
    obtain ⟨ρ, Z, sd, h0, l, er, k⟩ := h
    refine Fin.step l er k fun ρ1 d h1 v H1 g l1 er1 r1 k1 => ?_
    cases ei : isIns c h1 d with
    | false => simp only [ei, Bool.false_eq_true, if_false] at k1; exact k1.elim
    | true =>
      simp only [ei, if_true] at k1
      obtain ⟨a, dx, xs, rfl, q⟩ := ins_of l1 r1 ei
      refine ⟨a, dx, xs, rfl, q, ρ1, Z, sd, h1, l1, er1, ?_⟩
      cases ea : am sd h1 with
      | bad => rw [ea] at k1; exact k1.elim
      | exc x h2 => rw [ea] at k1; exact k1
      | ok ds h2 =>
        rw [ea] at k1
        intro ρ2 H2 vs g2 l2 r2
        have r2 : RepL T ρ2 Z H2 ds vs := r2
        exact ⟨by simp [← r2.length, al _ _ _ _ ea], ρ2, Z, h2, d :: ds, l2, RepL.cons (Rep.mono g2 _ _ r1) r2, sp_fin (Fin.grow g2 k1)⟩
  refine PySem.W.methodCall_KW (pl := pl) (thn (he.run pins s σ H _ I hh) fun u s1 ⟨x, H1, I1, rx, a, dx, xs, ex, ea, q⟩ => ?_) ht
  subst ex
  obtain rfl : u = Value.ref a := rx
  exact getmeth_ok I1 ea (by rw [hK]; exact C.cls) (by rw [hK]; exact M.me) (lookup_out M.no) (hcw s1 H1 a I1 q)
theorem x_meth {pl : Sem Bool} (hK : X.K = T.K) (C : ClsK T c) (M : MethK T c m f) (F : FnOk X.prog X.w X.K X.mg X.base (L2.CX X.prog X.w) k f fd ps (spM T (n + 1) fm)) (hr : Room k X.A) (hb : Binds X.K fd ps []) (tk : Takes X W) (al : AL am n)
    (he : PE X o (rdE T W mo)) (ha : PA X (e :: es) (rdA T W am))
    (hst : starEach (e :: es) X.env = (false, eval e X.env) :: starEach es X.env := by rfl) (hpl : (backTo pos (starEach es X.env)).any (·.1) = false := by rfl)
    (ht : eval (.Call (.Attribute o m apos) (e :: es) [] pos) X.env = (do
      let ov ← eval o X.env
      standAt apos.atName
      let (f, first) ← holding [ov] (getMethod ov m pl)
      callWith pos f first (backTo pos (starEach (e :: es) X.env)) (backToKw pos (keywordEach [] X.env))) := by rfl) :
    PE X (.Call (.Attribute o m apos) (e :: es) [] pos) (rdE T W (eMeth c fm mo am)) := by
  refine ⟨fun pins s σ H Q I h => run_meth hK C M F hr hb tk al he (e :: es) ha (fun s1 H1 a I1 q => ?_) ht I h⟩
  refine PySem.W.callWith_K (first := [.ref a]) (h₀ := X.base) I1.ok.mod.kin (by rw [hK]; exact M.me.kp) (thn (ha.run pos pins s1 σ H1 _ I1 q) fun us s2 ⟨vs, H2, I2, r, q2⟩ => ⟨I2.kIn, ?_⟩) hst hpl
  exact run_fnS (E := WE W) (us := .ref a :: us) (vs := .ref a :: vs) F hr hb (passAt tk σ) I2 (.cons rfl r) q2
theorem x_meth0 {pl : Sem Bool} (hK : X.K = T.K) (C : ClsK T c) (M : MethK T c m f) (F : FnOk X.prog X.w X.K X.mg X.base (L2.CX X.prog X.w) k f fd ps (spM T 1 fm)) (hr : Room k X.A) (hb : Binds X.K fd ps []) (tk : Takes X W)
    (he : PE X o (rdE T W mo))
    (ht : eval (.Call (.Attribute o m apos) [] [] pos) X.env = (do
      let ov ← eval o X.env
      standAt apos.atName
      let (f, first) ← holding [ov] (getMethod ov m pl)
      callWith pos f first (backTo pos (starEach [] X.env)) (backToKw pos (keywordEach [] X.env))) := by rfl) :
    PE X (.Call (.Attribute o m apos) [] [] pos) (rdE T W (eMeth c fm mo aNil)) := by
  refine ⟨fun pins s σ H Q I h => run_meth hK C M F hr hb tk al_nil he [] xa_nil (fun s1 H1 a I1 q => ?_) ht I h⟩
  refine PySem.W.callWith_K0 (first := [.ref a]) I1.kIn (by rw [hK]; exact M.me.kp) ?_
  have q2 : spM T (0 + 1) fm (.ref a :: []) H1 Q (WE W σ) := by
    obtain ⟨ρ, Z, sd, h1, l1, er1, k1⟩ := q
    exact k1.here l1 RepL.nil
  exact run_fnS (E := WE W) (us := [.ref a]) (vs := [.ref a]) F hr hb (passAt tk σ) I1 (.cons rfl .nil) q2
end
end DM
set_option Elab.async false
set_option linter.all false
set_option maxRecDepth 100000
set_option maxHeartbeats 4000000
/-! Machine D: the package's own exception classes: their __init__ says super().__init__(..), perhaps keeps one field. -/
namespace PySem
namespace DX
open PySem.W PySem.Calls PyProof.Rows PySem.HandSPX
/-! ### the text of __init__ -/
def A1 (f : Str) (p1 p2 : Pos) : Arguments := { posonlyargs := [], args := [{ arg := "self", annotation := none, pos := p1 }, { arg := f, annotation := none, pos := p2 }], vararg := none, kwonlyargs := [], kw_defaults := [], kwarg := none, defaults := [] }
def A0 (p1 : Pos) : Arguments := { posonlyargs := [], args := [{ arg := "self", annotation := none, pos := p1 }], vararg := none, kwonlyargs := [], kw_defaults := [], kwarg := none, defaults := [] }
def sup (q1 q2 q3 q5 q6 : Pos) (args : List Expr) : Stmt := .Expr (.Call (.Attribute (.Call (.Name "super" q1) [] [] q2) "__init__" q3) args [] q5) q6
def B1 (f : Str) (q1 q2 q3 q4 q5 q6 q7 q8 q9 q10 : Pos) : List Stmt := [sup q1 q2 q3 q5 q6 [.Name f q4], .Assign [.Attribute (.Name "self" q7) f q8] (.Name f q9) q10]
def B0 (q1 q2 q3 q5 q6 : Pos) : List Stmt := [sup q1 q2 q3 q5 q6 []]
def S1 (f : Str) : Scope := { kind := .function, names := [(PySem.Str.ofString "self", .local), (f, .local), (PySem.Str.ofString "__class__", .free), (PySem.Str.ofString "super", .globalImplicit)], isGenerator := false, isCoroutine := false, more := [] }
def S0 : Scope := { kind := .function, names := [(PySem.Str.ofString "self", .local), (PySem.Str.ofString "__class__", .free), (PySem.Str.ofString "super", .globalImplicit)], isGenerator := false, isCoroutine := false, more := [] }
/-- what the written part says of an exception class at C, its __init__ at fI (its code at cda, the cell of __class__ at cc) -/
structure ExcC (P : Program) (K : Frag) (C fI cda cc : Addr) : Prop where
  cls : ∃ nm q N bs bm sn sub ab col dd k0 k1 k2 k3 k5, K.lookup C = some (excClassObj nm q C N bs bm true sn sub ab col dd k0 k1 k2 k3 k5 "ValueError.__new__") ∧ refsVE bm = true
  sa : findIn K (.ref C) "__setattr__" = some (some (.builtin "object.__setattr__"))
  ga : findIn K (.ref C) "__getattribute__" = some (some (.builtin "BaseException.__getattribute__"))
  gg : findIn K (.ref C) "__getattr__" = some none
  iC : findIn K (.ref C) "__init__" = some (some (.ref fI))
  tC : typeIn K (.ref fI) = some (.type "function")
  kC : keepIn K (.ref C) = true
  exC : subIn K (.ref C) (.type "BaseException") = some true
  veC : subIn K (.ref C) (.type "ValueError") = some true
  tyC : typeIn K (.ref C) = some (.type "type")
  hdC : hasDictIn K C = true
  opq : nsIn K cStatics "thirdparty.any" = some none
  sup : ks_superIn K C C "__init__" = some (some (.builtin "ValueError.__init__"))
  self : mroIn K C (.ref C) = some true
  code : ∃ ccl cdd vs ccs file tf, K.lookup cda = some ⟨ccl, cdd, .fields vs, ccs⟩ ∧ vs[2]? = some (.str file tf) ∧ ((P.main.file : Str) == file) = true
  cell : ∃ cl cld csl, K.lookup cc = some ⟨cl, cld, .cell (some (.ref C)), csl⟩
  top : (P.main.scope.names.lookup ("super" : Str)).isSome = false
structure Exc1 (P : Program) (K : Frag) (C fI cda cc : Addr) (f qual : Str) : Prop extends ExcC P K C fI cda cc where
  noN : findIn K (.ref C) f = some none
  fs : (("self" : Str) == f) = false ∧ (f == ("self" : Str)) = false ∧ (f == ("__debug__" : Str)) = false
  fn : ∃ (oc : Value) (od : Option Addr) (doc pm : Value) (an : Option Addr) (ct : Value) (osl : Array (Option Value)) (p1 p2 q1 q2 q3 q4 q5 q6 q7 q8 q9 q10 : Pos),
    K.lookup fI = some ⟨oc, od, .func (ksFn "__init__" qual (A1 f p1 p2) (B1 f q1 q2 q3 q4 q5 q6 q7 q8 q9 q10) (S1 f) .none .none doc pm an (.ref cda) ct cc), osl⟩ ∧ codeIn K (.ref cda) qual = true ∧ (q3.endLine == q5.line) = true ∧
    (∀ x v, bindArgs (ksFn "__init__" qual (A1 f p1 p2) (B1 f q1 q2 q3 q4 q5 q6 q7 q8 q9 q10) (S1 f) .none .none doc pm an (.ref cda) ct cc) ⟨[x, v], []⟩ = pure [(("self" : Str), x), (f, v)])
structure Exc0 (P : Program) (K : Frag) (C fI cda cc : Addr) (qual : Str) : Prop extends ExcC P K C fI cda cc where
  fn : ∃ (oc : Value) (od : Option Addr) (doc pm : Value) (an : Option Addr) (ct : Value) (osl : Array (Option Value)) (p1 q1 q2 q3 q5 q6 : Pos),
    K.lookup fI = some ⟨oc, od, .func (ksFn "__init__" qual (A0 p1) (B0 q1 q2 q3 q5 q6) S0 .none .none doc pm an (.ref cda) ct cc), osl⟩ ∧ codeIn K (.ref cda) qual = true ∧ (q3.endLine == q5.line) = true
/-- where names are found -/
structure Glb (h : Heap) (mg mb : Str → Option Value) : Prop where
  g : h.Ns mainGlobals mg
  b : h.Ns builtinsNs mb
  no : mg "super" = none
  su : mb "super" = some (.type "super")
theorem Glb.keeps {h h' : Heap} {mg mb : Str → Option Value} (G : Glb h mg mb) (k : ∀ b o, h.get? b = some o → h'.get? b = some o) : Glb h' mg mb := ⟨G.g.keeps k, G.b.keeps k, G.no, G.su⟩
/-- what __init__ leaves of a fresh exception at x -/
structure InitEnd (h h' : Heap) (x C dx t1 : Addr) (f : Str) (v : Value) : Prop where
  keep : ∀ b o, b ≠ x → h.get? b = some o → h'.get? b = some o
  obj : h'.get? x = some { cls := .ref C, dict := some dx, data := .fields #[.ref t1, .none, .none, .none, .bool false, .none] }
  dbig : h.objs.size ≤ dx
  dne : dx ≠ x
  ns : h'.Ns1 dx (fun y => if y = f then some v else none)
section
variable {prog : Program} {w : World} {A : Around} {E : Value → Shared → Prop} {R : Result → Shared → Prop} {s : Shared} {K : Frag} {mg mb : Str → Option Value} {C fI cda cc : Addr} {f qual : Str}
theorem one_le (v : Value) : [v].length ≤ sizeLine := by
  rw [sizeLine_eq]
  exact (by decide : 1 ≤ 16777216)
theorem kept_but {K : Frag} {h h' : Heap} {x : Addr} (X : K.In h) (hx : K.lookup x = none) (k : ∀ b o, b ≠ x → h.get? b = some o → h'.get? b = some o) : K.In h' := fun a o e =>
  k a o (fun z => by rw [z, hx] at e; cases e) (X a o e)
/-- the wrapper is called -/
theorem call_mw {h : Heap} {g : Array GenState} {d : Drawn} {t : Nat} {os : OsState} {u x t0 : Addr} {rest : List Value} {Q : Value → Shared → Prop} (T : ExcC prog K C fI cda cc) (X : K.In h) (he : h.get? x = some (excO C t0)) (hu : h.get? u = some (kxs_mw "ValueError.__init__" x)) (hrest : rest.length ≤ sizeLine)
    (hq : ∀ h' t1, (∀ b o, b ≠ x → h.get? b = some o → h'.get? b = some o) → h'.get? x = some (excO C t1) → Q .none ⟨h', g, d, t, os⟩) :
    wpAny (model prog w) A (call (.ref u) rest) Q E ⟨h, g, d, t, os⟩ := by
  obtain ⟨nm, q, N, bs, bm, sn, sub, ab, col, dd, k0, k1, k2, k3, k5, hC, hbm⟩ := T.cls
  have hC := X _ _ hC
  refine wpAny_call (codeAny_of_tree ?_)
  show wpAny _ A.in1 (callAny (.ref u) ⟨rest, []⟩) _ _ _
  simp only [callAny]
  refine wpAny_bind (wpAny_load hu ?_)
  simp only [kxs_mw, show (Value.type "method-wrapper" == Value.type "method" || Value.type "method-wrapper" == Value.type "builtin_function_or_method" || Value.type "method-wrapper" == Value.type "method-wrapper") = true by decide, if_true]
  refine KFB.if_so (by decide) ?_
  refine wpAny_bind (check_bound_init F.excBase_ValueError.toExcCallFacts hC he rfl ?_)
  refine wpAny_bind (wpAny_pure (wpAny_pure ?_))
  refine ⟨plainId_quiet F.excBase_ValueError.init.plain _, codeAny_builtin F.excBase_ValueError.initEntry ?_⟩
  exact exc_init_tree (cls := .ref C) (t0 := t0) (dv := none) (c2 := .none) (c3 := .none) (b4 := .bool false) he hrest fun h' k e' t' => hq h' _ k e'
theorem InstAt.andThenVe {h h1 : Heap} {x : Addr} {ox : Obj} (I : InstAt h x ox C none) (k1 : ∀ b o, h.get? b = some o → h1.get? b = some o) (X1 : K.In h1) (e : subIn K (.ref C) (.type "ValueError") = some true) : Looks (model prog w) h1 (isInstance (.ref x) (.type "ValueError")) true := by
  have I1 : InstAt h1 x ox C none := ⟨k1 _ _ I.at_, I.cls, I.no, by
    have q := I.dict
    revert q
    cases ox.dict <;> exact fun q => q⟩
  exact I1.type.andThen (looks_subIn X1 e)
theorem he1 (q1 q2 q3 q4 q5 : Pos) (f : Str) (env : Env) (hl : (q3.endLine == q5.line) = true) : eval (.Call (.Attribute (.Call (.Name "super" q1) [] [] q2) "__init__" q3) [.Name f q4] [] q5) env = (do
      let ov ← attributeBase (.Call (.Name "super" q1) [] [] q2) "__init__" env (eval (.Call (.Name "super" q1) [] [] q2) env)
      standAt q3.atName
      let (f1, first) ← holding [ov] (getMethod ov "__init__" (do return (← importBound (.Call (.Name "super" q1) [] [] q2) env).getD true))
      callWith q5 f1 first (backTo q5 (starEach [.Name f q4] env)) []) := by
  show (do
      let ov ← attributeBase (.Call (.Name "super" q1) [] [] q2) "__init__" env (eval (.Call (.Name "super" q1) [] [] q2) env)
      standAt q3.atName
      methodCall _ _ _ _ _ _ _ _ _) = _
  unfold methodCall methodCallPos
  simp only [hl, if_true, Bool.or_true]
  rfl
theorem he0 (q1 q2 q3 q5 : Pos) (env : Env) (hl : (q3.endLine == q5.line) = true) : eval (.Call (.Attribute (.Call (.Name "super" q1) [] [] q2) "__init__" q3) [] [] q5) env = (do
      let ov ← attributeBase (.Call (.Name "super" q1) [] [] q2) "__init__" env (eval (.Call (.Name "super" q1) [] [] q2) env)
      standAt q3.atName
      let (f1, first) ← holding [ov] (getMethod ov "__init__" (do return (← importBound (.Call (.Name "super" q1) [] [] q2) env).getD true))
      callWith q5 f1 first (backTo q5 (starEach [] env)) []) := by
  show (do
      let ov ← attributeBase (.Call (.Name "super" q1) [] [] q2) "__init__" env (eval (.Call (.Name "super" q1) [] [] q2) env)
      standAt q3.atName
      methodCall _ _ _ _ _ _ _ _ _) = _
  unfold methodCall methodCallPos
  simp only [hl, if_true, Bool.or_true]
  rfl
/-- super().__init__(..), the object a fresh exception -/
theorem sup_stmt {pl : Sem Bool} {body : List Stmt} {scope : Scope} {L x t0 : Addr} {m : Str → Option Value} {args : List Expr} {vals : List Value} {q1 q2 q3 q5 q6 : Pos} {oc : Value} {od : Option Addr} {fd : FuncData} {osl : Array (Option Value)} {ar : Arg} {Q : Flow → Shared → Prop}
    (T : ExcC prog K C fI cda cc) (X : K.In s.heap) (G : Glb s.heap mg mb) (hx : s.heap.get? x = some (excO C t0)) (hxC : x ≠ C) (hn : s.heap.Ns L m) (hxL : x ≠ L) (hv : m ar.arg = some (.ref x))
    (hf : K.lookup fI = some ⟨oc, od, .func fd, osl⟩) (hp : (fd.params.posonlyargs ++ fd.params.args).head? = some ar) (hks : scope.names.lookup ("super" : Str) = some .globalImplicit) (hkc : scope.names.lookup ("__class__" : Str) = some .free) (hka : scope.names.lookup ar.arg = some .local) (hk : scope.kind = .function)
    (hl : vals.length ≤ sizeLine)
    (hargs : ∀ (u : Addr) (s' : Shared) (Q' : Value → Shared → Prop), s'.heap.Ns L m → s'.heap.get? u = some (kxs_mw "ValueError.__init__" x) → (wpAny (model prog w) A (call (.ref u) vals) Q' E s') →
      wpAny (model prog w) A (callWith q5 (.ref u) [] (backTo q5 (starEach args (ksEnv qual scope L fI (.ref cda) cc))) []) Q' E s')
    (he : eval (.Call (.Attribute (.Call (.Name "super" q1) [] [] q2) "__init__" q3) args [] q5) (ksEnv qual scope L fI (.ref cda) cc) = (do
      let ov ← attributeBase (.Call (.Name "super" q1) [] [] q2) "__init__" (ksEnv qual scope L fI (.ref cda) cc) (eval (.Call (.Name "super" q1) [] [] q2) (ksEnv qual scope L fI (.ref cda) cc))
      standAt q3.atName
      let (f, first) ← holding [ov] (getMethod ov "__init__" pl)
      callWith q5 f first (backTo q5 (starEach args (ksEnv qual scope L fI (.ref cda) cc))) []))
    (hsw : swapsWith (.Call (.Attribute (.Call (.Name "super" q1) [] [] q2) "__init__" q3) args [] q5) none q6.line (ksEnv qual scope L fI (.ref cda) cc) = pure false)
    (hin : interactive (ksEnv qual scope L fI (.ref cda) cc) = false)
    (hq : ∀ h' tk t1, (∀ b o, b ≠ x → s.heap.get? b = some o → h'.get? b = some o) → h'.get? x = some (excO C t1) → Q .next { s with heap := h', toks := tk }) :
    _root_.PySem.wpAt (model prog w) A (.func body (ksEnv qual scope L fI (.ref cda) cc)) (exec (sup q1 q2 q3 q5 q6 args) (ksEnv qual scope L fI (.ref cda) cc)) Q E s := by
  obtain ⟨nm, q, N, bs, bm, sn, sub, ab, col, dd, k0, k1, k2, k3, k5, hC, hbm⟩ := T.cls
  obtain ⟨ccl, cdd, vs, ccs, file, tf, hcode, hvs, hfile⟩ := T.code
  obtain ⟨cl, cld, csl, hcell⟩ := T.cell
  obtain ⟨hh, g, d, t, os⟩ := s
  have hcl : clsIn K C = some { name := nm, bases := bs, mro := .ref C :: bm, ns := N, qualname := q, hasDict := true, slotNames := sn, subclasses := sub, abstract := ab, collection := col, hasDel := false } := by unfold clsIn; rw [hC] <;> rfl
  have I : InstAt hh x (excO C t0) C none := ⟨hx, rfl, rfl, trivial⟩
  unfold sup
  refine ks_wpAt_Expr_any (ks_wpAt_MethodCall ?_ he) hin hsw
  refine ks_wpAt_super_base (env := ksEnv qual scope L fI (.ref cda) cc) hks hkc (by decide) rfl (X _ _ hf) rfl hp rfl (X _ _ hcode) rfl hvs hfile T.top ?_
  refine ks_loadName_global hk hks (loadGlobal_builtin (env := ksEnv qual scope L fI (.ref cda) cc) G.g G.no G.b G.su ⟨rfl, ?_⟩)
  refine wpAny_loadName_free hk hkc rfl ⟨_, X _ _ hcell, rfl⟩ ?_
  refine wpAny_loadName_local hk hka hn hv ?_
  refine ks_wpAny_isType_cls (X _ _ hC) rfl ⟨rfl, ?_⟩
  refine ks_wpAny_call_super (X _ _ hC) rfl hx rfl (fun c e => ?_) (looks_mroIn X T.self) (fun h1 hso k1 => ?_)
  · cases e
  have X1 := X.keeps k1
  have hsu : ks_superIn K C C "__init__" = alongIn K "__init__" (((.ref C :: bm : List Value).dropWhile (· != .ref C)).drop 1) := by unfold ks_superIn; rw [hcl]; rfl
  refine kxs_getMethod (K := K) kxs_ValueError hso (looks_opaque X1 T.opq) (l₀ := .ref C :: bm) (fun A Q E s k q => ?_) rfl X1 (by rw [← hsu]; exact T.sup) (InstAt.andThenVe I k1 X1 T.veC) hxC (by decide) ?_
  · exact wpAny_bind ((looks_clsIn X1 hcl) A _ E s k (wpAny_pure q))
  have k2 : ∀ b o, h1.get? b = some o → (h1.push (kxs_mw "ValueError.__init__" x)).get? b = some o := fun b o e => Heap.get?_push_of_some _ e
  refine hargs _ _ _ ((hn.keeps k1).keeps k2) (Heap.get?_push_size _ rfl) ?_
  refine call_mw T (X1.keeps k2) (k2 _ _ (k1 _ _ hx)) (Heap.get?_push_size _ rfl) hl fun h' t1 k e => ?_
  exact hq h' _ t1 (fun b o hb z => k b o hb (k2 _ _ (k1 _ _ z))) e
theorem ldC {M : Model} {s : Shared} {env : Env} {m : Str → Option Value} {x : Str} {pos : Pos} {v : Value} {Q : Value → Shared → Prop} {A : Around} {E : Value → Shared → Prop} (hn : s.heap.Ns env.locals m) (hv : m x = some v) (h : Q v s)
    (hk : env.scope.kind = .function) (hl : env.kindOf x = some .local) (hd : (x == ("__debug__" : Str)) = false) : wpAny M A (eval (.Name x pos) env) Q E s := wpAny_Name (wpAny_loadName_local hk hl hn hv h) hd
theorem look1 {f : Str} {x v : Value} (h : (("self" : Str) == f) = false) : ([("self", x), (f, v)] : List (Str × Value)).reverse.lookup ("self" : Str) = some x := by
  show List.lookup ("self" : Str) [(f, v), (("self" : Str), x)] = some x
  simp [List.lookup, h]
theorem look2 {f : Str} {x v : Value} : ([("self", x), (f, v)] : List (Str × Value)).reverse.lookup f = some v := by
  show List.lookup f [(f, v), (("self" : Str), x)] = some v
  simp [List.lookup]
theorem scope_f {f : Str} (h : (f == ("self" : Str)) = false) : (S1 f).names.lookup f = some .local := by
  show List.lookup f [(PySem.Str.ofString "self", _), (f, _), _, _] = _
  have h' : (f == PySem.Str.ofString "self") = false := h
  simp [List.lookup, h']
theorem scope_self (f : Str) : (S1 f).names.lookup ("self" : Str) = some .local := rfl
theorem scope_of {f : Str} {g : Str} {k : NameKind} (hf : (g == f) = false) (h : List.lookup g [(PySem.Str.ofString "self", NameKind.local), (PySem.Str.ofString "__class__", .free), (PySem.Str.ofString "super", .globalImplicit)] = some k) : (S1 f).names.lookup g = some k := by
  show List.lookup g [(PySem.Str.ofString "self", _), (f, _), (PySem.Str.ofString "__class__", _), (PySem.Str.ofString "super", _)] = _
  simp only [List.lookup] at h ⊢
  rw [hf]
  exact h
/-- __init__(self, f): super().__init__(f); self.f = f -/
theorem init1 (T : Exc1 prog K C fI cda cc f qual) (hsf : (("super" : Str) == f) = false) (hcf : (("__class__" : Str) == f) = false) {x t0 : Addr} {v : Value} (X : K.In s.heap) (G : Glb s.heap mg mb) (hlim : s.heap.NoLimit) (hx : s.heap.get? x = some (excO C t0)) (hxC : x ≠ C) (hnx : K.lookup x = none) (hroom : A.depth < recursionLimit)
    (hq : ∀ h' tk dx t1, InitEnd s.heap h' x C dx t1 f v → R (.ok (.ret .none)) { s with heap := h', toks := tk }) :
    codeAny (model prog w) A (.call (.ref fI) ⟨[.ref x, v], []⟩) R s := by
  obtain ⟨oc, od, doc, pm, an, ct, osl, p1, p2, q1, q2, q3, q4, q5, q6, q7, q8, q9, q10, ho, hcd, hline, hbind⟩ := T.fn
  obtain ⟨nm, q, N, bs, bm, sn, sub, ab, col, dd, k0, k1, k2, k3, k5, hC, hbm⟩ := T.cls
  have hcl : clsIn K C = some { name := nm, bases := bs, mro := .ref C :: bm, ns := N, qualname := q, hasDict := true, slotNames := sn, subclasses := sub, abstract := ab, collection := col, hasDel := false } := by unfold clsIn; rw [hC] <;> rfl
  have hfl := scope_f T.fs.2.1
  refine ks_codeAny_call_defAt (fd := ksFn "__init__" qual (A1 f p1 p2) (B1 f q1 q2 q3 q4 q5 q6 q7 q8 q9 q10) (S1 f) .none .none doc pm an (.ref cda) ct cc) (body := B1 f q1 q2 q3 q4 q5 q6 q7 q8 q9 q10) (binds := [("self", .ref x), (f, v)]) hroom (X _ _ ho) rfl hlim (codeRec_of X hcd) rfl (BindsTo.of_eq (hbind _ _)) ?_ ?_ (fun h₁ hns kp => ?_) rfl rfl rfl
  · intro y hy
    have hy : y ∈ [(PySem.Str.ofString "self", NameKind.local), (f, .local), (PySem.Str.ofString "__class__", .free), (PySem.Str.ofString "super", .globalImplicit)] := hy
    simp only [List.mem_cons, List.not_mem_nil, or_false] at hy
    rcases hy with rfl | rfl | rfl | rfl <;> (intro z; cases z)
  · intro y hy
    simp only [List.mem_cons, List.not_mem_nil, or_false] at hy
    rcases hy with rfl | rfl
    · exact scope_self f
    · exact hfl
  have hxL : x ≠ s.heap.objs.size := Nat.ne_of_lt (Heap.lt_size hx)
  have zL : s.heap.objs.size < h₁.objs.size := hns.lt
  show _root_.PySem.wpAt _ _ _ (execs (sup q1 q2 q3 q5 q6 [.Name f q4] :: _) (ksEnv qual (S1 f) s.heap.objs.size fI (.ref cda) cc)) _ _ _
  refine ks_wpAt_execs_cons ?_
  refine sup_stmt (s := { s with heap := h₁, toks := s.toks + 2 }) (vals := [v]) (ar := { arg := "self", annotation := none, pos := p1 }) T.toExcC (X.keeps kp) (G.keeps kp) (kp _ _ hx) hxC hns hxL (look1 T.fs.1) ho rfl (scope_of hsf (by decide)) (scope_of hcf (by decide)) (scope_self f) rfl (one_le v) (fun u s' Q' hn' hu hcall => ?_) (he1 q1 q2 q3 q4 q5 f _ hline) rfl rfl fun h2 tk2 t1 kp2 hx2 => ?_
  · have he : starEach [.Name f q4] (ksEnv qual (S1 f) s.heap.objs.size fI (.ref cda) cc) = (false, eval (.Name f q4) (ksEnv qual (S1 f) s.heap.objs.size fI (.ref cda) cc)) :: starEach [] (ksEnv qual (S1 f) s.heap.objs.size fI (.ref cda) cc) := rfl
    rw [he]
    refine kxs_callWith (i := "ValueError.__init__") (x := x) rfl (PySem.Calls.evalArgs_plain ?_)
    exact PyProof.Rows.args_cons (ldC (env := ksEnv qual (S1 f) s.heap.objs.size fI (.ref cda) cc) hn' look2 (PyProof.Rows.args_nil ⟨hu, hcall⟩) rfl hfl T.fs.2.2) rfl
  · have hns2 : h2.Ns s.heap.objs.size (fun y => ([("self", Value.ref x), (f, v)] : List (Str × Value)).reverse.lookup y) := by
      obtain ⟨oL, es, ep, hL, r⟩ := hns
      exact ⟨oL, es, ep, kp2 _ _ (fun z => hxL z.symm) hL, r⟩
    have X2 : K.In h2 := kept_but X hnx fun b o hb e => kp2 b o hb (kp b o e)
    refine wpAt_of_wpAny ?_
    refine wpAny_execs_cons (plainObj_wpAny_Assign_Attribute ?_ rfl)
    refine ldC (env := ksEnv qual (S1 f) s.heap.objs.size fI (.ref cda) cc) hns2 look2 (ldC (env := ksEnv qual (S1 f) s.heap.objs.size fI (.ref cda) cc) hns2 (look1 T.fs.1) ?_ rfl (scope_self f) (by decide)) rfl hfl T.fs.2.2
    refine set_plain X2 (ox := excO C t1) (od := none) ⟨hx2, rfl, rfl, trivial⟩ T.sa ?_
    refine exc_osa X2 hx2 hcl (show refsVE (.ref C :: bm) = true from hbm) rfl T.noN (fun h3 tk3 dx k3 dn dne hx3 hn3 => ?_)
    refine wpAny_execs_nil (hq h3 tk3 dx t1 ⟨fun b o hb e => k3 b o hb (kp2 b o hb (kp b o e)), hx3, ?_, dne, hn3⟩)
    obtain ⟨oL, es, ep, hL, r⟩ := hns2
    exact Nat.le_of_lt (Nat.lt_of_lt_of_le (Heap.lt_size hL) dn)
/-- __init__(self): super().__init__() -/
theorem init0 (T : Exc0 prog K C fI cda cc qual) {x t0 : Addr} (X : K.In s.heap) (G : Glb s.heap mg mb) (hlim : s.heap.NoLimit) (hx : s.heap.get? x = some (excO C t0)) (hxC : x ≠ C) (hroom : A.depth < recursionLimit)
    (hq : ∀ h' tk t1, (∀ b o, b ≠ x → s.heap.get? b = some o → h'.get? b = some o) → h'.get? x = some (excO C t1) → R (.ok (.ret .none)) { s with heap := h', toks := tk }) :
    codeAny (model prog w) A (.call (.ref fI) ⟨[.ref x], []⟩) R s := by
  obtain ⟨oc, od, doc, pm, an, ct, osl, p1, q1, q2, q3, q5, q6, ho, hcd, hline⟩ := T.fn
  refine ks_codeAny_call_defAt (fd := ksFn "__init__" qual (A0 p1) (B0 q1 q2 q3 q5 q6) S0 .none .none doc pm an (.ref cda) ct cc) (body := B0 q1 q2 q3 q5 q6) (binds := [("self", .ref x)]) hroom (X _ _ ho) rfl hlim (codeRec_of X hcd) rfl (BindsTo.of_eq (by first | rfl | with_unfolding_all rfl)) (show ∀ x ∈ S0.names, x.2 ≠ NameKind.cell by decide) (fun y hy => by rw [List.mem_singleton] at hy; subst hy; rfl) (fun h₁ hns kp => ?_) rfl rfl rfl
  have hxL : x ≠ s.heap.objs.size := Nat.ne_of_lt (Heap.lt_size hx)
  show _root_.PySem.wpAt _ _ _ (execs (sup q1 q2 q3 q5 q6 [] :: _) (ksEnv qual S0 s.heap.objs.size fI (.ref cda) cc)) _ _ _
  refine ks_wpAt_execs_cons ?_
  refine sup_stmt (s := { s with heap := h₁, toks := s.toks + 1 }) (vals := []) (ar := { arg := "self", annotation := none, pos := p1 }) T.toExcC (X.keeps kp) (G.keeps kp) (kp _ _ hx) hxC hns hxL rfl ho rfl (show S0.names.lookup ("super" : Str) = some .globalImplicit by decide) (show S0.names.lookup ("__class__" : Str) = some .free by decide) (show S0.names.lookup ("self" : Str) = some .local by decide) rfl (Nat.zero_le _) (fun u s' Q' hn' hu hcall => ?_) (he0 q1 q2 q3 q5 _ hline) rfl rfl fun h2 tk2 t1 kp2 hx2 => ?_
  · exact kxs_callWith (i := "ValueError.__init__") (x := x) rfl (evalArgs_empty ⟨hu, hcall⟩)
  · refine wpAt_of_wpAny ?_
    exact wpAny_execs_nil (hq h2 tk2 t1 (fun b o hb e => kp2 b o hb (kp b o e)) hx2)
/-- a made exception -/
structure Made1 (h h' : Heap) (e C d : Addr) (f : Str) (v : Value) : Prop where
  keep : ∀ b o, h.get? b = some o → h'.get? b = some o
  new : h.objs.size ≤ e
  obj : ∃ oe vs, h'.get? e = some oe ∧ oe.cls = .ref C ∧ oe.dict = some d ∧ oe.data = .fields vs ∧ vs[1]? = some .none
  dbig : h.objs.size ≤ d
  dne : d ≠ e
  ns : h'.Ns1 d (fun y => if y = f then some v else none)
structure Made0 (h h' : Heap) (e C : Addr) : Prop where
  keep : ∀ b o, h.get? b = some o → h'.get? b = some o
  new : h.objs.size ≤ e
  obj : ∃ oe vs, h'.get? e = some oe ∧ oe.cls = .ref C ∧ oe.dict = none ∧ oe.data = .fields vs ∧ vs[1]? = some .none
theorem made1 (T : Exc1 prog K C fI cda cc f qual) (hsf : (("super" : Str) == f) = false) (hcf : (("__class__" : Str) == f) = false) {v : Value} (X : K.In s.heap) (G : Glb s.heap mg mb) (hlim : s.heap.NoLimit) (hroom : A.depth + 1 < recursionLimit)
    (hq : ∀ h' tk e d, Made1 s.heap h' e C d f v → R (.ok (.ret (.ref e))) { s with heap := h', toks := tk }) :
    codeAny (model prog w) A (.call (.ref C) ⟨[v], []⟩) R s := by
  obtain ⟨nm, q, N, bs, bm, sn, sub, ab, col, dd, k0, k1, k2, k3, k5, hC, hbm⟩ := T.cls
  obtain ⟨hp, g, dr, tk, os⟩ := s
  have k : ∀ b o, hp.get? b = some o → ((hp.push (kdv_tup [v])).push (excO C hp.objs.size)).get? b = some o := fun b o e => Heap.get?_push_of_some _ (Heap.get?_push_of_some _ e)
  have hget : ((hp.push (kdv_tup [v])).push (excO C hp.objs.size)).get? (hp.objs.size + 1) = some (excO C hp.objs.size) := by heap_get
  have hnx : K.lookup (hp.objs.size + 1) = none := by
    cases e : K.lookup (hp.objs.size + 1) with
    | none => rfl
    | some o =>
      have z : hp.get? (hp.objs.size + 1) = some o := X _ _ e
      exact absurd (Nat.lt_of_succ_lt (Heap.lt_size z)) (Nat.lt_irrefl _)
  have hxC : hp.objs.size + 1 ≠ C := fun z => by rw [z, hC] at hnx; cases hnx
  refine call_own F.excBase_ValueError (fun X => refsVE_contains X bm hbm) (X _ _ hC) (looks_findIn X T.iC) (fun self => bind_fn X self T.tC) (one_le v) ?_
  refine init1 (s := ⟨(hp.push (kdv_tup [v])).push (excO C hp.objs.size), g, dr, tk, os⟩) T hsf hcf (X.keeps k) (G.keeps k) (hlim.keeps k) hget hxC hnx ?_ fun h' tk' dx t1 ⟨k', hx, dn, dne, hns⟩ => ?_
  · show A.depth + 1 < recursionLimit
    exact hroom
  · have old : ∀ b o, hp.get? b = some o → h'.get? b = some o := fun b o e => k' b o (Nat.ne_of_lt (Nat.lt_succ_of_lt (Heap.lt_size e))) (k b o e)
    have z : hp.objs.size + 1 + 1 ≤ dx := by
      have q := dn
      simp only [Heap.size_push] at q
      exact q
    exact ⟨rfl, hq h' tk' (hp.objs.size + 1) dx ⟨old, Nat.le_succ _, ⟨_, _, hx, rfl, rfl, rfl, rfl⟩, Nat.le_trans (Nat.le_trans (Nat.le_succ _) (Nat.le_succ _)) z, dne, hns⟩⟩
theorem made0 (T : Exc0 prog K C fI cda cc qual) (X : K.In s.heap) (G : Glb s.heap mg mb) (hlim : s.heap.NoLimit) (hroom : A.depth + 1 < recursionLimit)
    (hq : ∀ h' tk e, Made0 s.heap h' e C → R (.ok (.ret (.ref e))) { s with heap := h', toks := tk }) :
    codeAny (model prog w) A (.call (.ref C) ⟨[], []⟩) R s := by
  obtain ⟨nm, q, N, bs, bm, sn, sub, ab, col, dd, k0, k1, k2, k3, k5, hC, hbm⟩ := T.cls
  obtain ⟨hp, g, dr, tk, os⟩ := s
  have k : ∀ b o, hp.get? b = some o → ((hp.push (kdv_tup [])).push (excO C hp.objs.size)).get? b = some o := fun b o e => Heap.get?_push_of_some _ (Heap.get?_push_of_some _ e)
  have hget : ((hp.push (kdv_tup [])).push (excO C hp.objs.size)).get? (hp.objs.size + 1) = some (excO C hp.objs.size) := by heap_get
  have hnx : K.lookup (hp.objs.size + 1) = none := by
    cases e : K.lookup (hp.objs.size + 1) with
    | none => rfl
    | some o =>
      have z : hp.get? (hp.objs.size + 1) = some o := X _ _ e
      exact absurd (Nat.lt_of_succ_lt (Heap.lt_size z)) (Nat.lt_irrefl _)
  have hxC : hp.objs.size + 1 ≠ C := fun z => by rw [z, hC] at hnx; cases hnx
  refine call_own F.excBase_ValueError (fun X => refsVE_contains X bm hbm) (X _ _ hC) (looks_findIn X T.iC) (fun self => bind_fn X self T.tC) (Nat.zero_le _) ?_
  refine init0 (s := ⟨(hp.push (kdv_tup [])).push (excO C hp.objs.size), g, dr, tk, os⟩) T (X.keeps k) (G.keeps k) (hlim.keeps k) hget hxC ?_ fun h' tk' t1 k' hx => ?_
  · show A.depth + 1 < recursionLimit
    exact hroom
  · have old : ∀ b o, hp.get? b = some o → h'.get? b = some o := fun b o e => k' b o (Nat.ne_of_lt (Nat.lt_succ_of_lt (Heap.lt_size e))) (k b o e)
    exact ⟨rfl, hq h' tk' (hp.objs.size + 1) ⟨old, Nat.le_succ _, ⟨_, _, hx, rfl, rfl, rfl, rfl⟩⟩⟩
end
end DX
end PySem
set_option Elab.async false
set_option linter.all false
set_option maxRecDepth 100000
set_option maxHeartbeats 4000000
/-! Machine D: raise, try. -/
namespace DM
open PySem PySem.Spec PyProof.Rows L2

section
variable {X : Cx} {T : Tx} {W : WX}
theorem glb_of {pins : List (Addr × Obj)} {σ : SV} {H : Hp} {s : Shared} (I : Inv X pins σ H s) (hm : X.mg "super" = none) : ∃ mb, PySem.DX.Glb s.heap X.mg mb := by
  obtain ⟨mb, h1, h2⟩ := I.mod.blt
  exact ⟨mb, I.mod.glob.keeps I.bk, h1.keeps I.bk, hm, (h2 "super" (by decide)).trans (by decide +kernel)⟩
/-! ### C(e), C() -/
def tMk1 (C : Addr) (f : Str) (ta : TA) : SV → Hp → XK → Prop := fun σ H Q => ta σ H fun vs H1 => ∃ v, vs = [v] ∧ ∀ d, H1 d = none → Q (.ref C) (some d) (upd H1 d (.xd [(f, v)]))
def tMk0 (C : Addr) : SV → Hp → XK → Prop := fun σ H Q => Q (.ref C) none H
theorem relO_one {f : Str} {v : V} {v' : Value} (r : RelV v v') (g : Str) : RelO (List.lookup g [(f, v)]) (if g = f then some v' else none) := by
  by_cases hw : g = f
  · subst hw
    rw [if_pos rfl]
    have q : List.lookup g [(g, v)] = some v := by simp [List.lookup]
    rw [q]
    exact r
  · rw [if_neg hw]
    have qw : (g == f) = false := by simpa using hw
    have q2 : List.lookup g [(f, v)] = none := by simp [List.lookup, qw]
    rw [q2]
    trivial
theorem pmk1 {C fI cda cc : Addr} {f qual nm : Str} {a : Expr} {ta : TA} {p pos : Pos} {k : Nat} (E : PySem.DX.Exc1 X.prog X.K C fI cda cc f qual) (hsf : (("super" : Str) == f) = false) (hcf : (("__class__" : Str) == f) = false) (hr : Room k X.A) (ha : PA X [a] ta) (hg : Gl X nm) (hm : X.mg nm = some (.ref C)) (hs : X.mg "super" = none)
    (hdb : (nm == ("__debug__" : Str)) = false) (he : starEach (a :: []) X.env = (false, eval a X.env) :: starEach [] X.env := by rfl) (hpl : (backTo pos (starEach [] X.env)).any (·.1) = false := by rfl) :
    PMk X (.Call (.Name nm p) [a] [] pos) (tMk1 C f ta) := by
  intro pins s σ H Q I h
  refine wpAny_Call_Name_kw (ld_glob I hg hm ?_ hdb)
  refine PySem.W.callWith_K (h₀ := X.base) I.ok.mod.kin E.kC (thn (ha.run pos pins s σ H _ I h) fun us s1 hh => ?_) he hpl
  obtain ⟨vs, H1, I1, r1, v, ev, q1⟩ := hh
  subst ev
  refine ⟨I1.kIn, ?_⟩
  cases r1 with
  | cons rv rn =>
    rename_i v' us'
    cases rn
    show wpAny _ _ (call (.ref C) [v']) _ _ _
    have hlim := I1.nolimit
    obtain ⟨mb, G⟩ := glb_of I1 hs
    obtain ⟨hp, g, dr, tk, os⟩ := s1
    refine wpAny_call (PySem.DX.made1 E hsf hcf I1.kIn G hlim (by have := hr.dp; omega) fun h' tk' e d M => ?_)
    show MkP X pins σ Q (.ref e) ⟨h', g, dr, tk', os⟩
    obtain ⟨oe, fv, hoe, hc, hd, hdat, h1⟩ := M.obj
    have hns := M.ns
    obtain ⟨G', g1, g2⟩ := restrict h' fun b => decide (b ≠ e)
    have gk : ∀ b, b ≠ e → G'.get? b = h'.get? b := fun b hb => g1 b (decide_eq_true hb)
    have ge : G'.get? e = none := g2 e (by simp)
    have old : ∀ b o, hp.get? b = some o → G'.get? b = some o := fun b o q => (gk b (Nat.ne_of_lt (Nat.lt_of_lt_of_le (Heap.lt_size q) M.new))).trans (M.keep b o q)
    have ob : ObjOk X.prog X.w (upd H1 d (.xd [(f, v)])) G' d (.xd [(f, v)]) :=
      ⟨_, hns.at (fun o q => (gk d M.dne).trans q), fun g => relO_one rv g⟩
    have J : Inv X pins σ (upd H1 d (.xd [(f, v)])) ⟨G', g, dr, tk', os⟩ := I1.laid (t' := tk') old M.dbig ob
    refine ⟨e, oe, fv, ⟨G', g, dr, tk', os⟩, _, .ref C, some d, rfl, J, fun b o q => ?_, ge, hoe, ⟨hc, hd⟩, hdat, h1, ?_, rfl, I1.bare, raises_own E.exC E.tyC, q1 d (I1.hok.fresh M.dbig)⟩
    · by_cases hb : b = e
      · have q' : G'.get? b = some o := q
        rw [hb, ge] at q'; cases q'
      · exact (gk b hb).symm.trans q
    · rw [upd_ne (Ne.symm M.dne)]
      exact I1.hok.fresh M.new
theorem pmk0 {C fI cda cc : Addr} {qual nm : Str} {p pos : Pos} {k : Nat} (E : PySem.DX.Exc0 X.prog X.K C fI cda cc qual) (hr : Room k X.A) (hg : Gl X nm) (hm : X.mg nm = some (.ref C)) (hs : X.mg "super" = none) (hdb : (nm == ("__debug__" : Str)) = false) :
    PMk X (.Call (.Name nm p) [] [] pos) (tMk0 C) := by
  intro pins s σ H Q I h
  refine wpAny_Call_Name_kw (ld_glob I hg hm ?_ hdb)
  refine PySem.W.callWith_K0 I.kIn E.kC ?_
  have hlim := I.nolimit
  obtain ⟨mb, G⟩ := glb_of I hs
  have kin := I.kIn
  obtain ⟨hp, g, dr, tk, os⟩ := s
  refine wpAny_call (PySem.DX.made0 E kin G hlim (by have := hr.dp; omega) fun h' tk' e M => ?_)
  show MkP X pins σ Q (.ref e) ⟨h', g, dr, tk', os⟩
  obtain ⟨oe, fv, hoe, hc, hd, hdat, h1⟩ := M.obj
  obtain ⟨G', g1, g2⟩ := restrict h' fun b => decide (b ≠ e)
  have gk : ∀ b, b ≠ e → G'.get? b = h'.get? b := fun b hb => g1 b (decide_eq_true hb)
  have ge : G'.get? e = none := g2 e (by simp)
  have old : ∀ b o, hp.get? b = some o → G'.get? b = some o := fun b o q => (gk b (Nat.ne_of_lt (Nat.lt_of_lt_of_le (Heap.lt_size q) M.new))).trans (M.keep b o q)
  have J : Inv X pins σ H ⟨G', g, dr, tk', os⟩ := I.kept (t' := tk') old
  refine ⟨e, oe, fv, ⟨G', g, dr, tk', os⟩, _, .ref C, none, rfl, J, fun b o q => ?_, ge, hoe, ⟨hc, hd⟩, hdat, h1, I.hok.fresh M.new, rfl, I.bare, raises_own E.exC E.tyC, h⟩
  by_cases hb : b = e
  · have q' : G'.get? b = some o := q
    rw [hb, ge] at q'; cases q'
  · exact (gk b hb).symm.trans q
/-- raise C(e) -/
theorem s_raise1 {c n : Nat} {fI cda cc : Addr} {qual nm : Str} {a : Expr} {am : AM} {p pos pos2 : Pos} {k : Nat} (hc : X.calm = true) (tk : Takes X W) (hK : X.K = T.K) (E : PySem.DX.Exc1 X.prog T.K (T.xa c) fI cda cc (T.xf c) qual) (hsf : (("super" : Str) == T.xf c) = false) (hcf : (("__class__" : Str) == T.xf c) = false) (hr : Room k X.A)
    (ha : PA X [a] (rdA T W am)) (al : AL am 1) (hg : Gl X nm) (hm : X.mg nm = some (.ref (T.xa c))) (hs : X.mg "super" = none)
    (hdb : (nm == ("__debug__" : Str)) = false := by decide) (he : starEach (a :: []) X.env = (false, eval a X.env) :: starEach [] X.env := by rfl) (hpl : (backTo pos (starEach [] X.env)).any (·.1) = false := by rfl) :
    PS X (.Raise (some (.Call (.Name nm p) [a] [] pos)) none pos2) (rdS T W (sRaise c am)) := by
  rw [← hK] at E
  refine PS.imp (ps_raise hc tk (pmk1 E hsf hcf hr ha hg hm hs hdb he hpl)) fun D σ H ⟨ρ, Z, s, h, l, er, k⟩ => ?_
  refine ⟨ρ, Z, s, h, l, er, ?_⟩
  unfold sRaise at k
  cases e : am s h with
  | bad => rw [e] at k; exact k.elim
  | exc x h1 => rw [e] at k; exact fun ρ1 H1 c d g l1 r => k ρ1 H1 σ c d g l1 (er.mono g) r
  | ok ds h1 =>
    rw [e] at k
    intro ρ1 H1 vs g l1 r
    have r : RepL T ρ1 Z H1 ds vs := r
    have hl := al _ _ _ _ e
    match ds, r, hl with
    | [d], r, _ =>
      obtain ⟨v, r1, rfl, rv, rn⟩ := RepL.cons_iff.mp r
      rw [RepL.nil_iff] at rn
      subst rn
      refine ⟨v, rfl, fun a ha => ?_⟩
      have g2 : Gr ρ1 H1 ρ1 (upd H1 a (.xd [(T.xf c, v)])) := Gr.laid ha
      have no := l1.outZ ha
      exact k ρ1 _ σ _ _ (g.trans g2) (l1.fresh ha).lose (er.mono (g.trans g2)) ⟨rfl, a, v, rfl, no.1, no.2, upd_same, Rep.mono g2 _ _ rv⟩
/-- raise C() -/
theorem s_raise0 {c n : Nat} {fI cda cc : Addr} {qual nm : Str} {p pos pos2 : Pos} {k : Nat} (hc : X.calm = true) (tk : Takes X W) (hK : X.K = T.K) (E : PySem.DX.Exc0 X.prog T.K (T.xa c) fI cda cc qual) (hr : Room k X.A)
    (hg : Gl X nm) (hm : X.mg nm = some (.ref (T.xa c))) (hs : X.mg "super" = none) (hdb : (nm == ("__debug__" : Str)) = false := by decide) :
    PS X (.Raise (some (.Call (.Name nm p) [] [] pos)) none pos2) (rdS T W (sRaise c aNil)) := by
  rw [← hK] at E
  refine PS.imp (ps_raise hc tk (pmk0 E hr hg hm hs hdb)) fun D σ H ⟨ρ, Z, s, h, l, er, k⟩ => ?_
  exact k ρ H σ _ _ Gr.refl l er ⟨rfl, rfl⟩

/-! ### the suite's own text facts -/
section
variable {a : Addr} {v : Value} {dd : Option Addr} {ρ Z : List Addr} {H : Hp} {h : HD} {s : SD} {σ : SV}
abbrev Tx.held (T : Tx) (a : Addr) (v : Value) (dd : Option Addr) : Tx := { T with cur := some (a, v, dd) }
mutual
theorem Rep.to : ∀ (d : D) (u : V), Rep T ρ Z H d u ↔ Rep (T.held a v dd) ρ Z H d u
  | .non, _ => by rw [Rep, Rep]
  | .bl _, _ => by rw [Rep, Rep]
  | .int _, _ => by rw [Rep, Rep]
  | .str _, _ => by rw [Rep, Rep]
  | .tup l, _ => by rw [Rep, Rep]; exact and_congr Iff.rfl (exists_congr fun a => exists_congr fun xs => and_congr Iff.rfl (and_congr Iff.rfl (RepL.to l xs)))
  | .fl l, _ => by rw [Rep, Rep]; exact and_congr Iff.rfl (exists_congr fun a => exists_congr fun xs => and_congr Iff.rfl (and_congr Iff.rfl (and_congr Iff.rfl (and_congr Iff.rfl (RepL.to l xs)))))
  | .sc l, _ => by rw [Rep, Rep]; exact and_congr Iff.rfl (exists_congr fun a => exists_congr fun xs => and_congr Iff.rfl (and_congr Iff.rfl (RepL.to l xs)))
  | .fo c l, _ => by rw [Rep, Rep]; exact and_congr Iff.rfl (exists_congr fun a => exists_congr fun dx => exists_congr fun xs => and_congr Iff.rfl (and_congr Iff.rfl (and_congr Iff.rfl (and_congr Iff.rfl (RepL.to l xs)))))
  | .fdk ks l, _ => by rw [Rep, Rep]; exact and_congr Iff.rfl (exists_congr fun a => exists_congr fun xs => and_congr Iff.rfl (and_congr Iff.rfl (and_congr Iff.rfl (and_congr Iff.rfl (RepL.to l xs)))))
  | .fdt ks l, _ => by rw [Rep, Rep]; exact and_congr Iff.rfl (exists_congr fun a => exists_congr fun xs => and_congr Iff.rfl (and_congr Iff.rfl (and_congr Iff.rfl (and_congr Iff.rfl (RepL.to l xs)))))
  | .ref n, _ => by rw [Rep, Rep]
  | .ex _ _, _ => by rw [Rep, Rep]
theorem RepL.to : ∀ (l : List D) (xs : List V), RepL T ρ Z H l xs ↔ RepL (T.held a v dd) ρ Z H l xs
  | [], _ => by rw [RepL, RepL]
  | d :: l, _ => by rw [RepL, RepL]; exact exists_congr fun v => exists_congr fun r => and_congr Iff.rfl (and_congr (Rep.to d v) (RepL.to l r))
end
theorem OR.to {x : Addr} {o : O} : OR T ρ Z H x o ↔ OR (T.held a v dd) ρ Z H x o := by
  cases o with
  | lst l => exact and_congr Iff.rfl (exists_congr fun xs => and_congr Iff.rfl (RepL.to l xs))
  | dk l => exact exists_congr fun xs => and_congr Iff.rfl (RepL.to _ xs)
  | dt l => exact exists_congr fun xs => and_congr Iff.rfl (RepL.to _ xs)
  | ins c l => exact and_congr Iff.rfl (exists_congr fun dx => exists_congr fun xs => and_congr Iff.rfl (RepL.to l xs))
theorem Rl.to (l : Rl T ρ Z h H) : Rl (T.held a v dd) ρ Z h H := ⟨l.len, l.nd, fun n o x e1 e2 => OR.to.mp (l.ob n o x e1 e2), l.hid, l.tab⟩
theorem Rl.un (l : Rl (T.held a v dd) ρ Z h H) : Rl T ρ Z h H := ⟨l.len, l.nd, fun n o x e1 e2 => OR.to.mpr (l.ob n o x e1 e2), l.hid, l.tab⟩
/-- no suite holds an exception yet: no slot holds one -/
theorem EnvR.to (hc : T.cur = none) (e : EnvR T ρ Z H s σ) : EnvR (T.held a v dd) ρ Z H s σ := ⟨e.len, fun i d q => by
  obtain ⟨u, h1, h2⟩ := e.at_ i d q
  refine ⟨u, h1, ?_⟩
  unfold RepX at h2 ⊢
  split at h2
  · rename_i hx
    rw [if_pos hx]
    rcases h2 with ⟨_, _, _, _, _, _, e3, _⟩ | h2
    · rw [hc] at e3; cases e3
    · exact .inr h2
  · rename_i hx
    rw [if_neg hx]
    exact (Rep.to d u).mp h2⟩
theorem EnvR.un {i : Nat} (e : EnvR (T.held a v dd) ρ Z H s σ) : EnvR T ρ Z H ((s.map unEx).set i none) (σ.set i none) := ⟨by simp [e.len], fun j d q => by
  by_cases hj : i = j
  · subst hj
    rw [List.getElem?_set] at q
    simp only [if_true] at q
    split at q <;> cases q
  · rw [List.getElem?_set_ne hj] at q ⊢
    rw [List.getElem?_map] at q
    cases hs : s[j]? with
    | none => rw [hs] at q; cases q
    | some o =>
      rw [hs] at q
      cases o with
      | none => cases q
      | some d' =>
        have hx : isEx d' = false ∧ d' = d := by
          cases d' <;> first | (cases q; exact ⟨rfl, rfl⟩) | cases q
        obtain ⟨hx, rfl⟩ := hx
        obtain ⟨u, h1, h2⟩ := e.at_ j d' hs
        refine ⟨u, h1, ?_⟩
        unfold RepX at h2 ⊢
        rw [hx] at h2 ⊢
        exact (Rep.to d' u).mpr h2⟩
end
end
end DM
set_option Elab.async false
set_option linter.all false
set_option maxRecDepth 100000
set_option maxHeartbeats 4000000
/-! Machine D: try. -/
namespace DM
open PySem PySem.Spec PyProof.Rows L2

section
variable {X : Cx} {T : Tx} {W : WX} {sb : SubX} {c i : Nat} {mb mu : SM}
theorem held_env {a : Addr} {ρ Z : List Addr} {H : Hp} {s : SD} {σ : SV} {x : Xn} {cls : Value} {d : Option Addr} (hc : T.cur = none) (er : EnvR T ρ Z H s σ) (xr : XR T ρ Z H x cls d) : EnvR (T.held a cls d) ρ Z H (s.set i (some (.ex x.c x.l))) (σ.set i (some (.ref a))) := by
  have e := er.to (a := a) (v := cls) (dd := d) hc
  refine ⟨by simp [e.len], fun j q hq => ?_⟩
  by_cases hj : i = j
  · subst hj
    rw [List.getElem?_set] at hq
    simp only [if_true] at hq
    split at hq
    · rename_i hl
      cases hq
      refine ⟨.ref a, by rw [List.getElem?_set]; simp only [if_true]; rw [if_pos (by rw [← e.len]; exact hl)], ?_⟩
      unfold RepX
      rw [if_pos (show isEx (.ex x.c x.l) = true from rfl)]
      obtain ⟨e1, m⟩ := xr
      refine .inl ⟨x.c, x.l, a, d, rfl, rfl, by rw [e1], ?_⟩
      revert m
      cases x.l with
      | nil => exact fun m => m
      | cons y t =>
        cases t with
        | nil => exact fun ⟨b, u, q1, q2, q3, q4, q5⟩ => ⟨b, u, q1, q2, q3, q4, (Rep.to _ _).mp q5⟩
        | cons => exact fun m => m
    · cases hq
  · rw [List.getElem?_set_ne hj] at hq ⊢
    exact e.at_ j q hq
theorem try_read {D : Ends} {σ : SV} {H : Hp} (hc : T.cur = none) (hsb : ∀ e b, sb e c = some b → PySem.W.exmOne T.K (.ref (T.xa e)) (.ref (T.xa c)) = some b) (k : rdS T W (sTryAs sb c i mb mu) D σ H) :
    rdS T (wAs T.K (.ref (T.xa c)) i (fun a cls d => rdS (T.held a cls d) WN mu) W D) mb D σ H := by
  obtain ⟨ρ, Z, s, h, l, er, k⟩ := k
  refine ⟨ρ, Z, s, h, l, er, ?_⟩
  unfold sTryAs at k
  cases e : mb s h with
  | nx s1 h1 => rw [e] at k; exact k
  | bk s1 h1 => rw [e] at k; exact k
  | ct s1 h1 => rw [e] at k; exact k
  | rt d h1 => rw [e] at k; exact k
  | bad => rw [e] at k; exact k.elim
  | exc x s1 h1 =>
    rw [e] at k
    intro ρ1 H1 σ1 cls d g l1 er1 xr
    have hcl := xr.1
    cases es : sb x.c c with
    | none => simp only [es] at k; exact k.elim
    | some b =>
      refine ⟨b, by rw [hcl]; exact hsb _ _ es, fun eb a ha => ?_, fun eb => ?_⟩
      · subst eb
        simp only [es] at k
        refine ⟨ρ1, Z, _, h1, l1.to, held_env hc er1 xr, ?_⟩
        cases eu : mu (s1.set i (some (.ex x.c x.l))) h1 with
        | nx s2 h2 => rw [eu] at k; exact fun ρ2 H2 σ2 g2 l2 er2 => k ρ2 H2 _ (g.trans g2) l2.un er2.un
        | bk s2 h2 => rw [eu] at k; exact fun ρ2 H2 σ2 g2 l2 er2 => k ρ2 H2 _ (g.trans g2) l2.un er2.un
        | ct s2 h2 => rw [eu] at k; exact fun ρ2 H2 σ2 g2 l2 er2 => k ρ2 H2 _ (g.trans g2) l2.un er2.un
        | rt d2 h2 => rw [eu] at k; exact fun ρ2 H2 v2 g2 l2 r2 => k ρ2 H2 v2 (g.trans g2) l2.un ((Rep.to _ _).mpr r2)
        | exc y s2 h2 => rw [eu] at k; exact k.elim
        | bad => rw [eu] at k; exact k.elim
      · subst eb
        simp only [es] at k
        exact k ρ1 H1 σ1 cls d g l1 er1 xr
theorem s_tryAs {x n : Str} {body suite : List Stmt} {b₀ : Stmt} {np pos pos' : Pos} (hK : X.K = T.K) (hcur : T.cur = none) (hsb : ∀ e b, sb e c = some b → PySem.W.exmOne T.K (.ref (T.xa e)) (.ref (T.xa c)) = some b)
    (hs : X.stack = X.env :: X.outer) (hf : X.env.frame = some X.env.locals) (hN : X.N.Nodup) (hi : X.N[i]? = some n) (hln : X.env.kindOf n = some .local) (hc : Names X x (.ref (T.xa c))) (tk : Takes X W)
    (hb : ∀ (W : WX) (pn : List (Addr × Obj)) (xe : Value → Shared → Prop), Takes (X.tr pn xe) W → PassesOwn (model X.prog X.w) X.A X.env xe → PSs (X.tr pn xe) body (rdS T W mb))
    (hsu : ∀ (a : Addr) (oe : Obj) (cls : Value) (d : Option Addr) (pn : List (Addr × Obj)), Zc cls d oe → (∃ vs, oe.data = .fields vs) → PSs (X.suite a ((a, oe) :: pn)) (b₀ :: suite) (rdS (T.held a cls d) WN mu)) :
    PS X (.Try body [.ExceptHandler (some (.Name x np)) (some n) (b₀ :: suite) pos'] [] [] pos) (rdS T W (sTryAs sb c i mb mu)) :=
  PS.imp (ps_try_as (tb := fun W => rdS T W mb) (ts := fun a cls d => rdS (T.held a cls d) WN mu) (Wout := W) hs hf hN hi hln hc tk hb hsu) fun D σ H k => by
    rw [hK]
    exact try_read hcur hsb k
theorem only_read {D : Ends} {σ : SV} {H : Hp} (hcur : T.cur = none) (hsb : ∀ e b, sb e c = some b → PySem.W.exmOne T.K (.ref (T.xa e)) (.ref (T.xa c)) = some b) (k : rdS T W (sTryOnly sb c mb mu) D σ H) :
    rdS T (wOnly T.K (.ref (T.xa c)) (fun a cls d => rdS T WN mu) W D) mb D σ H := by
  obtain ⟨ρ, Z, s, h, l, er, k⟩ := k
  refine ⟨ρ, Z, s, h, l, er, ?_⟩
  unfold sTryOnly at k
  cases e : mb s h with
  | nx s1 h1 => rw [e] at k; exact k
  | bk s1 h1 => rw [e] at k; exact k
  | ct s1 h1 => rw [e] at k; exact k
  | rt d h1 => rw [e] at k; exact k
  | bad => rw [e] at k; exact k.elim
  | exc x s1 h1 =>
    rw [e] at k
    intro ρ1 H1 σ1 cls d g l1 er1 xr
    have hcl := xr.1
    cases es : sb x.c c with
    | none => simp only [es] at k; exact k.elim
    | some b =>
      refine ⟨b, by rw [hcl]; exact hsb _ _ es, fun eb a ha => ?_, fun eb => ?_⟩
      · subst eb
        simp only [es] at k
        refine ⟨ρ1, Z, s1, h1, l1, er1, ?_⟩
        cases eu : mu s1 h1 with
        | nx s2 h2 => rw [eu] at k; exact fun ρ2 H2 σ2 g2 l2 er2 => k ρ2 H2 _ (g.trans g2) l2 er2
        | bk s2 h2 => rw [eu] at k; exact fun ρ2 H2 σ2 g2 l2 er2 => k ρ2 H2 _ (g.trans g2) l2 er2
        | ct s2 h2 => rw [eu] at k; exact fun ρ2 H2 σ2 g2 l2 er2 => k ρ2 H2 _ (g.trans g2) l2 er2
        | rt d2 h2 => rw [eu] at k; exact fun ρ2 H2 v2 g2 l2 r2 => k ρ2 H2 v2 (g.trans g2) l2 r2
        | exc y s2 h2 => rw [eu] at k; exact k.elim
        | bad => rw [eu] at k; exact k.elim
      · subst eb
        simp only [es] at k
        exact k ρ1 H1 σ1 cls d g l1 er1 xr
theorem s_tryOnly {x : Str} {body suite : List Stmt} {b₀ : Stmt} {np pos pos' : Pos} (hK : X.K = T.K) (hcur : T.cur = none) (hsb : ∀ e b, sb e c = some b → PySem.W.exmOne T.K (.ref (T.xa e)) (.ref (T.xa c)) = some b)
    (hs : X.stack = X.env :: X.outer) (hf : X.env.frame = some X.env.locals) (hc : Names X x (.ref (T.xa c))) (tk : Takes X W)
    (hb : ∀ (W : WX) (pn : List (Addr × Obj)) (xe : Value → Shared → Prop), Takes (X.tr pn xe) W → PassesOwn (model X.prog X.w) X.A X.env xe → PSs (X.tr pn xe) body (rdS T W mb))
    (hsu : ∀ (a : Addr) (oe : Obj) (cls : Value) (d : Option Addr) (pn : List (Addr × Obj)), Zc cls d oe → (∃ vs, oe.data = .fields vs) → PSs (X.suite a ((a, oe) :: pn)) (b₀ :: suite) (rdS T WN mu)) :
    PS X (.Try body [.ExceptHandler (some (.Name x np)) none (b₀ :: suite) pos'] [] [] pos) (rdS T W (sTryOnly sb c mb mu)) :=
  PS.imp (ps_try_only (tb := fun W => rdS T W mb) (ts := fun a cls d => rdS T WN mu) (Wout := W) hs hf hc tk hb hsu) fun D σ H k => by
    rw [hK]
    exact only_read hcur hsb k
end
end DM
set_option Elab.async false
set_option linter.all false
set_option maxRecDepth 100000
set_option maxHeartbeats 4000000
/-! Machine D: what a suite asks of the exception that it holds. -/
namespace PySem.W
open PySem PySem.Calls PyProof.Rows
section
variable {prog : Program} {w : World} {A : Around} {E : Value → Shared → Prop} {s : Shared} {K : Frag} {x D : Addr} {ox : Obj} {od : Option Obj}
theorem dmFindObj {name : Str} {a g : Value} (hc : (clsIn K D).isSome = true) (ha : findIn K (.ref D) name = some (some a)) (hg : specialIn K a "__get__" = some (some g)) (ht : takesIn K a = some true) : findObj K D od name = some (.bind g a) := by
  obtain ⟨cd, hc⟩ := Option.isSome_iff_exists.mp hc
  unfold findObj
  rw [hc, Option.bind_some, ha, Option.bind_some]
  simp [hg, ht]
/-- the class attribute of an exception, with or without its own dict -/
theorem dmClass {Q : Option Value → Shared → Prop} (C : L2.ExcC K D) (X : K.In s.heap) (I : InstAt s.heap x ox D od) (h : Q (some (.ref D)) { s with toks := s.toks + 1 }) : wpAny (model prog w) A (getAttr? (.ref x) "__class__") Q E s := by
  have hf : findObj K D od "__class__" = some (.bind (.builtin "getset_descriptor.__get__") (.builtin "object.__class__")) := dmFindObj (by obtain ⟨cd, hc, _⟩ := any_some C.hd; rw [hc]; rfl) C.ha C.hn C.ht
  obtain ⟨hp, g, d, t, os⟩ := s
  have T0 := I.type (M := model prog w)
  have T1 := looks_findIn (M := model prog w) X C.hg
  have T2 := looks_findIn (M := model prog w) X C.hk
  have T3 := looks_find (M := model prog w) X I hf
  have sub : Looks (model prog w) hp (isInstance (.ref x) (.type "BaseException")) true := T0.andThen (looks_subIn X C.hs)
  have z2 : (Value.builtin "BaseException.__getattribute__" == Value.builtin "object.__getattribute__") = false := by decide +kernel
  have z1 : (onTheHeap (Value.ref D) && Value.builtin "BaseException.__getattribute__" == Value.builtin "object.__getattribute__") = false := by rw [z2]; rfl
  unfold getAttr? getAttrBy? getAttrBy
  refine wpAny_bind (wpAny_mkText (wpAny_bind (wpAny_attempt (wpAny_holding (wpAny_bind (T0.at (wpAny_bind (T1.at ?_))))))))
  show wpAny _ _ (if (onTheHeap (Value.ref D) && Value.builtin "BaseException.__getattribute__" == Value.builtin "object.__getattribute__") = true then _ else _) _ _ _
  rw [z1, if_neg Bool.false_ne_true]
  unfold getAttrByItsOwn hookBefore
  refine wpAny_bind ?_
  rw [if_pos (show onTheHeap (Value.ref D) = true from rfl)]
  refine T2.at (wpAny_bind (wpAny_attempt (wpAny_holding ?_)))
  unfold callGetattribute
  rw [show (false && onTheHeap (Value.builtin "BaseException.__getattribute__")) = false from rfl, if_neg Bool.false_ne_true]
  unfold boundAndCalled
  rw [PySem.F.excAttr_ValueError.ga.bind (.ref x)]
  refine wpAny_bind (wpAny_pure ?_)
  show wpAny _ _ (call (.builtin "BaseException.__getattribute__") [.ref x, .str "__class__" t]) _ _ _
  refine wpAny_call (codeAny_call_builtin PySem.F.excAttr_ValueError.ga.plain PySem.F.entry_bexc_ga ?_)
  refine @check_slot (model prog w) _ _ ⟨hp, g, d, t + 1, os⟩ "BaseException.__getattribute__" "BaseException" "__getattribute__" (.ref x) [.str "__class__" t] [] _ (by decide +kernel) (by decide +kernel) sub (PySem.F.args_bexc_ga (.ref x) (.str "__class__" t)) ?_
  unfold Builtin.«object.__getattribute__»
  refine wpAny_bind (wpAny_of_eq (a := ((Value.ref x : Value), [Value.str "__class__" t])) (by first | rfl | (simp only [slotArgs]; rfl)) ?_)
  refine wpAny_bind (wpAny_pure (wpAny_bind (T0.at (wpAny_bind (T3.at ?_)))))
  show wpAny _ _ (holding [Value.builtin "object.__class__"] (call (.builtin "getset_descriptor.__get__") [.builtin "object.__class__", .ref x, .ref D]) >>= ret) _ _ _
  refine wpAny_bind (wpAny_holding (wpAny_call (class_get (s := ⟨hp, g, d, t + 1, os⟩) (ox := ox) (od := od) X I C.hm ?_)))
  refine wpAny_pure ?_
  show wpAny _ _ (handedOut (.ref D)) _ _ _
  rw [handedOut_of (v := .ref D) rfl]
  first
    | exact wpAny_pure (wpAny_pure h)
    | exact wpAny_pure h
    | exact wpAny_pure (wpAny_bind (wpAny_pure (wpAny_pure h)))
theorem dmKitx (C : L2.ExcC K D) : KitX K (.ref x) (.ref D) (fun h => ∃ od, InstAt h x ox D od) where
  ty := fun _ _ _ ⟨_, I⟩ => I.type
  it := fun _ _ X _ => by
    obtain ⟨cdD, hcD, _⟩ := any_some C.hd
    unfold clsIn at hcD
    split at hcD
    · rename_i c' d' cd' sl' ho
      intro A' Q' E' s' k q
      unfold isType loadHead
      exact wpAny_bind (wpAny_loadPart (k _ _ (X _ _ ho)) (wpAny_pure q))
    · cases hcD
  ne := (handS_kitx_exc (x := x) (ox := { cls := .ref D, data := .fields #[] }) C.hg C.hk C.hs C.hd C.ha C.hn C.ht C.hm).ne
  ca := fun X ⟨_, I⟩ k => dmClass C X I k
end
end PySem.W
namespace DM
open PySem PySem.Spec PyProof.Rows L2

/-- what the text says of an exception class that a suite may hold -/
structure HeldK (T : Tx) (e : Nat) : Prop where
  ec : ExcC T.K (T.xa e)
  no : T.xf e ≠ "" → PySem.W.findIn T.K (.ref (T.xa e)) (T.xf e) = some none
  lt : e ≠ CALL
section
variable {X : Cx} {T : Tx} {W : WX} {sb : SubX} {c i : Nat} {a : Addr} {oe : Obj} {cls : Value} {d : Option Addr} {pn : List (Addr × Obj)}
def HeldL (T : Tx) (ρ Z : List Addr) (H : Hp) (a : Addr) (cls : Value) (d : Option Addr) (e : Nat) (l : List D) : Prop := match l with
  | [] => d = none
  | [x] => ∃ b u, d = some b ∧ b ∉ ρ ∧ b ∉ Z ∧ H b = some (.xd [(T.xf e, u)]) ∧ Rep (T.held a cls d) ρ Z H x u
  | _ => False
/-- the held exception as an argument: its slot -/
theorem held_at {ρ Z : List Addr} {H : Hp} {s : SD} {σ : SV} {e : Nat} {l : List D} (er : EnvR (T.held a cls d) ρ Z H s σ) (hs : s[i]? = some (some (.ex e l))) (ne : e ≠ CALL) :
    σ[i]? = some (some (.ref a)) ∧ cls = .ref (T.xa e) ∧ HeldL T ρ Z H a cls d e l := by
  obtain ⟨v, h1, h2⟩ := er.at_ i _ hs
  unfold RepX at h2
  rw [if_pos (show isEx (.ex e l) = true from rfl)] at h2
  rcases h2 with h2 | ⟨h2, _⟩
  rotate_left
  · cases h2; exact absurd rfl ne
  obtain ⟨c', l', a', dd, e1, e2, e3, m⟩ := h2
  cases e1
  have e3 : some (a, cls, d) = some (a', Value.ref (T.xa e), dd) := e3
  cases e3
  subst e2
  exact ⟨h1, rfl, m⟩
def rIsH (T : Tx) (es : List Nat) (a : Addr) (cls : Value) (d : Option Addr) : List V → Hp → VK → Prop := fun xs H Q => ∃ (e : Nat) (C : Addr) (b : Bool), xs = [.ref a, .ref C] ∧ e ∈ es ∧ cls = .ref (T.xa e) ∧ (d = none ∨ ∃ dd fs, d = some dd ∧ H dd = some (.xd fs)) ∧
  PySem.W.kitOne T.K (.ref (T.xa e)) (.ref C) = some b ∧ Q (.bl b) H
theorem call_isH {es : List Nat} (hK : X.K = T.K) (hE : ∀ e ∈ es, HeldK T e) (hz : Zc cls d oe) (hf : ∃ vs, oe.data = .fields vs) : CallR (X.suite a ((a, oe) :: pn)) (.builtin "isinstance") (rIsH T es a cls d) := by
  intro pins s σ H xs us Q I r h
  obtain ⟨e, C, b, rfl, he, hcl, hd, hk, q⟩ := h
  cases r with
  | cons rx rr =>
    cases rr with
    | cons rt rr =>
      cases rr
      cases rx
      cases rt
      obtain ⟨hget, _⟩ := I.pin (a, oe) (List.mem_append.mpr (.inl List.mem_cons_self))
      obtain ⟨vs, hv⟩ := hf
      have J : ∃ od, PySem.W.InstAt s.heap a oe (T.xa e) od := by
        obtain ⟨oc, odd, oda, osl⟩ := oe
        obtain ⟨h1, h2⟩ := hz
        dsimp only at h1 h2 hv
        subst h1 h2 hv hcl
        rcases hd with rfl | ⟨dd, fs, rfl, hx⟩
        · exact ⟨none, hget, rfl, rfl, trivial⟩
        · obtain ⟨mA, hns, _⟩ := (show ObjOk X.prog X.w H s.heap dd (.xd fs) from I.hok dd _ hx)
          obtain ⟨od, ho, _⟩ := lookIn_ns hns
          exact ⟨some od, hget, rfl, rfl, ho⟩
      have hk' : PySem.W.kitOne (X.suite a ((a, oe) :: pn)).K (.ref (T.xa e)) (.ref C) = some b := by rw [← hk]; show PySem.W.kitOne X.K _ _ = _; rw [hK]
      have hE' : ExcC (X.suite a ((a, oe) :: pn)).K (T.xa e) := by
        have := (hE e he).ec
        rw [← hK] at this; exact this
      exact PySem.W.kia_one (PySem.W.dmKitx (ox := oe) hE') I.kIn J hk' (fun z => nomatch z) fun tk => ⟨.bl b, H, I.kept (t' := tk) fun _ _ z => z, rfl, q⟩
/-- isinstance(e, C) -/
theorem x_isH {es : List Nat} {n x : Str} {np cp p pos : Pos} (hK : X.K = T.K) (hE : ∀ e ∈ es, HeldK T e) (hsb : ∀ e b, sb e c = some b → e ∈ es ∧ PySem.W.kitOne T.K (.ref (T.xa e)) (.ref (T.xa c)) = some b) (hz : Zc cls d oe) (hf : ∃ vs, oe.data = .fields vs)
    (hg : Gl X "isinstance") (hm : X.mg "isinstance" = none) (hgc : Gl X x) (hmc : X.mg x = some (.ref (T.xa c))) (hN : X.N[i]? = some n) (hv : Vis X.env.scope n) (hdx : (x == ("__debug__" : Str)) = false := by decide) (hd : (n == ("__debug__" : Str)) = false := by decide) (hcd : (n == ("__classdict__" : Str)) = false := by decide)
    (he : starEach [Expr.Name n np, .Name x cp] X.env = (false, eval (.Name n np) X.env) :: starEach [.Name x cp] X.env := by rfl) (he2 : starEach [Expr.Name x cp] X.env = (false, eval (.Name x cp) X.env) :: starEach [] X.env := by rfl) (hpl : (backTo pos (starEach [Expr.Name x cp] X.env)).any (·.1) = false := by rfl) :
    PE (X.suite a ((a, oe) :: pn)) (.Call (.Name "isinstance" p) [.Name n np, .Name x cp] [] pos) (rdE (T.held a cls d) W (eT (tIsX sb i c))) :=
  PE.imp (pe_callB (X := X.suite a ((a, oe) :: pn)) (call_isH hK hE hz hf) hg hm PyProof.Rows.boot_isinstance (pa_cons (pe_var hN hv hd hcd) (pa_cons (pe_glob hgc hmc (v := .ref (T.xa c)) rfl hdx) pa_nil he2) he) (by decide) (by decide) he hpl) fun σ H Q ⟨ρ, Z, s, h, l, er, k⟩ => by
    have k : Fin (T.held a cls d) W Z (RV (T.held a cls d) Z) ρ H σ ((tIsX sb i c s h).bind fun b h1 => .ok (.bl b) h1) Q := k
    unfold tIsX at k
    split at k
    · rename_i e l' hs
      cases es' : sb e c with
      | none => rw [es'] at k; exact k.elim
      | some b =>
        rw [es'] at k
        obtain ⟨he', hk⟩ := hsb e b es'
        obtain ⟨h1, h2, h3⟩ := held_at er hs (hE e he').lt
        refine ⟨.ref a, h1, e, T.xa c, b, rfl, he', h2, ?_, hk, k ρ H (.bl b) Gr.refl l (by show Rep _ ρ Z H (.bl b) (.bl b); rw [Rep])⟩
        revert h3
        match l' with
        | [] => exact fun h3 => .inl h3
        | [x] => exact fun ⟨b, u, q1, q2, q3, q4, q5⟩ => .inr ⟨b, _, q1, q4⟩
        | _ :: _ :: _ => exact fun h3 => h3.elim
    · exact k.elim
/-- e.f -/
theorem x_xf {es : List Nat} {n : Str} {f : Str} {np pos : Pos} (hK : X.K = T.K) (hE : ∀ e ∈ es, HeldK T e) (hD : ∀ e ∈ es, PySem.W.hasDictIn T.K (T.xa e) = true) (hz : Zc cls d oe) (hf : ∃ vs, oe.data = .fields vs)
    (hN : X.N[i]? = some n) (hv : Vis X.env.scope n) (hd : (n == ("__debug__" : Str)) = false := by decide) (hcd : (n == ("__classdict__" : Str)) = false := by decide) (hfe0 : f ≠ "" := by decide) (hb : attributeBase (.Name n np) f X.env (eval (.Name n np) X.env) = eval (.Name n np) X.env := by rfl) :
    PE (X.suite a ((a, oe) :: pn)) (.Attribute (.Name n np) f pos) (rdE (T.held a cls d) W (eXfE es T.xf f i)) := by
  refine ⟨fun pins s σ H Q I ⟨ρ, Z, sd, h, l, er, k⟩ => ?_⟩
  unfold eXfE at k
  split at k
  · rename_i e x hs
    split at k
    · rename_i hc
      obtain ⟨he, hfe⟩ := hc
      obtain ⟨h1, h2, h3⟩ := held_at er hs (hE e he).lt
      obtain ⟨b, u, q1, q2, q3, q4, q5⟩ := h3
      refine attr_of hb (thn ((pe_var (X := X.suite a ((a, oe) :: pn)) hN hv hd hcd).run pins s σ H (fun v H1 => v = .ref a ∧ H1 = H) I ⟨.ref a, h1, rfl, rfl⟩) fun w s1 hh => ?_)
      obtain ⟨y, H1, I1, ry, ey, eH⟩ := hh
      subst ey eH
      obtain rfl : w = Value.ref a := ry
      obtain ⟨ha, _⟩ := I1.pin (a, oe) (List.mem_append_left _ List.mem_cons_self)
      obtain ⟨vs, hdt⟩ := hf
      subst h2 q1
      obtain ⟨mA, hns, hr⟩ := (show ObjOk X.prog X.w H1 s1.heap b (.xd [(T.xf e, u)]) from I1.hok b _ q4)
      obtain ⟨od, ho, hl⟩ := lookIn_ns hns
      have lk : List.lookup (T.xf e) [(T.xf e, u)] = some u := by simp [List.lookup]
      obtain ⟨uv, hu, ru⟩ := RelO.some_of (v := u) (o := mA (T.xf e)) (by rw [← lk]; exact hr _)
      have J : PySem.W.InstAt s1.heap a oe (T.xa e) (some od) := ⟨ha, hz.1, by unfold PySem.W.notCls; rw [hdt] <;> rfl, by rw [hz.2]; exact ho⟩
      have C := hE e he
      have kin : T.K.In s1.heap := by rw [← hK]; exact I1.kIn
      subst hfe
      exact HandSPX.exc_get kin J C.ec.hg C.ec.hk C.ec.hs (PySem.W.findObj_own (hD e he) (C.no hfe0) rfl (by rw [hl, hu])) (handed_of ru) ⟨u, H1, I1.tok _, ru, k ρ H1 u Gr.refl l q5⟩
    · exact k.elim
  · exact k.elim
end
end DM
set_option Elab.async false
set_option linter.all false
set_option maxRecDepth 100000
set_option maxHeartbeats 4000000
/-! Machine D: == and != of an own class that says __eq__. -/
namespace PySem.W
open PySem PySem.Calls PyProof.Rows
section
variable {prog : Program} {w : World} {A : Around} {E : Value → Shared → Prop} {s : Shared} {K : Frag} {x C f L : Addr} {ox : Obj} {od : Option Obj} {b tb : Value} {h₀ : Heap} {m : Str → Option Value}
theorem dmBound {M : Model} {B id : String} {name : Str} {args : List Value} {Q : Option Value → Shared → Prop} (X : K.In s.heap) (I : InstAt s.heap x ox C od) (hs : findIn K (.ref C) name = some (some (.builtin id))) (S : Slot B name id)
    (h : wpAny M A (call (.builtin id) (.ref x :: args)) (fun v => Q (some v)) E s) : wpAny M A (callSpecialIfBound? (.ref x) name args) Q E s := by
  simp only [callSpecialIfBound?, bindSpecialIfBound?]
  refine wpAny_holding (wpAny_bind (wpAny_bind (wpAny_bind (I.type.here ((looks_findIn X hs).here ?_)))))
  simp only [S.bind]
  have fin : wpAny M A (call (.builtin id) ([.ref x] ++ args) >>= fun v => pure (some v)) Q E s := wpAny_bind (wpAny_mono h (fun v s' h' => wpAny_pure h') fun _ _ h' => h')
  refine wpAny_bind (wpAny_askSetting (wpAny_ite ?_))
  split
  · exact wpAny_bind (wpAny_pure (wpAny_pure fin))
  · exact wpAny_tryCatch (wpAny_bind (wpAny_pure (wpAny_pure fin)))
theorem dmObjNe (X : K.In s.heap) (I : InstAt s.heap x ox C od) (hs : findIn K (.ref C) "__eq__" = some (some (.ref f))) (hf : isFn K (.ref f) = true) (hu : A.units < cLine) {Q : Fin → Shared → Prop}
    (hcall : wpAny (model prog w) A (call (.ref f) [.ref x, b]) (fun v s' => ∃ c, v = .bool c ∧ Q (.done (.ret (.bool (!c)))) s') E s) :
    wpAny (model prog w) A (Builtin.«object.__ne__» ⟨[.ref x, b], []⟩) Q E s := by
  unfold Builtin.«object.__ne__»
  repeat (first
    | with_reducible refine wpAny_cRoomFor hu ?_
    | (refine wpAny_bind (m := callSpecialIfBound? (.ref x) (Str.ofString "__eq__") [b])
        (ifBound_K X I hs hf (wpAny_mono hcall (fun r s' hr => by
          obtain ⟨b, rfl, hq⟩ := hr
          repeat (first | exact hq | exact wpAny_pure hq | exact wpAny_truthy_bool hq | (refine wpAny_bind (m := truthy (.bool _)) (wpAny_truthy_bool ?_)) | wp_step)) fun _ _ e => e)))
    | wp_step)
theorem dmNe {Q : Value → Shared → Prop} (hu : A.units + 1 < cLine) (X : K.In s.heap) (I : InstAt s.heap x ox C od) (hb : Looks (model prog w) s.heap (typeOf b) tb) (hn : notFirst K C tb = true) (hm : mroIn K C (.type "object") = some true)
    (hs : findIn K (.ref C) "__eq__" = some (some (.ref f))) (hf : isFn K (.ref f) = true) (hne : findIn K (.ref C) "__ne__" = some (some (.builtin "object.__ne__")))
    (hcall : wpAny (model prog w) A.in1 (call (.ref f) [.ref x, b]) (fun v s' => ∃ c, v = .bool c ∧ Q (.bool (!c)) s') E s) : wpAny (model prog w) A (richCompare .NotEq (.ref x) b) Q E s := by
  have sub : Looks (model prog w) s.heap (isInstance (.ref x) (.type "object")) true := I.type.andThen (looks_mroIn X hm)
  have one : wpAny (model prog w) A (tryCompare (.ref x) (cmpInfo .NotEq).2.1 b) (fun r s' => ∃ v, r = some v ∧ Q v s') E s := by
    rw [show (cmpInfo .NotEq).2.1 = ("__ne__" : Str) from rfl]
    unfold tryCompare
    refine wpAny_bind (dmBound X I hne PySem.F.cmp_object.ne (wpAny_call (codeAny_call_builtin PySem.F.cmp_object.ne.plain PySem.F.cmpEntry_ne
      (@check_slot (model prog w) _ _ s "object.__ne__" "object" "__ne__" (.ref x) [b] [] _ PySem.F.cmpKind_ne PySem.F.cmpSplit_ne sub (PySem.F.cmpArgs_ne _ _) (dmObjNe (A := A.in1) X I hs hf hu (wpAny_mono hcall (fun v s' hv => ?_) fun _ _ e => e))))))
    obtain ⟨c, rfl, hq⟩ := hv
    first
      | exact ⟨c, rfl, wpAny_pure ⟨_, rfl, hq⟩⟩
      | exact ⟨c, rfl, ⟨_, rfl, wpAny_pure ⟨_, rfl, hq⟩⟩⟩
      | exact ⟨c, rfl, wpAny_pure (wpAny_pure ⟨_, rfl, hq⟩)⟩
  unfold richCompare
  simp only [oneThing_ref]
  refine wpAny_holding (wpAny_bind (wpAny_cRoomFor (Nat.lt_of_succ_lt hu) ?_))
  refine wpAny_bind (I.type.here (wpAny_bind (hb.here ?_)))
  split
  · rename_i q
    have e : subIn K tb (.ref C) = some false := by
      rcases Bool.or_eq_true_iff.mp hn with e | e
      · rw [beq_iff_eq.mp e] at q; simp at q
      · exact beq_iff_eq.mp e
    refine wpAny_bind ((looks_subIn X e).here ?_)
    simp only [Bool.false_eq_true, if_false]
    refine wpAny_bind (wpAny_mono one (fun r s' z => ?_) fun _ _ e => e)
    obtain ⟨v, rfl, hq⟩ := z
    exact wpAny_pure hq
  · refine wpAny_bind (wpAny_pure ?_)
    simp only [Bool.false_eq_true, if_false]
    refine wpAny_bind (wpAny_mono one (fun r s' z => ?_) fun _ _ e => e)
    obtain ⟨v, rfl, hq⟩ := z
    exact wpAny_pure hq
end
end PySem.W
namespace DM
open PySem PySem.Spec PyProof.Rows L2

/-- what the text says of a class that has its own __eq__ (at f) -/
structure EqK (T : Tx) (c : Nat) (f : Addr) (cs : List Nat) : Prop where
  eq : PySem.W.findIn T.K (.ref (T.ca c)) "__eq__" = some (some (.ref f))
  fn : PySem.W.isFn T.K (.ref f) = true
  ne : PySem.W.findIn T.K (.ref (T.ca c)) "__ne__" = some (some (.builtin "object.__ne__"))
  nf : ∀ n ∈ kinds, PySem.W.notFirst T.K (T.ca c) (.type n) = true
  no : ∀ e ∈ cs, PySem.W.notFirst T.K (T.ca c) (.ref (T.ca e)) = true
section
variable {X : Cx} {T : Tx} {W : WX} {cs : List Nat} {c k : Nat} {f : Addr} {fd : FuncData} {ps : List Str} {fm : FM}
theorem flag_fin {ρ Z : List Addr} {H : Hp} {r : Res D} {Q : Bool → Hp → Prop} (h : Fin T WN Z RB ρ H [] (flagR r) Q) : Fin T WN Z (RV T Z) ρ H [] r fun v H' => ∃ b, v = .bl b ∧ Q b H' := by
  cases r with
  | bad => exact h
  | exc x h1 => exact h
  | ok d h1 =>
    cases d with
    | bl b =>
      intro ρ' H' v g l r
      have r : Rep T ρ' Z H' (.bl b) v := r
      rw [Rep] at r
      exact ⟨b, r, h ρ' H' b g l rfl⟩
    | _ => exact h.elim
/-- x == y, x an instance, or data -/
def rEqX (T : Tx) (cs : List Nat) (c : Nat) (fm : FM) (ng : Bool) : R2 := fun u v H Q => ∃ ρ Z h x y, Rl T ρ Z h H ∧ Rep T ρ Z H x u ∧ Rep T ρ Z H y v ∧ Fin T WN Z RB ρ H [] (eqX cs c fm h x y) fun b H' => Q (.bl (if ng then !b else b)) H'
theorem run_eq {pins : List (Addr × Obj)} {σ : SV} {H : Hp} {s : Shared} {A : Around} {u v : V} {x y : Value} {Q : Bool → Hp → Prop} {E : Value → Shared → Prop} (hr : Room k A) (hfr : A.frames = X.A.frames) (F : FnOk X.prog X.w X.K X.mg X.base (L2.CX X.prog X.w) k f fd ps (spM T 2 fm)) (hb : Binds X.K fd ps [])
    (I : Inv X pins σ H s) (ru : RelV u x) (rv : RelV v y) {ρ Z : List Addr} {h : HD} {a b : D} (l : Rl T ρ Z h H) (ra : Rep T ρ Z H a u) (rb : Rep T ρ Z H b v) (kf : Fin T WN Z RB ρ H [] (flagR (fm [a, b] h)) Q) :
    wpAny (model X.prog X.w) A (call (.ref f) [x, y]) (fun r s' => ∃ c, r = .bool c ∧ ∃ H', Inv X pins σ H' s' ∧ Q c H') E s := by
  have hsp : spM T 2 fm [u, v] H (fun v H' => ∃ b, v = .bl b ∧ Q b H') E0 := ⟨rfl, ρ, Z, h, [a, b], l, RepL.cons ra (RepL.cons rb RepL.nil), flag_fin kf⟩
  have e0 : Env0 X.prog X.w X.K X.mg X.base A X.stack s H := by
    have e := I.env0
    exact ⟨by rw [hfr]; exact e.frames, e.mod, e.bs, e.bsz, e.funs, e.frf, e.hok, e.bare⟩
  have hl := F.len _ _ _ _ hsp
  have r2 : Vals [u, v] [x, y] := .cons ru (.cons rv .nil)
  refine wpAny_call (codeAny_mono (F.run A X.stack s H ⟨[x, y], []⟩ [x, y] [u, v] _ E0 hr e0 (by
    have := hb s [x, y] I.kIn (by simpa using hl)
    simpa using this) r2 hsp) fun r s' hq => ?_)
  cases r with
  | error e =>
    obtain ⟨_, _, _, _, _, _, _, _, _, _, _, _, z⟩ := hq
    exact z.elim
  | ok fl =>
    cases fl with
    | ret w =>
      obtain ⟨z, H', I', rz, b, ez, q⟩ := I.after hq
      subst ez
      cases rz
      exact ⟨b, rfl, H', I', q⟩
    | next => exact False.elim hq
    | brk => exact False.elim hq
    | cont => exact False.elim hq
theorem right_ty {pins : List (Addr × Obj)} {σ : SV} {H : Hp} {s : Shared} {ρ Z : List Addr} {h : HD} {y : D} {v : V} {w : Value} (hK : X.K = T.K) (hI : ∀ c ∈ cs, InsK T c) (E : EqK T c f cs) (I : Inv X pins σ H s) (l : Rl T ρ Z h H) (r : Rep T ρ Z H y v) (rv : RelV v w) (hy : okR cs h y = true) :
    ∃ tb, PySem.W.Looks (model X.prog X.w) s.heap (typeOf w) tb ∧ PySem.W.notFirst X.K (T.ca c) tb = true := by
  unfold okR at hy
  cases ek : kindD h y with
  | none => rw [ek] at hy; cases hy
  | some kd =>
    rw [ek] at hy
    obtain ⟨t, ht, hx⟩ := kind_rep hI l r ek
    cases kd with
    | bt n =>
      simp only at ht
      obtain ⟨rfl, hn⟩ := ht
      have tx := hx (.inl ⟨n, rfl⟩)
      rw [← hK] at tx
      obtain ⟨P, Z', p, _⟩ := kit_of I rv tx
      exact ⟨_, Z'.ty _ _ I.kIn p, by rw [hK]; exact E.nf n hn⟩
    | own e =>
      simp only at ht hy
      subst ht
      have he : e ∈ cs := by simpa using hy
      have tx := hx (.inr ⟨e, rfl, he⟩)
      rw [← hK] at tx
      obtain ⟨P, Z', p, _⟩ := kit_of I rv tx
      exact ⟨_, Z'.ty _ _ I.kIn p, by rw [hK]; exact E.no e he⟩
theorem o_eqX (hK : X.K = T.K) (hu : X.A.units + 64 < cLine) (hI : ∀ c ∈ cs, InsK T c) (E : EqK T c f cs) (F : FnOk X.prog X.w X.K X.mg X.base (L2.CX X.prog X.w) k f fd ps (spM T 2 fm)) (hr : Room k X.A) (hb : Binds X.K fd ps []) : OpR X (compareOp .Eq) (rEqX T cs c fm false) := by
  intro pins s σ H x y v u Q I rx ry ⟨ρ, Z, h, a, b, l, ra, rb, k0⟩
  unfold eqX at k0
  by_cases hi : isIns c h a = true
  · rw [if_pos hi] at k0
    split at k0
    · rename_i hy
      obtain ⟨p, dx, xs, rfl, hp⟩ := ins_of l ra hi
      cases rx
      obtain ⟨mA, J, _⟩ := ins_get I.hok hp
      obtain ⟨od, J, _⟩ := J.look
      obtain ⟨m, hF⟩ := I.fr
      obtain ⟨tb, lt, nf⟩ := right_ty hK hI E I l rb ry hy
      show wpAny (model X.prog X.w) X.A (richCompare .Eq (.ref p) u) (EP X pins σ Q) X.xe s
      refine PySem.W.cmp_K (op := .Eq) (tb := tb) (by omega) hF I.ok.mod.kin J lt nf (by rw [hK]; exact E.eq) (by rw [hK]; exact E.fn) (wpAny_mono (run_eq hr rfl F hb I (u := .ref p) rfl ry l ra rb k0) (fun r s' hq => ?_) fun _ _ z => z)
      obtain ⟨c, rfl, H', I', q⟩ := hq
      exact ⟨.bl c, H', I', rfl, q⟩
    · exact k0.elim
  · rw [if_neg hi] at k0
    obtain ⟨d, e, k1⟩ := k0.res
    exact o_eq (T := T) hu pins s σ H x y v u Q I rx ry ⟨ρ, Z, h, a, b, d, l, ra, rb, e, k1 ρ H d Gr.refl l rfl⟩
theorem o_neX (hK : X.K = T.K) (hu : X.A.units + 64 < cLine) (hI : ∀ c ∈ cs, InsK T c) (hc : c ∈ cs) (E : EqK T c f cs) (F : FnOk X.prog X.w X.K X.mg X.base (L2.CX X.prog X.w) k f fd ps (spM T 2 fm)) (hr : Room k X.A.in1) (hfr : X.A.in1.frames = X.A.frames) (hb : Binds X.K fd ps []) : OpR X (compareOp .NotEq) (rEqX T cs c fm true) := by
  intro pins s σ H x y v u Q I rx ry ⟨ρ, Z, h, a, b, l, ra, rb, k0⟩
  unfold eqX at k0
  by_cases hi : isIns c h a = true
  · rw [if_pos hi] at k0
    split at k0
    · rename_i hy
      obtain ⟨p, dx, xs, rfl, hp⟩ := ins_of l ra hi
      cases rx
      obtain ⟨mA, J, _⟩ := ins_get I.hok hp
      obtain ⟨od, J, _⟩ := J.look
      obtain ⟨tb, lt, nf⟩ := right_ty hK hI E I l rb ry hy
      show wpAny (model X.prog X.w) X.A (richCompare .NotEq (.ref p) u) (EP X pins σ Q) X.xe s
      refine PySem.W.dmNe (tb := tb) (by omega) I.kIn J lt nf (by rw [hK]; exact (hI c hc).hm) (by rw [hK]; exact E.eq) (by rw [hK]; exact E.fn) (by rw [hK]; exact E.ne) (wpAny_mono (run_eq hr hfr F hb I (u := .ref p) rfl ry l ra rb k0) (fun r s' hq => ?_) fun _ _ z => z)
      obtain ⟨c, rfl, H', I', q⟩ := hq
      exact ⟨c, rfl, .bl (!c), H', I', rfl, q⟩
    · exact k0.elim
  · rw [if_neg hi] at k0
    obtain ⟨d, e, k1⟩ := k0.res
    exact o_ne (T := T) hu pins s σ H x y v u Q I rx ry ⟨ρ, Z, h, a, b, !d, l, ra, rb, by unfold cNe; rw [e]; rfl, k1 ρ H d Gr.refl l rfl⟩
theorem eqx_read {ng : Bool} {a b : Expr} {ma mb : EM} {σ : SV} {H : Hp} {Q : VK} (k0 : rdE T W (eT (tEqX cs c fm ng ma mb)) σ H Q) : tOp (rEqX T cs c fm ng) (rdE T W ma) (rdE T W mb) σ H Q := by
  obtain ⟨ρ, Z, s, h, l, er, k0⟩ := k0
  have k0 : Fin T W Z (RV T Z) ρ H σ (((ma s h).bind fun x h1 => (mb s h1).bind fun y h2 => (eqX cs c fm h2 x y).calm.bind fun b h3 => .ok (if ng then !b else b) h3).bind fun b h1 => .ok (.bl b) h1) Q := k0
  rw [ass] at k0
  refine Fin.step l er k0 fun ρ1 d h1 v H1 g l1 er1 r1 k1 => ?_
  rw [ass] at k1
  refine Fin.step l1 er1 k1 fun ρ2 d2 h2 v2 H2 g2 l2 er2 r2 k2 => ?_
  refine ⟨ρ2, Z, h2, d, d2, l2, Rep.mono g2 _ _ r1, r2, ?_⟩
  cases e : eqX cs c fm h2 d d2 with
  | bad => rw [e] at k2; exact k2.elim
  | exc x h3 => rw [e] at k2; exact k2.elim
  | ok b h3 =>
    rw [e] at k2
    intro ρ3 H3 b' g3 l3 eb
    cases eb
    exact k2 ρ3 H3 (.bl (if ng then !b else b)) g3 l3 (by show Rep T ρ3 Z H3 (.bl _) (.bl _); rw [Rep])
theorem x_eqX {ng : Bool} {op : CmpOp} {a b : Expr} {ma mb : EM} {pos : Pos} (ho : OpR X (compareOp op) (rEqX T cs c fm ng)) (ha : PE X a (rdE T W ma)) (hb : PE X b (rdE T W mb)) (hm : behindInMarks op b = false) : PE X (.Compare a [op] [b] pos) (rdE T W (eT (tEqX cs c fm ng ma mb))) :=
  PE.imp (pe_cmpR ho ha hb hm) fun σ H Q k => eqx_read (a := a) (b := b) k
theorem x_teqX {ng : Bool} {op : CmpOp} {a b : Expr} {ma mb : EM} {pos : Pos} (ho : OpR X (compareOp op) (rEqX T cs c fm ng)) (ha : PE X a (rdE T W ma)) (hb : PE X b (rdE T W mb)) (hm : behindInMarks op b = false) : PT X (.Compare a [op] [b] pos) (rdT T W (tEqX cs c fm ng ma mb)) :=
  PT.imp (pt_cmpR ho ha hb hm) fun σ H Q k => eqx_read (a := a) (b := b) (t_read k)
end
end DM
set_option Elab.async false
set_option linter.all false
set_option maxRecDepth 100000
set_option maxHeartbeats 4000000
/-! Machine D: sorted. -/
namespace PySem.W
open PySem PySem.Calls PyProof.Rows PyProof.V PySem.Spec
mutual
theorem dm_live {h : Heap} : ∀ (d : PyData) (v : Value) (as : List Addr), Reads h v d as → ∀ a ∈ as, ∃ o, h.get? a = some o
  | .none, _, _, r => by cases r; simp
  | .bool _, _, _, r => by cases r; simp
  | .int _, _, _, r => by cases r; simp
  | .str _, _, _, r => by cases r; simp
  | .list xs, _, _, r => by
    cases r with
    | list h1 h2 h3 h4 =>
      intro a ha
      rcases List.mem_cons.mp ha with e | ha
      · exact ⟨_, e ▸ h1⟩
      · exact dm_lives xs _ _ h4 a ha
  | .tuple xs, _, _, r => by
    cases r with
    | tuple h1 h2 h3 h4 => exact dm_lives xs _ _ h4
  | .dict kvs, _, _, r => by
    cases r with
    | dict h1 h2 h3 h4 h5 =>
      intro a ha
      rcases List.mem_append.mp ha with ha | ha
      · rcases List.mem_cons.mp ha with e | ha
        · exact ⟨_, e ▸ h1⟩
        · exact dm_livesK kvs _ _ h4 a ha
      · exact dm_livesV kvs _ _ h5 a ha
theorem dm_lives {h : Heap} : ∀ (ds : List PyData) (vs : List Value) (as : List Addr), ReadsAll h vs ds as → ∀ a ∈ as, ∃ o, h.get? a = some o
  | [], _, _, r => by cases r; simp
  | d :: ds, _, _, r => by
    cases r with
    | cons h1 h2 =>
      intro a ha
      rcases List.mem_append.mp ha with ha | ha
      · exact dm_live d _ _ h1 a ha
      · exact dm_lives ds _ _ h2 a ha
theorem dm_livesK {h : Heap} : ∀ (kvs : List (PyData × PyData)) (vs : List Value) (as : List Addr), ReadsAll h vs (kvs.map (·.1)) as → ∀ a ∈ as, ∃ o, h.get? a = some o
  | [], _, _, r => by cases r; simp
  | (d, _) :: ds, _, _, r => by
    cases r with
    | cons h1 h2 =>
      intro a ha
      rcases List.mem_append.mp ha with ha | ha
      · exact dm_live d _ _ h1 a ha
      · exact dm_livesK ds _ _ h2 a ha
theorem dm_livesV {h : Heap} : ∀ (kvs : List (PyData × PyData)) (vs : List Value) (as : List Addr), ReadsAll h vs (kvs.map (·.2)) as → ∀ a ∈ as, ∃ o, h.get? a = some o
  | [], _, _, r => by cases r; simp
  | (_, d) :: ds, _, _, r => by
    cases r with
    | cons h1 h2 =>
      intro a ha
      rcases List.mem_append.mp ha with ha | ha
      · exact dm_live d _ _ h1 a ha
      · exact dm_livesV ds _ _ h2 a ha
end
section
variable {prog : Program} {w : World} {A : Around} {E : Value → Shared → Prop} {s : Shared} {β : Type} {bs : List β} {enc : β → PyData} {R : Value → β → Prop} {d : Addr} {es : Array DictEntry} {ep : Nat}
/-- sorted(d): the keys -/
theorem dm_sortedDict {Q : Value → Shared → Prop} (hh : A.handled = none) (raw : s.heap.DictRaw d es ep) (lo : (d == sysModules) = false) (hn : es.size ≤ sizeLine) (e : EachIs R (es.toList.map (·.key)) bs) (er : EachIs (fun v b => ∃ as, Reads s.heap v (enc b) as) (es.toList.map (·.key)) bs)
    (hal : AllAlike (bs.map enc)) (hk : Sortable (bs.map enc)) (hL : bs.length ≤ sizeLine) (hu : ∀ b, b ∈ bs → A.units + 2 + (enc b).depth < cLine)
    (h : ∀ (h1 : Heap) out h' tk n, (∀ b o, s.heap.get? b = some o → h1.get? b = some o) → (∀ b o, h1.get? b = some o → h'.get? b = some o) → h'.get? h1.objs.size = some (seqObj "list" (List.toArray out) n) → EachIs R out (bs.mergeSort (dataLe false enc)) → Q (.ref h1.objs.size) { s with heap := h', toks := tk }) :
    wpAny (model prog w) A (call (.builtin "sorted") [.ref d]) Q E s := by
  refine Calls.call_function_entry PyProof.Rows.kind_sorted PyProof.Rows.plain_sorted PyProof.Rows.entry_sorted (PyProof.Rows.args_sorted1 _) ?_
  unfold Builtin.«sorted»
  refine wpAny_bind (m := checkCount "sorted" 1 1 _) (wpAny_pure ?_)
  refine wpAny_bind (kdu_collect (A := A.in1) (KdlSrc.rawDict (prog := prog) (w := w) (es := es) (ep := ep) lo) hh raw hn fun h' tk acc hkp hacc => ?_)
  have hacc' : acc.toList = es.toList.map (·.key) := by
    refine List.ext_getElem? fun i => ?_
    by_cases hi : i < es.size
    · have h1 : i < acc.size := by rw [hacc.1]; exact hi
      obtain ⟨_, e2⟩ := hacc.2 i acc[i] (by simp [h1])
      rw [Array.getElem?_toList, List.getElem?_map, Array.getElem?_toList]
      simp [h1, hi, e2]
    · have h1 : ¬ i < acc.size := by rw [hacc.1]; exact hi
      rw [Array.getElem?_toList, List.getElem?_map, Array.getElem?_toList]
      simp [h1, hi]
  have er' : EachIs (fun v b => ∃ as, Reads (h'.push (seqObj "list" acc.toList.toArray 0)) v (enc b) as ∧ h'.objs.size ∉ as) acc.toList bs := by
    rw [hacc']
    refine er.mono fun v b ⟨as, r⟩ => ⟨as, PyProof.Rows.Reads.keeps (fun b o q => Heap.get?_push_of_some _ (hkp b o q)) r, fun hm => ?_⟩
    obtain ⟨o, ho⟩ := dm_live _ _ _ r _ hm
    exact Nat.lt_irrefl _ (Heap.lt_size (hkp _ _ ho))
  have hlen : acc.toList.length ≤ sizeLine := by rw [Array.length_toList, hacc.1]; exact hn
  refine wpAny_bind (wpAny_newList ?_ hlen)
  have hoL : (h'.push (seqObj "list" acc.toList.toArray 0)).get? h'.objs.size = some (seqObj "list" acc.toList.toArray 0) := Heap.get?_push_size _ rfl
  show wpAny _ _ _ _ _ { s with heap := h'.push (seqObj "list" acc.toList.toArray 0), toks := tk }
  refine wpAny_bind (wpAny_holding (list_sort_data (A := A.in1) (s := { s with heap := h'.push (seqObj "list" acc.toList.toArray 0), toks := tk }) hoL (by rw [hacc']; exact e) er' hal hk hL hu fun out ho eo => ?_))
  obtain ⟨n, hat⟩ := PyProof.Rows.sortedHeap_at (vs := acc.toList) (out := List.toArray out) hoL
  refine wpAny_pure ⟨_, rfl, h h' out _ tk n hkp (fun b o q => ?_) hat eo⟩
  have hb := Heap.lt_size q
  rw [PyProof.Rows.sortedHeap_old (Nat.ne_of_lt hb) (by rw [size_push']; exact Nat.lt_succ_of_lt hb)]
  exact Heap.get?_push_of_some _ q
end
end PySem.W

namespace DM
open PySem PySem.Spec PyProof.Rows L2
section
variable {X : Cx} {T : Tx} {ρ Z : List Addr} {H : Hp} {h : HD}
theorem keyD_rep (k : Key) : Rep T ρ Z H (keyD k) (kV k) := by
  cases k with
  | inl i => show Rep T ρ Z H (.int i) (.int i); rw [Rep]
  | inr x => show Rep T ρ Z H (.str x) (.str x); rw [Rep]
theorem keysD_rep : ∀ ks : List Key, RepL T ρ Z H (ks.map keyD) (ks.map kV)
  | [] => RepL.nil
  | k :: ks => RepL.cons (keyD_rep k) (keysD_rep ks)
/-- pairs of a value and what it stands for -/
theorem each_pair {R : Value → D × V → Prop} : ∀ {ds : List D} {vs : List V} {us : List Value}, RepL T ρ Z H ds vs → Vals vs us → (∀ d v u, d ∈ ds → Rep T ρ Z H d v → RelV v u → R u (d, v)) → PySem.W.EachIs R us (ds.zip vs)
  | [], _, _, r, q, _ => by
    rw [RepL.nil_iff] at r
    subst r
    cases q
    exact .nil
  | d :: ds, _, _, r, q, k => by
    obtain ⟨v, vs, rfl, r1, r2⟩ := RepL.cons_iff.mp r
    cases q with
    | cons q1 q2 => exact .cons (k d v _ (List.mem_cons_self ..) r1 q1) (each_pair r2 q2 fun d v u m => k d v u (List.mem_cons_of_mem _ m))
theorem pair_rep {R : Value → D × V → Prop} (hR : ∀ u p, R u p → Rep T ρ Z H p.1 p.2 ∧ RelV p.2 u) : ∀ {us : List Value} {ps : List (D × V)}, PySem.W.EachIs R us ps → RepL T ρ Z H (ps.map (·.1)) (ps.map (·.2)) ∧ Vals (ps.map (·.2)) us
  | _, _, .nil => ⟨RepL.nil, .nil⟩
  | _, _, .cons a t => let ⟨h1, h2⟩ := hR _ _ a; let ⟨k1, k2⟩ := pair_rep hR t; ⟨RepL.cons h1 k1, .cons h2 k2⟩
theorem merge_fst {le : D → D → Bool} (ps : List (D × V)) : (ps.mergeSort fun a b => le a.1 b.1).map (·.1) = (ps.map (·.1)).mergeSort le := by
  rw [List.map_mergeSort]
  intros
  rfl
theorem toPs_mem : ∀ {l : List D} {ps : List PyData}, toPs l = some ps → ∀ d ∈ l, ∃ p ∈ ps, toP d = some p ∧ encD d = p
  | [], _, _, d, m => by simp at m
  | x :: l, ps, e, d, m => by
    rw [toPs] at e
    split at e
    · rename_i p q e1 e2
      cases e
      rcases List.mem_cons.mp m with z | m
      · subst z
        exact ⟨p, List.mem_cons_self .., e1, by simp [encD, e1]⟩
      · obtain ⟨r, hr, h1, h2⟩ := toPs_mem e2 d m
        exact ⟨r, List.mem_cons_of_mem _ hr, h1, h2⟩
    · cases e
theorem sort_facts {l : List D} (h : sortOk l = true) : (∀ d ∈ l, ∀ d' ∈ l, PySem.W.alike (encD d) (encD d') = true) ∧ ((∀ d ∈ l, ∃ x r, encD d = .tuple (x :: r)) ∨ ∀ d ∈ l, encD d ≠ .none ∧ ∀ xs, encD d ≠ .tuple xs) ∧ (∀ d ∈ l, SeqAt.shaped (encD d) = true ∧ ∃ p, toP d = some p ∧ encD d = p) ∧ l.length ≤ LIM := by
  unfold sortOk at h
  split at h
  · rename_i ps e
    simp only [Bool.and_eq_true, Bool.or_eq_true, decide_eq_true_eq, List.all_eq_true] at h
    obtain ⟨⟨⟨h1, h2⟩, h3⟩, h4⟩ := h
    refine ⟨fun d m d' m' => ?_, ?_, fun d m => ?_, h4⟩
    · obtain ⟨p, hp, _, e1⟩ := toPs_mem e d m
      obtain ⟨q, hq, _, e2⟩ := toPs_mem e d' m'
      rw [e1, e2]
      exact h1 p hp q hq
    · rcases h2 with h2 | h2
      · refine .inl fun d m => ?_
        obtain ⟨p, hp, _, e1⟩ := toPs_mem e d m
        rw [e1]
        have := h2 p hp
        unfold isTup1 at this
        split at this
        · exact ⟨_, _, rfl⟩
        · cases this
      · refine .inr fun d m => ?_
        obtain ⟨p, hp, _, e1⟩ := toPs_mem e d m
        rw [e1]
        have := h2 p hp
        unfold noTupN at this
        constructor
        · intro z; subst z; cases this
        · intro xs z; subst z; cases this
    · obtain ⟨p, hp, e0, e1⟩ := toPs_mem e d m
      rw [e1]
      exact ⟨h3 p hp, p, e0, rfl⟩
  · cases h
def rSortD (T : Tx) : List V → Hp → VK → Prop := fun xs H Q => ∃ ρ Z h c v l, xs = [v] ∧ Rl T ρ Z h H ∧ Rep T ρ Z H c v ∧ keysD h c = some l ∧ sortOk l = true ∧
  ∀ p vs, H p = none → RepL T ρ Z H (sortD l) vs → Q (.ref p) (upd H p (.lst vs))
theorem c_sorted (hc : X.calm = true) (hu : X.A.units + 200 < cLine) : CallR X (.builtin "sorted") (rSortD T) := by
  intro pins s σ H xs us Q I r ⟨ρ, Z, h, c, v, l, ex, lr, rc, ek, ok, q⟩
  subst ex
  obtain ⟨u, eu, rx⟩ := vals1 r
  subst eu
  obtain ⟨f1, f2, f3, f4⟩ := sort_facts ok
  -- what is sorted: pairs
  have go : ∀ {ds : List D} {vs : List V} {its : List Value}, ds = l → RepL T ρ Z H ds vs → Vals vs its → ∀ (enc : D × V → PyData), enc = (fun p => encD p.1) →
      PySem.W.EachIs (fun u p => Rep T ρ Z H p.1 p.2 ∧ RelV p.2 u) its (ds.zip vs) ∧ PySem.W.EachIs (fun u p => ∃ as, Reads s.heap u (enc p) as) its (ds.zip vs) ∧ PySem.W.AllAlike ((ds.zip vs).map enc) ∧ PySem.W.Sortable ((ds.zip vs).map enc) ∧ (ds.zip vs).length ≤ sizeLine ∧ (∀ b, b ∈ ds.zip vs → X.A.units + 2 + (enc b).depth < cLine) := fun {ds vs its} el rd rv enc ee => by
    subst el ee
    have mz : ∀ p ∈ ds.zip vs, p.1 ∈ ds := fun p m => (List.of_mem_zip m).1
    refine ⟨each_pair rd rv fun d v u _ h1 h2 => ⟨h1, h2⟩, each_pair rd rv fun d v u m h1 h2 => ?_, ?_, ?_, ?_, ?_⟩
    · obtain ⟨_, p, e0, e1⟩ := f3 d m
      show ∃ as, Reads s.heap u (encD d) as
      rw [e1]
      exact Dp.reads I p v u (toP_dp (X := X) d p v e0 h1) h2
    · intro d hd d' hd'
      obtain ⟨p, hp, rfl⟩ := List.mem_map.mp hd
      obtain ⟨p', hp', rfl⟩ := List.mem_map.mp hd'
      exact f1 _ (mz p hp) _ (mz p' hp')
    · rcases f2 with f2 | f2
      · refine .inl fun d hd => ?_
        obtain ⟨p, hp, rfl⟩ := List.mem_map.mp hd
        exact f2 _ (mz p hp)
      · refine .inr fun d hd => ?_
        obtain ⟨p, hp, rfl⟩ := List.mem_map.mp hd
        exact f2 _ (mz p hp)
    · rw [List.length_zip, ← LIM_eq]
      omega
    · intro b hb
      have := SeqAt.depth_of_shaped (f3 _ (mz b hb)).1
      show X.A.units + 2 + (encD b.1).depth < cLine
      omega
  have res : ∀ {ds : List D} {vs : List V} {out : List Value}, ds = l → RepL T ρ Z H ds vs → PySem.W.EachIs (fun u p => Rep T ρ Z H p.1 p.2 ∧ RelV p.2 u) out ((ds.zip vs).mergeSort (PySem.W.dataLe false fun p => encD p.1)) →
      RepL T ρ Z H (sortD l) (((ds.zip vs).mergeSort (PySem.W.dataLe false fun p => encD p.1)).map (·.2)) ∧ Vals (((ds.zip vs).mergeSort (PySem.W.dataLe false fun p => encD p.1)).map (·.2)) out ∧ (((ds.zip vs).mergeSort (PySem.W.dataLe false fun p => encD p.1)).map (·.2)).length ≤ sizeLine := fun {ds vs out} el rd eo => by
    subst el
    obtain ⟨h1, h2⟩ := pair_rep (fun u p z => z) eo
    have e : ((ds.zip vs).mergeSort (PySem.W.dataLe false fun p => encD p.1)).map (·.1) = sortD ds := by
      have := merge_fst (le := fun a b => PySem.W.dataLe false encD a b) (ds.zip vs)
      rw [zip_fst ds vs rd.length] at this
      exact this
    rw [e] at h1
    refine ⟨h1, h2, ?_⟩
    rw [List.length_map, List.length_mergeSort, List.length_zip, ← LIM_eq]
    omega
  unfold keysD at ek
  cases el : lsts h c with
  | some ds =>
    rw [el] at ek
    cases ek
    obtain ⟨_, p, vs, rfl, hq, rl⟩ := lsts_rep lr rc el
    cases rx
    obtain ⟨its, rv, pl, hz⟩ := I.list (.inl (.inl hq))
    obtain ⟨g1, g2, g3, g4, g5, g6⟩ := go rfl rl rv _ rfl
    refine PySem.W.sorted_data (vs := its) pl.isList g1 g2 g3 g4 g5 g6 fun out ho eo => ?_
    obtain ⟨k1, k2, k3⟩ := res rfl rl eo
    obtain ⟨n, hat⟩ := PyProof.Rows.sortedAll_at s.heap its (List.toArray out)
    have hf : H (s.heap.objs.size + 1) = none := I.hok.fresh (Nat.le_succ _)
    exact ⟨.ref (s.heap.objs.size + 1), upd H (s.heap.objs.size + 1) (.lst _), I.laid (t' := s.toks) (fun b o e => PyProof.Rows.sortedAll_old e) (Nat.le_succ _) (show ObjOk X.prog X.w _ _ _ (.lst _) from ⟨k3, out, n, k2, hat⟩), rfl, q _ _ hf k1⟩
  | none =>
    rw [el] at ek
    cases ed : dictOf h c with
    | none => rw [ed] at ek; cases ek
    | some dv =>
      rw [ed] at ek
      cases dv with
      | k l' => cases ek
      | t kl =>
        cases ek
        obtain ⟨p, rfl, xs, hq, rl⟩ := dict_rep lr rc ed
        cases rx
        obtain ⟨z, lo, ys, kt, dd⟩ := dt_rd I.hok (.inl hq)
        obtain ⟨es, ep, raw, hsz, hent⟩ := dd.raw
        have hll : kl.length = xs.length := by simpa using rl.length
        have kf : ((kl.map (·.1)).zip xs).map (·.1) = kl.map (·.1) := zip_fst _ _ (by simpa using hll)
        -- the keys as values
        have keys : ∀ {kvs : List (List Key × V)} {ys : List (List Key × Addr × Value)}, KT H kvs ys → RepL T ρ Z H ((kvs.map (·.1)).map fun k => D.tup (k.map keyD)) (ys.map fun y => V.ref y.2.1) := fun {kvs ys} kt => by
          induction kt with
          | nil => exact RepL.nil
          | cons a t ih =>
            refine RepL.cons ?_ ih
            obtain ⟨e1, e2, _⟩ := a
            rw [Rep]
            obtain ⟨_, _, _, hz⟩ := I.tuple (.inl (.inl e2))
            exact ⟨by rw [LIM_eq]; simpa using hz, _, _, rfl, e2, keysD_rep _⟩
        have rd := keys kt
        rw [kf, List.map_map] at rd
        have rv : Vals (ys.map fun y => V.ref y.2.1) (es.toList.map (·.key)) := by
          have : es.toList.map (·.key) = ys.map fun y => Value.ref y.2.1 := by
            refine List.ext_getElem? fun i => ?_
            by_cases hi : i < es.size
            · obtain ⟨y, hy, hk, _⟩ := hent i hi
              rw [List.getElem?_map, List.getElem?_map, hy, Array.getElem?_toList]
              simp [hi, hk]
            · have h2 : ¬ i < ys.length := by rw [← hsz]; exact hi
              rw [List.getElem?_map, List.getElem?_map, Array.getElem?_toList]
              simp [hi, List.getElem?_eq_none (Nat.le_of_not_lt h2)]
          rw [this]
          clear this rd kt dd hsz hent raw
          induction ys with
          | nil => exact .nil
          | cons y ys ih => exact .cons rfl ih
        obtain ⟨g1, g2, g3, g4, g5, g6⟩ := go rfl rd rv _ rfl
        have hes : es.size ≤ sizeLine := by
          have := rv.length
          have e2 := rd.length
          simp only [List.length_map, Array.length_toList] at this e2
          rw [← LIM_eq]
          simp only [List.length_map] at f4
          omega
        refine PySem.W.dm_sortedDict (I.ok.hd hc) raw lo hes g1 g2 g3 g4 g5 g6 fun h1 out h' tk n k1 k2 hat eo => ?_
        obtain ⟨r1, r2, r3⟩ := res rfl rd eo
        have I1 : Inv X pins σ H { s with heap := h1, toks := tk } := I.kept k1
        exact ⟨.ref h1.objs.size, upd H h1.objs.size (.lst _), I1.laid (t' := tk) (fun b o e => k2 b o e) (Nat.le_refl _) (show ObjOk X.prog X.w _ _ _ (.lst _) from ⟨r3, out, n, r2, hat⟩), rfl, q _ _ (I1.hok.fresh (Nat.le_refl _)) r1⟩
end
end DM
set_option Elab.async false
set_option linter.all false
set_option maxRecDepth 100000
set_option maxHeartbeats 4000000
/-! Machine D: c[::-1]; list(c); fresh sorted lists. -/
namespace HT
open PySem PySem.Calls PyProof.Rows
section
variable {prog : Program} {w : World} {A : Around} {E : Value → Shared → Prop} {s : Shared}
theorem dm_adjust (n : Nat) : Builtin.Slice.sliceAdjust none none (-1) (n : Int) = ((n : Int) - 1, -1) := by
  unfold Builtin.Slice.sliceAdjust
  simp
theorem dm_places (n : Nat) : Builtin.Slice.slicePlaces ((n : Int) - 1) (-1) (-1) = n := by
  unfold Builtin.Slice.slicePlaces
  rw [if_neg (by decide)]
  have e : (- (-1) : Int) = 1 := rfl
  rw [e, Int.ediv_one]
  split <;> omega
theorem dm_applied {sl : Addr} {vl vu vs : Value} {n : Nat} {Q : Int × Int × Nat → Shared → Prop} (hs : s.heap.IsSliceOf sl vl vu vs) (pl : IsPart vl none) (pu : IsPart vu none) (ps : IsPart vs (some (-1)))
    (h : Q ((n : Int) - 1, -1, n) s) : wpAny (model prog w) A (Builtin.Slice.sliceApplied (.ref sl) (pure (n : Int))) Q E s := by
  obtain ⟨os, hos, hcs, hds⟩ := id hs
  unfold Builtin.Slice.sliceApplied Builtin.Slice.sliceFields
  refine wpAny_bind (wpAny_bind (wpAny_field hos hds (x := vl) rfl (wpAny_bind (wpAny_field hos hds (x := vu) rfl (wpAny_bind (wpAny_field hos hds (x := vs) rfl (wpAny_pure ?_)))))))
  refine wpAny_bind (slicePart_ ps ?_)
  show wpAny _ _ (if ((-1 : Int) == 0) = true then _ else _) _ _ s
  rw [if_neg (by decide)]
  refine wpAny_bind (slicePart_ pl (wpAny_bind (slicePart_ pu (wpAny_bind (wpAny_pure ?_)))))
  show wpAny _ _ (match Builtin.Slice.sliceAdjust none none (-1) (n : Int) with | (lo, hi) => pure (lo, (-1 : Int), Builtin.Slice.slicePlaces lo hi (-1))) _ _ s
  rw [dm_adjust n]
  show wpAny _ _ (pure ((n : Int) - 1, (-1 : Int), Builtin.Slice.slicePlaces ((n : Int) - 1) (-1) (-1))) _ _ s
  rw [dm_places]
  exact wpAny_pure h
theorem dm_pick (xs : Array Value) : ((List.range xs.size).filterMap fun (m : Nat) => xs[((xs.size : Int) - 1 + (m : Int) * (-1)).toNat]?).toArray = xs.toList.reverse.toArray := by
  congr 1
  have e : (List.range xs.size).filterMap (fun (m : Nat) => xs[((xs.size : Int) - 1 + (m : Int) * (-1)).toNat]?) = ((List.range xs.size).map fun k => xs.size - 1 - k).filterMap (xs[·]?) := by
    rw [List.filterMap_map]
    have : (fun (m : Nat) => xs[((xs.size : Int) - 1 + (m : Int) * (-1)).toNat]?) = ((xs[·]?) ∘ fun k => xs.size - 1 - k) := by
      funext m
      show xs[((xs.size : Int) - 1 + (m : Int) * (-1)).toNat]? = xs[xs.size - 1 - m]?
      have : ((xs.size : Int) - 1 + (m : Int) * (-1)).toNat = xs.size - 1 - m := by omega
      rw [this]
    rw [this]
  rw [e, PySem.W.krv_range, List.filterMap_reverse, PySem.W.krv_all]
theorem dm_getRev {t sl : Addr} {items : Array Value} {vl vu vs : Value} {Q : Value → Shared → Prop} (ht : IsTup s.heap t items) (hs : s.heap.IsSliceOf sl vl vu vs) (pl : IsPart vl none) (pu : IsPart vu none) (ps : IsPart vs (some (-1)))
    (h : Q (.ref s.heap.objs.size) { s with heap := s.heap.push { cls := .type "tuple", data := .seq items.toList.reverse.toArray } })
    (hsz : items.size ≤ sizeLine) : wpAny (model prog w) A (getItem (.ref t) (.ref sl)) Q E s := by
  have htake : sizeOk (.seq items.toList.reverse.toArray) := by
    show items.toList.reverse.toArray.size ≤ sizeLine
    rw [List.size_toArray, List.length_reverse, Array.length_toList]
    exact hsz
  obtain ⟨os, hos, hcs, hds⟩ := id hs
  have hTs : s.TypeIs (.ref sl) "slice" := ⟨os, hos, hcs⟩
  unfold getItem
  try with_reducible refine wpAny_holding ?_
  first | refine wpAny_bind (wpAny_pure ?_) | skip
  refine wpAny_bind (wpAny_sequenceKey ht.typeIs (by decide) ?_)
  refine wpAny_bind (wpAny_callSpecial?_slot (name := Str.ofString "__getitem__") ht.typeIs PyProof.Rows.slot_tuple_getitem
    (wpAny_call_entry PyProof.Rows.slot_tuple_getitem ht.typeIs entry_tuple_getitem ?_ (args_tuple_getitem _ _)))
  show wpAny _ _ (Builtin.Tuple.tupleItemsOf (.ref t) >>= _) _ _ s
  refine wpAny_bind (tupleItemsOf_ ht ?_)
  refine wpAny_bind (wpAny_typeOf hTs ?_)
  rw [if_pos (by decide)]
  refine wpAny_bind (dm_applied hs pl pu ps ?_)
  have hno : ¬ ((((items.size : Int) - 1) == 0 && (-1 : Int) == 1 && items.size == items.size) = true) := by
    intro q
    rw [Bool.and_eq_true, Bool.and_eq_true] at q
    exact absurd q.1.2 (by decide)
  show wpAny _ _ (if (((items.size : Int) - 1) == 0 && (-1 : Int) == 1 && items.size == items.size) = true then _ else _) _ _ s
  rw [if_neg hno, dm_pick]
  first
    | exact wpAny_bind (m := Builtin.Tuple.tupleExact _) (wpAny_newObj_type (wpAny_pure ⟨_, rfl, wpAny_pure h⟩) htake)
    | exact wpAny_bind (m := Builtin.Tuple.tupleExact _) (wpAny_newObj_type (wpAny_bind (wpAny_pure (wpAny_pure ⟨_, rfl, wpAny_pure h⟩))) htake)
    | exact wpAny_bind (wpAny_bind (m := Builtin.Tuple.tupleExact _) (wpAny_newObj_type (wpAny_pure (wpAny_pure ⟨_, rfl, wpAny_pure h⟩)) htake))
    | exact wpAny_bind (wpAny_bind (m := Builtin.Tuple.tupleExact _) (wpAny_newObj_type (wpAny_pure ⟨_, rfl, wpAny_pure h⟩) htake))
end
end HT
namespace DM
open PySem PySem.Spec PyProof.Rows L2
section
variable {X : Cx} {T : Tx} {W : WX} {e : Expr} {m : EM}
def tRevD (T : Tx) (te : TE) : TE := fun σ H Q => te σ H fun v H1 => ∃ ρ Z h c d, Rl T ρ Z h H1 ∧ Rep T ρ Z H1 c v ∧ opRev h c = some d ∧ ∀ ρ' H' w, Gr ρ H1 ρ' H' → Rl T ρ' Z h H' → Rep T ρ' Z H' d w → Q w H'
theorem pe_revD {te : TE} {k : Nat} {p1 p2 p3 pos : Pos} (he : PE X e te) : PE X (.Subscript e (.Slice none none (some (.UnaryOp .USub (.Constant (.int 1) k p1) p2)) p3) pos) (tRevD T te) := by
  refine ⟨fun pins s σ H Q I h => ?_⟩
  refine Subscript_ (thn (he.run pins s σ H _ I h) fun v s1 ⟨x, H1, I1, r1, q1⟩ => ?_)
  obtain ⟨ρ, Z, hd, c, d, l, rc, eo, q⟩ := q1
  have hst : PO X (some (.UnaryOp .USub (.Constant (.int 1) k p1) p2)) (tPart (tUn (rU fun i => .int (-i)) (tC (.int 1)))) := po_some (pe_un un_neg pe_int)
  refine wpAny_Slice (thn (po_none.run pins s1 σ H1 (fun o H2 => o = none ∧ H2 = H1) I1 ⟨rfl, rfl⟩) fun vl s2 ⟨lo, H2, I2, pl, el, e2⟩ => ?_)
  subst el e2
  refine thn (po_none.run pins s2 σ H2 (fun o H3 => o = none ∧ H3 = H2) I2 ⟨rfl, rfl⟩) fun vu s3 ⟨u, H3, I3, pu, eu, e3⟩ => ?_
  subst eu e3
  refine thn (hst.run pins s3 σ H3 (fun o H4 => o = some (-1) ∧ H4 = H3) I3 ⟨1, rfl, -1, rfl, rfl, rfl⟩) fun vs s4 ⟨o, H4, I4, ps, eo4, e4⟩ => ?_
  subst eo4 e4
  have I5 : Inv X pins σ H4 { s4 with heap := s4.heap.push { cls := .type "slice", data := .fields #[vl, vu, vs] } } := I4.kept (t' := s4.toks) fun b ob q => Heap.get?_push_of_some _ q
  unfold opRev at eo
  have hf : H4 (s4.heap.push { cls := .type "slice", data := .fields #[vl, vu, vs] }).objs.size = none := I5.hok.fresh (Nat.le_refl _)
  rcases look_rep l rc with ⟨xs, e1, hz, a, ys, ex, hq, rl⟩ | ⟨e1, e2⟩
  · rw [e1] at eo
    cases eo
    subst ex
    cases r1
    obtain ⟨its, r, ht, _⟩ := I5.list (.inl (.inl hq))
    have hlen := r.length
    have hz2 : its.length ≤ sizeLine := by rw [← hlen, ← rl.length, ← LIM_eq]; exact hz
    show wpAny (model X.prog X.w) X.A (subscriptTail e (.Slice none none (some (.UnaryOp .USub (.Constant (.int 1) k p1) p2)) p3) (.ref a) (.ref s4.heap.objs.size)) (EP X pins σ Q) X.xe { s4 with heap := s4.heap.push { cls := .type "slice", data := .fields #[vl, vu, vs] } }
    refine tail_any (ops := [.ref a, .ref s4.heap.objs.size]) ht.isList.typeIs (PySem.slot_list_getitem.lookup) ?_ (by with_unfolding_all rfl)
    refine wpAny_getItem_list_slice ht.isList (Heap.IsSliceOf.new _ vl vu vs) pl pu ps (by decide) ?_ (by rw [List.size_toArray]; exact hz2)
    rw [PySem.W.krv_pick]
    obtain ⟨g, l', r'⟩ := new_fl (l := xs.reverse) (xs := ys.reverse) l hf rl.reverse (by simpa using hz)
    refine ⟨.ref _, _, I5.laid (t' := s4.toks) (o := .lst ys.reverse) (fun b ob q => Heap.get?_push_of_some _ q) (Nat.le_refl _) ?_, rfl, q ρ _ _ g l' r'⟩
    exact ⟨by rw [List.length_reverse, hlen]; exact hz2, _, 0, r.reverse, Heap.get?_push_size _ rfl⟩
  · rw [e1] at eo
    cases c with
    | tup xs =>
      cases eo
      rw [Rep] at rc
      obtain ⟨hz, a, ys, ex, hq, rl⟩ := rc
      subst ex
      cases r1
      obtain ⟨its, r, ht, _⟩ := I5.tuple (.inl (.inl hq))
      have hlen := r.length
      have hz2 : its.length ≤ sizeLine := by rw [← hlen, ← rl.length, ← LIM_eq]; exact hz
      show wpAny (model X.prog X.w) X.A (subscriptTail e (.Slice none none (some (.UnaryOp .USub (.Constant (.int 1) k p1) p2)) p3) (.ref a) (.ref s4.heap.objs.size)) (EP X pins σ Q) X.xe { s4 with heap := s4.heap.push { cls := .type "slice", data := .fields #[vl, vu, vs] } }
      refine tail_any (ops := [.ref a, .ref s4.heap.objs.size]) ht.typeIs (PyProof.Rows.slot_tuple_getitem.lookup) ?_ (by with_unfolding_all rfl)
      refine HT.dm_getRev ht (Heap.IsSliceOf.new _ vl vu vs) pl pu ps ?_ (by rw [List.size_toArray]; exact hz2)
      obtain ⟨g, l', r'⟩ := new_tup (l := xs.reverse) (xs := ys.reverse) l hf rl.reverse (by simpa using hz)
      refine ⟨.ref _, _, I5.laid (t' := s4.toks) (o := .tup ys.reverse) (fun b ob q => Heap.get?_push_of_some _ q) (Nat.le_refl _) ?_, rfl, q ρ _ _ g l' r'⟩
      refine ⟨by rw [List.length_reverse, hlen]; exact hz2, its.reverse, r.reverse, ⟨_, Heap.get?_push_size _ rfl, rfl, 0, ?_⟩⟩
      simp
    | fl xs => exact absurd e1 (e2 xs)
    | _ => cases eo
theorem x_rev {k : Nat} {p1 p2 p3 pos : Pos} (he : PE X e (rdE T W m)) : PE X (.Subscript e (.Slice none none (some (.UnaryOp .USub (.Constant (.int 1) k p1) p2)) p3) pos) (rdE T W (eUn opRev m)) :=
  PE.imp (pe_revD (T := T) he) fun σ H Q k => by
    obtain ⟨ρ, Z, s, h, l, er, k⟩ := un_read k
    exact ⟨ρ, Z, s, h, l, er, k⟩
/-- list(c) -/
theorem c_list (hK : X.K = T.K) : CallR X (.type "list") (rC1 T opList) := by
  intro pins s σ H xs us Q I r ⟨u, ex, ρ, Z, h, c, d, l, rc, e, q⟩
  unfold opList at e
  simp only [Option.map_eq_some_iff] at e
  obtain ⟨ds, e, rfl⟩ := e
  obtain ⟨hz, p, vs, eu, qs, rl⟩ := items_rep l rc e
  refine call_list_of pins s σ H xs us Q I r ⟨p, vs, by rw [ex, eu], by rw [hK]; exact qs, fun a ha => ?_⟩
  obtain ⟨g, l', r'⟩ := new_fl l ha rl hz
  exact q ρ _ _ g l' r'
/-- sorted(c) -/
theorem c_sortedF (hc : X.calm = true) (hu : X.A.units + 200 < cLine) : CallR X (.builtin "sorted") (rC1 T opSorted) := by
  intro pins s σ H xs us Q I r ⟨u, ex, ρ, Z, h, c, d, l, rc, e, q⟩
  unfold opSorted at e
  split at e
  · rename_i ds ek
    split at e
    · rename_i ok
      cases e
      refine c_sorted (T := T) hc hu pins s σ H xs us Q I r ⟨ρ, Z, h, c, u, ds, ex, l, rc, ek, ok, fun p vs hp rl => ?_⟩
      obtain ⟨g, l', r'⟩ := new_fl l hp rl (by unfold sortD; rw [List.length_mergeSort]; exact (sort_facts ok).2.2.2)
      exact q ρ _ _ g l' r'
    · cases e
  · cases e
end
end DM
set_option Elab.async false
set_option linter.all false
set_option maxRecDepth 100000
set_option maxHeartbeats 1000000
/-! Machine D: a call without arguments; the law's end. -/
namespace DM
open PySem PySem.Spec PyProof.Rows L2
section
variable {X : Cx} {T : Tx} {W : WX} {k : Nat} {f : Addr} {fd : FuncData} {ps : List Str} {fm : FM} {x : Str} {p pos : Pos}
/-- f() -/
theorem x_call0 (F : FnOk X.prog X.w X.K X.mg X.base (L2.CX X.prog X.w) k f fd ps (spM T 0 fm)) (hr : Room k X.A) (hg : Gl X x) (hm : X.mg x = some (.ref f)) (hk : PySem.W.keepIn X.K (.ref f) = true) (hb : Binds X.K fd ps []) (tk : Takes X W)
    (hd : (x == ("__debug__" : Str)) = false := by decide) : PE X (.Call (.Name x p) [] [] pos) (rdE T W (eCall fm aNil)) :=
  PE.imp (t := tCallS (spM T 0 fm) (WE W) tNil) ⟨fun pins s σ H Q I h => by
    refine wpAny_Call_Name_kw (ld_glob I hg hm ?_ hd)
    exact PySem.W.callWith_K0 I.kIn hk (run_fnS (us := []) F hr hb (passAt tk σ) I .nil h)⟩ fun σ H Q k => by
    obtain ⟨ρ, Z, s, h0, l, er, k⟩ := k
    exact ⟨rfl, ρ, Z, h0, [], l, RepL.nil, sp_fin k⟩
end
/-- the law's promise, by its mirror; cs: the code objects that make lambdas, and their tables -/
def spLawT (K : PySem.W.Frag) (cs : List (Addr × Addr)) : Sp := fun vs H Q _ => ∃ (a : Addr) (ns : List Int), vs = [.ref a] ∧ SqL K H a (ns.map V.int) ∧ ns.length ≤ 63 ∧ (∀ p ∈ cs, H p.2 = some (.tbl #[])) ∧ ∀ H', Q (.bl true) H'
abbrev spLaw (K : PySem.W.Frag) : Sp := spLawT K []
theorem ints_repL {T : Tx} {ρ Z : List Addr} {H : Hp} : ∀ ns : List Int, RepL T ρ Z H (ns.map D.int) (ns.map V.int)
  | [] => RepL.nil
  | n :: ns => RepL.cons rep_int (ints_repL ns)
theorem law_doneT {cs : List (Addr × Addr)} {P : Program} {w : World} {K : PySem.W.Frag} {mg : Str → Option Value} {base : Heap} {T : Tx} {k : Nat} {f : Addr} {fd : FuncData} {fm : FM} (hK : T.K = K) (ht : ∀ t ∈ T.tabs, ∃ p ∈ cs, p.2 = t.1)
    (F : FnOk P w K mg base (L2.CX P w) k f fd ["script"] (spM T 1 fm)) (law : ∀ ns : List Int, ns.length ≤ 63 → ∃ h, fm [.sc (ns.map D.int)] [] = .ok (.bl true) h) : FnOk P w K mg base (L2.CX P w) k f fd ["script"] (spLawT K cs) :=
  F.imp fun vs H Q E ⟨a, ns, ev, hq, hl, hc, q⟩ => by
    subst ev
    obtain ⟨h, e⟩ := law ns hl
    have tb : LamX.Tabs T.tabs H := fun t m => by
      obtain ⟨p, hp, e⟩ := ht t m
      exact LamX.TabS.nil (by rw [← e]; exact hc p hp)
    refine ⟨rfl, [], [], [], [.sc (ns.map D.int)], ⟨rfl, List.nodup_nil, fun n o a h1 h2 => by simp at h1, (fun z m => by cases m), tb⟩, ?_, ?_⟩
    · refine RepL.cons ?_ RepL.nil
      rw [Rep]
      refine ⟨by simp; unfold LIM; omega, a, ns.map V.int, rfl, ?_, ints_repL ns⟩
      rcases hq with (hq | ⟨o, hq⟩) | hq
      · exact .inl ⟨.inl hq, by simp, by simp⟩
      · exact .inl ⟨.inr ⟨o, hq⟩, by simp, by simp⟩
      · exact .inr (by rw [hK]; exact hq)
    · rw [e]
      intro ρ' H' v g l r
      have r : Rep T ρ' [] H' (.bl true) v := r
      rw [Rep] at r
      subst r
      exact q H'
theorem law_done {P : Program} {w : World} {K : PySem.W.Frag} {mg : Str → Option Value} {base : Heap} {T : Tx} {k : Nat} {f : Addr} {fd : FuncData} {fm : FM} (hK : T.K = K) (ht : T.tabs = [])
    (F : FnOk P w K mg base (L2.CX P w) k f fd ["script"] (spM T 1 fm)) (law : ∀ ns : List Int, ns.length ≤ 63 → ∃ h, fm [.sc (ns.map D.int)] [] = .ok (.bl true) h) : FnOk P w K mg base (L2.CX P w) k f fd ["script"] (spLaw K) :=
  law_doneT hK (fun t m => by rw [ht] at m; cases m) F law
end DM
set_option Elab.async false
set_option linter.all false
set_option maxRecDepth 100000
set_option maxHeartbeats 1000000
/-! Machine D: what the top has written, told by the words that k_is answers. -/
namespace DM
open PySem PySem.Spec PyProof.Rows L2 PySem.W
section
variable {T : Tx} {cs : List Nat} {K : PySem.W.Frag} {A B C : Addr} {c : Nat}
theorem kitMetas : kitMeta "int" = true ∧ kitMeta "bool" = true ∧ kitMeta "str" = true ∧ kitMeta "tuple" = true ∧ kitMeta "list" = true ∧ kitMeta "dict" = true := by decide +kernel
theorem kit_ty {n : String} (km : kitMeta n = true) {b : Bool} (h : subIn K (.ref C) (.type n) = some b) : kitOne K (.ref C) (.type n) = some b := by
  unfold kitOne kitCls
  rw [if_neg (by simp)]
  show (if kitMeta n = true then subIn K (.ref C) (.type n) else none) = some b
  rw [if_pos km]
  exact h
theorem kit_tt {m n : String} (km : kitMeta n = true) {b : Bool} (hb : (if m == n then some true else (fastBuiltinMro m).map (·.contains (.type n))) = some b) : kitOne K (.type m) (.type n) = some b := by
  unfold kitOne kitCls
  show (if (Value.type m == Value.type n) = true then some true else if kitMeta n = true then subIn K (.type m) (.type n) else none) = some b
  rw [if_pos km]
  have e : (Value.type m == Value.type n) = (m == n) := by
    by_cases h : m = n
    · subst h; simp
    · have h1 : (m == n) = false := by simpa using h
      rw [h1]
      have h2 : ¬ (Value.type m = Value.type n) := fun z => h (by cases z; rfl)
      simpa using h2
  rw [e]
  exact hb
theorem ty_bt {t : Ty} {n : String} (ht : tyv T t = .type n) (km : kitMeta n = true) (hb : (kinds.all fun m => (if m == n then some true else (fastBuiltinMro m).map (·.contains (.type n))) == some (tyB m t)) = true) (ho : ∀ c, tyO c t = false)
    (own : ∀ c ∈ cs, subIn T.K (.ref (T.ca c)) (.type n) = some false) : TyK T cs t := ⟨fun m hm => by
  rw [ht]
  exact kit_tt km (beq_iff_eq.mp (List.all_eq_true.mp hb m hm)), fun c hc => by
  rw [ht, ho]
  exact kit_ty km (own c hc)⟩
theorem ty_int (own : ∀ c ∈ cs, subIn T.K (.ref (T.ca c)) (.type "int") = some false) : TyK T cs .int := ty_bt rfl kitMetas.1 (by decide +kernel) (fun _ => rfl) own
theorem ty_bool (own : ∀ c ∈ cs, subIn T.K (.ref (T.ca c)) (.type "bool") = some false) : TyK T cs .bool := ty_bt rfl kitMetas.2.1 (by decide +kernel) (fun _ => rfl) own
theorem ty_str (own : ∀ c ∈ cs, subIn T.K (.ref (T.ca c)) (.type "str") = some false) : TyK T cs .str := ty_bt rfl kitMetas.2.2.1 (by decide +kernel) (fun _ => rfl) own
theorem ty_tuple (own : ∀ c ∈ cs, subIn T.K (.ref (T.ca c)) (.type "tuple") = some false) : TyK T cs .tuple := ty_bt rfl kitMetas.2.2.2.1 (by decide +kernel) (fun _ => rfl) own
theorem ty_list (own : ∀ c ∈ cs, subIn T.K (.ref (T.ca c)) (.type "list") = some false) : TyK T cs .list := ty_bt rfl kitMetas.2.2.2.2.1 (by decide +kernel) (fun _ => rfl) own
theorem ty_dict (own : ∀ c ∈ cs, subIn T.K (.ref (T.ca c)) (.type "dict") = some false) : TyK T cs .dict := ty_bt rfl kitMetas.2.2.2.2.2 (by decide +kernel) (fun _ => rfl) own
theorem mro_no (l : List Value) (hl : l.all (fun v => match v with | .ref _ => false | _ => true) = true) : l.contains (.ref C) = false := by
  induction l with
  | nil => rfl
  | cons v l ih =>
    simp only [List.all_cons, Bool.and_eq_true] at hl
    rw [List.contains_cons, ih hl.2]
    cases v <;> first | rfl | (simp at hl)
theorem sub_bt {m : String} (hm : m ∈ kinds) : subIn K (.type m) (.ref C) = some false := by
  have h : (kinds.all fun m => match fastBuiltinMro m with | some l => l.all (fun v => match v with | .ref _ => false | _ => true) | none => false) = true := by decide +kernel
  have q := List.all_eq_true.mp h m hm
  unfold subIn
  split at q
  · rename_i l e
    show (fastBuiltinMro m).map (·.contains (.ref C)) = some false
    rw [e]
    show some (l.contains (.ref C)) = some false
    rw [mro_no l q]
  · cases q
theorem cls_ok (iC : isClsIn K C = true) (tC : typeIn K (.ref C) = some (.type "type")) : ((clsIn K C).isSome && typeIn K (.ref C) == some (.type "type")) = true := by
  have : (clsIn K C).isSome = true := iC
  rw [this, tC]; rfl
theorem kit_rf {b : Bool} (iB : isClsIn K B = true) (tB : typeIn K (.ref B) = some (.type "type")) (s0 : subIn K (.ref B) (.ref B) = some true) (s : subIn K (.ref A) (.ref B) = some b) : kitOne K (.ref A) (.ref B) = some b := by
  unfold kitOne kitCls
  split
  · rename_i h
    have : A = B := by simpa using h
    subst this
    rw [s0] at s
    exact s
  · show (if ((clsIn K B).isSome && typeIn K (.ref B) == some (.type "type")) = true then subIn K (.ref A) (.ref B) else none) = _
    rw [if_pos (cls_ok iB tB)]
    exact s
theorem ty_cls (iC : isClsIn T.K (T.ca c) = true) (tC : typeIn T.K (.ref (T.ca c)) = some (.type "type")) (s0 : subIn T.K (.ref (T.ca c)) (.ref (T.ca c)) = some true)
    (own : ∀ e ∈ cs, subIn T.K (.ref (T.ca e)) (.ref (T.ca c)) = some (subc e c)) : TyK T cs (.cls c) := ⟨fun m hm => by
  show kitOne T.K (.type m) (.ref (T.ca c)) = some (tyB m (.cls c))
  unfold kitOne kitCls
  rw [if_neg (by simp)]
  show (if ((clsIn T.K (T.ca c)).isSome && typeIn T.K (.ref (T.ca c)) == some (.type "type")) = true then subIn T.K (.type m) (.ref (T.ca c)) else none) = _
  rw [if_pos (cls_ok iC tC)]
  exact sub_bt hm, fun e he => kit_rf iC tC s0 (own e he)⟩
theorem exm_of {b : Bool} (eB : subIn K (.ref B) (.type "BaseException") = some true) (iB : isClsIn K B = true) (tB : typeIn K (.ref B) = some (.type "type")) (s : subIn K (.ref A) (.ref B) = some b) : exmOne K (.ref A) (.ref B) = some b := by
  unfold exmOne kitCls
  rw [if_pos (by rw [eB]; rfl)]
  show (if ((clsIn K B).isSome && typeIn K (.ref B) == some (.type "type")) = true then subIn K (.ref A) (.ref B) else none) = _
  rw [if_pos (cls_ok iB tB)]
  exact s
theorem nf_bt {m : String} (hm : m ∈ kinds) : notFirst K C (.type m) = true := by
  unfold notFirst
  rw [sub_bt hm]
  simp
theorem nf_self : notFirst K C (.ref C) = true := by
  unfold notFirst
  simp
/-- super().m of a class with the one base at B -/
theorem super_of {n : Str} {oc oc' : Value} {od od' : Option Addr} {cd cd' : ClassData} {sl sl' : Array (Option Value)} {r : Option (Option Value)} (xC : K.lookup C = some ⟨oc, od, .cls cd, sl⟩) (xB : K.lookup B = some ⟨oc', od', .cls cd', sl'⟩)
    (m : cd.mro = .ref C :: cd'.mro) (f : findIn K (.ref B) n = r) : ks_superIn K C C n = r := by
  unfold ks_superIn
  have e : clsIn K C = some cd := by unfold clsIn; rw [xC]
  rw [e]
  show alongIn K n ((cd.mro.dropWhile (· != .ref C)).drop 1) = r
  rw [m]
  have q : ((Value.ref C :: cd'.mro).dropWhile (· != .ref C)).drop 1 = cd'.mro := by
    simp [List.dropWhile]
  rw [q, ← f]
  show _ = (match K.lookup B with
      | some ⟨_, _, .cls cd, _⟩ => alongIn K n cd.mro
      | _ => none)
  rw [xB]
theorem clsK_of (cls : Cls T.K (T.ca c)) (nd : (T.fs c).Nodup) (few : (T.fs c).length < 1000) (no : ∀ f ∈ T.fs c, findIn T.K (.ref (T.ca c)) f = some none) : ClsK T c := ⟨cls, nd, no, few⟩
end
end DM
set_option Elab.async false
set_option linter.all false
set_option maxRecDepth 100000
set_option maxHeartbeats 2000000
/-! Machine D: a lambda handed to a def that calls it in a try. -/
namespace DM
open PySem PySem.Spec PyProof.Rows L2
/-- what holds whatever the slots are -/
def WF (n : Nat) (W : WX) : WX := fun c d _ H => ∀ σ', σ'.length = n → W c d σ' H
/-- try: b except c as i: u; a raise forgets the slots -/
def sTryF (sb : SubX) (n c i : Nat) (b u : SM) : SM := fun s h => match b s h with
  | .exc x _ h1 => match sb x.c c with
    | some true => clr i (u ((List.replicate n none).set i (some (.ex x.c x.l))) h1)
    | _ => .bad
  | o => o
/-- x(), x the lambda that was handed in -/
def eAct (act : HD → Res D) : EM := fun s h => match (s[0]?).join with
  | some (D.ex e []) => if e = CALL then act h else .bad
  | _ => .bad
def lamM (ns : Nat) (b : (HD → Res D) → SM) (act : HD → Res D) : HD → Res D := fun h => match b act (some (.ex CALL []) :: List.replicate (ns - 1) none) h with
  | .nx _ h1 => .ok .non h1
  | .rt d h1 => .ok d h1
  | _ => .bad
def lamT (ns : Nat) (b : (HD → Res D) → SM) (act : HD → Res D) : HD → Res D := fun h => trim h (lamM ns b act h)
/-- f(lambda: m) -/
def eLam (ns : Nat) (b : (HD → Res D) → SM) (m : EM) : EM := fun s h => lamT ns b (fun h1 => m s h1) h
section
variable {X : Cx} {T : Tx} {W : WX} {sb : SubX} {n c i : Nat} {mb mu : SM}
theorem takes_len (tk : Takes X W) : Takes X (fun c d σ H => σ.length = X.N.length → W c d σ H) := fun u s' ⟨a, B, sI, pins, σ, H, cls, d, e, I, nb, up, sky, na, os, ag, w⟩ =>
  tk u s' ⟨a, B, sI, pins, σ, H, cls, d, e, I, nb, up, sky, na, os, ag, w I.len⟩
theorem none_env {ρ Z : List Addr} {H : Hp} {σ : SV} (h : σ.length = n) : EnvR T ρ Z H (List.replicate n none) σ := ⟨by simp [h], fun j q e => by
  rw [List.getElem?_replicate] at e
  split at e <;> cases e⟩
theorem tryF_read {D : Ends} {σ : SV} {H : Hp} (hc : T.cur = none) (hsb : ∀ e b, sb e c = some b → PySem.W.exmOne T.K (.ref (T.xa e)) (.ref (T.xa c)) = some b) (k : rdS T W (sTryF sb n c i mb mu) D σ H) :
    rdS T (WF n (wAs T.K (.ref (T.xa c)) i (fun a cls d => rdS (T.held a cls d) WN mu) W D)) mb D σ H := by
  obtain ⟨ρ, Z, s, h, l, er, k⟩ := k
  refine ⟨ρ, Z, s, h, l, er, ?_⟩
  unfold sTryF at k
  cases e : mb s h with
  | nx s1 h1 => rw [e] at k; exact k
  | bk s1 h1 => rw [e] at k; exact k
  | ct s1 h1 => rw [e] at k; exact k
  | rt d h1 => rw [e] at k; exact k
  | bad => rw [e] at k; exact k.elim
  | exc x s1 h1 =>
    rw [e] at k
    intro ρ1 H1 σ1 cls d g l1 _ xr σ' hl'
    have hcl := xr.1
    cases es : sb x.c c with
    | none => simp only [es] at k; exact k.elim
    | some b =>
      cases b with
      | false => simp only [es] at k; exact k.elim
      | true =>
        simp only [es] at k
        refine ⟨true, by rw [hcl]; exact hsb _ _ es, fun _ a ha => ?_, fun eb => nomatch eb⟩
        refine ⟨ρ1, Z, _, h1, l1.to, held_env hc (none_env hl') xr, ?_⟩
        cases eu : mu ((List.replicate n none).set i (some (.ex x.c x.l))) h1 with
        | nx s2 h2 => rw [eu] at k; exact fun ρ2 H2 σ2 g2 l2 er2 => k ρ2 H2 _ (g.trans g2) l2.un er2.un
        | bk s2 h2 => rw [eu] at k; exact fun ρ2 H2 σ2 g2 l2 er2 => k ρ2 H2 _ (g.trans g2) l2.un er2.un
        | ct s2 h2 => rw [eu] at k; exact fun ρ2 H2 σ2 g2 l2 er2 => k ρ2 H2 _ (g.trans g2) l2.un er2.un
        | rt d2 h2 => rw [eu] at k; exact fun ρ2 H2 v2 g2 l2 r2 => k ρ2 H2 v2 (g.trans g2) l2.un ((Rep.to _ _).mpr r2)
        | exc y s2 h2 => rw [eu] at k; exact k.elim
        | bad => rw [eu] at k; exact k.elim
/-- the lambda is at hand in the try of the context X -/
structure ActK (X : Cx) (T : Tx) (a : Str) (act : HD → Res D) : Prop where
  ok : ∀ (W : WX) (pn : List (Addr × Obj)) (xe : Value → Shared → Prop) (p1 p2 : Pos), Takes (X.tr pn xe) W → PE (X.tr pn xe) (.Call (.Name a p1) [] [] p2) (rdE T (WF X.N.length W) (eAct act))
theorem s_tryF {x m : Str} {body suite : List Stmt} {b₀ : Stmt} {np pos pos' : Pos} (hK : X.K = T.K) (hcur : T.cur = none) (hn : X.N.length = n) (hsb : ∀ e b, sb e c = some b → PySem.W.exmOne T.K (.ref (T.xa e)) (.ref (T.xa c)) = some b)
    (hs : X.stack = X.env :: X.outer) (hf : X.env.frame = some X.env.locals) (hN : X.N.Nodup) (hi : X.N[i]? = some m) (hln : X.env.kindOf m = some .local) (hc : Names X x (.ref (T.xa c))) (tk : Takes X W)
    (hb : ∀ (W : WX) (pn : List (Addr × Obj)) (xe : Value → Shared → Prop), Takes (X.tr pn xe) W → PSs (X.tr pn xe) body (rdS T (WF n W) mb))
    (hsu : ∀ (a : Addr) (oe : Obj) (cls : Value) (d : Option Addr) (pn : List (Addr × Obj)), Zc cls d oe → (∃ vs, oe.data = .fields vs) → PSs (X.suite a ((a, oe) :: pn)) (b₀ :: suite) (rdS (T.held a cls d) WN mu)) :
    PS X (.Try body [.ExceptHandler (some (.Name x np)) (some m) (b₀ :: suite) pos'] [] [] pos) (rdS T W (sTryF sb n c i mb mu)) :=
  PS.imp (ps_try_as (tb := fun W => rdS T (WF n W) mb) (ts := fun a cls d => rdS (T.held a cls d) WN mu) (Wout := W) hs hf hN hi hln hc tk (fun W pn xe tk _ => hb W pn xe tk) hsu) fun D σ H k => by
    rw [hK]
    exact tryF_read hcur hsb k
end
end DM
set_option Elab.async false
set_option linter.all false
set_option maxRecDepth 100000
set_option maxHeartbeats 4000000
/-! Machine D: a lambda handed to a def that calls it in a try: the rule. -/
namespace DM
open PySem PySem.Spec PyProof.Rows L2
abbrev Tx.acts (T : Tx) (A : ActT) : Tx := { T with act := some A }
section
variable {T : Tx} {A : ActT} {ρ ρ' Z Z' : List Addr} {H H' : Hp} {h : HD} {s : SD} {σ : SV}
mutual
theorem Rep.ac : ∀ (d : D) (u : V), Rep T ρ Z H d u ↔ Rep (T.acts A) ρ Z H d u
  | .non, _ => by rw [Rep, Rep]
  | .bl _, _ => by rw [Rep, Rep]
  | .int _, _ => by rw [Rep, Rep]
  | .str _, _ => by rw [Rep, Rep]
  | .tup l, _ => by rw [Rep, Rep]; exact and_congr Iff.rfl (exists_congr fun a => exists_congr fun xs => and_congr Iff.rfl (and_congr Iff.rfl (RepL.ac l xs)))
  | .fl l, _ => by rw [Rep, Rep]; exact and_congr Iff.rfl (exists_congr fun a => exists_congr fun xs => and_congr Iff.rfl (and_congr Iff.rfl (and_congr Iff.rfl (and_congr Iff.rfl (RepL.ac l xs)))))
  | .sc l, _ => by rw [Rep, Rep]; exact and_congr Iff.rfl (exists_congr fun a => exists_congr fun xs => and_congr Iff.rfl (and_congr Iff.rfl (RepL.ac l xs)))
  | .fo c l, _ => by rw [Rep, Rep]; exact and_congr Iff.rfl (exists_congr fun a => exists_congr fun dx => exists_congr fun xs => and_congr Iff.rfl (and_congr Iff.rfl (and_congr Iff.rfl (and_congr Iff.rfl (RepL.ac l xs)))))
  | .fdk ks l, _ => by rw [Rep, Rep]; exact and_congr Iff.rfl (exists_congr fun a => exists_congr fun xs => and_congr Iff.rfl (and_congr Iff.rfl (and_congr Iff.rfl (and_congr Iff.rfl (RepL.ac l xs)))))
  | .fdt ks l, _ => by rw [Rep, Rep]; exact and_congr Iff.rfl (exists_congr fun a => exists_congr fun xs => and_congr Iff.rfl (and_congr Iff.rfl (and_congr Iff.rfl (and_congr Iff.rfl (RepL.ac l xs)))))
  | .ref n, _ => by rw [Rep, Rep]
  | .ex _ _, _ => by rw [Rep, Rep]
theorem RepL.ac : ∀ (l : List D) (xs : List V), RepL T ρ Z H l xs ↔ RepL (T.acts A) ρ Z H l xs
  | [], _ => by rw [RepL, RepL]
  | d :: l, _ => by rw [RepL, RepL]; exact exists_congr fun v => exists_congr fun r => and_congr Iff.rfl (and_congr (Rep.ac d v) (RepL.ac l r))
end
theorem OR.ac {x : Addr} {o : O} : OR T ρ Z H x o ↔ OR (T.acts A) ρ Z H x o := by
  cases o with
  | lst l => exact and_congr Iff.rfl (exists_congr fun xs => and_congr Iff.rfl (RepL.ac l xs))
  | dk l => exact exists_congr fun xs => and_congr Iff.rfl (RepL.ac _ xs)
  | dt l => exact exists_congr fun xs => and_congr Iff.rfl (RepL.ac _ xs)
  | ins c l => exact and_congr Iff.rfl (exists_congr fun dx => exists_congr fun xs => and_congr Iff.rfl (RepL.ac l xs))
theorem Rl.ac (l : Rl T ρ Z h H) : Rl (T.acts A) ρ Z h H := ⟨l.len, l.nd, fun n o x e1 e2 => OR.ac.mp (l.ob n o x e1 e2), l.hid, l.tab⟩
theorem Rl.ca (l : Rl (T.acts A) ρ Z h H) : Rl T ρ Z h H := ⟨l.len, l.nd, fun n o x e1 e2 => OR.ac.mpr (l.ob n o x e1 e2), l.hid, l.tab⟩
theorem XR.ac {x : Xn} {c : Value} {dd : Option Addr} (q : XR T ρ Z H x c dd) : XR (T.acts A) ρ Z H x c dd := by
  obtain ⟨e, m⟩ := q
  refine ⟨e, ?_⟩
  revert m
  cases x.l with
  | nil => exact fun m => m
  | cons y t =>
    cases t with
    | nil => exact fun ⟨a, u, q1, q2, q3, q4, q5⟩ => ⟨a, u, q1, q2, q3, q4, (Rep.ac _ _).mp q5⟩
    | cons => exact fun m => m
theorem EnvR.widen (hna : T.act = none) (hz : ∀ z ∈ Z', z ∈ Z ∨ Nw H z) (e : EnvR T ρ Z H s σ) : EnvR T ρ Z' H s σ := ⟨e.len, fun i d q => by
  obtain ⟨v, h1, h2⟩ := e.at_ i d q
  refine ⟨v, h1, h2.map (fun d v => Rep.shift (fun _ _ q => q) (fun a o e nt n1 n2 => ⟨n1, fun m => ?_⟩) d v) (fun b fs e n1 n2 => ⟨n1, fun m => ?_, e⟩) fun v ⟨A, q1, _⟩ => by rw [hna] at q1; cases q1⟩
  · rcases hz a m with m | m
    · exact n2 m
    · obtain ⟨ps, z⟩ := m _ e; exact nt ps z
  · rcases hz b m with m | m
    · exact n2 m
    · obtain ⟨ps, z⟩ := m _ e; cases z⟩
/-- all but the tables stay: the relation too -/
theorem gr_ext (e : LamX.ExtN H H') : Gr ρ H ρ H' := ⟨⟨[], by simp⟩, fun a o h nt _ => e a o h nt, fun _ m n => absurd m n, fun a xs h => e a _ h (fun _ z => nomatch z)⟩
theorem Rl.extN (l : Rl T ρ Z h H) (e : LamX.ExtN H H') (t : LamX.Tabs T.tabs H') : Rl T ρ Z h H' := ⟨l.len, l.nd, fun n o a e1 e2 => by
  have q := l.ob n o a e1 e2
  obtain ⟨n1, _, _⟩ := q.ne_tbl
  obtain ⟨u, hu⟩ := q.has
  exact q.map (by rw [hu]; exact e a u hu fun ps z => n1 ps (by rw [hu, z])) fun l xs => RepL.mono (gr_ext e) l xs, fun z m => by
  obtain ⟨m1, o, ho, nt⟩ := l.hid z m
  exact ⟨m1, o, e z o ho nt, nt⟩, t⟩
theorem Fin.slot {W : WX} {E : XK} {r : Res D} {Q : VK} (hW : ∀ c d H, W c d σ H → E c d H) (k : Fin T W Z (RV T Z) ρ H σ r Q) : Fin T (fun c d _ H => E c d H) Z (RV T Z) ρ H [] r Q := by
  cases r with
  | ok a h => exact k
  | exc x h => exact fun ρ' H' c d g l xr => hW c d H' (k ρ' H' c d g l xr)
  | bad => exact k
end
/-- what a def that calls a lambda makes of the lambda's reading -/
def TTm (T : Tx) (ns : Nat) (b : (HD → Res D) → SM) : (XK → Hp → VK → Prop) → Hp → VK → Prop := fun tl H Q =>
  ∃ (act : HD → Res D) (ρ Z : List Addr) (h : HD), Rl T ρ Z h H ∧
    (∀ (E : XK) (ρ' Z' : List Addr) (H' : Hp) (h' : HD) (Q' : VK), Gr ρ H ρ' H' → Rl T ρ' Z' h' H' → (∀ z ∈ Z', z ∈ Z ∨ Nw H z) → Fin T (fun c d _ H => E c d H) Z' (RV T Z') ρ' H' [] (act h') Q' → tl E H' Q') ∧
    Fin T WN Z (RV T Z) ρ H [] (lamM ns b act h) Q
section
variable {X : Cx} {T : Tx}
theorem lam_gives {Ng : List Str} {x a q : Str} {sg : Scope} {g : Addr} {cdg : Value} {bg : List Stmt} {ns : Nat} {b : (HD → Res D) → SM} (hna : T.act = none) (hcur : T.cur = none) (hlen : Ng.length = ns) (hpos : 0 < ns)
    (word : ∀ (A : ActT) (act : HD → Res D) (s : Shared) (H : Hp), ActK (cxOf C8.CX0 X.prog X.w X.K X.mg X.base Ng x sg g cdg X.A X.stack s H C8.E0) (T.acts A) a act →
      PSs (cxOf C8.CX0 X.prog X.w X.K X.mg X.base Ng x sg g cdg X.A X.stack s H C8.E0).nox bg (rdS (T.acts A) WN (b act))) :
    LamX.GivesTo X Ng x sg g cdg bg a q (TTm T ns b) := by
  intro f c' s H Q tl actpe hc ⟨act, ρ, Z, h, l, hact, k⟩
  have K : ActK (cxOf C8.CX0 X.prog X.w X.K X.mg X.base Ng x sg g cdg X.A X.stack s H C8.E0) (T.acts ⟨f, c', q, ρ, Z, H⟩) a act := by
    constructor
    intro W pn xe p1 p2 tk
    refine PE.imp (actpe _ pn xe (fun c d H => ∀ σ', σ'.length = Ng.length → W c d σ' H) p1 p2 (takes_len tk) fun c d σ' H' h hl => h σ' hl) fun σ H1 Q1 k => ?_
    obtain ⟨ρ1, Z1, s1, h1, l1, er, k⟩ := k
    unfold eAct at k
    cases e0 : s1[0]? with
    | none => rw [e0] at k; exact k.elim
    | some o =>
      rw [e0] at k
      cases o with
      | none => exact k.elim
      | some d =>
        obtain ⟨v, hv, hr⟩ := er.at_ 0 d e0
        cases d with
        | ex e m =>
          cases m with
          | cons => exact k.elim
          | nil =>
            have k : Fin _ _ _ _ _ _ _ (if e = CALL then act h1 else .bad) Q1 := k
            split at k
            · rename_i he
              unfold RepX at hr
              rw [if_pos (show isEx (.ex e []) = true from rfl)] at hr
              rcases hr with ⟨_, _, _, _, _, _, z, _⟩ | ⟨_, A', q1, q2, q3, q4, q6, q7⟩
              · have z : T.cur = _ := z
                rw [hcur] at z; cases z
              · have q1 : some (ActT.mk f c' q ρ Z H) = some A' := q1
                cases q1
                subst q2
                refine ⟨hv, q3, hact _ ρ1 Z1 H1 h1 Q1 q6 l1.ca q7 ?_⟩
                have k2 := Fin.slot (E := fun c d H => ∀ σ', σ'.length = Ng.length → W c d σ' H) (fun c d H h => h) k
                cases ea : act h1 with
                | ok a h2 => rw [ea] at k2; exact fun ρ' H' v g l r => k2 ρ' H' v g l.ac ((Rep.ac _ _).mp r)
                | exc y h2 => rw [ea] at k2; exact fun ρ' H' c d g l xr => k2 ρ' H' c d g l.ac xr.ac
                | bad => rw [ea] at k2; exact k2
            · exact k.elim
        | _ => exact k.elim
  refine ⟨_, word _ act s H K, ρ, Z, some (.ex CALL []) :: List.replicate (ns - 1) none, h, l.ac, ⟨?_, fun i d e => ?_⟩, ?_⟩
  · simp [L2.start, hlen]
  · cases i with
    | zero =>
      have e : some (some (D.ex CALL [])) = some (some d) := e
      cases e
      refine ⟨.ref f, by simp [L2.start], ?_⟩
      unfold RepX
      rw [if_pos (show isEx (.ex CALL []) = true from rfl)]
      right
      refine ⟨rfl, _, rfl, rfl, hc, fun m => ?_, Gr.refl, fun z m => .inl m⟩
      obtain ⟨n, hn⟩ := List.mem_iff_getElem?.mp m
      obtain ⟨o, _, qo⟩ := l.at_ hn
      exact qo.ne_tbl.2.1 _ _ hc
    | succ i =>
      have e : (List.replicate (ns - 1) (none : Option D))[i]? = some (some d) := by simpa using e
      rw [List.getElem?_replicate] at e
      split at e <;> cases e
  · unfold lamM at k
    cases eb : b act (some (.ex CALL []) :: List.replicate (ns - 1) none) h with
    | nx s1 h1 => rw [eb] at k; exact fun ρ' H' σ' g l' er => k ρ' H' .non g l'.ca (by show Rep T ρ' Z H' .non .non; rw [Rep])
    | rt d h1 => rw [eb] at k; exact fun ρ' H' v g l' r => k ρ' H' v g l'.ca ((Rep.ac _ _).mpr r)
    | bk s1 h1 => rw [eb] at k; exact k.elim
    | ct s1 h1 => rw [eb] at k; exact k.elim
    | exc y s1 h1 => rw [eb] at k; exact k.elim
    | bad => rw [eb] at k; exact k.elim
/-- x(lambda: e) -/
theorem x_lam {W : WX} {m : EM} {x a : Str} {g c P : Addr} {k ns : Nat} {b : (HD → Res D) → SM} {pg : Arguments} {bg : List Stmt} {sg : Scope} {dV kV doc pm cdv ct oc : Value} {an od : Option Addr} {osl : Array (Option Value)} {Ng : List Str}
    {params : Arguments} {body : Expr} {scope : Scope} {p lpos pos : Pos} (hna : T.act = none) (hcur : T.cur = none) (hlen : Ng.length = ns) (hpos : 0 < ns)
    (hg : Gl X x) (hm : X.mg x = some (.ref g)) (hk : PySem.W.keepIn X.K (.ref g) = true)
    (lk : X.K.lookup g = some ⟨oc, od, .func (PySem.W.fnOf x x pg bg sg dV kV doc pm an cdv ct), osl⟩) (hcg : PySem.W.codeIn X.K cdv x = true) (hb : L2.Binds X.K (PySem.W.fnOf x x pg bg sg dV kV doc pm an cdv ct) [a] []) (Sg : FnScope Ng [a] sg) (hNg : Ng[0]? = some a) (hva : Vis sg a)
    (word : ∀ (A : ActT) (act : HD → Res D) (s : Shared) (H : Hp), ActK (cxOf C8.CX0 X.prog X.w X.K X.mg X.base Ng x sg g cdv X.A X.stack s H C8.E0) (T.acts A) a act →
      PSs (cxOf C8.CX0 X.prog X.w X.K X.mg X.base Ng x sg g cdv X.A X.stack s H C8.E0).nox bg (rdS (T.acts A) WN (b act)))
    (TB : LamX.TabB X.base X.mg c P) (hcode : X.env.code = .ref c) (hmT : (P, X.env.qual ++ "<lambda>") ∈ T.tabs) (hu : ∀ p ∈ T.tabs, p.1 = P → p.2 = X.env.qual ++ "<lambda>") (hr : Room (k + 2) X.A) (L : LamX.LamS X.env.scope scope) (hdef : defaultsOf params X.env = ([], []))
    (hbind : ∀ (q : Str) (cl : List (Str × Addr)) (pm cv ctv : Value), bindArgs (PySem.W.kla_fn "<lambda>" q params body scope cl pm cv ctv) ⟨[], []⟩ = pure [])
    (hbody : ∀ (A : Around) (outer : List Env) (s : Shared) (H : Hp) (E : XK) (f c' : Addr), Room k (A.deeper (LamX.lamEnv X scope s.heap.objs.size f c')) → PE (LamX.lamCx X A outer s H E scope f c') body (rdE T (fun c d _ H => E c d H) m))
    (hdb : (x == ("__debug__" : Str)) = false := by decide) (hd : (a == ("__debug__" : Str)) = false := by decide) (hcd : (a == ("__classdict__" : Str)) = false := by decide) :
    PE X (.Call (.Name x p) [.Lambda params body scope lpos] [] pos) (rdE T W (eLam ns b m)) :=
  PE.imp (LamX.pe_lamcall (T := T.tabs) (t := fun E => rdE T (fun c d _ H => E c d H) m) hg hm hk lk hcg hb Sg hNg hva (lam_gives hna hcur hlen hpos word) TB hcode hmT hu hr L hdef hbind (fun A outer s H E f c' hr => hbody A outer s H E f c' hr) hdb hd hcd) fun σ H Q kk => by
    obtain ⟨ρ, Z, s, h, l, er, kk⟩ := kk
    refine ⟨l.tab, fun H1 eN T1 => ?_⟩
    have g := gr_ext (ρ := ρ) eN
    have l1 := l.extN eN T1
    have k1 : Fin T W Z (RV T Z) ρ H1 σ (trim h (lamM ns b (fun h1 => m s h1) h)) Q := Fin.grow g kk
    have k2 := trim_fin l1 k1
    refine ⟨fun h1 => m s h1, ρ, Z, h, l1, fun E ρ' Z' H' h' Q' g2 l2 hz k3 => ?_, ?_⟩
    · refine ⟨ρ', Z', s, h', l2, ?_, ?_⟩
      · have e1 : EnvR T ρ Z H1 s σ := er.mono g
        exact (e1.widen hna hz).mono g2
      · have k3 : Fin T (fun c d _ H => E c d H) Z' (RV T Z') ρ' H' [] (m s h') Q' := k3
        cases em : m s h' with
        | ok a h2 => rw [em] at k3; exact k3
        | exc y h2 => rw [em] at k3; exact k3
        | bad => rw [em] at k3; exact k3
    · show Fin T WN Z (RV T Z) ρ H1 [] (lamM ns b (fun h1 => m s h1) h) Q
      cases e : lamM ns b (fun h1 => m s h1) h with
      | ok a h2 => rw [e] at k2; exact k2
      | exc y h2 =>
        unfold lamM at e
        split at e <;> cases e
      | bad => rw [e] at k2; exact k2
end
end DM
set_option Elab.async false
set_option linter.all false
set_option maxRecDepth 100000
set_option maxHeartbeats 2000000
/-! Machine D: l.index(x), l.count(x); isinstance(e, ValueError); a def that makes lambdas. -/
namespace DM
open PySem PySem.Spec PyProof.Rows L2
def datL (h : HD) (x y : D) : Option (List PyData × PyData) := match lsts h x with
  | some l => match toPs l, toP (look h y) with
    | some ps, some p => if SeqAt.shaped p && SeqAt.shaped (.list ps) then some (ps, p) else none
    | _, _ => none
  | none => none
def opIndex (h : HD) (x y : D) : Option D := (datL h x y).bind fun q => (q.1.findIdx? fun z => PyData.eqv z q.2).map fun (n : Nat) => D.int (n : Int)
def opCount (h : HD) (x y : D) : Option D := (datL h x y).map fun q => .int (q.1.countP fun z => PyData.eqv z q.2)
/-- o.m(e): a method of lists that only looks -/
def eMbV (f : HD → D → D → Option D) (o a : EM) : EM := fun s h => (o s h).bind fun x h1 => if (lsts h1 x).isSome then (a s h1).bind fun y h2 => .of (f h2 x y) h2 else .bad
section
variable {X : Cx} {T : Tx} {W : WX}
def rMV (T : Tx) (f : HD → D → D → Option D) : V → List V → Hp → VK → Prop := fun x xs H Q => ∃ ρ Z h c d y e, xs = [y] ∧ Rl T ρ Z h H ∧ Rep T ρ Z H c x ∧ Rep T ρ Z H d y ∧ f h c d = some e ∧ ∀ w, Rep T ρ Z H e w → Q w H
theorem mv_index (hK : X.K = T.K) (hu : X.A.units + 65 < cLine) : MtR X "list.index" (rMV T opIndex) := by
  intro pins s σ H x xs v us Q I rx rxs ⟨ρ, Z, h, c, d, y, e, ex, l, rc, rd, ef, q⟩
  subst ex
  unfold opIndex datL at ef
  split at ef
  · rename_i m em
    split at ef
    · rename_i ps p ep eq
      split at ef
      · rename_i hc
        rw [Bool.and_eq_true] at hc
        obtain ⟨hz, a, vs, rfl, hq, rl⟩ := lsts_rep l rc em
        have dp := toPs_dp (X := X) m ps vs ep rl
        have dy := look_dp (X := X) l rd eq
        simp only [Option.bind_some, Option.map_eq_some_iff] at ef
        obtain ⟨j, ej, rfl⟩ := ef
        obtain ⟨hj, hj1, hj2⟩ := List.findIdx?_eq_some_iff_getElem.mp ej
        refine mt_indexD hu pins s σ H _ _ v us Q I rx rxs ⟨a, y, p, ps, j, ps[j], rfl, rfl, .lst (.inl (.inl hq)) dp, dy, hc.2, hc.1, by simp [hj], hj1, fun i z' hi hz => ?_, q _ rep_int⟩
        have hi' : i < ps.length := by omega
        have e2 : ps[i] = z' := by
          have := List.getElem?_eq_some_iff.mp hz
          exact this.2
        have := hj2 i hi
        rw [e2] at this
        simpa using this
      · cases ef
    · cases ef
  · cases ef
theorem mv_count (hK : X.K = T.K) (hu : X.A.units + 65 < cLine) : MtR X "list.count" (rMV T opCount) := by
  intro pins s σ H x xs v us Q I rx rxs ⟨ρ, Z, h, c, d, y, e, ex, l, rc, rd, ef, q⟩
  subst ex
  unfold opCount datL at ef
  split at ef
  · rename_i m em
    split at ef
    · rename_i ps p ep eq
      split at ef
      · rename_i hc
        rw [Bool.and_eq_true] at hc
        obtain ⟨hz, a, vs, rfl, hq, rl⟩ := lsts_rep l rc em
        have dp := toPs_dp (X := X) m ps vs ep rl
        have dy := look_dp (X := X) l rd eq
        simp only [Option.map_some, Option.some.injEq] at ef
        subst ef
        cases rx
        obtain ⟨u, rfl, ru⟩ := rxs.one
        obtain ⟨bs, r1⟩ := Dp.reads I _ y u dy ru
        have hxs : PyData.canLayAll0 ps = true := canL_list hc.2
        obtain ⟨its, rv, pl, hlen⟩ := I.list (show SqL X.K H a vs from .inl (.inl hq))
        obtain ⟨as, h4⟩ := Dp.readsAll I ps _ its dp rv
        refine PySem.SeqAt.count_list_data (vs := its.toArray) pl.isList (by simpa using h4) r1 (PyData.plainAll_of_canLay0 _ hxs) (PyData.plain_of_canLay0 _ (SeqAt.canLay_of_shaped hc.1)) (room_in_shaped hc.1 hu) ?_
        exact ⟨.int (ps.countP fun z => PyData.eqv z p : Nat), H, I.tok _, ⟨_, rfl⟩, q _ rep_int⟩
      · cases ef
    · cases ef
  · cases ef
/-- o.m(e) -/
theorem x_mbV {f : HD → D → D → Option D} {id : String} {name : Str} {o a : Expr} {mo ma : EM} {apos cpos : Pos} (slot : Slot "list" name id) (hty : typeOf (.builtin id) = pure (.type "method_descriptor")) (hm : MtR X id (rMV T f)) (ho : PE X o (rdE T W mo)) (ha : PE X a (rdE T W ma))
    (hbase : attributeBase o name X.env (eval o X.env) = eval o X.env := by rfl)
    (hfew : ((backTo cpos (starEach [a] X.env)).all (fun x => !x.1) && (backToKw cpos (keywordEach [] X.env)).all (fun x => x.1.isSome)
      && decide (([a] : List Expr).length + ([] : List Keyword).length + (if ([] : List Keyword).isEmpty then 0 else 1) < 30)) = true := by rfl)
    (hline : (apos.endLine == cpos.line) = true := by rfl) (hs : starEach [a] X.env = (false, eval a X.env) :: starEach [] X.env := by rfl) (hplain : (backTo cpos (starEach [] X.env)).any (·.1) = false := by rfl) :
    PE X (.Call (.Attribute o name apos) [a] [] cpos) (rdE T W (eMbV f mo ma)) :=
  PE.imp (pe_bm PySem.F.plainAttrs_list slot hty hm ho (pa_cons ha pa_nil hs) hbase hfew hline hs hplain) fun σ H Q ⟨ρ, Z, s, h, l, er, k⟩ => by
    refine Fin.step l er k fun ρ1 d h1 v H1 g l1 er1 r1 k1 => ?_
    cases eb : lsts h1 d with
    | none => simp only [eb] at k1; exact k1.elim
    | some m =>
      simp only [eb, Option.isSome_some, if_true] at k1
      obtain ⟨hz, p, ys, rfl, hh, rl⟩ := lsts_rep l1 r1 eb
      refine ⟨.inl ⟨rfl, ys, .inl (.inl hh)⟩, ?_⟩
      refine Fin.step l1 er1 k1 fun ρ2 d2 h2 v2 H2 g2 l2 er2 r2 k2 => ?_
      obtain ⟨e, he, k3⟩ := k2.res
      exact ⟨ρ2, Z, h2, d, d2, v2, e, rfl, l2, Rep.mono g2 _ _ r1, r2, he, fun w rw => k3.here l2 rw⟩
/-- a def that makes lambdas: its code object is told -/
theorem fn_okC {P : Program} {w : World} {K : PySem.W.Frag} {mg : Str → Option Value} {base : Heap} {x qual : Str} {st : Stmt} {f c : Addr} {N ps : List Str} {np ns k : Nat} {b : SM} {oc kV doc pm ct : Value} {od an : Option Addr} {osl : Array (Option Value)}
    (lk : K.lookup f = some ⟨oc, od, .func (PySem.W.fnOf x qual (defArgs st) (defBody st) (defScope st) .none kV doc pm an (.ref c) ct), osl⟩) (hcd : PySem.W.codeIn K (.ref c) qual = true) (S : FnScope N ps (defScope st)) (hp : ps.length = np) (hN : N.length = ns)
    (hb : ∀ (A : Around) (outer : List Env) (s : Shared) (H : Hp) (E : XK), Room k (A.deeper (envOfC qual (defScope st) s.heap.objs.size f (.ref c))) →
      PSs (cxOf (L2.CX P w) P w K mg base N qual (defScope st) f (.ref c) A outer s H E) (defBody st) (rdS T (fun c d _ H => E c d H) b)) : FnOk P w K mg base (L2.CX P w) (k + 1) f (PySem.W.fnOf x qual (defArgs st) (defBody st) (defScope st) .none kV doc pm an (.ref c) ct) ps (spM T np (fnM np ns b)) :=
  fn_of lk hcd S (fun vs H Q E h => by rw [hp]; exact h.1) fun A outer s H vs Q E hr h => ⟨_, hb A outer s H E hr, fnM_read hN h⟩
section
variable {X : Cx} {T : Tx} {W : WX} {sb : SubX} {c i : Nat} {a : Addr} {oe : Obj} {cls : Value} {d : Option Addr} {pn : List (Addr × Obj)}
def rIsHB (T : Tx) (es : List Nat) (a : Addr) (cls : Value) (d : Option Addr) (n : String) : List V → Hp → VK → Prop := fun xs H Q => ∃ (e : Nat) (b : Bool), xs = [.ref a, .ty n] ∧ e ∈ es ∧ cls = .ref (T.xa e) ∧ (d = none ∨ ∃ dd fs, d = some dd ∧ H dd = some (.xd fs)) ∧
  PySem.W.kitOne T.K (.ref (T.xa e)) (.type n) = some b ∧ Q (.bl b) H
theorem call_isHB {n : String} {es : List Nat} (hK : X.K = T.K) (hE : ∀ e ∈ es, HeldK T e) (hz : Zc cls d oe) (hf : ∃ vs, oe.data = .fields vs) : CallR (X.suite a ((a, oe) :: pn)) (.builtin "isinstance") (rIsHB T es a cls d n) := by
  intro pins s σ H xs us Q I r h
  obtain ⟨e, b, rfl, he, hcl, hd, hk, q⟩ := h
  cases r with
  | cons rx rr =>
    cases rr with
    | cons rt rr =>
      cases rr
      cases rx
      cases rt
      obtain ⟨hget, _⟩ := I.pin (a, oe) (List.mem_append.mpr (.inl List.mem_cons_self))
      obtain ⟨vs, hv⟩ := hf
      have J : ∃ od, PySem.W.InstAt s.heap a oe (T.xa e) od := by
        obtain ⟨oc, odd, oda, osl⟩ := oe
        obtain ⟨h1, h2⟩ := hz
        dsimp only at h1 h2 hv
        subst h1 h2 hv hcl
        rcases hd with rfl | ⟨dd, fs, rfl, hx⟩
        · exact ⟨none, hget, rfl, rfl, trivial⟩
        · obtain ⟨mA, hns, _⟩ := (show ObjOk X.prog X.w H s.heap dd (.xd fs) from I.hok dd _ hx)
          obtain ⟨od, ho, _⟩ := lookIn_ns hns
          exact ⟨some od, hget, rfl, rfl, ho⟩
      have hk' : PySem.W.kitOne (X.suite a ((a, oe) :: pn)).K (.ref (T.xa e)) (.type n) = some b := by rw [← hk]; show PySem.W.kitOne X.K _ _ = _; rw [hK]
      have hE' : ExcC (X.suite a ((a, oe) :: pn)).K (T.xa e) := by
        have := (hE e he).ec
        rw [← hK] at this; exact this
      exact PySem.W.kia_one (PySem.W.dmKitx (ox := oe) hE') I.kIn J hk' (fun z => nomatch z) fun tk => ⟨.bl b, H, I.kept (t' := tk) fun _ _ z => z, rfl, q⟩
/-- isinstance(e, ValueError) -/
theorem x_isHB {tn : String} {es : List Nat} {n x : Str} {np cp p pos : Pos} (hK : X.K = T.K) (hE : ∀ e ∈ es, HeldK T e) (hsb : ∀ e b, sb e c = some b → e ∈ es ∧ PySem.W.kitOne T.K (.ref (T.xa e)) (.type tn) = some b) (hz : Zc cls d oe) (hf : ∃ vs, oe.data = .fields vs)
    (hg : Gl X "isinstance") (hm : X.mg "isinstance" = none) (hgc : Gl X x) (hmc : X.mg x = none) (hbt : bootBuiltins x = some (.type tn)) (hN : X.N[i]? = some n) (hv : Vis X.env.scope n) (hdx : (x == ("__debug__" : Str)) = false := by decide) (hnx : x ≠ "__name__" := by decide) (hd : (n == ("__debug__" : Str)) = false := by decide) (hcd : (n == ("__classdict__" : Str)) = false := by decide)
    (he : starEach [Expr.Name n np, .Name x cp] X.env = (false, eval (.Name n np) X.env) :: starEach [.Name x cp] X.env := by rfl) (he2 : starEach [Expr.Name x cp] X.env = (false, eval (.Name x cp) X.env) :: starEach [] X.env := by rfl) (hpl : (backTo pos (starEach [Expr.Name x cp] X.env)).any (·.1) = false := by rfl) :
    PE (X.suite a ((a, oe) :: pn)) (.Call (.Name "isinstance" p) [.Name n np, .Name x cp] [] pos) (rdE (T.held a cls d) W (eT (tIsX sb i c))) :=
  PE.imp (pe_callB (X := X.suite a ((a, oe) :: pn)) (call_isHB (n := tn) hK hE hz hf) hg hm PyProof.Rows.boot_isinstance (pa_cons (pe_var hN hv hd hcd) (pa_cons (n_bt (X := X.suite a ((a, oe) :: pn)) hgc hmc hbt hdx hnx) pa_nil he2) he) (by decide) (by decide) he hpl) fun σ H Q ⟨ρ, Z, s, h, l, er, k⟩ => by
    have k : Fin (T.held a cls d) W Z (RV (T.held a cls d) Z) ρ H σ ((tIsX sb i c s h).bind fun b h1 => .ok (.bl b) h1) Q := k
    unfold tIsX at k
    split at k
    · rename_i e l' hs
      cases es' : sb e c with
      | none => rw [es'] at k; exact k.elim
      | some b =>
        rw [es'] at k
        obtain ⟨he', hk⟩ := hsb e b es'
        obtain ⟨h1, h2, h3⟩ := held_at er hs (hE e he').lt
        refine ⟨.ref a, h1, e, b, rfl, he', h2, ?_, hk, k ρ H (.bl b) Gr.refl l (by show Rep _ ρ Z H (.bl b) (.bl b); rw [Rep])⟩
        revert h3
        match l' with
        | [] => exact fun h3 => .inl h3
        | [x] => exact fun ⟨b, u, q1, q2, q3, q4, q5⟩ => .inr ⟨b, _, q1, q4⟩
        | _ :: _ :: _ => exact fun h3 => h3.elim
    · exact k.elim
theorem kit_bt {K : PySem.W.Frag} {A : Addr} {n : String} {b : Bool} (hm : PySem.W.kitMeta n = true) (h : PySem.W.subIn K (.ref A) (.type n) = some b) : PySem.W.kitOne K (.ref A) (.type n) = some b := by
  unfold PySem.W.kitOne PySem.W.kitCls
  rw [if_neg (by simp)]
  show (if PySem.W.kitMeta n = true then _ else _) = _
  rw [if_pos hm]
  exact h
theorem HeldK.ac {A : ActT} {e : Nat} (h : HeldK T e) : HeldK (T.acts A) e := ⟨h.ec, h.no, h.lt⟩
end
end
end DM
set_option Elab.async false
set_option linter.all false
set_option maxRecDepth 100000
set_option maxHeartbeats 2000000
/-! Machine D: list(range(..)), len(set(..)). -/
namespace DM
open PySem PySem.Spec PyProof.Rows L2
/-- len(set(l)) of numbers -/
def opLenSet (h : HD) (x : D) : Option D := match (lsts h x).bind intsOf with
  | some ns => if ns.length ≤ 4000 then some (.int (PySem.W.ossOf ns).length) else none
  | none => none
def lRange2 (a b : EM) : AM := fun s h => (iRng2 a b s h).bind fun c h1 => .ok c.its h1
section
variable {X : Cx} {T : Tx} {W : WX} {ma mb : EM} {a b : Expr}
theorem ints_vals {ρ Z : List Addr} {H : Hp} : ∀ {l : List D} {ns : List Int} {vs : List V}, intsOf l = some ns → RepL T ρ Z H l vs → vs = ns.map V.int
  | [], ns, vs, e, r => by cases e; rw [RepL.nil_iff] at r; exact r
  | d :: l, ns, vs, e, r => by
    cases d with
    | int i =>
      rw [intsOf] at e
      cases e2 : intsOf l with
      | none => rw [e2] at e; cases e
      | some ms =>
        rw [e2] at e; cases e
        obtain ⟨v, r', rfl, p, q⟩ := RepL.cons_iff.mp r
        rw [Rep] at p
        rw [p, ints_vals e2 q]; rfl
    | _ => cases e
theorem x_lenSet {p p2 q pos : Pos} (hc : X.calm = true) (hg : Gl X "len") (hm : X.mg "len" = none) (hg2 : Gl X "set") (hm2 : X.mg "set" = none) (ha : PE X a (rdE T W ma))
    (na : starEach [a] X.env = (false, eval a X.env) :: starEach [] X.env := by rfl) : PE X (.Call (.Name "len" p) [.Call (.Name "set" p2) [a] [] q] [] pos) (rdE T W (eUn opLenSet ma)) := by
  refine ⟨fun pins s σ H Q I ⟨ρ, Z, sd, h, l, er, k⟩ => ?_⟩
  refine Call_ (ld_blt I hg hm boot_len ?_)
  refine PyProof.Rows.callWith_builtin1 (PyProof.Rows.args_cons ?_ rfl) rfl rfl
  refine Call_ (ld_blt I hg2 hm2 boot_set ?_)
  have step := Fin.step (T := T) (W := W) (m := ma) (Q' := fun v H1 => ∃ (z : Addr) (ns : List Int), v = V.ref z ∧ H1 z = some (.lst (ns.map V.int)) ∧ ns.length ≤ 4000 ∧ Q (.int (PySem.W.ossOf ns).length) H1) l er k fun ρ1 d h1 v H1 g l1 er1 r1 k1 => by
    obtain ⟨e, he, k2⟩ := k1.res
    unfold opLenSet at he
    cases el : lsts h1 d with
    | none => rw [el] at he; cases he
    | some m =>
      cases ei : intsOf m with
      | none => rw [el] at he; simp [ei] at he
      | some ns =>
        rw [el] at he
        simp only [Option.bind_some, ei] at he
        split at he
        · rename_i hl
          cases he
          obtain ⟨hz, z, vs, rfl, hq, rl⟩ := lsts_rep l1 r1 el
          exact ⟨z, ns, rfl, by rw [hq, ints_vals ei rl], hl, k2.here l1 rep_int⟩
        · cases he
  refine PyProof.Rows.callWith_type1 (PyProof.Rows.args_cons (thn (ha.run pins s σ H _ I step) fun v s1 ⟨x, H1, I1, r1, q1⟩ => PyProof.Rows.args_nil ?_) na) na rfl
  obtain ⟨z, ns, rfl, hq, h1, q1⟩ := q1
  cases r1
  obtain ⟨its, r, pl, hz⟩ := I1.list (show SqL X.K H1 z (ns.map V.int) from .inl (.inl hq))
  have hl : its.toArray.size = ns.length := by rw [List.size_toArray, ← r.length, List.length_map]
  refine call_set_list (I1.ok.hd hc) pl.isList (ns := ns) (by simpa using RZ.intsAre_vals r) (by rw [hl]; unfold scanBound; omega) fun h' tk hS hk => ?_
  rw [hl, PySem.W.oss_met] at hS
  refine PyProof.Rows.args_nil ?_
  obtain ⟨o, es, ep, t, ho, hex, hd, _, _, _, hf, hn⟩ := hS
  have I2 : Inv X pins σ H1 { s1 with heap := h', toks := tk } := I1.kept fun b o e => hk b o (Heap.lt_size e) e
  have hl2 := PySem.W.oss_len ns
  exact call_len_set ho hex hd hf (by rw [hn]; omega) ⟨.int (PySem.W.ossOf ns).length, H1, I2.tok _, ⟨_, by rw [hn]⟩, q1⟩
theorem rg_rep {ρ Z : List Addr} {H : Hp} {lo hi : Int} : RepL T ρ Z H ((List.range (hi - lo).toNat).map fun (k : Nat) => D.int (lo + (k : Int))) (rgV lo hi) := by
  unfold rgV
  generalize (List.range (hi - lo).toNat) = l
  induction l with
  | nil => exact RepL.nil
  | cons k l ih => exact RepL.cons rep_int ih
theorem lrg_fin {ρ Z : List Addr} {H H0 : Hp} {h : HD} {σ : SV} {Q : VK} {lo hi : Int} (l : Rl T ρ Z h H) (nw : ∀ p, H p = none → Nw H0 p) (k : Fin T W Z (RF T Z H0) ρ H σ ((Res.of (iRange lo hi) h).bind fun c h1 => .ok c.its h1) Q) :
    RgOk lo hi ∧ ∀ q, H q = none → Q (.ref q) (upd H q (.lst (rgV lo hi))) := by
  unfold iRange at k
  split at k
  · rename_i c
    simp only [Bool.and_eq_true, decide_eq_true_eq] at c
    obtain ⟨⟨⟨⟨c1, c2⟩, c3⟩, c4⟩, c5⟩ := c
    have c5' : (hi - lo).toNat ≤ 16777216 := c5
    refine ⟨⟨by omega, by omega, by omega, by omega, by omega⟩, fun p hp => ?_⟩
    refine k ρ (upd H p (.lst (rgV lo hi))) (.ref p) (Gr.laid hp) (l.fresh hp).lose ?_
    have r := rg_rep (T := T) (ρ := ρ) (Z := Z) (H := H) (lo := lo) (hi := hi)
    exact ⟨by simpa using c5, p, rgV lo hi, rfl, (l.outZ hp).1, (l.outZ hp).2, nw p hp, upd_same, l.fresh hp, RepL.fresh hp _ _ r⟩
  · exact k.elim
/-- list(range(n)) -/
theorem xf_lrange {p1 p2 q1 q2 : Pos} (hc : X.calm = true) (hg : Gl X "list") (hm : X.mg "list" = none) (hgr : Gl X "range") (hmr : X.mg "range" = none) (ha : PE X a (rdE T W ma)) (na : starEach [a] X.env = (false, eval a X.env) :: starEach [] X.env := by rfl)
    (nb : starEach [Expr.Call (.Name "range" p1) [a] [] p2] X.env = (false, eval (.Call (.Name "range" p1) [a] [] p2) X.env) :: starEach [] X.env := by rfl) :
    PE X (.Call (.Name "list" q1) [.Call (.Name "range" p1) [a] [] p2] [] q2) (rdF T W (lRange ma)) :=
  PE.imp (pe_listRg hc hg hm (prg_1 hgr hmr ha na) nb) fun σ H Q ⟨ρ, Z, s, h, l, er, k⟩ => by
    unfold lRange iRng1 at k
    cases ea : ma s h with
    | bad => rw [ea] at k; exact ⟨ρ, Z, s, h, l, er, by rw [ea]; exact k⟩
    | exc x h1 => rw [ea] at k; exact ⟨ρ, Z, s, h, l, er, by rw [ea]; exact k⟩
    | ok d h1 =>
      rw [ea] at k
      refine ⟨ρ, Z, s, h, l, er, ?_⟩
      rw [ea]
      intro ρ1 H1 v g l1 r1
      cases d with
      | int n =>
        rw [show v = .int n from by rw [RV] at r1; rw [Rep] at r1; exact r1]
        exact ⟨n, rfl, lrg_fin l1 (fun p hp => l1.back g hp) (Fin.grow g k)⟩
      | _ => exact k.elim
end
end DM
set_option Elab.async false
set_option linter.all false
set_option maxRecDepth 100000
set_option maxHeartbeats 2000000
/-! Machine D: dict(l) of a list of pairs whose keys are tuples. -/
namespace DM
open PySem PySem.Spec PyProof.Rows L2
def pairT : D → Option (List Key × D)
  | .tup [k, v] => (tkeyOf k).map fun ks => (ks, v)
  | _ => none
def putAll (l : List (List Key × D)) : List (List Key × D) := l.foldl (fun acc p => DM.putK p.1 p.2 acc) []
def opDictT (h : HD) (x : D) : Option D := match lsts h x with
  | some l => (each pairT l).map fun prs => .fdt ((putAll prs).map (·.1)) ((putAll prs).map (·.2))
  | none => none
section
variable {X : Cx} {T : Tx} {W : WX} {ρ Z : List Addr} {H : Hp} {h : HD} {pins : List (Addr × Obj)} {s : Shared} {σ : SV}
theorem pairs_heap (I : Inv X pins σ H s) : ∀ {l : List D} {vs : List V} {prs : List (List Key × D)} {its : List Value}, RepL T ρ Z H l vs → each pairT l = some prs → Vals vs its →
    ∃ (Ts : List Addr) (xs : List (List Key × Addr × Value)) (zs : List V), its = Ts.map Value.ref ∧ xs.length = Ts.length ∧ KT H ((prs.map (·.1)).zip zs) xs ∧ RepL T ρ Z H (prs.map (·.2)) zs ∧
      ∀ (j : Nat) (x : List Key × Addr × Value), xs[j]? = some x → ∃ t, Ts[j]? = some t ∧ s.heap.IsTuple t #[.ref x.2.1, x.2.2]
  | [], vs, prs, its, r, e, q => by
    cases e
    rw [RepL.nil_iff] at r
    subst r
    cases q
    exact ⟨[], [], [], rfl, rfl, .nil, RepL.nil, fun j x e => by simp at e⟩
  | d :: l, vs, prs, its, r, e, q => by
    obtain ⟨v, vr, rfl, p, rl⟩ := RepL.cons_iff.mp r
    unfold each at e
    split at e
    · rename_i a b e1 e2
      cases e
      cases q with
      | cons q1 q2 =>
        obtain ⟨Ts, xs, zs, g1, g2, g3, g4, g5⟩ := pairs_heap I rl e2 q2
        unfold pairT at e1
        split at e1
        · rename_i k w
          obtain ⟨ks, hk, rfl⟩ := Option.map_eq_some_iff.mp e1
          rw [Rep] at p
          obtain ⟨z, t, ys, rfl, ht, ry⟩ := p
          obtain ⟨kv, yr, rfl, rk, ry⟩ := RepL.cons_iff.mp ry
          obtain ⟨wv, yr, rfl, rw', ry⟩ := RepL.cons_iff.mp ry
          rw [RepL.nil_iff] at ry
          subst ry
          obtain ⟨b, rfl, hb⟩ := tkey_rep rk hk
          obtain ⟨is2, v2, it2, _⟩ := I.tuple (show SqT X.K H t [V.ref b, wv] from SqT.of ht)
          obtain ⟨u, y, ei, ru, ry⟩ := vals2 v2
          subst ei
          cases ru
          cases q1
          refine ⟨t :: Ts, (ks, b, y) :: xs, wv :: zs, by rw [g1]; rfl, by simp [g2], .cons ⟨rfl, hb, ry⟩ g3, RepL.cons rw' g4, fun j x e => ?_⟩
          cases j with
          | zero =>
            cases e
            obtain ⟨o, ho, hc, n, hd⟩ := it2
            exact ⟨t, rfl, ⟨o, ho, hc, n, hd⟩⟩
          | succ j =>
            obtain ⟨t', h1, h2⟩ := g5 j x (by simpa using e)
            exact ⟨t', by simpa using h1, h2⟩
        · cases e1
    · cases e
theorem fold_rep : ∀ {prs : List (List Key × D)} {zs : List V} {xs : List (List Key × Addr × Value)} {acc : List (List Key × D)} {az : List V} {ax : List (List Key × Addr × Value)},
    KT H ((prs.map (·.1)).zip zs) xs → RepL T ρ Z H (prs.map (·.2)) zs → KT H ((acc.map (·.1)).zip az) ax → RepL T ρ Z H (acc.map (·.2)) az →
    ∃ ys, KT H (((prs.foldl (fun a p => DM.putK p.1 p.2 a) acc).map (·.1)).zip ys) (storedAllH ax xs) ∧ RepL T ρ Z H ((prs.foldl (fun a p => DM.putK p.1 p.2 a) acc).map (·.2)) ys
  | [], zs, xs, acc, az, ax, k, r, ka, ra => by
    have r : RepL T ρ Z H [] zs := r
    rw [RepL.nil_iff] at r
    subst r
    cases k
    exact ⟨az, ka, ra⟩
  | p :: prs, zs, xs, acc, az, ax, k, r, ka, ra => by
    have r : RepL T ρ Z H (p.2 :: prs.map (·.2)) zs := r
    obtain ⟨v, zr, rfl, rv, rr⟩ := RepL.cons_iff.mp r
    have k : KT H ((p.1, v) :: (prs.map (·.1)).zip zr) xs := k
    cases k with
    | cons k1 k2 =>
      rename_i x xr
      obtain ⟨e1, e2, e3⟩ := k1
      obtain ⟨ys, f1, f2⟩ := putK_rep (k := p.1) ra rv
      have kp := ka.put p.1 (b := x.2.1) (y := v) (u := x.2.2) e2 e3
      rw [f1] at kp
      have := fold_rep k2 rr kp f2
      rw [show storedAllH ax (x :: xr) = storedAllH (storedH ax p.1 x.2.1 x.2.2) xr from by unfold storedAllH; rw [List.foldl_cons]; have e1 : p.1 = x.1 := e1; rw [e1]]
      exact this
theorem c_dictT (hK : X.K = T.K) (hcalm : X.calm = true) (hu : X.A.units + 65 < cLine) : CallR X (.type "dict") (rC1 T opDictT) := by
  intro pins s σ H us ws Q I r ⟨u, ex, ρ, Z, h, x, d, l, ra, e2, q⟩
  subst ex
  unfold opDictT at e2
  cases em : lsts h x with
  | none => rw [em] at e2; cases e2
  | some m =>
    rw [em] at e2
    obtain ⟨prs, ep, rfl⟩ := Option.map_eq_some_iff.mp e2
    obtain ⟨hz, a, vs, rfl, hq, rl⟩ := lsts_rep l ra em
    obtain ⟨u, eu, rx⟩ := vals1 r
    subst eu
    cases rx
    obtain ⟨its, rv, pl, hsz⟩ := I.list (show SqL X.K H a vs from .inl (.inl hq))
    obtain ⟨Ts, xs, zs, g1, g2, g3, g4, g5⟩ := pairs_heap I rl ep rv
    obtain ⟨ys, f1, f2⟩ := fold_rep (acc := []) (az := []) (ax := []) g3 g4 .nil RepL.nil
    have hl : vs.length = Ts.length := by rw [rv.length, g1, List.length_map]
    obtain ⟨o, n, ho, hc, hd, hdat⟩ := pl
    have hkey : ∀ x ∈ xs, ∃ kv ∈ (prs.map (·.1)).zip zs, H x.2.1 = some (.tup (x.1.map kV)) := by
      have go : ∀ {kvs : List (List Key × V)} {xs : List (List Key × Addr × Value)}, KT H kvs xs → ∀ x ∈ xs, ∃ kv ∈ kvs, H x.2.1 = some (.tup (x.1.map kV)) := by
        intro kvs xs k
        induction k with
        | nil => intro x hx; cases hx
        | cons h1 h2 ih =>
          intro x hx
          rcases List.mem_cons.mp hx with e | hx
          · subst e; exact ⟨_, List.mem_cons_self .., by rw [← h1.1]; exact h1.2.1⟩
          · obtain ⟨kv, m, e⟩ := ih x hx
            exact ⟨kv, List.mem_cons_of_mem _ m, e⟩
      exact go g3
    refine call_dict_pairsH (knd := tupleKind (mixKind X.prog X.w)) (ps := xs) (PairArg.list a its.toArray (fun j => Ts.getD j 0) (xs.map fun x => (Value.ref x.2.1, x.2.2))) (I.ok.hd hcalm) (show X.A.in1.in1.units < cLine from by rw [Around.in1_units, Around.in1_units]; omega)
      ⟨⟨o, n, ho, hc, hd, hdat⟩, by simp [g1, g2], fun j k v e => ?_⟩ ⟨by simp, fun i key v e => ?_⟩ (fun h' hk x hx => ?_) (by simp [g2, ← hl]; exact hsz) fun h' tk hd' k => ?_
    · rw [List.getElem?_map] at e
      obtain ⟨x, ex, e⟩ := Option.map_eq_some_iff.mp e
      cases e
      obtain ⟨t, h1, h2⟩ := g5 j x ex
      refine ⟨?_, .inl ?_⟩
      · rw [g1]; simp [h1]
      · simpa [h1] using h2
    · have e : (xs.map fun x => (Value.ref x.2.1, x.2.2))[i]? = some (key, v) := e
      rw [List.getElem?_map] at e
      obtain ⟨x, ex, e⟩ := Option.map_eq_some_iff.mp e
      cases e
      exact ⟨x.1, x.2.1, ex, rfl⟩
    · obtain ⟨kv, _, hb⟩ := hkey x hx
      obtain ⟨o, items, n, k1, k2, k3, k4⟩ := key_of (P := X.prog) (w := X.w) I.hok hb
      exact ⟨o, items, n, hk _ _ (Nat.ne_of_lt (Heap.lt_size k1)) (by simp) k1, k2, k3, k4⟩
    · have nb : (s.heap.objs.size == sysModules) = false := beq_eq_false_iff_ne.mpr (Nat.ne_of_gt I.big)
      obtain ⟨o2, es, ep2, w1, w2, w3, w4, w5, w6⟩ := hd'
      have k' : ∀ b o, s.heap.get? b = some o → h'.get? b = some o := fun b o e => k b o (by simp) e
      have hH : H s.heap.objs.size = none := I.hok.fresh (Nat.le_refl _)
      have len : (((putAll prs).map (·.1)).zip ys).length ≤ sizeLine := by
        have z1 := storedAllH_length xs []
        have z2 : (((putAll prs).map (·.1)).zip ys).length = (storedAllH [] xs).length := Paired.length f1
        rw [z2]
        have z3 : vs.length ≤ sizeLine := hsz
        simp at z1
        omega
      have hne : ∀ b ys, H b = some (.tup ys) → b ≠ s.heap.objs.size := fun b ys e => ne_of_none e hH
      have kt : KT (upd H s.heap.objs.size (.dT (((putAll prs).map (·.1)).zip ys))) (((putAll prs).map (·.1)).zip ys) (storedAllH [] xs) := KT.keeps f1 fun b ys e => by rw [upd_ne (hne b ys e)]; exact e
      have I2 := I.laid (t' := tk) (o := .dT (((putAll prs).map (·.1)).zip ys)) k' (Nat.le_refl _) (show ObjOk X.prog X.w _ _ _ (.dT _) from ⟨len, nb, _, kt, o2, es, ep2, w1, w2, w3, w4, w6⟩)
      refine ⟨.ref s.heap.objs.size, _, I2, rfl, q ρ _ _ (Gr.laid hH) (l.fresh hH).lose ?_⟩
      rw [Rep]
      have hm : RepL T ρ Z (upd H s.heap.objs.size (.dT (((putAll prs).map (·.1)).zip ys))) ((putAll prs).map (·.2)) ys := RepL.mono (Gr.laid hH) _ _ f2
      exact ⟨by simp, s.heap.objs.size, ys, rfl, (l.outZ hH).1, (l.outZ hH).2, upd_same, hm⟩
end
end DM
set_option Elab.async false
set_option linter.all false
set_option maxRecDepth 100000
set_option maxHeartbeats 2000000
/-! Machine D: sorted(t) of a tuple; what is never looked at. -/
namespace PySem.W
open PySem PySem.Calls PyProof.Rows
section
variable {prog : Program} {w : World} {A : Around} {E : Value → Shared → Prop} {s : Shared} {β : Type} {bs : List β} {enc : β → PyData} {R : Value → β → Prop} {d : Addr}
theorem dm_sortedTup {Q : Value → Shared → Prop} {its : Array Value} (ht : s.heap.IsTuple d its) (hn : its.size ≤ sizeLine) (e : EachIs R its.toList bs) (er : EachIs (fun v b => ∃ as, Reads s.heap v (enc b) as) its.toList bs)
    (hal : AllAlike (bs.map enc)) (hk : Sortable (bs.map enc)) (hL : bs.length ≤ sizeLine) (hu : ∀ b, b ∈ bs → A.units + 2 + (enc b).depth < cLine)
    (h : ∀ (h1 : Heap) out h' n, (∀ b o, s.heap.get? b = some o → h1.get? b = some o) → (∀ b o, h1.get? b = some o → h'.get? b = some o) → h'.get? h1.objs.size = some (seqObj "list" (List.toArray out) n) → EachIs R out (bs.mergeSort (dataLe false enc)) → Q (.ref h1.objs.size) { s with heap := h' }) :
    wpAny (model prog w) A (call (.builtin "sorted") [.ref d]) Q E s := by
  refine Calls.call_function_entry PyProof.Rows.kind_sorted PyProof.Rows.plain_sorted PyProof.Rows.entry_sorted (PyProof.Rows.args_sorted1 _) ?_
  unfold Builtin.«sorted»
  refine wpAny_bind (m := checkCount "sorted" 1 1 _) (wpAny_pure ?_)
  obtain ⟨o, ho, hc, n0, hd⟩ := ht
  refine wpAny_bind (wpAny_collect_seq d (T := "tuple") (.inr rfl) ho hc hd (fun h1 hk1 => ?_) hn)
  have er' : EachIs (fun v b => ∃ as, Reads (h1.push (seqObj "list" its.toList.toArray 0)) v (enc b) as ∧ h1.objs.size ∉ as) its.toList bs := by
    refine er.mono fun v b ⟨as, r⟩ => ⟨as, PyProof.Rows.Reads.keeps (fun b o q => Heap.get?_push_of_some _ (hk1 b o q)) r, fun hm => ?_⟩
    obtain ⟨o, ho⟩ := dm_live _ _ _ r _ hm
    exact Nat.lt_irrefl _ (Heap.lt_size (hk1 _ _ ho))
  refine wpAny_bind (wpAny_newList ?_ (by rw [Array.length_toList]; exact hn))
  have hoL : (h1.push (seqObj "list" its.toList.toArray 0)).get? h1.objs.size = some (seqObj "list" its.toList.toArray 0) := Heap.get?_push_size _ rfl
  show wpAny _ _ _ _ _ { s with heap := h1.push (seqObj "list" its.toList.toArray 0) }
  refine wpAny_bind (wpAny_holding (list_sort_data (A := A.in1) (s := { s with heap := h1.push (seqObj "list" its.toList.toArray 0) }) hoL e er' hal hk hL hu fun out ho eo => ?_))
  obtain ⟨n, hat⟩ := PyProof.Rows.sortedHeap_at (vs := its.toList) (out := List.toArray out) hoL
  refine wpAny_pure ⟨_, rfl, h h1 out _ n hk1 (fun b o q => ?_) hat eo⟩
  have hb := Heap.lt_size q
  rw [PyProof.Rows.sortedHeap_old (Nat.ne_of_lt hb) (by rw [size_push']; exact Nat.lt_succ_of_lt hb)]
  exact Heap.get?_push_of_some _ q
end
end PySem.W
namespace DM
open PySem PySem.Spec PyProof.Rows L2
/-- sorted(c), c a tuple too -/
def opSrt (h : HD) (c : D) : Option D := match c with
  | .tup l => if sortOk l then some (.fl (sortD l)) else none
  | c => opSorted h c
/-- an expression that is never come to -/
def eBad : EM := fun _ _ => .bad
section
variable {X : Cx} {T : Tx} {W : WX} {ρ Z : List Addr} {H : Hp} {h : HD}
theorem x_bad {e : Expr} : PE X e (rdE T W eBad) := ⟨fun _ _ _ _ _ _ ⟨_, _, _, _, _, _, k⟩ => k.elim⟩
theorem c_srt (hc : X.calm = true) (hu : X.A.units + 200 < cLine) : CallR X (.builtin "sorted") (rC1 T opSrt) := by
  intro pins s σ H xs us Q I r ⟨u, ex, ρ, Z, h, c, d, lr, rc, e, q⟩
  cases c with
  | tup l =>
    subst ex
    have e : (if sortOk l then some (D.fl (sortD l)) else none) = some d := e
    split at e
    · rename_i ok
      cases e
      obtain ⟨u1, eu, rx⟩ := vals1 r
      subst eu
      rw [Rep] at rc
      obtain ⟨hz, a, vs, rfl, hq, rl⟩ := rc
      cases rx
      obtain ⟨its, rv, ht, hsz⟩ := I.tuple (show SqT X.K H a vs from SqT.of hq)
      obtain ⟨f1, f2, f3, f4⟩ := sort_facts ok
      have mz : ∀ p ∈ l.zip vs, p.1 ∈ l := fun p m => (List.of_mem_zip m).1
      obtain ⟨o, ho, hcl, n, hd⟩ := ht
      refine PySem.W.dm_sortedTup (bs := l.zip vs) (enc := fun p => encD p.1) (R := fun u p => Rep T ρ Z H p.1 p.2 ∧ RelV p.2 u) ⟨o, ho, hcl, n, hd⟩ (by rw [List.size_toArray, ← rv.length]; exact hsz) (by simpa using each_pair rl rv fun d v u _ h1 h2 => ⟨h1, h2⟩) (by
        simpa using each_pair rl rv fun d v u m h1 h2 => (by
          obtain ⟨_, p, e0, e1⟩ := f3 d m
          show ∃ as, Reads s.heap u (encD d) as
          rw [e1]
          exact Dp.reads I p v u (toP_dp (X := X) d p v e0 h1) h2)) ?_ ?_ ?_ ?_ fun hp1 out h' n2 hk1 hk hat eo => ?_
      · intro d hd d' hd'
        obtain ⟨p, hp, rfl⟩ := List.mem_map.mp hd
        obtain ⟨p', hp', rfl⟩ := List.mem_map.mp hd'
        exact f1 _ (mz p hp) _ (mz p' hp')
      · rcases f2 with f2 | f2
        · refine .inl fun d hd => ?_
          obtain ⟨p, hp, rfl⟩ := List.mem_map.mp hd
          exact f2 _ (mz p hp)
        · refine .inr fun d hd => ?_
          obtain ⟨p, hp, rfl⟩ := List.mem_map.mp hd
          exact f2 _ (mz p hp)
      · rw [List.length_zip, ← LIM_eq]
        omega
      · intro b hb
        have := SeqAt.depth_of_shaped (f3 _ (mz b hb)).1
        show X.A.units + 2 + (encD b.1).depth < cLine
        omega
      · obtain ⟨h1, h2⟩ := pair_rep (fun u p z => z) eo
        have e : ((l.zip vs).mergeSort (PySem.W.dataLe false fun p => encD p.1)).map (·.1) = sortD l := by
          have := merge_fst (le := fun a b => PySem.W.dataLe false encD a b) (l.zip vs)
          rw [zip_fst l vs rl.length] at this
          exact this
        rw [e] at h1
        have k3 : (((l.zip vs).mergeSort (PySem.W.dataLe false fun p => encD p.1)).map (·.2)).length ≤ sizeLine := by
          rw [List.length_map, List.length_mergeSort, List.length_zip, ← LIM_eq]
          omega
        have I1 : Inv X pins σ H { s with heap := hp1 } := I.kept (t' := s.toks) hk1
        have hf : H hp1.objs.size = none := I1.hok.fresh (Nat.le_refl _)
        obtain ⟨g, l', r'⟩ := new_fl lr hf h1 (by unfold sortD; rw [List.length_mergeSort]; exact f4)
        exact ⟨.ref hp1.objs.size, _, I1.laid (t' := s.toks) hk (Nat.le_refl _) (show ObjOk X.prog X.w _ _ _ (.lst _) from ⟨k3, out, n2, h2, hat⟩), rfl, q ρ _ _ g l' r'⟩
    · cases e
  | _ => exact c_sortedF hc hu pins s σ H xs us Q I r ⟨u, ex, ρ, Z, h, _, d, lr, rc, e, q⟩
end
end DM
set_option Elab.async false
set_option linter.all false
set_option maxRecDepth 100000
set_option maxHeartbeats 2000000
/-! Machine D: a list extended by a tuple. -/
namespace DM
open PySem PySem.Spec PyProof.Rows L2
def mExtU (h : HD) (x y : D) : Res D := match boxL h x, y with
  | some (n, l), .tup m => if l.length + m.length ≤ LIM then .ok .non (h.set n (.lst (l ++ m))) else .bad
  | _, _ => .bad

theorem list_extend_tupG (l : Addr) (items : Array Value) (n : Nat) (b : Addr) (items2 : Array Value) (n2 : Nat) (od : Option Addr) (osl : Array (Option Value)) (hs0 : ¬(!items.isEmpty && Builtin.List.listTooLong (items.size + items2.size)) = true) (hs1 : items.size ≤ sizeLine) (hs2 : items.size + items2.size ≤ sizeLine + 1) :
    Meets (Builtin.«list.extend» ⟨[.ref l, .ref b], []⟩) (fun _ R s => s.heap.get? l = some { cls := .type "list", dict := none, data := .seq items n, slots := #[] } ∧ s.heap.get? b = some { cls := .type "tuple", dict := od, data := .seq items2 n2, slots := osl } ∧ R (.ok (.ret Value.none)) { s with heap := s.heap.update l (Obj.mapSeq fun x => x ++ items2), toks := s.toks }) :=
  .of_wp fun prog w A R s h => by
    obtain ⟨hp, g, d, tk, os⟩ := s; obtain ⟨hl, hb, h⟩ := h; have f1 := AutoSeq1.idx_int; have f2 := AutoSeq1.sub_tuple_tuple; have f3 := AutoSeq1.sub_list_list; have f4 := AutoSeq1.sub_tuple_list; have f5 := AutoSeq1.sub_list_tuple;
    have hz' : (items ++ items2).size ≤ sizeLine + 1 := by rw [Array.size_append]; exact hs2
    wp_walk using (wpAny_updateSeq hl rfl (hz := hs1) (_hz' := hz')), AutoSeq1.wpAny_loadPart' hl, AutoSeq1.wpAny_loadPart' hb; exact ⟨_, rfl, h⟩
section
variable {X : Cx} {T : Tx} {W : WX} {ρ Z : List Addr}
def rExtendT (K : PySem.W.Frag) : V → List V → Hp → VK → Prop := fun x vs H Q => ∃ l b xs zs, x = .ref l ∧ vs = [.ref b] ∧ H l = some (.lst xs) ∧ SqT K H b zs ∧ xs.length + zs.length ≤ sizeLine ∧ Q .non (upd H l (.lst (xs ++ zs)))
theorem mt_extendT : MtR X "list.extend" (rExtendT X.K) := by
  intro pins s σ H x vs v us Q I rx rv h
  obtain ⟨l, b, xs, zs, rfl, rfl, hH, hB, hz, q⟩ := h
  cases rx
  obtain ⟨u, rfl, ru⟩ := rv.one
  cases ru
  obtain ⟨z, its, n, r, hl, e⟩ := I.lstM hH
  obtain ⟨its2, r2, ⟨⟨oc, od, oda, osl⟩, e2, hc2, n2, hd2⟩, hl2⟩ := I.tuple hB
  dsimp only at hc2 hd2
  subst hc2 hd2
  have l2 := r2.length
  have hsz : its.toArray.size + its2.toArray.size ≤ sizeLine := by rw [List.size_toArray, List.size_toArray]; omega
  have hlong : ¬ (!its.toArray.isEmpty && Builtin.List.listTooLong (its.toArray.size + its2.toArray.size)) = true := by
    have : Builtin.List.listTooLong (its.toArray.size + its2.toArray.size) = false := by
      unfold Builtin.List.listTooLong
      exact decide_eq_false (by have := sizeLine_eq; omega)
    rw [this, Bool.and_false]
    exact Bool.false_ne_true
  refine call_meets F.slot_list_extend ⟨_, e, rfl⟩ F.entry_list_extend (F.args_list_extend_2 _ _)
    (list_extend_tupG l its.toArray n b its2.toArray n2 od osl hlong (by rw [List.size_toArray]; omega) (by omega)) ⟨e, e2, ?_⟩
  refine ⟨.non, _, I.lset (its' := its ++ its2) hH e (by simp) (r.append r2) ?_, rfl, q⟩
  rw [List.length_append]
  omega
theorem mb_extU : MtR X "list.extend" (rM1 T mExtU) := by
  intro pins s σ H x xs v us Q I rx rxs ⟨ρ, Z, h, c, d, y, ex, l, rc, rd, k⟩
  subst ex
  unfold mExtU at k
  cases e : boxL h c with
  | none => rw [e] at k; exact k.elim
  | some q =>
    obtain ⟨n, m⟩ := q
    rw [e] at k
    cases d with
    | tup m2 =>
      simp only at k
      obtain ⟨rfl, p, ys, rfl, hp, hq, rl, hz⟩ := boxL_rep l rc e
      have rd' := rd
      rw [Rep] at rd'
      obtain ⟨hz2, p2, zs, rfl, hq2, rl2⟩ := rd'
      by_cases hm : m.length + m2.length ≤ LIM
      · rw [if_pos hm] at k
        obtain ⟨l2, g⟩ := box_write l hp hq (rl.append rl2) (by simp; omega)
        exact mt_extendT pins s σ H _ _ v us Q I rx rxs ⟨p, p2, ys, zs, rfl, rfl, hq, SqT.of hq2, by rw [← rl.length, ← rl2.length, ← LIM_eq]; exact hm, k ρ _ .non g l2 (by show Rep T ρ Z _ .non .non; rw [Rep])⟩
      · rw [if_neg hm] at k; exact k.elim
    | _ => exact k.elim
theorem calm_extU : calmF mExtU := fun h c d x h' e => by
  unfold mExtU at e
  split at e
  · split at e <;> cases e
  · cases e
end
end DM
set_option Elab.async false
set_option linter.all false
set_option maxRecDepth 100000
set_option maxHeartbeats 2000000
/-! Machine D: tuple(range(n)); a def that makes lambdas, its boxes let go. -/
namespace DM
open PySem PySem.Spec PyProof.Rows L2
def eTupRg (a : EM) : EM := fun s h => (iRng1 a s h).bind fun c h1 => .ok (.tup c.its) h1
section
variable {X : Cx} {T : Tx} {W : WX} {ma : EM} {a : Expr}
theorem trg_fin {ρ Z : List Addr} {H : Hp} {h : HD} {σ : SV} {Q : VK} {lo hi : Int} (l : Rl T ρ Z h H) (k : Fin T W Z (RV T Z) ρ H σ ((Res.of (iRange lo hi) h).bind fun c h1 => .ok (.tup c.its) h1) Q) :
    RgOk lo hi ∧ ∀ q, H q = none → Q (.ref q) (upd H q (.tup (rgV lo hi))) := by
  unfold iRange at k
  split at k
  · rename_i c
    simp only [Bool.and_eq_true, decide_eq_true_eq] at c
    obtain ⟨⟨⟨⟨c1, c2⟩, c3⟩, c4⟩, c5⟩ := c
    have c5' : (hi - lo).toNat ≤ 16777216 := c5
    refine ⟨⟨by omega, by omega, by omega, by omega, by omega⟩, fun p hp => ?_⟩
    have r := rg_rep (T := T) (ρ := ρ) (Z := Z) (H := H) (lo := lo) (hi := hi)
    obtain ⟨g, l', r'⟩ := new_tup l hp r (by simpa using c5)
    exact k ρ _ _ g l' r'
  · exact k.elim
/-- tuple(range(n)) -/
theorem x_tupRg {p1 p2 q1 q2 : Pos} (hc : X.calm = true) (hg : Gl X "tuple") (hm : X.mg "tuple" = none) (hgr : Gl X "range") (hmr : X.mg "range" = none) (ha : PE X a (rdE T W ma)) (na : starEach [a] X.env = (false, eval a X.env) :: starEach [] X.env := by rfl)
    (nb : starEach [Expr.Call (.Name "range" p1) [a] [] p2] X.env = (false, eval (.Call (.Name "range" p1) [a] [] p2) X.env) :: starEach [] X.env := by rfl) :
    PE X (.Call (.Name "tuple" q1) [.Call (.Name "range" p1) [a] [] p2] [] q2) (rdE T W (eTupRg ma)) :=
  PE.imp (pe_tupRg hc hg hm (prg_1 hgr hmr ha na) nb) fun σ H Q ⟨ρ, Z, s, h, l, er, k⟩ => by
    unfold eTupRg iRng1 at k
    cases ea : ma s h with
    | bad => rw [ea] at k; exact ⟨ρ, Z, s, h, l, er, by rw [ea]; exact k⟩
    | exc x h1 => rw [ea] at k; exact ⟨ρ, Z, s, h, l, er, by rw [ea]; exact k⟩
    | ok d h1 =>
      rw [ea] at k
      refine ⟨ρ, Z, s, h, l, er, ?_⟩
      rw [ea]
      intro ρ1 H1 v g l1 r1
      cases d with
      | int n =>
        rw [show v = .int n from by rw [RV] at r1; rw [Rep] at r1; exact r1]
        exact ⟨n, rfl, trg_fin l1 (Fin.grow g k)⟩
      | _ => exact k.elim
end
end DM
set_option Elab.async false
set_option linter.all false
set_option maxRecDepth 100000
set_option maxHeartbeats 2000000
/-! Machine D: list(c), a new box. -/
namespace DM
open PySem PySem.Spec PyProof.Rows L2
section
variable {X : Cx} {T : Tx} {W : WX} {ma : EM} {a : Expr}
def rLstF (T : Tx) : List V → Hp → VK → Prop := fun us H Q => ∃ u, us = [u] ∧ ∃ ρ Z h c ds, Rl T ρ Z h H ∧ Rep T ρ Z H c u ∧ items h c = some ds ∧ ∀ p vs, H p = none → ds.length ≤ LIM → RepL T ρ Z H ds vs → Q (.ref p) (upd H p (.lst vs))
theorem c_listF (hK : X.K = T.K) : CallR X (.type "list") (rLstF T) := by
  intro pins s σ H xs us Q I r ⟨u, ex, ρ, Z, h, c, ds, l, rc, e, q⟩
  obtain ⟨hz, p, vs, eu, qs, rl⟩ := items_rep l rc e
  exact call_list_of pins s σ H xs us Q I r ⟨p, vs, by rw [ex, eu], by rw [hK]; exact qs, fun a ha => q a vs ha hz rl⟩
/-- list(c) -/
theorem xf_list {p pos : Pos} (hK : X.K = T.K) (hg : Gl X "list") (hm : X.mg "list" = none) (ha : PE X a (rdE T W ma))
    (he : starEach [a] X.env = (false, eval a X.env) :: starEach [] X.env := by rfl) (hpl : (backTo pos (starEach [] X.env)).any (·.1) = false := by rfl) : PE X (.Call (.Name "list" p) [a] [] pos) (rdF T W (lList ma)) :=
  PE.imp (pe_callTy (c_listF hK) hg hm boot_list (pa_cons ha pa_nil he) (by decide) (by decide) he hpl) fun σ H Q ⟨ρ, Z, s, h, l, er, k⟩ => by
    refine ⟨ρ, Z, s, h, l, er, ?_⟩
    unfold lList at k
    cases ea : ma s h with
    | bad => rw [ea] at k; exact k.elim
    | exc x h1 => rw [ea] at k; exact k
    | ok d h1 =>
      rw [ea] at k
      intro ρ1 H1 v g l1 r1
      have k1 : Fin T W Z (RF T Z H) ρ H σ (Res.of (items h1 d) h1) Q := k
      cases ei : items h1 d with
      | none => rw [ei] at k1; exact k1.elim
      | some ds =>
        rw [ei] at k1
        refine ⟨v, rfl, ρ1, Z, h1, d, ds, l1, r1, ei, fun p vs hp hz rl => ?_⟩
        refine k1 ρ1 _ (.ref p) (g.trans (Gr.laid hp)) (l1.fresh hp).lose ?_
        exact ⟨hz, p, vs, rfl, (l1.outZ hp).1, (l1.outZ hp).2, l1.back g hp, upd_same, l1.fresh hp, RepL.fresh hp _ _ rl⟩
end
end DM
set_option Elab.async false
set_option linter.all false
set_option maxRecDepth 100000
set_option maxHeartbeats 4000000
/-! What gen.py has printed: the mirrors of the defs, their walks. -/
namespace K40
open PySem PySem.Spec PyProof.Rows L2 DM
def top (i : Nat) : Stmt := PySem.Challenge.pw_earthtold_k40_whole_needed_and_plans_jud.main.body.getD i (.Pass ⟨0, 0, 0, 0⟩)
def inClass (s : Stmt) (j : Nat) : Stmt := match s with
  | .ClassDef _ _ _ b _ _ _ _ _ _ _ => b.getD j (.Pass ⟨0, 0, 0, 0⟩)
  | _ => .Pass ⟨0, 0, 0, 0⟩
abbrev CS : List Nat := [0]
abbrev FS : Nat → List Str := fun c => match c with
  | 0 => ["count", "overs", "dates", "kinds", "looked"]
  | _ => []
abbrev ES : List Nat := [1, 2, 3]
abbrev XF : Nat → Str := fun c => match c with
  | 1 => "part"
  | _ => ""
def SB : SubX := fun e c => match e, c with
  | 1, 0 => some true
  | 1, 1 => some true
  | 1, 2 => some false
  | 1, 3 => some false
  | 1, 4 => some false
  | 2, 0 => some true
  | 2, 1 => some false
  | 2, 2 => some true
  | 2, 3 => some false
  | 2, 4 => some false
  | 3, 0 => some true
  | 3, 1 => some false
  | 3, 2 => some false
  | 3, 3 => some true
  | 3, 4 => some false
  | 1, 1000 => some true
  | 2, 1000 => some true
  | 3, 1000 => some true
  | _, _ => none
def S_is_integer : Stmt := top 1
def S_is_within : Stmt := top 2
def S_is_tuple : Stmt := top 3
def S_is_lot : Stmt := top 4
def S_check_set : Stmt := top 13
def S_check_crews : Stmt := top 14
def S_needed_by : Stmt := top 15
def S_needed : Stmt := top 16
def S_are_days : Stmt := top 17
def S_is_plan : Stmt := top 18
def S_is_pair : Stmt := top 23
def S_are_overs : Stmt := top 24
def S_is_bound : Stmt := top 25
def S_is_date : Stmt := top 26
def S_is_kind : Stmt := top 27
def S_Book_UinitU : Stmt := inClass (top 28) 0
def S_Book_UeqU : Stmt := inClass (top 28) 1
def S_Book_parts : Stmt := inClass (top 28) 2
def S_u_law_hand : Stmt := top 30
def S_u_law_draw : Stmt := top 31
def S_u_law_any : Stmt := top 32
def S_u_law_is_int : Stmt := top 33
def S_u_law_overs : Stmt := top 34
def S_u_law_mixed : Stmt := top 35
def S_u_law_bare : Stmt := top 36
def S_u_law_is_lot : Stmt := top 37
def S_u_law_needed : Stmt := top 38
def S_u_law_is_plan : Stmt := top 39
def S_u_law_odd_set : Stmt := top 40
def S_u_law_word : Stmt := top 41
def S_u_law_own_plan : Stmt := top 42
def S_u_law_bent : Stmt := top 43
def S_u_law_is_right : Stmt := top 44
def S_u_law_known_right : Stmt := top 45
def S_law : Stmt := top 46
abbrev QL_0 : Str := (envOfC "_law_is_right" (defScope S_u_law_is_right) 0 0 .none).qual ++ "<lambda>"
abbrev TT (K : PySem.W.Frag) (ca xa ta : Nat → Addr) : Tx := { K := K, ca := ca, fs := FS, xa := xa, xf := XF, cur := none, tabs := [(ta 0, QL_0)] }
theorem tm_0 {K : PySem.W.Frag} {ca xa ta : Nat → Addr} : (ta 0, QL_0) ∈ (TT K ca xa ta).tabs := by simp only [List.mem_cons, true_or, or_true]
abbrev N_is_integer : List Str := ["thing"]
abbrev N_is_within : List Str := ["thing", "low", "high"]
abbrev N_is_tuple : List Str := ["thing", "least", "most"]
abbrev N_is_lot : List Str := ["thing", "many", "one", "other"]
abbrev N_check_set : List Str := ["book", "wanted"]
abbrev N_check_crews : List Str := ["crews"]
abbrev N_needed_by : List Str := ["book", "wanted", "found", "place", "a", "b"]
abbrev N_needed : List Str := ["book", "wanted"]
abbrev N_are_days : List Str := ["book", "crews", "thing", "day", "every"]
abbrev N_is_plan : List Str := ["book", "crews", "wanted", "thing", "day_of", "number", "day", "layer", "a", "b"]
abbrev N_is_pair : List Str := ["count", "thing", "one"]
abbrev N_are_overs : List Str := ["count", "thing", "pair", "one", "other"]
abbrev N_is_bound : List Str := ["thing"]
abbrev N_is_date : List Str := ["thing", "one"]
abbrev N_is_kind : List Str := ["count", "thing"]
abbrev N_Book_UinitU : List Str := ["self", "count", "overs", "dates", "kinds", "date", "kind"]
abbrev N_Book_UeqU : List Str := ["self", "other"]
abbrev N_Book_parts : List Str := ["self"]
abbrev N_u_law_hand : List Str := ["script", "cells", "cell"]
abbrev N_u_law_draw : List Str := ["hand", "below", "cell", "digit", "number"]
abbrev N_u_law_any : List Str := ["hand", "some"]
abbrev N_u_law_is_int : List Str := ["thing"]
abbrev N_u_law_overs : List Str := ["hand", "count", "hidden", "most", "found", "lap", "a", "b", "keeps", "pair"]
abbrev N_u_law_mixed : List Str := ["hand", "things", "left", "found"]
abbrev N_u_law_bare : List Str := ["count", "overs"]
abbrev N_u_law_is_lot : List Str := ["thing", "count", "one", "other"]
abbrev N_u_law_needed : List Str := ["overs", "wanted", "found", "at", "above", "a", "b", "one"]
abbrev N_u_law_is_plan : List Str := ["overs", "count", "crews", "wanted", "thing", "day", "dug", "layer", "a", "b"]
abbrev N_u_law_odd_set : List Str := ["hand", "count", "wanted", "odd", "some"]
abbrev N_u_law_word : List Str := ["call", "word", "error", "flags"]
abbrev N_u_law_own_plan : List Str := ["hand", "overs", "crews", "wanted", "dug", "days", "ready", "size", "day", "left", "layer", "a", "b"]
abbrev N_u_law_bent : List Str := ["hand", "count", "plan", "kind", "at", "layer", "some", "day", "days", "to", "rest", "moved", "each", "one"]
abbrev N_u_law_is_right : List Str := ["hand", "count", "overs", "wanted", "need", "kinds", "other", "got", "things", "thing", "size", "flag", "words", "bad", "book", "crews", "odd", "own", "one", "lap"]
abbrev N_u_law_known_right : List Str := ["book", "rows", "crews", "wanted", "thing", "due", "row"]
abbrev N_law : List Str := ["script", "hand", "lap", "count", "hidden"]
abbrev TS : List Ty := [(.cls 0), .bool, .int, .tuple]
structure Env (P : Program) (K : PySem.W.Frag) (mg : Str → Option Value) (base : Heap) (a : Nat → Addr) (fd : Nat → FuncData) (ca xa ta co : Nat → Addr) : Prop where
  f_is_integer : Fun K "is_integer" "is_integer" S_is_integer (a 0) (fd 0)
  b_is_integer : Binds K (fd 0) ["thing"] []
  g_is_integer : mg "is_integer" = some (.ref (a 0))
  k_is_integer : PySem.W.keepIn K (.ref (a 0)) = true
  f_is_within : Fun K "is_within" "is_within" S_is_within (a 1) (fd 1)
  b_is_within : Binds K (fd 1) ["thing", "low", "high"] []
  g_is_within : mg "is_within" = some (.ref (a 1))
  k_is_within : PySem.W.keepIn K (.ref (a 1)) = true
  f_is_tuple : Fun K "is_tuple" "is_tuple" S_is_tuple (a 2) (fd 2)
  b_is_tuple : Binds K (fd 2) ["thing", "least", "most"] []
  g_is_tuple : mg "is_tuple" = some (.ref (a 2))
  k_is_tuple : PySem.W.keepIn K (.ref (a 2)) = true
  f_is_lot : Fun K "is_lot" "is_lot" S_is_lot (a 3) (fd 3)
  b_is_lot : Binds K (fd 3) ["thing", "many"] []
  g_is_lot : mg "is_lot" = some (.ref (a 3))
  k_is_lot : PySem.W.keepIn K (.ref (a 3)) = true
  f_check_set : Fun K "check_set" "check_set" S_check_set (a 4) (fd 4)
  b_check_set : Binds K (fd 4) ["book", "wanted"] []
  g_check_set : mg "check_set" = some (.ref (a 4))
  k_check_set : PySem.W.keepIn K (.ref (a 4)) = true
  f_check_crews : Fun K "check_crews" "check_crews" S_check_crews (a 5) (fd 5)
  b_check_crews : Binds K (fd 5) ["crews"] []
  g_check_crews : mg "check_crews" = some (.ref (a 5))
  k_check_crews : PySem.W.keepIn K (.ref (a 5)) = true
  f_needed_by : Fun K "needed_by" "needed_by" S_needed_by (a 6) (fd 6)
  b_needed_by : Binds K (fd 6) ["book", "wanted"] []
  g_needed_by : mg "needed_by" = some (.ref (a 6))
  k_needed_by : PySem.W.keepIn K (.ref (a 6)) = true
  f_needed : Fun K "needed" "needed" S_needed (a 7) (fd 7)
  b_needed : Binds K (fd 7) ["book", "wanted"] []
  g_needed : mg "needed" = some (.ref (a 7))
  k_needed : PySem.W.keepIn K (.ref (a 7)) = true
  f_are_days : Fun K "are_days" "are_days" S_are_days (a 8) (fd 8)
  b_are_days : Binds K (fd 8) ["book", "crews", "thing"] []
  g_are_days : mg "are_days" = some (.ref (a 8))
  k_are_days : PySem.W.keepIn K (.ref (a 8)) = true
  f_is_plan : Fun K "is_plan" "is_plan" S_is_plan (a 9) (fd 9)
  b_is_plan : Binds K (fd 9) ["book", "crews", "wanted", "thing"] []
  g_is_plan : mg "is_plan" = some (.ref (a 9))
  k_is_plan : PySem.W.keepIn K (.ref (a 9)) = true
  f_is_pair : Fun K "is_pair" "is_pair" S_is_pair (a 10) (fd 10)
  b_is_pair : Binds K (fd 10) ["count", "thing"] []
  g_is_pair : mg "is_pair" = some (.ref (a 10))
  k_is_pair : PySem.W.keepIn K (.ref (a 10)) = true
  f_are_overs : Fun K "are_overs" "are_overs" S_are_overs (a 11) (fd 11)
  b_are_overs : Binds K (fd 11) ["count", "thing"] []
  g_are_overs : mg "are_overs" = some (.ref (a 11))
  k_are_overs : PySem.W.keepIn K (.ref (a 11)) = true
  f_is_bound : Fun K "is_bound" "is_bound" S_is_bound (a 12) (fd 12)
  b_is_bound : Binds K (fd 12) ["thing"] []
  g_is_bound : mg "is_bound" = some (.ref (a 12))
  k_is_bound : PySem.W.keepIn K (.ref (a 12)) = true
  f_is_date : Fun K "is_date" "is_date" S_is_date (a 13) (fd 13)
  b_is_date : Binds K (fd 13) ["thing"] []
  g_is_date : mg "is_date" = some (.ref (a 13))
  k_is_date : PySem.W.keepIn K (.ref (a 13)) = true
  f_is_kind : Fun K "is_kind" "is_kind" S_is_kind (a 14) (fd 14)
  b_is_kind : Binds K (fd 14) ["count", "thing"] []
  g_is_kind : mg "is_kind" = some (.ref (a 14))
  k_is_kind : PySem.W.keepIn K (.ref (a 14)) = true
  f_Book_UinitU : Fun K "__init__" "Book.__init__" S_Book_UinitU (a 15) (fd 15)
  b_Book_UinitU : Binds K (fd 15) ["self", "count", "overs", "dates", "kinds"] []
  f_Book_UeqU : Fun K "__eq__" "Book.__eq__" S_Book_UeqU (a 16) (fd 16)
  b_Book_UeqU : Binds K (fd 16) ["self", "other"] []
  eq_Book : EqK (TT K ca xa ta) 0 (a 16) CS
  f_Book_parts : Fun K "parts" "Book.parts" S_Book_parts (a 17) (fd 17)
  b_Book_parts : Binds K (fd 17) ["self"] []
  m_Book_parts : MethK (TT K ca xa ta) 0 "parts" (a 17)
  f_u_law_hand : Fun K "_law_hand" "_law_hand" S_u_law_hand (a 18) (fd 18)
  b_u_law_hand : Binds K (fd 18) ["script"] []
  g_u_law_hand : mg "_law_hand" = some (.ref (a 18))
  k_u_law_hand : PySem.W.keepIn K (.ref (a 18)) = true
  f_u_law_draw : Fun K "_law_draw" "_law_draw" S_u_law_draw (a 19) (fd 19)
  b_u_law_draw : Binds K (fd 19) ["hand", "below"] []
  g_u_law_draw : mg "_law_draw" = some (.ref (a 19))
  k_u_law_draw : PySem.W.keepIn K (.ref (a 19)) = true
  f_u_law_any : Fun K "_law_any" "_law_any" S_u_law_any (a 20) (fd 20)
  b_u_law_any : Binds K (fd 20) ["hand", "some"] []
  g_u_law_any : mg "_law_any" = some (.ref (a 20))
  k_u_law_any : PySem.W.keepIn K (.ref (a 20)) = true
  f_u_law_is_int : Fun K "_law_is_int" "_law_is_int" S_u_law_is_int (a 21) (fd 21)
  b_u_law_is_int : Binds K (fd 21) ["thing"] []
  g_u_law_is_int : mg "_law_is_int" = some (.ref (a 21))
  k_u_law_is_int : PySem.W.keepIn K (.ref (a 21)) = true
  f_u_law_overs : Fun K "_law_overs" "_law_overs" S_u_law_overs (a 22) (fd 22)
  b_u_law_overs : Binds K (fd 22) ["hand", "count", "hidden", "most"] []
  g_u_law_overs : mg "_law_overs" = some (.ref (a 22))
  k_u_law_overs : PySem.W.keepIn K (.ref (a 22)) = true
  f_u_law_mixed : Fun K "_law_mixed" "_law_mixed" S_u_law_mixed (a 23) (fd 23)
  b_u_law_mixed : Binds K (fd 23) ["hand", "things"] []
  g_u_law_mixed : mg "_law_mixed" = some (.ref (a 23))
  k_u_law_mixed : PySem.W.keepIn K (.ref (a 23)) = true
  f_u_law_bare : Fun K "_law_bare" "_law_bare" S_u_law_bare (a 24) (fd 24)
  b_u_law_bare : Binds K (fd 24) ["count", "overs"] []
  g_u_law_bare : mg "_law_bare" = some (.ref (a 24))
  k_u_law_bare : PySem.W.keepIn K (.ref (a 24)) = true
  f_u_law_is_lot : Fun K "_law_is_lot" "_law_is_lot" S_u_law_is_lot (a 25) (fd 25)
  b_u_law_is_lot : Binds K (fd 25) ["thing", "count"] []
  g_u_law_is_lot : mg "_law_is_lot" = some (.ref (a 25))
  k_u_law_is_lot : PySem.W.keepIn K (.ref (a 25)) = true
  f_u_law_needed : Fun K "_law_needed" "_law_needed" S_u_law_needed (a 26) (fd 26)
  b_u_law_needed : Binds K (fd 26) ["overs", "wanted"] []
  g_u_law_needed : mg "_law_needed" = some (.ref (a 26))
  k_u_law_needed : PySem.W.keepIn K (.ref (a 26)) = true
  f_u_law_is_plan : Fun K "_law_is_plan" "_law_is_plan" S_u_law_is_plan (a 27) (fd 27)
  b_u_law_is_plan : Binds K (fd 27) ["overs", "count", "crews", "wanted", "thing"] []
  g_u_law_is_plan : mg "_law_is_plan" = some (.ref (a 27))
  k_u_law_is_plan : PySem.W.keepIn K (.ref (a 27)) = true
  f_u_law_odd_set : Fun K "_law_odd_set" "_law_odd_set" S_u_law_odd_set (a 28) (fd 28)
  b_u_law_odd_set : Binds K (fd 28) ["hand", "count", "wanted"] []
  g_u_law_odd_set : mg "_law_odd_set" = some (.ref (a 28))
  k_u_law_odd_set : PySem.W.keepIn K (.ref (a 28)) = true
  f_u_law_word : Fun K "_law_word" "_law_word" S_u_law_word (a 29) (fd 29)
  b_u_law_word : Binds K (fd 29) ["call"] []
  g_u_law_word : mg "_law_word" = some (.ref (a 29))
  k_u_law_word : PySem.W.keepIn K (.ref (a 29)) = true
  f_u_law_own_plan : Fun K "_law_own_plan" "_law_own_plan" S_u_law_own_plan (a 30) (fd 30)
  b_u_law_own_plan : Binds K (fd 30) ["hand", "overs", "crews", "wanted"] []
  g_u_law_own_plan : mg "_law_own_plan" = some (.ref (a 30))
  k_u_law_own_plan : PySem.W.keepIn K (.ref (a 30)) = true
  f_u_law_bent : Fun K "_law_bent" "_law_bent" S_u_law_bent (a 31) (fd 31)
  b_u_law_bent : Binds K (fd 31) ["hand", "count", "plan"] []
  g_u_law_bent : mg "_law_bent" = some (.ref (a 31))
  k_u_law_bent : PySem.W.keepIn K (.ref (a 31)) = true
  f_u_law_is_right : Fun K "_law_is_right" "_law_is_right" S_u_law_is_right (a 32) (fd 32)
  b_u_law_is_right : Binds K (fd 32) ["hand", "count", "overs"] []
  g_u_law_is_right : mg "_law_is_right" = some (.ref (a 32))
  k_u_law_is_right : PySem.W.keepIn K (.ref (a 32)) = true
  f_u_law_known_right : Fun K "_law_known_right" "_law_known_right" S_u_law_known_right (a 33) (fd 33)
  b_u_law_known_right : Binds K (fd 33) [] []
  g_u_law_known_right : mg "_law_known_right" = some (.ref (a 33))
  k_u_law_known_right : PySem.W.keepIn K (.ref (a 33)) = true
  f_law : Fun K "law" "law" S_law (a 34) (fd 34)
  b_law : Binds K (fd 34) ["script"] []
  g_law : mg "law" = some (.ref (a 34))
  k_law : PySem.W.keepIn K (.ref (a 34)) = true
  l_u_law_is_right : ∃ (oc : Value) (od : Option Addr) (kV doc pm : Value) (an : Option Addr) (ct : Value) (osl : Array (Option Value)), fd 32 = PySem.W.fnOf "_law_is_right" "_law_is_right" (defArgs S_u_law_is_right) (defBody S_u_law_is_right) (defScope S_u_law_is_right) .none kV doc pm an (.ref (co 0)) ct ∧ K.lookup (a 32) = some ⟨oc, od, .func (fd 32), osl⟩ ∧ PySem.W.codeIn K (.ref (co 0)) "_law_is_right" = true
  tb_0 : LamX.TabB base mg (co 0) (ta 0)
  tu_0 : ∀ p ∈ (TT K ca xa ta).tabs, p.1 = ta 0 → p.2 = QL_0
  n_ValueError : mg "ValueError" = none
  n_abs : mg "abs" = none
  n_all : mg "all" = none
  n_any : mg "any" = none
  n_bool : mg "bool" = none
  n_dict : mg "dict" = none
  n_enumerate : mg "enumerate" = none
  n_int : mg "int" = none
  n_isinstance : mg "isinstance" = none
  n_len : mg "len" = none
  n_list : mg "list" = none
  n_max : mg "max" = none
  n_min : mg "min" = none
  n_range : mg "range" = none
  n_set : mg "set" = none
  n_sorted : mg "sorted" = none
  n_super : mg "super" = none
  n_tuple : mg "tuple" = none
  n_zip : mg "zip" = none
  c_FARTHEST : ∃ t, mg "FARTHEST" = some (.int 100000 t)
  c_MOST_CREWS : ∃ t, mg "MOST_CREWS" = some (.int 4 t)
  c_MOST_KINDS : ∃ t, mg "MOST_KINDS" = some (.int 16 t)
  c_MOST_LAYERS : ∃ t, mg "MOST_LAYERS" = some (.int 16 t)
  ins : ∀ c ∈ CS, InsK (TT K ca xa ta) c
  ty : ∀ t ∈ TS, TyK (TT K ca xa ta) CS t
  g_Book : mg "Book" = some (.ref (ca 0))
  mk_Book : Mk K (ca 0) (a 15)
  g_EarthError : mg "EarthError" = some (.ref (xa 0))
  g_BadBook : mg "BadBook" = some (.ref (xa 1))
  x_BadBook : ∃ fI cda cc, PySem.DX.Exc1 P K (xa 1) fI cda cc "part" "BadBook.__init__"
  g_NoSet : mg "NoSet" = some (.ref (xa 2))
  x_NoSet : ∃ fI cda cc, PySem.DX.Exc0 P K (xa 2) fI cda cc "NoSet.__init__"
  g_NoCrews : mg "NoCrews" = some (.ref (xa 3))
  x_NoCrews : ∃ fI cda cc, PySem.DX.Exc0 P K (xa 3) fI cda cc "NoCrews.__init__"
  g_TooMany : mg "TooMany" = some (.ref (xa 4))
  held : ∀ e ∈ ES, HeldK (TT K ca xa ta) e
  hdict : ∀ e ∈ ES, PySem.W.hasDictIn K (xa e) = true
  exm_0 : ∀ e b, SB e 0 = some b → PySem.W.exmOne K (.ref (xa e)) (.ref (xa 0)) = some b
  kit_0 : ∀ e b, SB e 0 = some b → e ∈ ES ∧ PySem.W.kitOne K (.ref (xa e)) (.ref (xa 0)) = some b
  exm_1 : ∀ e b, SB e 1 = some b → PySem.W.exmOne K (.ref (xa e)) (.ref (xa 1)) = some b
  kit_1 : ∀ e b, SB e 1 = some b → e ∈ ES ∧ PySem.W.kitOne K (.ref (xa e)) (.ref (xa 1)) = some b
  exm_2 : ∀ e b, SB e 2 = some b → PySem.W.exmOne K (.ref (xa e)) (.ref (xa 2)) = some b
  kit_2 : ∀ e b, SB e 2 = some b → e ∈ ES ∧ PySem.W.kitOne K (.ref (xa e)) (.ref (xa 2)) = some b
  exm_3 : ∀ e b, SB e 3 = some b → PySem.W.exmOne K (.ref (xa e)) (.ref (xa 3)) = some b
  kit_3 : ∀ e b, SB e 3 = some b → e ∈ ES ∧ PySem.W.kitOne K (.ref (xa e)) (.ref (xa 3)) = some b
  exm_4 : ∀ e b, SB e 4 = some b → PySem.W.exmOne K (.ref (xa e)) (.ref (xa 4)) = some b
  kit_4 : ∀ e b, SB e 4 = some b → e ∈ ES ∧ PySem.W.kitOne K (.ref (xa e)) (.ref (xa 4)) = some b
  kit_1000 : ∀ e b, SB e 1000 = some b → e ∈ ES ∧ PySem.W.kitOne K (.ref (xa e)) (.type "ValueError") = some b
theorem hu1 {k : Nat} {A : Around} (hr : Room k A) : A.units + 1 < cLine := by have := hr.un; omega
theorem hu64 {k : Nat} {A : Around} (hr : Room k A) : A.units + 64 < cLine := by have := hr.un; omega
theorem hu65 {k : Nat} {A : Around} (hr : Room k A) : A.units + 65 < cLine := by have := hr.un; omega
theorem hu64m {k : Nat} {A : Around} {v : Option Value} (hr : Room k A) : (A.mark v).units + 64 < cLine := by have := hr.un; show A.units + 64 < cLine; omega
theorem hu65m {k : Nat} {A : Around} {v : Option Value} (hr : Room k A) : (A.mark v).units + 65 < cLine := by have := hr.un; show A.units + 65 < cLine; omega
theorem hu200 {k : Nat} {A : Around} (hr : Room k A) : A.units + 200 < cLine := by have := hr.un; omega
theorem xv {X : Cx} {T : Tx} {W : WX} (i : Nat) {x : Str} {pos : Pos} (hN : X.N[i]? = some x := by rfl) (hv : Vis X.env.scope x := by first | exact Or.inl rfl | exact Or.inr (Or.inl rfl) | exact Or.inr (Or.inr rfl)) (hd : (x == ("__debug__" : Str)) = false := by decide) (hcd : (x == ("__classdict__" : Str)) = false := by decide) : PE X (.Name x pos) (rdE T W (eVar i)) := x_var hN hv hd hcd
variable {P : Program} {w : World} {K : PySem.W.Frag} {mg : Str → Option Value} {base : Heap} {a : Nat → Addr} {fd : Nat → FuncData} {ca xa ta co : Nat → Addr}
theorem sc_is_integer : FnScope N_is_integer ["thing"] (defScope S_is_integer) := ⟨rfl, rfl, rfl, by decide +kernel, rfl, by decide +kernel, by decide +kernel⟩
def B_is_integer : SM :=
  sRet (eT (tAnd (tIs CS (eVar 0) [.int]) (tNot (tIs CS (eVar 0) [.bool]))))
def M_is_integer : FM := fnT 1 1 B_is_integer
theorem ok_is_integer (E : Env P K mg base a fd ca xa ta co) : FnOk P w K mg base (L2.CX P w) 1 (a 0) (fd 0) ["thing"] (spM (TT K ca xa ta) 1 M_is_integer) := by
  refine fn_okT (b := B_is_integer) (N := N_is_integer) E.f_is_integer sc_is_integer rfl rfl fun cdv A outer s H EE hr => ?_
  unfold B_is_integer
  exact (s_one (s_ret (x_vand (x_isi (t := .int) (by rfl) (by exact E.ins) (by exact E.ty _ (by decide)) (by rfl) (by exact E.n_isinstance) (xv 0) (n_bt (by rfl) (by exact E.n_int) PyProof.Rows.boot_int)) (x_vone (x_vnot (x_isi (t := .bool) (by rfl) (by exact E.ins) (by exact E.ty _ (by decide)) (by rfl) (by exact E.n_isinstance) (xv 0) (n_bt (by rfl) (by exact E.n_bool) PyProof.Rows.boot_bool)))))))
theorem sc_is_within : FnScope N_is_within ["thing", "low", "high"] (defScope S_is_within) := ⟨rfl, rfl, rfl, by decide +kernel, rfl, by decide +kernel, by decide +kernel⟩
def B_is_within : SM :=
  sRet (eT (tAnd (tE (eCall M_is_integer (aCons (eVar 0) (aNil)))) (tChain cLe cLe (eVar 1) (eVar 0) (eVar 2))))
def M_is_within : FM := fnT 3 3 B_is_within
theorem ok_is_within (E : Env P K mg base a fd ca xa ta co) : FnOk P w K mg base (L2.CX P w) 2 (a 1) (fd 1) ["thing", "low", "high"] (spM (TT K ca xa ta) 3 M_is_within) := by
  refine fn_okT (b := B_is_within) (N := N_is_within) E.f_is_within sc_is_within rfl rfl fun cdv A outer s H EE hr => ?_
  unfold B_is_within
  exact (s_one (s_ret (x_vand (x_asT (x_call (by exact ok_is_integer E) (by exact hr.mono (by decide)) (by rfl) (by exact E.g_is_integer) (by exact E.k_is_integer) (by exact E.b_is_integer) (by exact takes_of rfl rfl rfl rfl) (al_cons al_nil) (by exact (xa_cons (xv 0) xa_nil)))) (x_vone (x_vchain (o_le) (o_le) (xv 1) (xv 0) (xv 2))))))
theorem sc_is_tuple : FnScope N_is_tuple ["thing", "least", "most"] (defScope S_is_tuple) := ⟨rfl, rfl, rfl, by decide +kernel, rfl, by decide +kernel, by decide +kernel⟩
def B_is_tuple : SM :=
  sRet (eT (tAnd (tIs CS (eVar 0) [.tuple]) (tChain cLe cLe (eVar 1) (eUn opLen (eVar 0)) (eVar 2))))
def M_is_tuple : FM := fnT 3 3 B_is_tuple
theorem ok_is_tuple (E : Env P K mg base a fd ca xa ta co) : FnOk P w K mg base (L2.CX P w) 1 (a 2) (fd 2) ["thing", "least", "most"] (spM (TT K ca xa ta) 3 M_is_tuple) := by
  refine fn_okT (b := B_is_tuple) (N := N_is_tuple) E.f_is_tuple sc_is_tuple rfl rfl fun cdv A outer s H EE hr => ?_
  unfold B_is_tuple
  exact (s_one (s_ret (x_vand (x_isi (t := .tuple) (by rfl) (by exact E.ins) (by exact E.ty _ (by decide)) (by rfl) (by exact E.n_isinstance) (xv 0) (n_bt (by rfl) (by exact E.n_tuple) PyProof.Rows.boot_tuple)) (x_vone (x_vchain (o_le) (o_le) (xv 1) (x_callB1 (by exact c_len rfl) (by rfl) (by exact E.n_len) PySem.boot_len (xv 0)) (xv 2))))))
theorem sc_is_lot : FnScope N_is_lot ["thing", "many"] (defScope S_is_lot) := ⟨rfl, rfl, rfl, by decide +kernel, rfl, by decide +kernel, by decide +kernel⟩
def B_is_lot : SM :=
  sSeq (sIf (tOr (tNot (tIs CS (eVar 0) [.tuple])) (tNot (tE (eUn opAll (eFz (lComp [2] (iIt (eVar 0)) (.nm 2) (tYes) (eCall M_is_within (aCons (eVar 2) (aCons (eC (.int 0)) (aCons (eBin opSub (eVar 1) (eC (.int 1))) (aNil))))))))))) (sRet (eC (.bl false))) (sNx))
  (sRet (eUn opAll (eFz (lComp [2, 3] (iZip (eVar 0) (eSl (eVar 0) (some (eC (.int 1))) none)) (.tp [.nm 2, .nm 3]) (tYes) (eT (tBin cLt (eVar 2) (eVar 3)))))))
def M_is_lot : FM := fnT 2 4 B_is_lot
theorem ok_is_lot (E : Env P K mg base a fd ca xa ta co) : FnOk P w K mg base (L2.CX P w) 3 (a 3) (fd 3) ["thing", "many"] (spM (TT K ca xa ta) 2 M_is_lot) := by
  refine fn_okT (b := B_is_lot) (N := N_is_lot) E.f_is_lot sc_is_lot rfl rfl fun cdv A outer s H EE hr => ?_
  unfold B_is_lot
  exact (s_cons (s_if (PW.pt (x_wor (x_tnot (x_pt (x_isi (t := .tuple) (by rfl) (by exact E.ins) (by exact E.ty _ (by decide)) (by rfl) (by exact E.n_isinstance) (xv 0) (n_bt (by rfl) (by exact E.n_tuple) PyProof.Rows.boot_tuple)))) (x_wor1 (x_tnot (x_pt (x_asT (x_callB1 (by exact c_all rfl) (by rfl) (by exact E.n_all) PyProof.Rows.boot_all (x_fz (xf_lc (own := [("one", 2)]) (by rfl) (by exact sc_is_lot.nd) (x_iIt (by rfl) (xv 0)) (by exact blkOk_by (own := [("one", 2)]) (N := N_is_lot) (sc := (defScope S_is_lot)) (by decide +kernel)) (by decide) (fun _ _ _ _ _ => (g_nm (i := 2) (by exact sc_is_lot.nd) (by rfl) (by exact Or.inl rfl))) (fun _ _ _ _ _ => t_yes) (fun _ _ _ _ _ => (x_call (by exact ok_is_within E) (by exact hr.mono (by decide)) (by rfl) (by exact E.g_is_within) (by exact E.k_is_within) (by exact E.b_is_within) (by exact takes0) (al_cons (al_cons (al_cons al_nil))) (by exact (xa_cons (xv 2) (xa_cons x_int (xa_cons (x_bin o_sub (xv 1) x_int) xa_nil))))))))))))))) (s_one (s_ret x_bl)) s_nil)
  (s_one (s_ret (x_callB1 (by exact c_all rfl) (by rfl) (by exact E.n_all) PyProof.Rows.boot_all (x_fz (xf_lc (own := [("one", 2), ("other", 3)]) (by rfl) (by exact sc_is_lot.nd) (x_iZip (by rfl) (by rfl) (by exact E.n_zip) (xv 0) (x_sl (by rfl) (xv 0) (x_osome x_int) x_ono)) (by exact blkOk_by (own := [("one", 2), ("other", 3)]) (N := N_is_lot) (sc := (defScope S_is_lot)) (by decide +kernel)) (by decide) (fun _ _ _ _ _ => (g_tp (by rfl) (gs_cons (g_nm (i := 2) (by exact sc_is_lot.nd) (by rfl) (by exact Or.inl rfl)) (gs_cons (g_nm (i := 3) (by exact sc_is_lot.nd) (by rfl) (by exact Or.inl rfl)) gs_nil)))) (fun _ _ _ _ _ => t_yes) (fun _ _ _ _ _ => (x_vcmp (by exact o_lt (by exact hu64 hr)) (xv 2) (xv 3) (nomark _)))))))))
theorem sc_check_set : FnScope N_check_set ["book", "wanted"] (defScope S_check_set) := ⟨rfl, rfl, rfl, by decide +kernel, rfl, by decide +kernel, by decide +kernel⟩
def B_check_set : SM :=
  sIf (tNot (tE (eCall M_is_lot (aCons (eVar 1) (aCons (eUn (opFld 0 0) (eVar 0)) (aNil)))))) (sRaise 2 aNil) (sNx)
def M_check_set : FM := fnT 2 2 B_check_set
theorem ok_check_set (E : Env P K mg base a fd ca xa ta co) : FnOk P w K mg base (L2.CX P w) 4 (a 4) (fd 4) ["book", "wanted"] (spM (TT K ca xa ta) 2 M_check_set) := by
  obtain ⟨fI_NoSet, cda_NoSet, cc_NoSet, x_NoSet⟩ := E.x_NoSet
  refine fn_okT (b := B_check_set) (N := N_check_set) E.f_check_set sc_check_set rfl rfl fun cdv A outer s H EE hr => ?_
  unfold B_check_set
  exact (s_one (s_if (x_tnot (x_pt (x_asT (x_call (by exact ok_is_lot E) (by exact hr.mono (by decide)) (by rfl) (by exact E.g_is_lot) (by exact E.k_is_lot) (by exact E.b_is_lot) (by exact takes_of rfl rfl rfl rfl) (al_cons (al_cons al_nil)) (by exact (xa_cons (xv 1) (xa_cons (x_fld (by rfl) (by exact (E.ins 0 (by decide)).cl) (by rfl) (xv 0)) xa_nil))))))) (s_one (s_raise0 (c := 2) (n := 0) (by rfl) (by exact takes_of rfl rfl rfl rfl) (by rfl) (by exact x_NoSet) hr (by rfl) (by exact E.g_NoSet) (by exact E.n_super))) s_nil))
theorem sc_check_crews : FnScope N_check_crews ["crews"] (defScope S_check_crews) := ⟨rfl, rfl, rfl, by decide +kernel, rfl, by decide +kernel, by decide +kernel⟩
def B_check_crews : SM :=
  sIf (tNot (tE (eCall M_is_within (aCons (eVar 0) (aCons (eC (.int 1)) (aCons (eC (.int 4)) (aNil))))))) (sRaise 3 aNil) (sNx)
def M_check_crews : FM := fnT 1 1 B_check_crews
theorem ok_check_crews (E : Env P K mg base a fd ca xa ta co) : FnOk P w K mg base (L2.CX P w) 3 (a 5) (fd 5) ["crews"] (spM (TT K ca xa ta) 1 M_check_crews) := by
  obtain ⟨t_MOST_CREWS, c_MOST_CREWS⟩ := E.c_MOST_CREWS
  obtain ⟨fI_NoCrews, cda_NoCrews, cc_NoCrews, x_NoCrews⟩ := E.x_NoCrews
  refine fn_okT (b := B_check_crews) (N := N_check_crews) E.f_check_crews sc_check_crews rfl rfl fun cdv A outer s H EE hr => ?_
  unfold B_check_crews
  exact (s_one (s_if (x_tnot (x_pt (x_asT (x_call (by exact ok_is_within E) (by exact hr.mono (by decide)) (by rfl) (by exact E.g_is_within) (by exact E.k_is_within) (by exact E.b_is_within) (by exact takes_of rfl rfl rfl rfl) (al_cons (al_cons (al_cons al_nil))) (by exact (xa_cons (xv 0) (xa_cons x_int (xa_cons (x_glob (by rfl) (by exact c_MOST_CREWS) (by exact ⟨_, rfl⟩) fun _ _ _ => rep_int) xa_nil)))))))) (s_one (s_raise0 (c := 3) (n := 0) (by rfl) (by exact takes_of rfl rfl rfl rfl) (by rfl) (by exact x_NoCrews) hr (by rfl) (by exact E.g_NoCrews) (by exact E.n_super))) s_nil))
theorem sc_needed_by : FnScope N_needed_by ["book", "wanted"] (defScope S_needed_by) := ⟨rfl, rfl, rfl, by decide +kernel, rfl, by decide +kernel, by decide +kernel⟩
def B_needed_by : SM :=
  sSeq (sSet 2 (eBx (lList (eVar 1))))
  (sSeq (sSet 3 (eC (.int 0)))
  (sSeq (sWhile 1000000 (tBin cLt (eVar 3) (eUn opLen (eVar 2))) (sSeq (sDrop (eMb1 mExt (eVar 2) (eFz (lComp [4, 5] (iIt (eUn (opFld 0 1) (eVar 0))) (.tp [.nm 4, .nm 5]) (tAnd (tBin cEq (eVar 5) (eBin opIx (eVar 2) (eVar 3))) (tBin cNotIn (eVar 4) (eVar 2))) (eVar 4)))))
  (sSet 3 (eBin opAdd (eVar 3) (eC (.int 1))))))
  (sRet (eUn opTuple (eUn opSrt (eVar 2))))))
def M_needed_by : FM := fnT 2 6 B_needed_by
theorem ok_needed_by (E : Env P K mg base a fd ca xa ta co) : FnOk P w K mg base (L2.CX P w) 1 (a 6) (fd 6) ["book", "wanted"] (spM (TT K ca xa ta) 2 M_needed_by) := by
  refine fn_okT (b := B_needed_by) (N := N_needed_by) E.f_needed_by sc_needed_by rfl rfl fun cdv A outer s H EE hr => ?_
  unfold B_needed_by
  exact (s_cons (s_set (i := 2) (by exact sc_needed_by.nd) (by rfl) (by exact Or.inr rfl) (x_bx (xf_list (by rfl) (by rfl) (by exact E.n_list) (xv 1))))
  (s_cons (s_set (i := 3) (by exact sc_needed_by.nd) (by rfl) (by exact Or.inr rfl) x_int)
  (s_cons (s_while 1000000 (by exact passes_of rfl) (x_tcmp (by exact o_lt (by exact hu64 hr)) (xv 3) (x_callB1 (by exact c_len rfl) (by rfl) (by exact E.n_len) PySem.boot_len (xv 2)) (nomark _)) (s_cons (s_drop (x_mb1 calm_ext PySem.F.slot_list_extend PySem.F.type_list_extend mb_ext (xv 2) (x_fz (xf_lc (own := [("a", 4), ("b", 5)]) (by rfl) (by exact sc_needed_by.nd) (x_iIt (by rfl) (x_fld (by rfl) (by exact (E.ins 0 (by decide)).cl) (by rfl) (xv 0))) (by exact blkOk_by (own := [("a", 4), ("b", 5)]) (N := N_needed_by) (sc := (defScope S_needed_by)) (by decide +kernel)) (by decide) (fun _ _ _ _ _ => (g_tp (by rfl) (gs_cons (g_nm (i := 4) (by exact sc_needed_by.nd) (by rfl) (by exact Or.inl rfl)) (gs_cons (g_nm (i := 5) (by exact sc_needed_by.nd) (by rfl) (by exact Or.inl rfl)) gs_nil)))) (fun _ _ _ _ _ => (pts_one (PW.pt (x_wand (x_tcmp (by exact o_eq (by exact hu64 hr)) (xv 5) (x_ix (by exact i_ix rfl (by exact hu65 hr)) (xv 2) (xv 3)) (nomark _)) (x_wand1 (x_tcmp (by exact o_notin rfl (by exact hu65 hr)) (xv 4) (xv 2) (by rfl))))))) (fun _ _ _ _ _ => (xv 4))))))
  (s_one (s_set (i := 3) (by exact sc_needed_by.nd) (by rfl) (by exact Or.inr rfl) (x_bin o_add (xv 3) x_int)))))
  (s_one (s_ret (x_callT1 (by exact c_tuple rfl) (by rfl) (by exact E.n_tuple) PyProof.Rows.boot_tuple (x_callB1 (by exact c_srt rfl (hu200 hr)) (by rfl) (by exact E.n_sorted) PyProof.Rows.boot_sorted (xv 2))))))))
theorem sc_needed : FnScope N_needed ["book", "wanted"] (defScope S_needed) := ⟨rfl, rfl, rfl, by decide +kernel, rfl, by decide +kernel, by decide +kernel⟩
def B_needed : SM :=
  sSeq (sDrop (eCall M_check_set (aCons (eVar 0) (aCons (eVar 1) (aNil)))))
  (sRet (eCall M_needed_by (aCons (eVar 0) (aCons (eVar 1) (aNil)))))
def M_needed : FM := fnT 2 2 B_needed
theorem ok_needed (E : Env P K mg base a fd ca xa ta co) : FnOk P w K mg base (L2.CX P w) 5 (a 7) (fd 7) ["book", "wanted"] (spM (TT K ca xa ta) 2 M_needed) := by
  refine fn_okT (b := B_needed) (N := N_needed) E.f_needed sc_needed rfl rfl fun cdv A outer s H EE hr => ?_
  unfold B_needed
  exact (s_cons (s_drop (x_call (by exact ok_check_set E) (by exact hr.mono (by decide)) (by rfl) (by exact E.g_check_set) (by exact E.k_check_set) (by exact E.b_check_set) (by exact takes_of rfl rfl rfl rfl) (al_cons (al_cons al_nil)) (by exact (xa_cons (xv 0) (xa_cons (xv 1) xa_nil)))))
  (s_one (s_ret (x_call (by exact ok_needed_by E) (by exact hr.mono (by decide)) (by rfl) (by exact E.g_needed_by) (by exact E.k_needed_by) (by exact E.b_needed_by) (by exact takes_of rfl rfl rfl rfl) (al_cons (al_cons al_nil)) (by exact (xa_cons (xv 0) (xa_cons (xv 1) xa_nil)))))))
theorem sc_are_days : FnScope N_are_days ["book", "crews", "thing"] (defScope S_are_days) := ⟨rfl, rfl, rfl, by decide +kernel, rfl, by decide +kernel, by decide +kernel⟩
def B_are_days : SM :=
  sSeq (sIf (tOr (tNot (tIs CS (eVar 2) [.tuple])) (tNot (tE (eUn opAll (eFz (lComp [3] (iIt (eVar 2)) (.nm 3) (tYes) (eCall M_is_lot (aCons (eVar 3) (aCons (eUn (opFld 0 0) (eVar 0)) (aNil)))))))))) (sRet (eC (.bl false))) (sNx))
  (sSeq (sIf (tNot (tE (eUn opAll (eFz (lComp [3] (iIt (eVar 2)) (.nm 3) (tYes) (eT (tChain cLe cLe (eC (.int 1)) (eUn opLen (eVar 3)) (eVar 1)))))))) (sRet (eC (.bl false))) (sNx))
  (sSeq (sSet 4 (eBx (lDisp (aNil))))
  (sSeq (sFor (iIt (eVar 2)) (.nm 3) (sDrop (eMb1 mExtU (eVar 4) (eVar 3))))
  (sRet (eT (tBin cEq (eUn opLenSet (eVar 4)) (eUn opLen (eVar 4))))))))
def M_are_days : FM := fnT 3 5 B_are_days
theorem ok_are_days (E : Env P K mg base a fd ca xa ta co) : FnOk P w K mg base (L2.CX P w) 4 (a 8) (fd 8) ["book", "crews", "thing"] (spM (TT K ca xa ta) 3 M_are_days) := by
  refine fn_okT (b := B_are_days) (N := N_are_days) E.f_are_days sc_are_days rfl rfl fun cdv A outer s H EE hr => ?_
  unfold B_are_days
  exact (s_cons (s_if (PW.pt (x_wor (x_tnot (x_pt (x_isi (t := .tuple) (by rfl) (by exact E.ins) (by exact E.ty _ (by decide)) (by rfl) (by exact E.n_isinstance) (xv 2) (n_bt (by rfl) (by exact E.n_tuple) PyProof.Rows.boot_tuple)))) (x_wor1 (x_tnot (x_pt (x_asT (x_callB1 (by exact c_all rfl) (by rfl) (by exact E.n_all) PyProof.Rows.boot_all (x_fz (xf_lc (own := [("day", 3)]) (by rfl) (by exact sc_are_days.nd) (x_iIt (by rfl) (xv 2)) (by exact blkOk_by (own := [("day", 3)]) (N := N_are_days) (sc := (defScope S_are_days)) (by decide +kernel)) (by decide) (fun _ _ _ _ _ => (g_nm (i := 3) (by exact sc_are_days.nd) (by rfl) (by exact Or.inl rfl))) (fun _ _ _ _ _ => t_yes) (fun _ _ _ _ _ => (x_call (by exact ok_is_lot E) (by exact hr.mono (by decide)) (by rfl) (by exact E.g_is_lot) (by exact E.k_is_lot) (by exact E.b_is_lot) (by exact takes0) (al_cons (al_cons al_nil)) (by exact (xa_cons (xv 3) (xa_cons (x_fld (by rfl) (by exact (E.ins 0 (by decide)).cl) (by rfl) (xv 0)) xa_nil)))))))))))))) (s_one (s_ret x_bl)) s_nil)
  (s_cons (s_if (x_tnot (x_pt (x_asT (x_callB1 (by exact c_all rfl) (by rfl) (by exact E.n_all) PyProof.Rows.boot_all (x_fz (xf_lc (own := [("day", 3)]) (by rfl) (by exact sc_are_days.nd) (x_iIt (by rfl) (xv 2)) (by exact blkOk_by (own := [("day", 3)]) (N := N_are_days) (sc := (defScope S_are_days)) (by decide +kernel)) (by decide) (fun _ _ _ _ _ => (g_nm (i := 3) (by exact sc_are_days.nd) (by rfl) (by exact Or.inl rfl))) (fun _ _ _ _ _ => t_yes) (fun _ _ _ _ _ => (x_vchain (o_le) (o_le) x_int (x_callB1 (by exact c_len rfl) (by rfl) (by exact E.n_len) PySem.boot_len (xv 3)) (xv 1))))))))) (s_one (s_ret x_bl)) s_nil)
  (s_cons (s_set (i := 4) (by exact sc_are_days.nd) (by rfl) (by exact Or.inl rfl) (x_bx (xf_disp xa_nil al_nil)))
  (s_cons (s_for (by exact passes_of rfl) (by rfl) (x_iIt (by rfl) (xv 2)) (g_nm (i := 3) (by exact sc_are_days.nd) (by rfl) (by exact Or.inl rfl)) (s_one (s_drop (x_mb1 calm_extU PySem.F.slot_list_extend PySem.F.type_list_extend mb_extU (xv 4) (xv 3)))))
  (s_one (s_ret (x_vcmp (by exact o_eq (by exact hu64 hr)) (x_lenSet (by rfl) (by rfl) (by exact E.n_len) (by rfl) (by exact E.n_set) (xv 4)) (x_callB1 (by exact c_len rfl) (by rfl) (by exact E.n_len) PySem.boot_len (xv 4)) (nomark _))))))))
theorem sc_is_plan : FnScope N_is_plan ["book", "crews", "wanted", "thing"] (defScope S_is_plan) := ⟨rfl, rfl, rfl, by decide +kernel, rfl, by decide +kernel, by decide +kernel⟩
def B_is_plan : SM :=
  sSeq (sDrop (eCall M_check_crews (aCons (eVar 1) (aNil))))
  (sSeq (sDrop (eCall M_check_set (aCons (eVar 0) (aCons (eVar 2) (aNil)))))
  (sSeq (sIf (tNot (tE (eCall M_are_days (aCons (eVar 0) (aCons (eVar 1) (aCons (eVar 3) (aNil))))))) (sRet (eC (.bl false))) (sNx))
  (sSeq (sSet 4 (eDk))
  (sSeq (sFor (iEnum (eVar 3)) (.tp [.nm 5, .nm 6]) (sFor (iIt (eVar 6)) (.nm 7) (sAsg (gSb (eVar 4) (eVar 7)) (eVar 5))))
  (sSeq (sIf (tNot (tE (eUn opAll (eFz (lComp [7] (iIt (eVar 2)) (.nm 7) (tYes) (eT (tBin cIn (eVar 7) (eVar 4)))))))) (sRet (eC (.bl false))) (sNx))
  (sRet (eUn opAll (eFz (lComp [8, 9] (iIt (eUn (opFld 0 1) (eVar 0))) (.tp [.nm 8, .nm 9]) (tBin cIn (eVar 9) (eVar 4)) (eT (tAnd (tBin cIn (eVar 8) (eVar 4)) (tBin cLt (eBin opIx (eVar 4) (eVar 8)) (eBin opIx (eVar 4) (eVar 9))))))))))))))
def M_is_plan : FM := fnT 4 10 B_is_plan
theorem ok_is_plan (E : Env P K mg base a fd ca xa ta co) : FnOk P w K mg base (L2.CX P w) 5 (a 9) (fd 9) ["book", "crews", "wanted", "thing"] (spM (TT K ca xa ta) 4 M_is_plan) := by
  refine fn_okT (b := B_is_plan) (N := N_is_plan) E.f_is_plan sc_is_plan rfl rfl fun cdv A outer s H EE hr => ?_
  unfold B_is_plan
  exact (s_cons (s_drop (x_call (by exact ok_check_crews E) (by exact hr.mono (by decide)) (by rfl) (by exact E.g_check_crews) (by exact E.k_check_crews) (by exact E.b_check_crews) (by exact takes_of rfl rfl rfl rfl) (al_cons al_nil) (by exact (xa_cons (xv 1) xa_nil))))
  (s_cons (s_drop (x_call (by exact ok_check_set E) (by exact hr.mono (by decide)) (by rfl) (by exact E.g_check_set) (by exact E.k_check_set) (by exact E.b_check_set) (by exact takes_of rfl rfl rfl rfl) (al_cons (al_cons al_nil)) (by exact (xa_cons (xv 0) (xa_cons (xv 2) xa_nil)))))
  (s_cons (s_if (x_tnot (x_pt (x_asT (x_call (by exact ok_are_days E) (by exact hr.mono (by decide)) (by rfl) (by exact E.g_are_days) (by exact E.k_are_days) (by exact E.b_are_days) (by exact takes_of rfl rfl rfl rfl) (al_cons (al_cons (al_cons al_nil))) (by exact (xa_cons (xv 0) (xa_cons (xv 1) (xa_cons (xv 3) xa_nil)))))))) (s_one (s_ret x_bl)) s_nil)
  (s_cons (s_set (i := 4) (by exact sc_is_plan.nd) (by rfl) (by exact Or.inr rfl) x_dk)
  (s_cons (s_for (by exact passes_of rfl) (by rfl) (x_iEnum (by rfl) (by rfl) (by exact E.n_enumerate) (xv 3)) (g_tp (by rfl) (gs_cons (g_nm (i := 5) (by exact sc_is_plan.nd) (by rfl) (by exact Or.inl rfl)) (gs_cons (g_nm (i := 6) (by exact sc_is_plan.nd) (by rfl) (by exact Or.inl rfl)) gs_nil))) (s_one (s_for (by exact passes_of rfl) (by rfl) (x_iIt (by rfl) (xv 6)) (g_nm (i := 7) (by exact sc_is_plan.nd) (by rfl) (by exact Or.inl rfl)) (s_one (s_asg (m_sb (by exact hu1 hr) (xv 4) (xv 7)) (xv 5))))))
  (s_cons (s_if (x_tnot (x_pt (x_asT (x_callB1 (by exact c_all rfl) (by rfl) (by exact E.n_all) PyProof.Rows.boot_all (x_fz (xf_lc (own := [("layer", 7)]) (by rfl) (by exact sc_is_plan.nd) (x_iIt (by rfl) (xv 2)) (by exact blkOk_by (own := [("layer", 7)]) (N := N_is_plan) (sc := (defScope S_is_plan)) (by decide +kernel)) (by decide) (fun _ _ _ _ _ => (g_nm (i := 7) (by exact sc_is_plan.nd) (by rfl) (by exact Or.inl rfl))) (fun _ _ _ _ _ => t_yes) (fun _ _ _ _ _ => (x_vcmp (by exact o_in rfl (by exact hu65 hr)) (xv 7) (xv 4) (by rfl))))))))) (s_one (s_ret x_bl)) s_nil)
  (s_one (s_ret (x_callB1 (by exact c_all rfl) (by rfl) (by exact E.n_all) PyProof.Rows.boot_all (x_fz (xf_lc (own := [("a", 8), ("b", 9)]) (by rfl) (by exact sc_is_plan.nd) (x_iIt (by rfl) (x_fld (by rfl) (by exact (E.ins 0 (by decide)).cl) (by rfl) (xv 0))) (by exact blkOk_by (own := [("a", 8), ("b", 9)]) (N := N_is_plan) (sc := (defScope S_is_plan)) (by decide +kernel)) (by decide) (fun _ _ _ _ _ => (g_tp (by rfl) (gs_cons (g_nm (i := 8) (by exact sc_is_plan.nd) (by rfl) (by exact Or.inl rfl)) (gs_cons (g_nm (i := 9) (by exact sc_is_plan.nd) (by rfl) (by exact Or.inl rfl)) gs_nil)))) (fun _ _ _ _ _ => (pts_one (x_tcmp (by exact o_in rfl (by exact hu65 hr)) (xv 9) (xv 4) (by rfl)))) (fun _ _ _ _ _ => (x_vand (x_vcmp (by exact o_in rfl (by exact hu65 hr)) (xv 8) (xv 4) (by rfl)) (x_vone (x_vcmp (by exact o_lt (by exact hu64 hr)) (x_ix (by exact i_ix rfl (by exact hu65 hr)) (xv 4) (xv 8)) (x_ix (by exact i_ix rfl (by exact hu65 hr)) (xv 4) (xv 9)) (nomark _))))))))))))))))
theorem sc_is_pair : FnScope N_is_pair ["count", "thing"] (defScope S_is_pair) := ⟨rfl, rfl, rfl, by decide +kernel, rfl, by decide +kernel, by decide +kernel⟩
def B_is_pair : SM :=
  sSeq (sIf (tOr (tNot (tE (eCall M_is_tuple (aCons (eVar 1) (aCons (eC (.int 2)) (aCons (eC (.int 2)) (aNil))))))) (tNot (tE (eUn opAll (eFz (lComp [2] (iIt (eVar 1)) (.nm 2) (tYes) (eCall M_is_within (aCons (eVar 2) (aCons (eC (.int 0)) (aCons (eBin opSub (eVar 0) (eC (.int 1))) (aNil))))))))))) (sRet (eC (.bl false))) (sNx))
  (sRet (eT (tBin cNe (eBin opIx (eVar 1) (eC (.int 0))) (eBin opIx (eVar 1) (eC (.int 1))))))
def M_is_pair : FM := fnT 2 3 B_is_pair
theorem ok_is_pair (E : Env P K mg base a fd ca xa ta co) : FnOk P w K mg base (L2.CX P w) 3 (a 10) (fd 10) ["count", "thing"] (spM (TT K ca xa ta) 2 M_is_pair) := by
  refine fn_okT (b := B_is_pair) (N := N_is_pair) E.f_is_pair sc_is_pair rfl rfl fun cdv A outer s H EE hr => ?_
  unfold B_is_pair
  exact (s_cons (s_if (PW.pt (x_wor (x_tnot (x_pt (x_asT (x_call (by exact ok_is_tuple E) (by exact hr.mono (by decide)) (by rfl) (by exact E.g_is_tuple) (by exact E.k_is_tuple) (by exact E.b_is_tuple) (by exact takes_of rfl rfl rfl rfl) (al_cons (al_cons (al_cons al_nil))) (by exact (xa_cons (xv 1) (xa_cons x_int (xa_cons x_int xa_nil)))))))) (x_wor1 (x_tnot (x_pt (x_asT (x_callB1 (by exact c_all rfl) (by rfl) (by exact E.n_all) PyProof.Rows.boot_all (x_fz (xf_lc (own := [("one", 2)]) (by rfl) (by exact sc_is_pair.nd) (x_iIt (by rfl) (xv 1)) (by exact blkOk_by (own := [("one", 2)]) (N := N_is_pair) (sc := (defScope S_is_pair)) (by decide +kernel)) (by decide) (fun _ _ _ _ _ => (g_nm (i := 2) (by exact sc_is_pair.nd) (by rfl) (by exact Or.inl rfl))) (fun _ _ _ _ _ => t_yes) (fun _ _ _ _ _ => (x_call (by exact ok_is_within E) (by exact hr.mono (by decide)) (by rfl) (by exact E.g_is_within) (by exact E.k_is_within) (by exact E.b_is_within) (by exact takes0) (al_cons (al_cons (al_cons al_nil))) (by exact (xa_cons (xv 2) (xa_cons x_int (xa_cons (x_bin o_sub (xv 0) x_int) xa_nil))))))))))))))) (s_one (s_ret x_bl)) s_nil)
  (s_one (s_ret (x_vcmp (by exact o_ne (by exact hu64 hr)) (x_ix (by exact i_ix rfl (by exact hu65 hr)) (xv 1) x_int) (x_ix (by exact i_ix rfl (by exact hu65 hr)) (xv 1) x_int) (nomark _)))))
theorem sc_are_overs : FnScope N_are_overs ["count", "thing"] (defScope S_are_overs) := ⟨rfl, rfl, rfl, by decide +kernel, rfl, by decide +kernel, by decide +kernel⟩
def B_are_overs : SM :=
  sSeq (sIf (tOr (tNot (tIs CS (eVar 1) [.tuple])) (tNot (tE (eUn opAll (eFz (lComp [2] (iIt (eVar 1)) (.nm 2) (tYes) (eCall M_is_pair (aCons (eVar 0) (aCons (eVar 2) (aNil)))))))))) (sRet (eC (.bl false))) (sNx))
  (sRet (eUn opAll (eFz (lComp [3, 4] (iZip (eVar 1) (eSl (eVar 1) (some (eC (.int 1))) none)) (.tp [.nm 3, .nm 4]) (tYes) (eT (tBin cLt (eVar 3) (eVar 4)))))))
def M_are_overs : FM := fnT 2 5 B_are_overs
theorem ok_are_overs (E : Env P K mg base a fd ca xa ta co) : FnOk P w K mg base (L2.CX P w) 4 (a 11) (fd 11) ["count", "thing"] (spM (TT K ca xa ta) 2 M_are_overs) := by
  refine fn_okT (b := B_are_overs) (N := N_are_overs) E.f_are_overs sc_are_overs rfl rfl fun cdv A outer s H EE hr => ?_
  unfold B_are_overs
  exact (s_cons (s_if (PW.pt (x_wor (x_tnot (x_pt (x_isi (t := .tuple) (by rfl) (by exact E.ins) (by exact E.ty _ (by decide)) (by rfl) (by exact E.n_isinstance) (xv 1) (n_bt (by rfl) (by exact E.n_tuple) PyProof.Rows.boot_tuple)))) (x_wor1 (x_tnot (x_pt (x_asT (x_callB1 (by exact c_all rfl) (by rfl) (by exact E.n_all) PyProof.Rows.boot_all (x_fz (xf_lc (own := [("pair", 2)]) (by rfl) (by exact sc_are_overs.nd) (x_iIt (by rfl) (xv 1)) (by exact blkOk_by (own := [("pair", 2)]) (N := N_are_overs) (sc := (defScope S_are_overs)) (by decide +kernel)) (by decide) (fun _ _ _ _ _ => (g_nm (i := 2) (by exact sc_are_overs.nd) (by rfl) (by exact Or.inl rfl))) (fun _ _ _ _ _ => t_yes) (fun _ _ _ _ _ => (x_call (by exact ok_is_pair E) (by exact hr.mono (by decide)) (by rfl) (by exact E.g_is_pair) (by exact E.k_is_pair) (by exact E.b_is_pair) (by exact takes0) (al_cons (al_cons al_nil)) (by exact (xa_cons (xv 0) (xa_cons (xv 2) xa_nil)))))))))))))) (s_one (s_ret x_bl)) s_nil)
  (s_one (s_ret (x_callB1 (by exact c_all rfl) (by rfl) (by exact E.n_all) PyProof.Rows.boot_all (x_fz (xf_lc (own := [("one", 3), ("other", 4)]) (by rfl) (by exact sc_are_overs.nd) (x_iZip (by rfl) (by rfl) (by exact E.n_zip) (xv 1) (x_sl (by rfl) (xv 1) (x_osome x_int) x_ono)) (by exact blkOk_by (own := [("one", 3), ("other", 4)]) (N := N_are_overs) (sc := (defScope S_are_overs)) (by decide +kernel)) (by decide) (fun _ _ _ _ _ => (g_tp (by rfl) (gs_cons (g_nm (i := 3) (by exact sc_are_overs.nd) (by rfl) (by exact Or.inl rfl)) (gs_cons (g_nm (i := 4) (by exact sc_are_overs.nd) (by rfl) (by exact Or.inl rfl)) gs_nil)))) (fun _ _ _ _ _ => t_yes) (fun _ _ _ _ _ => (x_vcmp (by exact o_lt (by exact hu64 hr)) (xv 3) (xv 4) (nomark _)))))))))
theorem sc_is_bound : FnScope N_is_bound ["thing"] (defScope S_is_bound) := ⟨rfl, rfl, rfl, by decide +kernel, rfl, by decide +kernel, by decide +kernel⟩
def B_is_bound : SM :=
  sRet (eT (tOr (tIsN (eVar 0)) (tAnd (tE (eCall M_is_integer (aCons (eVar 0) (aNil)))) (tChain cLe cLe (eUn opNeg (eC (.int 100000))) (eVar 0) (eC (.int 100000))))))
def M_is_bound : FM := fnT 1 1 B_is_bound
theorem ok_is_bound (E : Env P K mg base a fd ca xa ta co) : FnOk P w K mg base (L2.CX P w) 2 (a 12) (fd 12) ["thing"] (spM (TT K ca xa ta) 1 M_is_bound) := by
  obtain ⟨t_FARTHEST, c_FARTHEST⟩ := E.c_FARTHEST
  refine fn_okT (b := B_is_bound) (N := N_is_bound) E.f_is_bound sc_is_bound rfl rfl fun cdv A outer s H EE hr => ?_
  unfold B_is_bound
  exact (s_one (s_ret (x_vor (x_visN (xv 0)) (x_vone (x_vand (x_asT (x_call (by exact ok_is_integer E) (by exact hr.mono (by decide)) (by rfl) (by exact E.g_is_integer) (by exact E.k_is_integer) (by exact E.b_is_integer) (by exact takes_of rfl rfl rfl rfl) (al_cons al_nil) (by exact (xa_cons (xv 0) xa_nil)))) (x_vone (x_vchain (o_le) (o_le) (x_un u_neg (x_glob (by rfl) (by exact c_FARTHEST) (by exact ⟨_, rfl⟩) fun _ _ _ => rep_int)) (xv 0) (x_glob (by rfl) (by exact c_FARTHEST) (by exact ⟨_, rfl⟩) fun _ _ _ => rep_int))))))))
theorem sc_is_date : FnScope N_is_date ["thing"] (defScope S_is_date) := ⟨rfl, rfl, rfl, by decide +kernel, rfl, by decide +kernel, by decide +kernel⟩
def B_is_date : SM :=
  sSeq (sIf (tOr (tNot (tE (eCall M_is_tuple (aCons (eVar 0) (aCons (eC (.int 2)) (aCons (eC (.int 2)) (aNil))))))) (tNot (tE (eUn opAll (eFz (lComp [1] (iIt (eVar 0)) (.nm 1) (tYes) (eCall M_is_bound (aCons (eVar 1) (aNil))))))))) (sRet (eC (.bl false))) (sNx))
  (sRet (eT (tOr (tBin cIn (eC .non) (eVar 0)) (tBin cLe (eBin opIx (eVar 0) (eC (.int 0))) (eBin opIx (eVar 0) (eC (.int 1)))))))
def M_is_date : FM := fnT 1 2 B_is_date
theorem ok_is_date (E : Env P K mg base a fd ca xa ta co) : FnOk P w K mg base (L2.CX P w) 3 (a 13) (fd 13) ["thing"] (spM (TT K ca xa ta) 1 M_is_date) := by
  refine fn_okT (b := B_is_date) (N := N_is_date) E.f_is_date sc_is_date rfl rfl fun cdv A outer s H EE hr => ?_
  unfold B_is_date
  exact (s_cons (s_if (PW.pt (x_wor (x_tnot (x_pt (x_asT (x_call (by exact ok_is_tuple E) (by exact hr.mono (by decide)) (by rfl) (by exact E.g_is_tuple) (by exact E.k_is_tuple) (by exact E.b_is_tuple) (by exact takes_of rfl rfl rfl rfl) (al_cons (al_cons (al_cons al_nil))) (by exact (xa_cons (xv 0) (xa_cons x_int (xa_cons x_int xa_nil)))))))) (x_wor1 (x_tnot (x_pt (x_asT (x_callB1 (by exact c_all rfl) (by rfl) (by exact E.n_all) PyProof.Rows.boot_all (x_fz (xf_lc (own := [("one", 1)]) (by rfl) (by exact sc_is_date.nd) (x_iIt (by rfl) (xv 0)) (by exact blkOk_by (own := [("one", 1)]) (N := N_is_date) (sc := (defScope S_is_date)) (by decide +kernel)) (by decide) (fun _ _ _ _ _ => (g_nm (i := 1) (by exact sc_is_date.nd) (by rfl) (by exact Or.inl rfl))) (fun _ _ _ _ _ => t_yes) (fun _ _ _ _ _ => (x_call (by exact ok_is_bound E) (by exact hr.mono (by decide)) (by rfl) (by exact E.g_is_bound) (by exact E.k_is_bound) (by exact E.b_is_bound) (by exact takes0) (al_cons al_nil) (by exact (xa_cons (xv 1) xa_nil))))))))))))) (s_one (s_ret x_bl)) s_nil)
  (s_one (s_ret (x_vor (x_vcmp (by exact o_in rfl (by exact hu65 hr)) x_non (xv 0) (by rfl)) (x_vone (x_vcmp (o_le) (x_ix (by exact i_ix rfl (by exact hu65 hr)) (xv 0) x_int) (x_ix (by exact i_ix rfl (by exact hu65 hr)) (xv 0) x_int) (nomark _)))))))
theorem sc_is_kind : FnScope N_is_kind ["count", "thing"] (defScope S_is_kind) := ⟨rfl, rfl, rfl, by decide +kernel, rfl, by decide +kernel, by decide +kernel⟩
def B_is_kind : SM :=
  sRet (eT (tAnd (tE (eCall M_is_lot (aCons (eVar 1) (aCons (eVar 0) (aNil))))) (tBin cGt (eUn opLen (eVar 1)) (eC (.int 1)))))
def M_is_kind : FM := fnT 2 2 B_is_kind
theorem ok_is_kind (E : Env P K mg base a fd ca xa ta co) : FnOk P w K mg base (L2.CX P w) 4 (a 14) (fd 14) ["count", "thing"] (spM (TT K ca xa ta) 2 M_is_kind) := by
  refine fn_okT (b := B_is_kind) (N := N_is_kind) E.f_is_kind sc_is_kind rfl rfl fun cdv A outer s H EE hr => ?_
  unfold B_is_kind
  exact (s_one (s_ret (x_vand (x_asT (x_call (by exact ok_is_lot E) (by exact hr.mono (by decide)) (by rfl) (by exact E.g_is_lot) (by exact E.k_is_lot) (by exact E.b_is_lot) (by exact takes_of rfl rfl rfl rfl) (al_cons (al_cons al_nil)) (by exact (xa_cons (xv 1) (xa_cons (xv 0) xa_nil))))) (x_vone (x_vcmp (o_gt) (x_callB1 (by exact c_len rfl) (by rfl) (by exact E.n_len) PySem.boot_len (xv 1)) x_int (nomark _))))))
theorem sc_Book_UinitU : FnScope N_Book_UinitU ["self", "count", "overs", "dates", "kinds"] (defScope S_Book_UinitU) := ⟨rfl, rfl, rfl, by decide +kernel, rfl, by decide +kernel, by decide +kernel⟩
def B_Book_UinitU : SM :=
  sSeq (sIf (tNot (tE (eCall M_is_within (aCons (eVar 1) (aCons (eC (.int 1)) (aCons (eC (.int 16)) (aNil))))))) (sRaise 1 (aCons (eC (.str "count")) (aNil))) (sNx))
  (sSeq (sIf (tNot (tE (eCall M_are_overs (aCons (eVar 1) (aCons (eVar 2) (aNil)))))) (sRaise 1 (aCons (eC (.str "overs")) (aNil))) (sNx))
  (sSeq (sIf (tOr (tNot (tE (eCall M_is_tuple (aCons (eVar 3) (aCons (eVar 1) (aCons (eVar 1) (aNil))))))) (tNot (tE (eUn opAll (eFz (lComp [5] (iIt (eVar 3)) (.nm 5) (tYes) (eCall M_is_date (aCons (eVar 5) (aNil))))))))) (sRaise 1 (aCons (eC (.str "dates")) (aNil))) (sNx))
  (sSeq (sIf (tOr (tNot (tE (eCall M_is_tuple (aCons (eVar 4) (aCons (eC (.int 0)) (aCons (eC (.int 16)) (aNil))))))) (tNot (tE (eUn opAll (eFz (lComp [6] (iIt (eVar 4)) (.nm 6) (tYes) (eCall M_is_kind (aCons (eVar 1) (aCons (eVar 6) (aNil)))))))))) (sRaise 1 (aCons (eC (.str "kinds")) (aNil))) (sNx))
  (sSeq (sAsg (gTp [gFl 0 0 (eVar 0), gFl 0 1 (eVar 0)]) (eTup (aCons (eVar 1) (aCons (eVar 2) (aNil)))))
  (sSeq (sAsg (gTp [gFl 0 2 (eVar 0), gFl 0 3 (eVar 0)]) (eTup (aCons (eVar 3) (aCons (eVar 4) (aNil)))))
  (sAsg (gFl 0 4 (eVar 0)) (eDk)))))))
def M_Book_UinitU : FM := fnT 5 7 B_Book_UinitU
theorem ok_Book_UinitU (E : Env P K mg base a fd ca xa ta co) : FnOk P w K mg base (L2.CX P w) 5 (a 15) (fd 15) ["self", "count", "overs", "dates", "kinds"] (spM (TT K ca xa ta) 5 M_Book_UinitU) := by
  obtain ⟨t_MOST_KINDS, c_MOST_KINDS⟩ := E.c_MOST_KINDS
  obtain ⟨t_MOST_LAYERS, c_MOST_LAYERS⟩ := E.c_MOST_LAYERS
  obtain ⟨fI_BadBook, cda_BadBook, cc_BadBook, x_BadBook⟩ := E.x_BadBook
  refine fn_okT (b := B_Book_UinitU) (N := N_Book_UinitU) E.f_Book_UinitU sc_Book_UinitU rfl rfl fun cdv A outer s H EE hr => ?_
  unfold B_Book_UinitU
  exact (s_cons (s_if (x_tnot (x_pt (x_asT (x_call (by exact ok_is_within E) (by exact hr.mono (by decide)) (by rfl) (by exact E.g_is_within) (by exact E.k_is_within) (by exact E.b_is_within) (by exact takes_of rfl rfl rfl rfl) (al_cons (al_cons (al_cons al_nil))) (by exact (xa_cons (xv 1) (xa_cons x_int (xa_cons (x_glob (by rfl) (by exact c_MOST_LAYERS) (by exact ⟨_, rfl⟩) fun _ _ _ => rep_int) xa_nil)))))))) (s_one (s_raise1 (c := 1) (n := 1) (by rfl) (by exact takes_of rfl rfl rfl rfl) (by rfl) (by exact x_BadBook) (by rfl) (by rfl) hr (by exact (xa_cons x_str xa_nil)) (al_cons al_nil) (by rfl) (by exact E.g_BadBook) (by exact E.n_super))) s_nil)
  (s_cons (s_if (x_tnot (x_pt (x_asT (x_call (by exact ok_are_overs E) (by exact hr.mono (by decide)) (by rfl) (by exact E.g_are_overs) (by exact E.k_are_overs) (by exact E.b_are_overs) (by exact takes_of rfl rfl rfl rfl) (al_cons (al_cons al_nil)) (by exact (xa_cons (xv 1) (xa_cons (xv 2) xa_nil))))))) (s_one (s_raise1 (c := 1) (n := 1) (by rfl) (by exact takes_of rfl rfl rfl rfl) (by rfl) (by exact x_BadBook) (by rfl) (by rfl) hr (by exact (xa_cons x_str xa_nil)) (al_cons al_nil) (by rfl) (by exact E.g_BadBook) (by exact E.n_super))) s_nil)
  (s_cons (s_if (PW.pt (x_wor (x_tnot (x_pt (x_asT (x_call (by exact ok_is_tuple E) (by exact hr.mono (by decide)) (by rfl) (by exact E.g_is_tuple) (by exact E.k_is_tuple) (by exact E.b_is_tuple) (by exact takes_of rfl rfl rfl rfl) (al_cons (al_cons (al_cons al_nil))) (by exact (xa_cons (xv 3) (xa_cons (xv 1) (xa_cons (xv 1) xa_nil)))))))) (x_wor1 (x_tnot (x_pt (x_asT (x_callB1 (by exact c_all rfl) (by rfl) (by exact E.n_all) PyProof.Rows.boot_all (x_fz (xf_lc (own := [("date", 5)]) (by rfl) (by exact sc_Book_UinitU.nd) (x_iIt (by rfl) (xv 3)) (by exact blkOk_by (own := [("date", 5)]) (N := N_Book_UinitU) (sc := (defScope S_Book_UinitU)) (by decide +kernel)) (by decide) (fun _ _ _ _ _ => (g_nm (i := 5) (by exact sc_Book_UinitU.nd) (by rfl) (by exact Or.inl rfl))) (fun _ _ _ _ _ => t_yes) (fun _ _ _ _ _ => (x_call (by exact ok_is_date E) (by exact hr.mono (by decide)) (by rfl) (by exact E.g_is_date) (by exact E.k_is_date) (by exact E.b_is_date) (by exact takes0) (al_cons al_nil) (by exact (xa_cons (xv 5) xa_nil))))))))))))) (s_one (s_raise1 (c := 1) (n := 1) (by rfl) (by exact takes_of rfl rfl rfl rfl) (by rfl) (by exact x_BadBook) (by rfl) (by rfl) hr (by exact (xa_cons x_str xa_nil)) (al_cons al_nil) (by rfl) (by exact E.g_BadBook) (by exact E.n_super))) s_nil)
  (s_cons (s_if (PW.pt (x_wor (x_tnot (x_pt (x_asT (x_call (by exact ok_is_tuple E) (by exact hr.mono (by decide)) (by rfl) (by exact E.g_is_tuple) (by exact E.k_is_tuple) (by exact E.b_is_tuple) (by exact takes_of rfl rfl rfl rfl) (al_cons (al_cons (al_cons al_nil))) (by exact (xa_cons (xv 4) (xa_cons x_int (xa_cons (x_glob (by rfl) (by exact c_MOST_KINDS) (by exact ⟨_, rfl⟩) fun _ _ _ => rep_int) xa_nil)))))))) (x_wor1 (x_tnot (x_pt (x_asT (x_callB1 (by exact c_all rfl) (by rfl) (by exact E.n_all) PyProof.Rows.boot_all (x_fz (xf_lc (own := [("kind", 6)]) (by rfl) (by exact sc_Book_UinitU.nd) (x_iIt (by rfl) (xv 4)) (by exact blkOk_by (own := [("kind", 6)]) (N := N_Book_UinitU) (sc := (defScope S_Book_UinitU)) (by decide +kernel)) (by decide) (fun _ _ _ _ _ => (g_nm (i := 6) (by exact sc_Book_UinitU.nd) (by rfl) (by exact Or.inl rfl))) (fun _ _ _ _ _ => t_yes) (fun _ _ _ _ _ => (x_call (by exact ok_is_kind E) (by exact hr.mono (by decide)) (by rfl) (by exact E.g_is_kind) (by exact E.k_is_kind) (by exact E.b_is_kind) (by exact takes0) (al_cons (al_cons al_nil)) (by exact (xa_cons (xv 1) (xa_cons (xv 6) xa_nil)))))))))))))) (s_one (s_raise1 (c := 1) (n := 1) (by rfl) (by exact takes_of rfl rfl rfl rfl) (by rfl) (by exact x_BadBook) (by rfl) (by rfl) hr (by exact (xa_cons x_str xa_nil)) (al_cons al_nil) (by rfl) (by exact E.g_BadBook) (by exact E.n_super))) s_nil)
  (s_cons (s_asg (m_tp (by rfl) (ms_cons (m_fl (by rfl) (by exact (E.ins 0 (by decide)).cl) (by rfl) (xv 0)) (ms_cons (m_fl (by rfl) (by exact (E.ins 0 (by decide)).cl) (by rfl) (xv 0)) ms_nil))) (x_tup (xa_cons (xv 1) (xa_cons (xv 2) xa_nil)) (al_cons (al_cons al_nil))))
  (s_cons (s_asg (m_tp (by rfl) (ms_cons (m_fl (by rfl) (by exact (E.ins 0 (by decide)).cl) (by rfl) (xv 0)) (ms_cons (m_fl (by rfl) (by exact (E.ins 0 (by decide)).cl) (by rfl) (xv 0)) ms_nil))) (x_tup (xa_cons (xv 3) (xa_cons (xv 4) xa_nil)) (al_cons (al_cons al_nil))))
  (s_one (s_asg (m_fl (by rfl) (by exact (E.ins 0 (by decide)).cl) (by rfl) (xv 0)) x_dk))))))))
theorem sc_Book_parts : FnScope N_Book_parts ["self"] (defScope S_Book_parts) := ⟨rfl, rfl, rfl, by decide +kernel, rfl, by decide +kernel, by decide +kernel⟩
def B_Book_parts : SM :=
  sRet (eTup (aCons (eUn (opFld 0 0) (eVar 0)) (aCons (eUn (opFld 0 1) (eVar 0)) (aCons (eUn (opFld 0 2) (eVar 0)) (aCons (eUn (opFld 0 3) (eVar 0)) (aNil))))))
def M_Book_parts : FM := fnT 1 1 B_Book_parts
theorem ok_Book_parts (E : Env P K mg base a fd ca xa ta co) : FnOk P w K mg base (L2.CX P w) 1 (a 17) (fd 17) ["self"] (spM (TT K ca xa ta) 1 M_Book_parts) := by
  refine fn_okT (b := B_Book_parts) (N := N_Book_parts) E.f_Book_parts sc_Book_parts rfl rfl fun cdv A outer s H EE hr => ?_
  unfold B_Book_parts
  exact (s_one (s_ret (x_tup (xa_cons (x_fld (by rfl) (by exact (E.ins 0 (by decide)).cl) (by rfl) (xv 0)) (xa_cons (x_fld (by rfl) (by exact (E.ins 0 (by decide)).cl) (by rfl) (xv 0)) (xa_cons (x_fld (by rfl) (by exact (E.ins 0 (by decide)).cl) (by rfl) (xv 0)) (xa_cons (x_fld (by rfl) (by exact (E.ins 0 (by decide)).cl) (by rfl) (xv 0)) xa_nil)))) (al_cons (al_cons (al_cons (al_cons al_nil)))))))
theorem sc_Book_UeqU : FnScope N_Book_UeqU ["self", "other"] (defScope S_Book_UeqU) := ⟨rfl, rfl, rfl, by decide +kernel, rfl, by decide +kernel, by decide +kernel⟩
def B_Book_UeqU : SM :=
  sRet (eT (tAnd (tIs CS (eVar 1) [(.cls 0)]) (tBin cEq (eMeth 0 M_Book_parts (eVar 0) aNil) (eMeth 0 M_Book_parts (eVar 1) aNil))))
def M_Book_UeqU : FM := fnT 2 2 B_Book_UeqU
theorem ok_Book_UeqU (E : Env P K mg base a fd ca xa ta co) : FnOk P w K mg base (L2.CX P w) 2 (a 16) (fd 16) ["self", "other"] (spM (TT K ca xa ta) 2 M_Book_UeqU) := by
  refine fn_okT (b := B_Book_UeqU) (N := N_Book_UeqU) E.f_Book_UeqU sc_Book_UeqU rfl rfl fun cdv A outer s H EE hr => ?_
  unfold B_Book_UeqU
  exact (s_one (s_ret (x_vand (x_isi (t := (.cls 0)) (by rfl) (by exact E.ins) (by exact E.ty _ (by decide)) (by rfl) (by exact E.n_isinstance) (xv 1) (n_cl (by rfl) (by exact E.g_Book))) (x_vone (x_vcmp (by exact o_eq (by exact hu64 hr)) (x_meth0 (by rfl) (by exact (E.ins 0 (by decide)).cl) (by exact E.m_Book_parts) (by exact ok_Book_parts E) (by exact hr.mono (by decide)) (by exact E.b_Book_parts) (by exact takes_of rfl rfl rfl rfl) (xv 0)) (x_meth0 (by rfl) (by exact (E.ins 0 (by decide)).cl) (by exact E.m_Book_parts) (by exact ok_Book_parts E) (by exact hr.mono (by decide)) (by exact E.b_Book_parts) (by exact takes_of rfl rfl rfl rfl) (xv 1)) (nomark _))))))
theorem sc_u_law_hand : FnScope N_u_law_hand ["script"] (defScope S_u_law_hand) := ⟨rfl, rfl, rfl, by decide +kernel, rfl, by decide +kernel, by decide +kernel⟩
def B_u_law_hand : SM :=
  sSeq (sSet 1 (eFz (lComp [2] (iIt (eSl (eVar 0) none (some (eC (.int 63))))) (.nm 2) (tYes) (eUn opAbs (eUn opInt (eVar 2))))))
  (sRet (eBx (lDisp (aCons (eVar 1) (aCons (eC (.int 0)) (aCons (eC (.int 0)) (aCons (eBin opAdd (eC (.int 901)) (eBin opMul (eC (.int 7)) (eUn opLen (eVar 1)))) (aCons (eC (.int 0)) (aNil)))))))))
def M_u_law_hand : FM := fnM 1 3 B_u_law_hand
theorem ok_u_law_hand (E : Env P K mg base a fd ca xa ta co) : FnOk P w K mg base (L2.CX P w) 1 (a 18) (fd 18) ["script"] (spM (TT K ca xa ta) 1 M_u_law_hand) := by
  refine fn_ok (b := B_u_law_hand) (N := N_u_law_hand) E.f_u_law_hand sc_u_law_hand rfl rfl fun cdv A outer s H EE hr => ?_
  unfold B_u_law_hand
  exact (s_cons (s_setLc (n := 1) (a := aNil) (own := [("cell", 2)]) (by rfl) (by exact sc_u_law_hand.nd) (by rfl) (by rfl) (by exact sw_true rfl rfl rfl (by decide +kernel)) (x_iIt (by rfl) (x_sl (by rfl) (xv 0) x_ono (x_osome x_int))) (by exact blkOk_by (own := [("cell", 2)]) (N := N_u_law_hand) (sc := (defScope S_u_law_hand)) (by decide +kernel)) (by decide) (fun _ _ _ _ _ => (g_nm (i := 2) (by exact sc_u_law_hand.nd) (by rfl) (by exact Or.inl rfl))) (fun _ _ _ _ _ => t_yes) (fun _ _ _ _ _ => (x_callB1 (c_abs) (by rfl) (by exact E.n_abs) PyProof.Rows.boot_abs (x_callT1 (c_int) (by rfl) (by exact E.n_int) PyProof.Rows.boot_int (xv 2)))) false)
  (s_one (s_ret (x_bx (xf_disp (xa_cons (xv 1) (xa_cons x_int (xa_cons x_int (xa_cons (x_bin o_add x_int (x_bin o_mul x_int (x_callB1 (by exact c_len rfl) (by rfl) (by exact E.n_len) PySem.boot_len (xv 1)))) (xa_cons x_int xa_nil))))) (al_cons (al_cons (al_cons (al_cons (al_cons al_nil))))))))))
theorem sc_u_law_draw : FnScope N_u_law_draw ["hand", "below"] (defScope S_u_law_draw) := ⟨rfl, rfl, rfl, by decide +kernel, rfl, by decide +kernel, by decide +kernel⟩
def B_u_law_draw : SM :=
  sSeq (sIf (tAnd (tBin cEq (eBin opIx (eVar 0) (eC (.int 2))) (eC (.int 0))) (tBin cLt (eBin opIx (eVar 0) (eC (.int 1))) (eUn opLen (eBin opIx (eVar 0) (eC (.int 0)))))) (sSeq (sSet 2 (eBin opIx (eBin opIx (eVar 0) (eC (.int 0))) (eBin opIx (eVar 0) (eC (.int 1)))))
  (sSeq (sAsg (gSb (eVar 0) (eC (.int 1))) (eBin opAdd (eBin opIx (eVar 0) (eC (.int 1))) (eC (.int 1))))
  (sSeq (sAsg (gSb (eVar 0) (eC (.int 3))) (eBin opMod (eUn opInt (eBin opAdd (eBin opAdd (eBin opMul (eBin opIx (eVar 0) (eC (.int 3))) (eC (.int 69621))) (eBin opMul (eVar 2) (eC (.int 40692)))) (eC (.int 31)))) (eC (.int 2147483629))))
  (sIf (tBin cGe (eVar 2) (eBin opPow (eC (.int 10)) (eC (.int 18)))) (sAsg (gSb (eVar 0) (eC (.int 2))) (eVar 2)) (sNx))))) (sNx))
  (sSeq (sIf (tBin cGt (eBin opIx (eVar 0) (eC (.int 2))) (eC (.int 0))) (sSeq (sSet 3 (eBin opMod (eUn opInt (eBin opIx (eVar 0) (eC (.int 2)))) (eVar 1)))
  (sSeq (sAsg (gSb (eVar 0) (eC (.int 2))) (eBin opDiv (eBin opIx (eVar 0) (eC (.int 2))) (eVar 1)))
  (sRet (eVar 3)))) (sNx))
  (sSeq (sAsg (gSb (eVar 0) (eC (.int 4))) (eBin opAdd (eBin opIx (eVar 0) (eC (.int 4))) (eC (.int 1))))
  (sSeq (sSet 4 (eBin opMod (eUn opInt (eBin opMul (eUn opInt (eBin opAdd (eBin opIx (eVar 0) (eC (.int 3))) (eBin opMul (eC (.int 7919)) (eBin opIx (eVar 0) (eC (.int 4)))))) (eC (.int 48271)))) (eC (.int 2147483647))))
  (sSeq (sSet 4 (eBin opMod (eUn opInt (eBin opMul (eVar 4) (eBin opAdd (eBin opDiv (eVar 4) (eC (.int 1009))) (eC (.int 69621))))) (eC (.int 2147483647))))
  (sSeq (sSet 4 (eBin opMod (eUn opInt (eBin opMul (eVar 4) (eBin opAdd (eBin opDiv (eVar 4) (eC (.int 2003))) (eC (.int 40014))))) (eC (.int 2147483563))))
  (sRet (eBin opMod (eUn opInt (eBin opDiv (eVar 4) (eC (.int 16)))) (eVar 1))))))))
def M_u_law_draw : FM := fnT 2 5 B_u_law_draw
theorem ok_u_law_draw (E : Env P K mg base a fd ca xa ta co) : FnOk P w K mg base (L2.CX P w) 1 (a 19) (fd 19) ["hand", "below"] (spM (TT K ca xa ta) 2 M_u_law_draw) := by
  refine fn_okT (b := B_u_law_draw) (N := N_u_law_draw) E.f_u_law_draw sc_u_law_draw rfl rfl fun cdv A outer s H EE hr => ?_
  unfold B_u_law_draw
  exact (s_cons (s_if (PW.pt (x_wand (x_tcmp (by exact o_eq (by exact hu64 hr)) (x_ix (by exact i_ix rfl (by exact hu65 hr)) (xv 0) x_int) x_int (nomark _)) (x_wand1 (x_tcmp (by exact o_lt (by exact hu64 hr)) (x_ix (by exact i_ix rfl (by exact hu65 hr)) (xv 0) x_int) (x_callB1 (by exact c_len rfl) (by rfl) (by exact E.n_len) PySem.boot_len (x_ix (by exact i_ix rfl (by exact hu65 hr)) (xv 0) x_int)) (nomark _))))) (s_cons (s_set (i := 2) (by exact sc_u_law_draw.nd) (by rfl) (by exact Or.inl rfl) (x_ix (by exact i_ix rfl (by exact hu65 hr)) (x_ix (by exact i_ix rfl (by exact hu65 hr)) (xv 0) x_int) (x_ix (by exact i_ix rfl (by exact hu65 hr)) (xv 0) x_int)))
  (s_cons (s_asg (m_sb (by exact hu1 hr) (xv 0) x_int) (x_bin o_add (x_ix (by exact i_ix rfl (by exact hu65 hr)) (xv 0) x_int) x_int))
  (s_cons (s_asg (m_sb (by exact hu1 hr) (xv 0) x_int) (x_bin o_mod (x_callT1 (c_int) (by rfl) (by exact E.n_int) PyProof.Rows.boot_int (x_bin o_add (x_bin o_add (x_bin o_mul (x_ix (by exact i_ix rfl (by exact hu65 hr)) (xv 0) x_int) x_int) (x_bin o_mul (xv 2) x_int)) x_int)) x_int))
  (s_one (s_if (x_tcmp (o_ge) (xv 2) (x_bin o_pow x_int x_int) (nomark _)) (s_one (s_asg (m_sb (by exact hu1 hr) (xv 0) x_int) (xv 2))) s_nil))))) s_nil)
  (s_cons (s_if (x_tcmp (o_gt) (x_ix (by exact i_ix rfl (by exact hu65 hr)) (xv 0) x_int) x_int (nomark _)) (s_cons (s_set (i := 3) (by exact sc_u_law_draw.nd) (by rfl) (by exact Or.inl rfl) (x_bin o_mod (x_callT1 (c_int) (by rfl) (by exact E.n_int) PyProof.Rows.boot_int (x_ix (by exact i_ix rfl (by exact hu65 hr)) (xv 0) x_int)) (xv 1)))
  (s_cons (s_asg (m_sb (by exact hu1 hr) (xv 0) x_int) (x_bin o_div (x_ix (by exact i_ix rfl (by exact hu65 hr)) (xv 0) x_int) (xv 1)))
  (s_one (s_ret (xv 3))))) s_nil)
  (s_cons (s_asg (m_sb (by exact hu1 hr) (xv 0) x_int) (x_bin o_add (x_ix (by exact i_ix rfl (by exact hu65 hr)) (xv 0) x_int) x_int))
  (s_cons (s_set (i := 4) (by exact sc_u_law_draw.nd) (by rfl) (by exact Or.inl rfl) (x_bin o_mod (x_callT1 (c_int) (by rfl) (by exact E.n_int) PyProof.Rows.boot_int (x_bin o_mul (x_callT1 (c_int) (by rfl) (by exact E.n_int) PyProof.Rows.boot_int (x_bin o_add (x_ix (by exact i_ix rfl (by exact hu65 hr)) (xv 0) x_int) (x_bin o_mul x_int (x_ix (by exact i_ix rfl (by exact hu65 hr)) (xv 0) x_int)))) x_int)) x_int))
  (s_cons (s_set (i := 4) (by exact sc_u_law_draw.nd) (by rfl) (by exact Or.inl rfl) (x_bin o_mod (x_callT1 (c_int) (by rfl) (by exact E.n_int) PyProof.Rows.boot_int (x_bin o_mul (xv 4) (x_bin o_add (x_bin o_div (xv 4) x_int) x_int))) x_int))
  (s_cons (s_set (i := 4) (by exact sc_u_law_draw.nd) (by rfl) (by exact Or.inl rfl) (x_bin o_mod (x_callT1 (c_int) (by rfl) (by exact E.n_int) PyProof.Rows.boot_int (x_bin o_mul (xv 4) (x_bin o_add (x_bin o_div (xv 4) x_int) x_int))) x_int))
  (s_one (s_ret (x_bin o_mod (x_callT1 (c_int) (by rfl) (by exact E.n_int) PyProof.Rows.boot_int (x_bin o_div (xv 4) x_int)) (xv 1))))))))))
theorem sc_u_law_any : FnScope N_u_law_any ["hand", "some"] (defScope S_u_law_any) := ⟨rfl, rfl, rfl, by decide +kernel, rfl, by decide +kernel, by decide +kernel⟩
def B_u_law_any : SM :=
  sRet (eBin opIx (eVar 1) (eCall M_u_law_draw (aCons (eVar 0) (aCons (eUn opLen (eVar 1)) (aNil)))))
def M_u_law_any : FM := fnT 2 2 B_u_law_any
theorem ok_u_law_any (E : Env P K mg base a fd ca xa ta co) : FnOk P w K mg base (L2.CX P w) 2 (a 20) (fd 20) ["hand", "some"] (spM (TT K ca xa ta) 2 M_u_law_any) := by
  refine fn_okT (b := B_u_law_any) (N := N_u_law_any) E.f_u_law_any sc_u_law_any rfl rfl fun cdv A outer s H EE hr => ?_
  unfold B_u_law_any
  exact (s_one (s_ret (x_ix (by exact i_ix rfl (by exact hu65 hr)) (xv 1) (x_call (by exact ok_u_law_draw E) (by exact hr.mono (by decide)) (by rfl) (by exact E.g_u_law_draw) (by exact E.k_u_law_draw) (by exact E.b_u_law_draw) (by exact takes_of rfl rfl rfl rfl) (al_cons (al_cons al_nil)) (by exact (xa_cons (xv 0) (xa_cons (x_callB1 (by exact c_len rfl) (by rfl) (by exact E.n_len) PySem.boot_len (xv 1)) xa_nil)))))))
theorem sc_u_law_is_int : FnScope N_u_law_is_int ["thing"] (defScope S_u_law_is_int) := ⟨rfl, rfl, rfl, by decide +kernel, rfl, by decide +kernel, by decide +kernel⟩
def B_u_law_is_int : SM :=
  sRet (eT (tAnd (tIs CS (eVar 0) [.int]) (tNot (tIs CS (eVar 0) [.bool]))))
def M_u_law_is_int : FM := fnT 1 1 B_u_law_is_int
theorem ok_u_law_is_int (E : Env P K mg base a fd ca xa ta co) : FnOk P w K mg base (L2.CX P w) 1 (a 21) (fd 21) ["thing"] (spM (TT K ca xa ta) 1 M_u_law_is_int) := by
  refine fn_okT (b := B_u_law_is_int) (N := N_u_law_is_int) E.f_u_law_is_int sc_u_law_is_int rfl rfl fun cdv A outer s H EE hr => ?_
  unfold B_u_law_is_int
  exact (s_one (s_ret (x_vand (x_isi (t := .int) (by rfl) (by exact E.ins) (by exact E.ty _ (by decide)) (by rfl) (by exact E.n_isinstance) (xv 0) (n_bt (by rfl) (by exact E.n_int) PyProof.Rows.boot_int)) (x_vone (x_vnot (x_isi (t := .bool) (by rfl) (by exact E.ins) (by exact E.ty _ (by decide)) (by rfl) (by exact E.n_isinstance) (xv 0) (n_bt (by rfl) (by exact E.n_bool) PyProof.Rows.boot_bool)))))))
theorem sc_u_law_overs : FnScope N_u_law_overs ["hand", "count", "hidden", "most"] (defScope S_u_law_overs) := ⟨rfl, rfl, rfl, by decide +kernel, rfl, by decide +kernel, by decide +kernel⟩
def B_u_law_overs : SM :=
  sSeq (sSet 4 (eBx (lDisp (aNil))))
  (sSeq (sFor (iRng1 (eCall M_u_law_draw (aCons (eVar 0) (aCons (eBin opAdd (eVar 3) (eC (.int 1))) (aNil))))) (.nm 5) (sSeq (sPar [6, 7] (aCons (eCall M_u_law_draw (aCons (eVar 0) (aCons (eVar 1) (aNil)))) (aCons (eCall M_u_law_draw (aCons (eVar 0) (aCons (eVar 1) (aNil)))) (aNil))))
  (sIf (tBin cNe (eVar 6) (eVar 7)) (sSeq (sSet 8 (eT (tOr (tIsN (eVar 2)) (tBin cLt (eMbV opIndex (eVar 2) (eVar 7)) (eMbV opIndex (eVar 2) (eVar 6))))))
  (sDrop (eMb1 mApp (eVar 4) (eIf (tE (eVar 8)) (eTup (aCons (eVar 6) (aCons (eVar 7) (aNil)))) (eTup (aCons (eVar 7) (aCons (eVar 6) (aNil)))))))) (sNx))))
  (sRet (eUn opTuple (eUn opSrt (eUn opDictT (eFz (lComp [9] (iIt (eVar 4)) (.nm 9) (tYes) (eTup (aCons (eVar 9) (aCons (eC (.bl true)) (aNil)))))))))))
def M_u_law_overs : FM := fnT 4 10 B_u_law_overs
theorem ok_u_law_overs (E : Env P K mg base a fd ca xa ta co) : FnOk P w K mg base (L2.CX P w) 2 (a 22) (fd 22) ["hand", "count", "hidden", "most"] (spM (TT K ca xa ta) 4 M_u_law_overs) := by
  refine fn_okT (b := B_u_law_overs) (N := N_u_law_overs) E.f_u_law_overs sc_u_law_overs rfl rfl fun cdv A outer s H EE hr => ?_
  unfold B_u_law_overs
  exact (s_cons (s_set (i := 4) (by exact sc_u_law_overs.nd) (by rfl) (by exact Or.inl rfl) (x_bx (xf_disp xa_nil al_nil)))
  (s_cons (s_for (by exact passes_of rfl) (by rfl) (x_iRng1 (by rfl) (by exact E.n_range) (x_call (by exact ok_u_law_draw E) (by exact hr.mono (by decide)) (by rfl) (by exact E.g_u_law_draw) (by exact E.k_u_law_draw) (by exact E.b_u_law_draw) (by exact takes_of rfl rfl rfl rfl) (al_cons (al_cons al_nil)) (by exact (xa_cons (xv 0) (xa_cons (x_bin o_add (xv 3) x_int) xa_nil))))) (g_nm (i := 5) (by exact sc_u_law_overs.nd) (by rfl) (by exact Or.inl rfl)) (s_cons (s_par (i := 6) (j := 7) (by rfl) (by exact sc_u_law_overs.nd) (by rfl) (by rfl) (by decide) (by rfl) (by rfl) (by exact (xa_cons (x_call (by exact ok_u_law_draw E) (by exact hr.mono (by decide)) (by rfl) (by exact E.g_u_law_draw) (by exact E.k_u_law_draw) (by exact E.b_u_law_draw) (by exact takes_of rfl rfl rfl rfl) (al_cons (al_cons al_nil)) (by exact (xa_cons (xv 0) (xa_cons (xv 1) xa_nil)))) (xa_cons (x_call (by exact ok_u_law_draw E) (by exact hr.mono (by decide)) (by rfl) (by exact E.g_u_law_draw) (by exact E.k_u_law_draw) (by exact E.b_u_law_draw) (by exact takes_of rfl rfl rfl rfl) (al_cons (al_cons al_nil)) (by exact (xa_cons (xv 0) (xa_cons (xv 1) xa_nil)))) xa_nil))) (by rfl))
  (s_one (s_if (x_tcmp (by exact o_ne (by exact hu64 hr)) (xv 6) (xv 7) (nomark _)) (s_cons (s_set (i := 8) (by exact sc_u_law_overs.nd) (by rfl) (by exact Or.inl rfl) (x_vor (x_visN (xv 2)) (x_vone (x_vcmp (by exact o_lt (by exact hu64 hr)) (x_mbV PySem.F.slot_list_index PySem.F.type_list_index (by exact mv_index rfl (by exact hu65 hr)) (xv 2) (xv 7)) (x_mbV PySem.F.slot_list_index PySem.F.type_list_index (by exact mv_index rfl (by exact hu65 hr)) (xv 2) (xv 6)) (nomark _)))))
  (s_one (s_drop (x_mb1 calm_app PySem.F.slot_list_append PySem.F.type_list_append mb_app (xv 4) (x_if (x_pt (x_asT (xv 8))) (x_tup (xa_cons (xv 6) (xa_cons (xv 7) xa_nil)) (al_cons (al_cons al_nil))) (x_tup (xa_cons (xv 7) (xa_cons (xv 6) xa_nil)) (al_cons (al_cons al_nil)))))))) s_nil))))
  (s_one (s_ret (x_callT1 (by exact c_tuple rfl) (by rfl) (by exact E.n_tuple) PyProof.Rows.boot_tuple (x_callB1 (by exact c_srt rfl (hu200 hr)) (by rfl) (by exact E.n_sorted) PyProof.Rows.boot_sorted (x_callT1 (by exact c_dictT rfl rfl (by exact hu65 hr)) (by rfl) (by exact E.n_dict) PyProof.Rows.boot_dict (x_fz (xf_lc (own := [("pair", 9)]) (by rfl) (by exact sc_u_law_overs.nd) (x_iIt (by rfl) (xv 4)) (by exact blkOk_by (own := [("pair", 9)]) (N := N_u_law_overs) (sc := (defScope S_u_law_overs)) (by decide +kernel)) (by decide) (fun _ _ _ _ _ => (g_nm (i := 9) (by exact sc_u_law_overs.nd) (by rfl) (by exact Or.inl rfl))) (fun _ _ _ _ _ => t_yes) (fun _ _ _ _ _ => (x_tup (xa_cons (xv 9) (xa_cons x_bl xa_nil)) (al_cons (al_cons al_nil)))))))))))))
theorem sc_u_law_mixed : FnScope N_u_law_mixed ["hand", "things"] (defScope S_u_law_mixed) := ⟨rfl, rfl, rfl, by decide +kernel, rfl, by decide +kernel, by decide +kernel⟩
def B_u_law_mixed : SM :=
  sSeq (sPar [2, 3] (aCons (eBx (lList (eVar 1))) (aCons (eBx (lDisp (aNil))) (aNil))))
  (sSeq (sWhile 1000000 (tBin cGt (eUn opLen (eVar 2)) (eC (.int 0))) (sDrop (eMb1 mApp (eVar 3) (eMb1 mPopI (eVar 2) (eCall M_u_law_draw (aCons (eVar 0) (aCons (eUn opLen (eVar 2)) (aNil))))))))
  (sRet (eVar 3)))
def M_u_law_mixed : FM := fnT 2 4 B_u_law_mixed
theorem ok_u_law_mixed (E : Env P K mg base a fd ca xa ta co) : FnOk P w K mg base (L2.CX P w) 2 (a 23) (fd 23) ["hand", "things"] (spM (TT K ca xa ta) 2 M_u_law_mixed) := by
  refine fn_okT (b := B_u_law_mixed) (N := N_u_law_mixed) E.f_u_law_mixed sc_u_law_mixed rfl rfl fun cdv A outer s H EE hr => ?_
  unfold B_u_law_mixed
  exact (s_cons (s_par (i := 2) (j := 3) (by rfl) (by exact sc_u_law_mixed.nd) (by rfl) (by rfl) (by decide) (by rfl) (by rfl) (by exact (xa_cons (x_bx (xf_list (by rfl) (by rfl) (by exact E.n_list) (xv 1))) (xa_cons (x_bx (xf_disp xa_nil al_nil)) xa_nil))) (by rfl))
  (s_cons (s_while 1000000 (by exact passes_of rfl) (x_tcmp (o_gt) (x_callB1 (by exact c_len rfl) (by rfl) (by exact E.n_len) PySem.boot_len (xv 2)) x_int (nomark _)) (s_one (s_drop (x_mb1 calm_app PySem.F.slot_list_append PySem.F.type_list_append mb_app (xv 3) (x_mb1 calm_popI PySem.F.slot_list_pop PySem.F.type_list_pop mb_popI (xv 2) (x_call (by exact ok_u_law_draw E) (by exact hr.mono (by decide)) (by rfl) (by exact E.g_u_law_draw) (by exact E.k_u_law_draw) (by exact E.b_u_law_draw) (by exact takes_of rfl rfl rfl rfl) (al_cons (al_cons al_nil)) (by exact (xa_cons (xv 0) (xa_cons (x_callB1 (by exact c_len rfl) (by rfl) (by exact E.n_len) PySem.boot_len (xv 2)) xa_nil)))))))))
  (s_one (s_ret (xv 3)))))
theorem sc_u_law_bare : FnScope N_u_law_bare ["count", "overs"] (defScope S_u_law_bare) := ⟨rfl, rfl, rfl, by decide +kernel, rfl, by decide +kernel, by decide +kernel⟩
def B_u_law_bare : SM :=
  sRet (eCall (mkT 0 M_Book_UinitU) (aCons (eVar 0) (aCons (eVar 1) (aCons (eBin opMul (eTup (aCons (eTup (aCons (eC .non) (aCons (eC .non) (aNil)))) (aNil))) (eVar 0)) (aCons (eTup (aNil)) (aNil))))))
def M_u_law_bare : FM := fnT 2 2 B_u_law_bare
theorem ok_u_law_bare (E : Env P K mg base a fd ca xa ta co) : FnOk P w K mg base (L2.CX P w) 7 (a 24) (fd 24) ["count", "overs"] (spM (TT K ca xa ta) 2 M_u_law_bare) := by
  refine fn_okT (b := B_u_law_bare) (N := N_u_law_bare) E.f_u_law_bare sc_u_law_bare rfl rfl fun cdv A outer s H EE hr => ?_
  unfold B_u_law_bare
  exact (s_one (s_ret (x_make (c := 0) (by exact E.mk_Book) (by exact ok_Book_UinitU E) (by exact hr.mono (by decide)) (by rfl) (by exact E.g_Book) (by exact E.b_Book_UinitU) (by exact takes_of rfl rfl rfl rfl) (al_cons (al_cons (al_cons (al_cons al_nil)))) (by exact (xa_cons (xv 0) (xa_cons (xv 1) (xa_cons (x_bin o_mul (x_tup (xa_cons (x_tup (xa_cons x_non (xa_cons x_non xa_nil)) (al_cons (al_cons al_nil))) xa_nil) (al_cons al_nil)) (xv 0)) (xa_cons (x_tup xa_nil al_nil) xa_nil))))))))
theorem sc_u_law_is_lot : FnScope N_u_law_is_lot ["thing", "count"] (defScope S_u_law_is_lot) := ⟨rfl, rfl, rfl, by decide +kernel, rfl, by decide +kernel, by decide +kernel⟩
def B_u_law_is_lot : SM :=
  sSeq (sIf (tOr (tNot (tIs CS (eVar 0) [.tuple])) (tNot (tE (eUn opAll (eFz (lComp [2] (iIt (eVar 0)) (.nm 2) (tYes) (eT (tAnd (tE (eCall M_u_law_is_int (aCons (eVar 2) (aNil)))) (tChain cLe cLt (eC (.int 0)) (eVar 2) (eVar 1)))))))))) (sRet (eC (.bl false))) (sNx))
  (sRet (eUn opAll (eFz (lComp [2, 3] (iZip (eVar 0) (eSl (eVar 0) (some (eC (.int 1))) none)) (.tp [.nm 2, .nm 3]) (tYes) (eT (tBin cLt (eVar 2) (eVar 3)))))))
def M_u_law_is_lot : FM := fnT 2 4 B_u_law_is_lot
theorem ok_u_law_is_lot (E : Env P K mg base a fd ca xa ta co) : FnOk P w K mg base (L2.CX P w) 2 (a 25) (fd 25) ["thing", "count"] (spM (TT K ca xa ta) 2 M_u_law_is_lot) := by
  refine fn_okT (b := B_u_law_is_lot) (N := N_u_law_is_lot) E.f_u_law_is_lot sc_u_law_is_lot rfl rfl fun cdv A outer s H EE hr => ?_
  unfold B_u_law_is_lot
  exact (s_cons (s_if (PW.pt (x_wor (x_tnot (x_pt (x_isi (t := .tuple) (by rfl) (by exact E.ins) (by exact E.ty _ (by decide)) (by rfl) (by exact E.n_isinstance) (xv 0) (n_bt (by rfl) (by exact E.n_tuple) PyProof.Rows.boot_tuple)))) (x_wor1 (x_tnot (x_pt (x_asT (x_callB1 (by exact c_all rfl) (by rfl) (by exact E.n_all) PyProof.Rows.boot_all (x_fz (xf_lc (own := [("one", 2)]) (by rfl) (by exact sc_u_law_is_lot.nd) (x_iIt (by rfl) (xv 0)) (by exact blkOk_by (own := [("one", 2)]) (N := N_u_law_is_lot) (sc := (defScope S_u_law_is_lot)) (by decide +kernel)) (by decide) (fun _ _ _ _ _ => (g_nm (i := 2) (by exact sc_u_law_is_lot.nd) (by rfl) (by exact Or.inl rfl))) (fun _ _ _ _ _ => t_yes) (fun _ _ _ _ _ => (x_vand (x_asT (x_call (by exact ok_u_law_is_int E) (by exact hr.mono (by decide)) (by rfl) (by exact E.g_u_law_is_int) (by exact E.k_u_law_is_int) (by exact E.b_u_law_is_int) (by exact takes0) (al_cons al_nil) (by exact (xa_cons (xv 2) xa_nil)))) (x_vone (x_vchain (o_le) (by exact o_lt (by exact hu64 hr)) x_int (xv 2) (xv 1)))))))))))))) (s_one (s_ret x_bl)) s_nil)
  (s_one (s_ret (x_callB1 (by exact c_all rfl) (by rfl) (by exact E.n_all) PyProof.Rows.boot_all (x_fz (xf_lc (own := [("one", 2), ("other", 3)]) (by rfl) (by exact sc_u_law_is_lot.nd) (x_iZip (by rfl) (by rfl) (by exact E.n_zip) (xv 0) (x_sl (by rfl) (xv 0) (x_osome x_int) x_ono)) (by exact blkOk_by (own := [("one", 2), ("other", 3)]) (N := N_u_law_is_lot) (sc := (defScope S_u_law_is_lot)) (by decide +kernel)) (by decide) (fun _ _ _ _ _ => (g_tp (by rfl) (gs_cons (g_nm (i := 2) (by exact sc_u_law_is_lot.nd) (by rfl) (by exact Or.inl rfl)) (gs_cons (g_nm (i := 3) (by exact sc_u_law_is_lot.nd) (by rfl) (by exact Or.inl rfl)) gs_nil)))) (fun _ _ _ _ _ => t_yes) (fun _ _ _ _ _ => (x_vcmp (by exact o_lt (by exact hu64 hr)) (xv 2) (xv 3) (nomark _)))))))))
theorem sc_u_law_needed : FnScope N_u_law_needed ["overs", "wanted"] (defScope S_u_law_needed) := ⟨rfl, rfl, rfl, by decide +kernel, rfl, by decide +kernel, by decide +kernel⟩
def B_u_law_needed : SM :=
  sSeq (sPat (.tp [.nm 2, .nm 3]) (eTup (aCons (eUn opList (eVar 1)) (aCons (eC (.int 0)) (aNil)))))
  (sSeq (sWhile 1000000 (tBin cLt (eVar 3) (eUn opLen (eVar 2))) (sSeq (sSet 4 (eFz (lComp [5, 6] (iIt (eVar 0)) (.tp [.nm 5, .nm 6]) (tBin cEq (eVar 6) (eBin opIx (eVar 2) (eVar 3))) (eVar 5))))
  (sPat (.tp [.nm 2, .nm 3]) (eTup (aCons (eBin opAdd (eVar 2) (eFz (lComp [7] (iIt (eVar 4)) (.nm 7) (tBin cNotIn (eVar 7) (eVar 2)) (eVar 7)))) (aCons (eBin opAdd (eVar 3) (eC (.int 1))) (aNil)))))))
  (sRet (eUn opTuple (eUn opSrt (eVar 2)))))
def M_u_law_needed : FM := fnT 2 8 B_u_law_needed
theorem ok_u_law_needed (E : Env P K mg base a fd ca xa ta co) : FnOk P w K mg base (L2.CX P w) 1 (a 26) (fd 26) ["overs", "wanted"] (spM (TT K ca xa ta) 2 M_u_law_needed) := by
  refine fn_okT (b := B_u_law_needed) (N := N_u_law_needed) E.f_u_law_needed sc_u_law_needed rfl rfl fun cdv A outer s H EE hr => ?_
  unfold B_u_law_needed
  exact (s_cons (s_pat (g_tp (by rfl) (gs_cons (g_nm (i := 2) (by exact sc_u_law_needed.nd) (by rfl) (by exact Or.inr rfl)) (gs_cons (g_nm (i := 3) (by exact sc_u_law_needed.nd) (by rfl) (by exact Or.inr rfl)) gs_nil))) (x_tup (xa_cons (x_callT1 (by exact c_list rfl) (by rfl) (by exact E.n_list) PyProof.Rows.boot_list (xv 1)) (xa_cons x_int xa_nil)) (al_cons (al_cons al_nil))))
  (s_cons (s_while 1000000 (by exact passes_of rfl) (x_tcmp (by exact o_lt (by exact hu64 hr)) (xv 3) (x_callB1 (by exact c_len rfl) (by rfl) (by exact E.n_len) PySem.boot_len (xv 2)) (nomark _)) (s_cons (s_setLc (n := 4) (a := aNil) (own := [("a", 5), ("b", 6)]) (by rfl) (by exact sc_u_law_needed.nd) (by rfl) (by rfl) (by exact sw_true rfl rfl rfl (by decide +kernel)) (x_iIt (by rfl) (xv 0)) (by exact blkOk_by (own := [("a", 5), ("b", 6)]) (N := N_u_law_needed) (sc := (defScope S_u_law_needed)) (by decide +kernel)) (by decide) (fun _ _ _ _ _ => (g_tp (by rfl) (gs_cons (g_nm (i := 5) (by exact sc_u_law_needed.nd) (by rfl) (by exact Or.inl rfl)) (gs_cons (g_nm (i := 6) (by exact sc_u_law_needed.nd) (by rfl) (by exact Or.inl rfl)) gs_nil)))) (fun _ _ _ _ _ => (pts_one (x_tcmp (by exact o_eq (by exact hu64 hr)) (xv 6) (x_ix (by exact i_ix rfl (by exact hu65 hr)) (xv 2) (xv 3)) (nomark _)))) (fun _ _ _ _ _ => (xv 5)) false)
  (s_one (s_pat (g_tp (by rfl) (gs_cons (g_nm (i := 2) (by exact sc_u_law_needed.nd) (by rfl) (by exact Or.inr rfl)) (gs_cons (g_nm (i := 3) (by exact sc_u_law_needed.nd) (by rfl) (by exact Or.inr rfl)) gs_nil))) (x_tup (xa_cons (x_bin o_add (xv 2) (x_fz (xf_lc (own := [("one", 7)]) (by rfl) (by exact sc_u_law_needed.nd) (x_iIt (by rfl) (xv 4)) (by exact blkOk_by (own := [("one", 7)]) (N := N_u_law_needed) (sc := (defScope S_u_law_needed)) (by decide +kernel)) (by decide) (fun _ _ _ _ _ => (g_nm (i := 7) (by exact sc_u_law_needed.nd) (by rfl) (by exact Or.inl rfl))) (fun _ _ _ _ _ => (pts_one (x_tcmp (by exact o_notin rfl (by exact hu65 hr)) (xv 7) (xv 2) (by rfl)))) (fun _ _ _ _ _ => (xv 7))))) (xa_cons (x_bin o_add (xv 3) x_int) xa_nil)) (al_cons (al_cons al_nil)))))))
  (s_one (s_ret (x_callT1 (by exact c_tuple rfl) (by rfl) (by exact E.n_tuple) PyProof.Rows.boot_tuple (x_callB1 (by exact c_srt rfl (hu200 hr)) (by rfl) (by exact E.n_sorted) PyProof.Rows.boot_sorted (xv 2)))))))
theorem sc_u_law_is_plan : FnScope N_u_law_is_plan ["overs", "count", "crews", "wanted", "thing"] (defScope S_u_law_is_plan) := ⟨rfl, rfl, rfl, by decide +kernel, rfl, by decide +kernel, by decide +kernel⟩
def B_u_law_is_plan : SM :=
  sSeq (sIf (tOr (tNot (tIs CS (eVar 4) [.tuple])) (tNot (tE (eUn opAll (eFz (lComp [5] (iIt (eVar 4)) (.nm 5) (tYes) (eT (tAnd (tE (eCall M_u_law_is_lot (aCons (eVar 5) (aCons (eVar 1) (aNil))))) (tChain cLe cLe (eC (.int 1)) (eUn opLen (eVar 5)) (eVar 2)))))))))) (sRet (eC (.bl false))) (sNx))
  (sSeq (sSet 6 (eFz (lDisp (aNil))))
  (sSeq (sFor (iIt (eVar 4)) (.nm 5) (sSeq (sIf (tE (eUn opAny (eFz (lComp [7] (iIt (eVar 5)) (.nm 7) (tYes) (eT (tOr (tBin cIn (eVar 7) (eVar 6)) (tE (eUn opAny (eFz (lComp [8, 9] (iIt (eVar 0)) (.tp [.nm 8, .nm 9]) (tYes) (eT (tAnd (tBin cEq (eVar 9) (eVar 7)) (tBin cNotIn (eVar 8) (eVar 6)))))))))))))) (sRet (eC (.bl false))) (sNx))
  (sSet 6 (eBin opAdd (eVar 6) (eUn opList (eVar 5))))))
  (sRet (eUn opAll (eFz (lComp [7] (iIt (eVar 3)) (.nm 7) (tYes) (eT (tBin cIn (eVar 7) (eVar 6)))))))))
def M_u_law_is_plan : FM := fnT 5 10 B_u_law_is_plan
theorem ok_u_law_is_plan (E : Env P K mg base a fd ca xa ta co) : FnOk P w K mg base (L2.CX P w) 3 (a 27) (fd 27) ["overs", "count", "crews", "wanted", "thing"] (spM (TT K ca xa ta) 5 M_u_law_is_plan) := by
  refine fn_okT (b := B_u_law_is_plan) (N := N_u_law_is_plan) E.f_u_law_is_plan sc_u_law_is_plan rfl rfl fun cdv A outer s H EE hr => ?_
  unfold B_u_law_is_plan
  exact (s_cons (s_if (PW.pt (x_wor (x_tnot (x_pt (x_isi (t := .tuple) (by rfl) (by exact E.ins) (by exact E.ty _ (by decide)) (by rfl) (by exact E.n_isinstance) (xv 4) (n_bt (by rfl) (by exact E.n_tuple) PyProof.Rows.boot_tuple)))) (x_wor1 (x_tnot (x_pt (x_asT (x_callB1 (by exact c_all rfl) (by rfl) (by exact E.n_all) PyProof.Rows.boot_all (x_fz (xf_lc (own := [("day", 5)]) (by rfl) (by exact sc_u_law_is_plan.nd) (x_iIt (by rfl) (xv 4)) (by exact blkOk_by (own := [("day", 5)]) (N := N_u_law_is_plan) (sc := (defScope S_u_law_is_plan)) (by decide +kernel)) (by decide) (fun _ _ _ _ _ => (g_nm (i := 5) (by exact sc_u_law_is_plan.nd) (by rfl) (by exact Or.inl rfl))) (fun _ _ _ _ _ => t_yes) (fun _ _ _ _ _ => (x_vand (x_asT (x_call (by exact ok_u_law_is_lot E) (by exact hr.mono (by decide)) (by rfl) (by exact E.g_u_law_is_lot) (by exact E.k_u_law_is_lot) (by exact E.b_u_law_is_lot) (by exact takes0) (al_cons (al_cons al_nil)) (by exact (xa_cons (xv 5) (xa_cons (xv 1) xa_nil))))) (x_vone (x_vchain (o_le) (o_le) x_int (x_callB1 (by exact c_len rfl) (by rfl) (by exact E.n_len) PySem.boot_len (xv 5)) (xv 2)))))))))))))) (s_one (s_ret x_bl)) s_nil)
  (s_cons (s_set (i := 6) (by exact sc_u_law_is_plan.nd) (by rfl) (by exact Or.inr rfl) (x_fz (xf_disp xa_nil al_nil)))
  (s_cons (s_for (by exact passes_of rfl) (by rfl) (x_iIt (by rfl) (xv 4)) (g_nm (i := 5) (by exact sc_u_law_is_plan.nd) (by rfl) (by exact Or.inl rfl)) (s_cons (s_if (x_pt (x_asT (x_callB1 (by exact c_any rfl) (by rfl) (by exact E.n_any) PyProof.Rows.boot_any (x_fz (xf_lc (own := [("layer", 7)]) (by rfl) (by exact sc_u_law_is_plan.nd) (x_iIt (by rfl) (xv 5)) (by exact blkOk_by (own := [("layer", 7)]) (N := N_u_law_is_plan) (sc := (defScope S_u_law_is_plan)) (by decide +kernel)) (by decide) (fun _ _ _ _ _ => (g_nm (i := 7) (by exact sc_u_law_is_plan.nd) (by rfl) (by exact Or.inr rfl))) (fun _ _ _ _ _ => t_yes) (fun _ _ _ _ _ => (x_vor (x_vcmp (by exact o_in rfl (by exact hu65 hr)) (xv 7) (xv 6) (by rfl)) (x_vone (x_asT (x_callB1 (by exact c_any rfl) (by rfl) (by exact E.n_any) PyProof.Rows.boot_any (by exact (x_fz (xf_lc (own := [("a", 8), ("b", 9)]) (by rfl) (by exact sc_u_law_is_plan.nd) (x_iIt (by rfl) (xv 0)) (by exact blkOk_by (own := [("a", 8), ("b", 9)]) (N := N_u_law_is_plan) (by kernel_rfl)) (by decide) (fun _ _ _ _ _ => (g_tp (by rfl) (gs_cons (g_nm (i := 8) (by exact sc_u_law_is_plan.nd) (by rfl) (by exact Or.inl rfl)) (gs_cons (g_nm (i := 9) (by exact sc_u_law_is_plan.nd) (by rfl) (by exact Or.inl rfl)) gs_nil)))) (fun _ _ _ _ _ => t_yes) (fun _ _ _ _ _ => (x_vand (x_vcmp (by exact o_eq (by exact hu64 hr)) (xv 9) (xv 7) (nomark _)) (x_vone (x_vcmp (by exact o_notin rfl (by exact hu65 hr)) (xv 8) (xv 6) (by rfl)))))))))))))))))) (s_one (s_ret x_bl)) s_nil)
  (s_one (s_set (i := 6) (by exact sc_u_law_is_plan.nd) (by rfl) (by exact Or.inr rfl) (x_bin o_add (xv 6) (x_callT1 (by exact c_list rfl) (by rfl) (by exact E.n_list) PyProof.Rows.boot_list (xv 5)))))))
  (s_one (s_ret (x_callB1 (by exact c_all rfl) (by rfl) (by exact E.n_all) PyProof.Rows.boot_all (x_fz (xf_lc (own := [("layer", 7)]) (by rfl) (by exact sc_u_law_is_plan.nd) (x_iIt (by rfl) (xv 3)) (by exact blkOk_by (own := [("layer", 7)]) (N := N_u_law_is_plan) (sc := (defScope S_u_law_is_plan)) (by decide +kernel)) (by decide) (fun _ _ _ _ _ => (g_nm (i := 7) (by exact sc_u_law_is_plan.nd) (by rfl) (by exact Or.inl rfl))) (fun _ _ _ _ _ => t_yes) (fun _ _ _ _ _ => (x_vcmp (by exact o_in rfl (by exact hu65 hr)) (xv 7) (xv 6) (by rfl)))))))))))
theorem sc_u_law_odd_set : FnScope N_u_law_odd_set ["hand", "count", "wanted"] (defScope S_u_law_odd_set) := ⟨rfl, rfl, rfl, by decide +kernel, rfl, by decide +kernel, by decide +kernel⟩
def B_u_law_odd_set : SM :=
  sSeq (sSet 3 (eFz (lDisp (aCons (eVar 1) (aCons (eUn opNeg (eC (.int 1))) (aCons (eC (.bl true)) (aCons (eC .non) (aCons (eC (.str "0")) (aCons (eTup (aCons (eC (.int 0)) (aNil))) (aNil))))))))))
  (sSeq (sSet 4 (eFz (lDisp (aCons (eBin opAdd (eVar 2) (eTup (aCons (eCall M_u_law_any (aCons (eVar 0) (aCons (eVar 3) (aNil)))) (aNil)))) (aCons (eTup (aCons (eC (.int 0)) (aCons (eC (.int 0)) (aNil)))) (aCons (eBin opAdd (eUn opRev (eVar 2)) (eTup (aCons (eVar 1) (aNil)))) (aCons (eUn opList (eVar 2)) (aCons (eC .non) (aCons (eC (.int 0)) (aCons (eC (.str "")) (aCons (eDk) (aNil))))))))))))
  (sRet (eCall M_u_law_any (aCons (eVar 0) (aCons (eBin opAdd (eVar 4) (eFz (lDisp (aCons (eTup (aCons (eVar 2) (aNil))) (aCons (eBin opAdd (eTup (aCons (eCall M_u_law_any (aCons (eVar 0) (aCons (eVar 3) (aNil)))) (aNil))) (eVar 2)) (aCons (eIf (tBin cGt (eVar 1) (eC (.int 1))) (eTup (aCons (eC (.int 1)) (aCons (eC (.int 0)) (aNil)))) (eTup (aCons (eC (.int 0)) (aCons (eC (.int 0)) (aNil))))) (aNil))))))) (aNil))))))
def M_u_law_odd_set : FM := fnT 3 5 B_u_law_odd_set
theorem ok_u_law_odd_set (E : Env P K mg base a fd ca xa ta co) : FnOk P w K mg base (L2.CX P w) 3 (a 28) (fd 28) ["hand", "count", "wanted"] (spM (TT K ca xa ta) 3 M_u_law_odd_set) := by
  refine fn_okT (b := B_u_law_odd_set) (N := N_u_law_odd_set) E.f_u_law_odd_set sc_u_law_odd_set rfl rfl fun cdv A outer s H EE hr => ?_
  unfold B_u_law_odd_set
  exact (s_cons (s_set (i := 3) (by exact sc_u_law_odd_set.nd) (by rfl) (by exact Or.inl rfl) (x_fz (xf_disp (xa_cons (xv 1) (xa_cons (x_un u_neg x_int) (xa_cons x_bl (xa_cons x_non (xa_cons x_str (xa_cons (x_tup (xa_cons x_int xa_nil) (al_cons al_nil)) xa_nil)))))) (al_cons (al_cons (al_cons (al_cons (al_cons (al_cons al_nil)))))))))
  (s_cons (s_set (i := 4) (by exact sc_u_law_odd_set.nd) (by rfl) (by exact Or.inl rfl) (x_fz (xf_disp (xa_cons (x_bin o_add (xv 2) (x_tup (xa_cons (x_call (by exact ok_u_law_any E) (by exact hr.mono (by decide)) (by rfl) (by exact E.g_u_law_any) (by exact E.k_u_law_any) (by exact E.b_u_law_any) (by exact takes_of rfl rfl rfl rfl) (al_cons (al_cons al_nil)) (by exact (xa_cons (xv 0) (xa_cons (xv 3) xa_nil)))) xa_nil) (al_cons al_nil))) (xa_cons (x_tup (xa_cons x_int (xa_cons x_int xa_nil)) (al_cons (al_cons al_nil))) (xa_cons (x_bin o_add (x_rev (xv 2)) (x_tup (xa_cons (xv 1) xa_nil) (al_cons al_nil))) (xa_cons (x_callT1 (by exact c_list rfl) (by rfl) (by exact E.n_list) PyProof.Rows.boot_list (xv 2)) (xa_cons x_non (xa_cons x_int (xa_cons x_str (xa_cons x_dk xa_nil)))))))) (al_cons (al_cons (al_cons (al_cons (al_cons (al_cons (al_cons (al_cons al_nil)))))))))))
  (s_one (s_ret (x_call (by exact ok_u_law_any E) (by exact hr.mono (by decide)) (by rfl) (by exact E.g_u_law_any) (by exact E.k_u_law_any) (by exact E.b_u_law_any) (by exact takes_of rfl rfl rfl rfl) (al_cons (al_cons al_nil)) (by exact (xa_cons (xv 0) (xa_cons (x_bin o_add (xv 4) (x_fz (xf_disp (xa_cons (x_tup (xa_cons (xv 2) xa_nil) (al_cons al_nil)) (xa_cons (x_bin o_add (x_tup (xa_cons (x_call (by exact ok_u_law_any E) (by exact hr.mono (by decide)) (by rfl) (by exact E.g_u_law_any) (by exact E.k_u_law_any) (by exact E.b_u_law_any) (by exact takes_of rfl rfl rfl rfl) (al_cons (al_cons al_nil)) (by exact (xa_cons (xv 0) (xa_cons (xv 3) xa_nil)))) xa_nil) (al_cons al_nil)) (xv 2)) (xa_cons (x_if (x_tcmp (o_gt) (xv 1) x_int (nomark _)) (x_tup (xa_cons x_int (xa_cons x_int xa_nil)) (al_cons (al_cons al_nil))) (x_tup (xa_cons x_int (xa_cons x_int xa_nil)) (al_cons (al_cons al_nil)))) xa_nil))) (al_cons (al_cons (al_cons al_nil)))))) xa_nil))))))))
theorem sc_u_law_word : FnScope N_u_law_word ["call"] (defScope S_u_law_word) := ⟨rfl, rfl, rfl, by decide +kernel, rfl, by decide +kernel, by decide +kernel⟩
def B_u_law_word (act : HD → Res D) : SM :=
  sSeq (sSet 1 (eC (.str "let")))
  (sSeq (sTryF SB 4 0 2 (sDrop (eAct act)) (sSeq (sSet 3 (eFz (lDisp (aCons (eT (tIsX SB 2 2)) (aCons (eT (tIsX SB 2 3)) (aCons (eT (tIsX SB 2 4)) (aNil)))))))
  (sSeq (sSet 1 (eIf (tBin cEq (eMbV opCount (eVar 3) (eC (.bl true))) (eC (.int 1))) (eBin opIx (eFz (lDisp (aCons (eC (.str "set")) (aCons (eC (.str "crews")) (aCons (eC (.str "many")) (aNil)))))) (eMbV opIndex (eVar 3) (eC (.bl true)))) (eC (.str "other"))))
  (sSeq (sSet 1 (eIf (tBin cEq (eVar 1) (eC (.str "many"))) (eBad) (eVar 1)))
  (sSet 1 (eIf (tIsX SB 2 1000) (eVar 1) (eC (.str "other"))))))))
  (sRet (eVar 1)))
theorem wd_u_law_word (E : Env P K mg base a fd ca xa ta co) {A : Around} {outer : List PySem.Env} {s : Shared} {H : Hp} {AT : ActT} {act : HD → Res D} {cdv : Value} (hr : Room 0 (A.deeper (envOfC "_law_word" (defScope S_u_law_word) s.heap.objs.size (a 29) cdv))) (KA : ActK (cxOf C8.CX0 P w K mg base N_u_law_word "_law_word" (defScope S_u_law_word) (a 29) cdv A outer s H C8.E0) ((TT K ca xa ta).acts AT) "call" act) : PSs (cxOf C8.CX0 P w K mg base N_u_law_word "_law_word" (defScope S_u_law_word) (a 29) cdv A outer s H C8.E0).nox (defBody S_u_law_word) (rdS ((TT K ca xa ta).acts AT) WN (B_u_law_word act)) := by
  unfold B_u_law_word
  exact (s_cons (s_set (i := 1) (by exact sc_u_law_word.nd) (by rfl) (by exact Or.inl rfl) x_str)
  (s_cons (s_tryF (c := 0) (i := 2) (sb := SB) (by rfl) (by rfl) (by rfl) (by exact E.exm_0) (by rfl) (by rfl) (by exact sc_u_law_word.nd) (by rfl) (by rfl) (by exact ⟨rfl, by decide, Or.inl E.g_EarthError⟩) takes0
  (fun W pn xe tk => (s_one (s_drop (KA.ok _ _ _ _ _ tk))))
  (fun a oe cls d pn hz hf => (s_cons (s_set (i := 3) (by exact sc_u_law_word.nd) (by rfl) (by exact Or.inl rfl) (x_fz (xf_disp (xa_cons (x_isH (i := 2) (c := 2) (sb := SB) (by rfl) (fun e he => (E.held e he).ac) (by exact E.kit_2) hz hf (by rfl) (by exact E.n_isinstance) (by rfl) (by exact E.g_NoSet) (by rfl) (by exact Or.inl rfl)) (xa_cons (x_isH (i := 2) (c := 3) (sb := SB) (by rfl) (fun e he => (E.held e he).ac) (by exact E.kit_3) hz hf (by rfl) (by exact E.n_isinstance) (by rfl) (by exact E.g_NoCrews) (by rfl) (by exact Or.inl rfl)) (xa_cons (x_isH (i := 2) (c := 4) (sb := SB) (by rfl) (fun e he => (E.held e he).ac) (by exact E.kit_4) hz hf (by rfl) (by exact E.n_isinstance) (by rfl) (by exact E.g_TooMany) (by rfl) (by exact Or.inl rfl)) xa_nil))) (al_cons (al_cons (al_cons al_nil))))))
  (s_cons (s_set (i := 1) (by exact sc_u_law_word.nd) (by rfl) (by exact Or.inl rfl) (x_if (x_tcmp (by exact o_eq (by exact hu64m hr)) (x_mbV PySem.F.slot_list_count PySem.F.type_list_count (by exact mv_count rfl (by exact hu65m hr)) (xv 3) x_bl) x_int (nomark _)) (x_ix (by exact i_ix rfl (by exact hu65m hr)) (x_fz (xf_disp (xa_cons x_str (xa_cons x_str (xa_cons x_str xa_nil))) (al_cons (al_cons (al_cons al_nil))))) (x_mbV PySem.F.slot_list_index PySem.F.type_list_index (by exact mv_index rfl (by exact hu65m hr)) (xv 3) x_bl)) x_str))
  (s_cons (s_set (i := 1) (by exact sc_u_law_word.nd) (by rfl) (by exact Or.inl rfl) (x_if (x_tcmp (by exact o_eq (by exact hu64m hr)) (xv 1) x_str (nomark _)) x_bad (xv 1)))
  (s_one (s_set (i := 1) (by exact sc_u_law_word.nd) (by rfl) (by exact Or.inl rfl) (x_if (x_pt (x_isHB (i := 2) (c := 1000) (sb := SB) (tn := "ValueError") (by rfl) (fun e he => (E.held e he).ac) (by exact E.kit_1000) hz hf (by rfl) (by exact E.n_isinstance) (by rfl) (by exact E.n_ValueError) (by rfl) (by rfl) (by exact Or.inl rfl))) (xv 1) x_str))))))))
  (s_one (s_ret (xv 1)))))
theorem sc_u_law_own_plan : FnScope N_u_law_own_plan ["hand", "overs", "crews", "wanted"] (defScope S_u_law_own_plan) := ⟨rfl, rfl, rfl, by decide +kernel, rfl, by decide +kernel, by decide +kernel⟩
def B_u_law_own_plan : SM :=
  sSeq (sPat (.tp [.nm 4, .nm 5]) (eTup (aCons (eFz (lDisp (aNil))) (aCons (eBx (lDisp (aNil))) (aNil)))))
  (sSeq (sSet 6 (eFz (lComp [10] (iIt (eVar 3)) (.nm 10) (tNot (tE (eUn opAny (eFz (lComp [11, 12] (iIt (eVar 1)) (.tp [.nm 11, .nm 12]) (tYes) (eT (tBin cEq (eVar 12) (eVar 10)))))))) (eVar 10))))
  (sSeq (sWhile 1000000 (tBin cGt (eUn opLen (eVar 6)) (eC (.int 0))) (sSeq (sSet 7 (eBin opAdd (eC (.int 1)) (eCall M_u_law_draw (aCons (eVar 0) (aCons (eBin opMin2 (eVar 2) (eUn opLen (eVar 6))) (aNil))))))
  (sSeq (sSet 8 (eUn opSrt (eSl (eCall M_u_law_mixed (aCons (eVar 0) (aCons (eVar 6) (aNil)))) none (some (eVar 7)))))
  (sSeq (sDrop (eMb1 mApp (eVar 5) (eUn opTuple (eVar 8))))
  (sSeq (sSet 4 (eBin opAdd (eVar 4) (eVar 8)))
  (sSeq (sSet 9 (eFz (lComp [10] (iIt (eVar 3)) (.nm 10) (tBin cNotIn (eVar 10) (eVar 4)) (eVar 10))))
  (sSet 6 (eFz (lComp [10] (iIt (eVar 9)) (.nm 10) (tNot (tE (eUn opAny (eFz (lComp [11, 12] (iIt (eVar 1)) (.tp [.nm 11, .nm 12]) (tYes) (eT (tAnd (tBin cEq (eVar 12) (eVar 10)) (tBin cNotIn (eVar 11) (eVar 4))))))))) (eVar 10))))))))))
  (sRet (eUn opTuple (eVar 5)))))
def M_u_law_own_plan : FM := fnT 4 13 B_u_law_own_plan
theorem ok_u_law_own_plan (E : Env P K mg base a fd ca xa ta co) : FnOk P w K mg base (L2.CX P w) 3 (a 30) (fd 30) ["hand", "overs", "crews", "wanted"] (spM (TT K ca xa ta) 4 M_u_law_own_plan) := by
  refine fn_okT (b := B_u_law_own_plan) (N := N_u_law_own_plan) E.f_u_law_own_plan sc_u_law_own_plan rfl rfl fun cdv A outer s H EE hr => ?_
  unfold B_u_law_own_plan
  exact (s_cons (s_pat (g_tp (by rfl) (gs_cons (g_nm (i := 4) (by exact sc_u_law_own_plan.nd) (by rfl) (by exact Or.inr rfl)) (gs_cons (g_nm (i := 5) (by exact sc_u_law_own_plan.nd) (by rfl) (by exact Or.inl rfl)) gs_nil))) (x_tup (xa_cons (x_fz (xf_disp xa_nil al_nil)) (xa_cons (x_bx (xf_disp xa_nil al_nil)) xa_nil)) (al_cons (al_cons al_nil))))
  (s_cons (s_setLc (n := 6) (a := aNil) (own := [("layer", 10)]) (by rfl) (by exact sc_u_law_own_plan.nd) (by rfl) (by rfl) (by exact sw_true rfl rfl rfl (by decide +kernel)) (x_iIt (by rfl) (xv 3)) (by exact blkOk_by (own := [("layer", 10)]) (N := N_u_law_own_plan) (sc := (defScope S_u_law_own_plan)) (by decide +kernel)) (by decide) (fun _ _ _ _ _ => (g_nm (i := 10) (by exact sc_u_law_own_plan.nd) (by rfl) (by exact Or.inr rfl))) (fun _ _ _ _ _ => (pts_one (x_tnot (x_pt (x_asT (x_callB1 (by exact c_any rfl) (by rfl) (by exact E.n_any) PyProof.Rows.boot_any (by exact (x_fz (xf_lc (own := [("a", 11), ("b", 12)]) (by rfl) (by exact sc_u_law_own_plan.nd) (x_iIt (by rfl) (xv 1)) (by exact blkOk_by (own := [("a", 11), ("b", 12)]) (N := N_u_law_own_plan) (by kernel_rfl)) (by decide) (fun _ _ _ _ _ => (g_tp (by rfl) (gs_cons (g_nm (i := 11) (by exact sc_u_law_own_plan.nd) (by rfl) (by exact Or.inl rfl)) (gs_cons (g_nm (i := 12) (by exact sc_u_law_own_plan.nd) (by rfl) (by exact Or.inl rfl)) gs_nil)))) (fun _ _ _ _ _ => t_yes) (fun _ _ _ _ _ => (x_vcmp (by exact o_eq (by exact hu64 hr)) (xv 12) (xv 10) (nomark _)))))))))))) (fun _ _ _ _ _ => (xv 10)) false)
  (s_cons (s_while 1000000 (by exact passes_of rfl) (x_tcmp (o_gt) (x_callB1 (by exact c_len rfl) (by rfl) (by exact E.n_len) PySem.boot_len (xv 6)) x_int (nomark _)) (s_cons (s_set (i := 7) (by exact sc_u_law_own_plan.nd) (by rfl) (by exact Or.inl rfl) (x_bin o_add x_int (x_call (by exact ok_u_law_draw E) (by exact hr.mono (by decide)) (by rfl) (by exact E.g_u_law_draw) (by exact E.k_u_law_draw) (by exact E.b_u_law_draw) (by exact takes_of rfl rfl rfl rfl) (al_cons (al_cons al_nil)) (by exact (xa_cons (xv 0) (xa_cons (x_callB2 (by exact c_min2 rfl) (by rfl) (by exact E.n_min) PyProof.Rows.boot_min (xv 2) (x_callB1 (by exact c_len rfl) (by rfl) (by exact E.n_len) PySem.boot_len (xv 6))) xa_nil))))))
  (s_cons (s_set (i := 8) (by exact sc_u_law_own_plan.nd) (by rfl) (by exact Or.inl rfl) (x_callB1 (by exact c_srt rfl (hu200 hr)) (by rfl) (by exact E.n_sorted) PyProof.Rows.boot_sorted (x_sl (by rfl) (x_call (by exact ok_u_law_mixed E) (by exact hr.mono (by decide)) (by rfl) (by exact E.g_u_law_mixed) (by exact E.k_u_law_mixed) (by exact E.b_u_law_mixed) (by exact takes_of rfl rfl rfl rfl) (al_cons (al_cons al_nil)) (by exact (xa_cons (xv 0) (xa_cons (xv 6) xa_nil)))) x_ono (x_osome (xv 7)))))
  (s_cons (s_drop (x_mb1 calm_app PySem.F.slot_list_append PySem.F.type_list_append mb_app (xv 5) (x_callT1 (by exact c_tuple rfl) (by rfl) (by exact E.n_tuple) PyProof.Rows.boot_tuple (xv 8))))
  (s_cons (s_set (i := 4) (by exact sc_u_law_own_plan.nd) (by rfl) (by exact Or.inr rfl) (x_bin o_add (xv 4) (xv 8)))
  (s_cons (s_setLc (n := 9) (a := aNil) (own := [("layer", 10)]) (by rfl) (by exact sc_u_law_own_plan.nd) (by rfl) (by rfl) (by exact sw_true rfl rfl rfl (by decide +kernel)) (x_iIt (by rfl) (xv 3)) (by exact blkOk_by (own := [("layer", 10)]) (N := N_u_law_own_plan) (sc := (defScope S_u_law_own_plan)) (by decide +kernel)) (by decide) (fun _ _ _ _ _ => (g_nm (i := 10) (by exact sc_u_law_own_plan.nd) (by rfl) (by exact Or.inl rfl))) (fun _ _ _ _ _ => (pts_one (x_tcmp (by exact o_notin rfl (by exact hu65 hr)) (xv 10) (xv 4) (by rfl)))) (fun _ _ _ _ _ => (xv 10)) false)
  (s_one (s_setLc (n := 6) (a := aNil) (own := [("layer", 10)]) (by rfl) (by exact sc_u_law_own_plan.nd) (by rfl) (by rfl) (by exact sw_true rfl rfl rfl (by decide +kernel)) (x_iIt (by rfl) (xv 9)) (by exact blkOk_by (own := [("layer", 10)]) (N := N_u_law_own_plan) (sc := (defScope S_u_law_own_plan)) (by decide +kernel)) (by decide) (fun _ _ _ _ _ => (g_nm (i := 10) (by exact sc_u_law_own_plan.nd) (by rfl) (by exact Or.inr rfl))) (fun _ _ _ _ _ => (pts_one (x_tnot (x_pt (x_asT (x_callB1 (by exact c_any rfl) (by rfl) (by exact E.n_any) PyProof.Rows.boot_any (by exact (x_fz (xf_lc (own := [("a", 11), ("b", 12)]) (by rfl) (by exact sc_u_law_own_plan.nd) (x_iIt (by rfl) (xv 1)) (by exact blkOk_by (own := [("a", 11), ("b", 12)]) (N := N_u_law_own_plan) (by kernel_rfl)) (by decide) (fun _ _ _ _ _ => (g_tp (by rfl) (gs_cons (g_nm (i := 11) (by exact sc_u_law_own_plan.nd) (by rfl) (by exact Or.inl rfl)) (gs_cons (g_nm (i := 12) (by exact sc_u_law_own_plan.nd) (by rfl) (by exact Or.inl rfl)) gs_nil)))) (fun _ _ _ _ _ => t_yes) (fun _ _ _ _ _ => (x_vand (x_vcmp (by exact o_eq (by exact hu64 hr)) (xv 12) (xv 10) (nomark _)) (x_vone (x_vcmp (by exact o_notin rfl (by exact hu65 hr)) (xv 11) (xv 4) (by rfl)))))))))))))) (fun _ _ _ _ _ => (xv 10)) false))))))))
  (s_one (s_ret (x_callT1 (by exact c_tuple rfl) (by rfl) (by exact E.n_tuple) PyProof.Rows.boot_tuple (xv 5)))))))
theorem sc_u_law_bent : FnScope N_u_law_bent ["hand", "count", "plan"] (defScope S_u_law_bent) := ⟨rfl, rfl, rfl, by decide +kernel, rfl, by decide +kernel, by decide +kernel⟩
def B_u_law_bent : SM :=
  sSeq (sPar [3, 4] (aCons (eCall M_u_law_draw (aCons (eVar 0) (aCons (eC (.int 9)) (aNil)))) (aCons (eCall M_u_law_draw (aCons (eVar 0) (aCons (eBin opMax2 (eC (.int 1)) (eUn opLen (eVar 2))) (aNil)))) (aNil))))
  (sSeq (sSet 5 (eCall M_u_law_any (aCons (eVar 0) (aCons (eBin opAdd (eFz (lRange (eVar 1))) (eFz (lDisp (aCons (eVar 1) (aCons (eUn opNeg (eC (.int 1))) (aCons (eC (.bl true)) (aCons (eC .non) (aCons (eC (.str "0")) (aNil))))))))) (aNil)))))
  (sSeq (sIf (tOr (tBin cEq (eUn opLen (eVar 2)) (eC (.int 0))) (tBin cEq (eVar 3) (eC (.int 0)))) (sSeq (sSet 6 (eFz (lDisp (aCons (eUn opList (eVar 2)) (aCons (eBin opAdd (eVar 2) (eTup (aCons (eTup (aNil)) (aNil)))) (aCons (eBin opAdd (eVar 2) (eTup (aCons (eTup (aCons (eVar 5) (aNil))) (aNil)))) (aCons (eC .non) (aCons (eC (.int 0)) (aCons (eC (.str "")) (aCons (eDk) (aCons (eUn opRev (eVar 2)) (aCons (eBin opAdd (eVar 2) (eSl (eVar 2) none (some (eC (.int 1))))) (aNil)))))))))))))
  (sRet (eCall M_u_law_any (aCons (eVar 0) (aCons (eVar 6) (aNil)))))) (sNx))
  (sSeq (sSet 7 (eBin opIx (eVar 2) (eVar 4)))
  (sSeq (sIf (tBin cEq (eVar 3) (eC (.int 1))) (sRet (eBin opAdd (eSl (eVar 2) none (some (eVar 4))) (eSl (eVar 2) (some (eBin opAdd (eVar 4) (eC (.int 1)))) none))) (sNx))
  (sSeq (sIf (tBin cEq (eVar 3) (eC (.int 2))) (sRet (eBin opAdd (eBin opAdd (eSl (eVar 2) none (some (eVar 4))) (eTup (aCons (eSl (eVar 7) (some (eC (.int 1))) none) (aNil)))) (eSl (eVar 2) (some (eBin opAdd (eVar 4) (eC (.int 1)))) none))) (sNx))
  (sSeq (sIf (tBin cEq (eVar 3) (eC (.int 3))) (sSeq (sSet 8 (eFz (lDisp (aCons (eBin opAdd (eVar 7) (eTup (aCons (eVar 5) (aNil)))) (aCons (eBin opAdd (eTup (aCons (eVar 5) (aNil))) (eSl (eVar 7) (some (eC (.int 1))) none)) (aCons (eUn opRev (eVar 7)) (aCons (eUn opList (eVar 7)) (aCons (eTup (aNil)) (aCons (eBin opAdd (eVar 7) (eSl (eVar 7) (some (eUn opNeg (eC (.int 1)))) none)) (aCons (eVar 5) (aCons (eTup (aCons (eVar 7) (aNil))) (aNil))))))))))))
  (sRet (eBin opAdd (eBin opAdd (eSl (eVar 2) none (some (eVar 4))) (eTup (aCons (eCall M_u_law_any (aCons (eVar 0) (aCons (eVar 8) (aNil)))) (aNil)))) (eSl (eVar 2) (some (eBin opAdd (eVar 4) (eC (.int 1)))) none)))) (sNx))
  (sSeq (sSet 9 (eCall M_u_law_draw (aCons (eVar 0) (aCons (eUn opLen (eVar 2)) (aNil)))))
  (sSeq (sIf (tBin cLt (eVar 3) (eC (.int 6))) (sSeq (sSet 10 (eBin opAdd (eSl (eVar 2) none (some (eVar 4))) (eSl (eVar 2) (some (eBin opAdd (eVar 4) (eC (.int 1)))) none)))
  (sRet (eBin opAdd (eBin opAdd (eSl (eVar 10) none (some (eVar 9))) (eTup (aCons (eVar 7) (aNil)))) (eSl (eVar 10) (some (eVar 9)) none)))) (sNx))
  (sSeq (sIf (tAnd (tBin cEq (eVar 3) (eC (.int 6))) (tBin cLt (eBin opAdd (eVar 4) (eC (.int 1))) (eUn opLen (eVar 2)))) (sRet (eBin opAdd (eBin opAdd (eSl (eVar 2) none (some (eVar 4))) (eTup (aCons (eUn opTuple (eUn opSrt (eBin opAdd (eVar 7) (eBin opIx (eVar 2) (eBin opAdd (eVar 4) (eC (.int 1))))))) (aNil)))) (eSl (eVar 2) (some (eBin opAdd (eVar 4) (eC (.int 2)))) none))) (sNx))
  (sSeq (sSet 11 (eBx (lComp [12] (iIt (eVar 2)) (.nm 12) (tYes) (eUn opTuple (eFz (lComp [13] (iIt (eVar 12)) (.nm 13) (tBin cNe (eVar 13) (eBin opIx (eVar 7) (eC (.int 0)))) (eVar 13)))))))
  (sSeq (sAsg (gSb (eVar 11) (eVar 9)) (eUn opTuple (eUn opSrt (eBin opAdd (eBin opIx (eVar 11) (eVar 9)) (eSl (eVar 7) none (some (eC (.int 1))))))))
  (sRet (eUn opTuple (eFz (lComp [12] (iIt (eVar 11)) (.nm 12) (tOr (tBin cGt (eUn opLen (eVar 12)) (eC (.int 0))) (tBin cEq (eCall M_u_law_draw (aCons (eVar 0) (aCons (eC (.int 4)) (aNil)))) (eC (.int 0)))) (eVar 12))))))))))))))))
def M_u_law_bent : FM := fnT 3 14 B_u_law_bent
theorem ok_u_law_bent (E : Env P K mg base a fd ca xa ta co) : FnOk P w K mg base (L2.CX P w) 3 (a 31) (fd 31) ["hand", "count", "plan"] (spM (TT K ca xa ta) 3 M_u_law_bent) := by
  refine fn_okT (b := B_u_law_bent) (N := N_u_law_bent) E.f_u_law_bent sc_u_law_bent rfl rfl fun cdv A outer s H EE hr => ?_
  unfold B_u_law_bent
  exact (s_cons (s_par (i := 3) (j := 4) (by rfl) (by exact sc_u_law_bent.nd) (by rfl) (by rfl) (by decide) (by rfl) (by rfl) (by exact (xa_cons (x_call (by exact ok_u_law_draw E) (by exact hr.mono (by decide)) (by rfl) (by exact E.g_u_law_draw) (by exact E.k_u_law_draw) (by exact E.b_u_law_draw) (by exact takes_of rfl rfl rfl rfl) (al_cons (al_cons al_nil)) (by exact (xa_cons (xv 0) (xa_cons x_int xa_nil)))) (xa_cons (x_call (by exact ok_u_law_draw E) (by exact hr.mono (by decide)) (by rfl) (by exact E.g_u_law_draw) (by exact E.k_u_law_draw) (by exact E.b_u_law_draw) (by exact takes_of rfl rfl rfl rfl) (al_cons (al_cons al_nil)) (by exact (xa_cons (xv 0) (xa_cons (x_callB2 (by exact c_max2 rfl) (by rfl) (by exact E.n_max) PyProof.Rows.boot_max x_int (x_callB1 (by exact c_len rfl) (by rfl) (by exact E.n_len) PySem.boot_len (xv 2))) xa_nil)))) xa_nil))) (by rfl))
  (s_cons (s_set (i := 5) (by exact sc_u_law_bent.nd) (by rfl) (by exact Or.inl rfl) (x_call (by exact ok_u_law_any E) (by exact hr.mono (by decide)) (by rfl) (by exact E.g_u_law_any) (by exact E.k_u_law_any) (by exact E.b_u_law_any) (by exact takes_of rfl rfl rfl rfl) (al_cons (al_cons al_nil)) (by exact (xa_cons (xv 0) (xa_cons (x_bin o_add (x_fz (xf_lrange (by rfl) (by rfl) (by exact E.n_list) (by rfl) (by exact E.n_range) (xv 1))) (x_fz (xf_disp (xa_cons (xv 1) (xa_cons (x_un u_neg x_int) (xa_cons x_bl (xa_cons x_non (xa_cons x_str xa_nil))))) (al_cons (al_cons (al_cons (al_cons (al_cons al_nil)))))))) xa_nil)))))
  (s_cons (s_if (PW.pt (x_wor (x_tcmp (by exact o_eq (by exact hu64 hr)) (x_callB1 (by exact c_len rfl) (by rfl) (by exact E.n_len) PySem.boot_len (xv 2)) x_int (nomark _)) (x_wor1 (x_tcmp (by exact o_eq (by exact hu64 hr)) (xv 3) x_int (nomark _))))) (s_cons (s_set (i := 6) (by exact sc_u_law_bent.nd) (by rfl) (by exact Or.inl rfl) (x_fz (xf_disp (xa_cons (x_callT1 (by exact c_list rfl) (by rfl) (by exact E.n_list) PyProof.Rows.boot_list (xv 2)) (xa_cons (x_bin o_add (xv 2) (x_tup (xa_cons (x_tup xa_nil al_nil) xa_nil) (al_cons al_nil))) (xa_cons (x_bin o_add (xv 2) (x_tup (xa_cons (x_tup (xa_cons (xv 5) xa_nil) (al_cons al_nil)) xa_nil) (al_cons al_nil))) (xa_cons x_non (xa_cons x_int (xa_cons x_str (xa_cons x_dk (xa_cons (x_rev (xv 2)) (xa_cons (x_bin o_add (xv 2) (x_sl (by rfl) (xv 2) x_ono (x_osome x_int))) xa_nil))))))))) (al_cons (al_cons (al_cons (al_cons (al_cons (al_cons (al_cons (al_cons (al_cons al_nil))))))))))))
  (s_one (s_ret (x_call (by exact ok_u_law_any E) (by exact hr.mono (by decide)) (by rfl) (by exact E.g_u_law_any) (by exact E.k_u_law_any) (by exact E.b_u_law_any) (by exact takes_of rfl rfl rfl rfl) (al_cons (al_cons al_nil)) (by exact (xa_cons (xv 0) (xa_cons (xv 6) xa_nil))))))) s_nil)
  (s_cons (s_set (i := 7) (by exact sc_u_law_bent.nd) (by rfl) (by exact Or.inr rfl) (x_ix (by exact i_ix rfl (by exact hu65 hr)) (xv 2) (xv 4)))
  (s_cons (s_if (x_tcmp (by exact o_eq (by exact hu64 hr)) (xv 3) x_int (nomark _)) (s_one (s_ret (x_bin o_add (x_sl (by rfl) (xv 2) x_ono (x_osome (xv 4))) (x_sl (by rfl) (xv 2) (x_osome (x_bin o_add (xv 4) x_int)) x_ono)))) s_nil)
  (s_cons (s_if (x_tcmp (by exact o_eq (by exact hu64 hr)) (xv 3) x_int (nomark _)) (s_one (s_ret (x_bin o_add (x_bin o_add (x_sl (by rfl) (xv 2) x_ono (x_osome (xv 4))) (x_tup (xa_cons (x_sl (by rfl) (xv 7) (x_osome x_int) x_ono) xa_nil) (al_cons al_nil))) (x_sl (by rfl) (xv 2) (x_osome (x_bin o_add (xv 4) x_int)) x_ono)))) s_nil)
  (s_cons (s_if (x_tcmp (by exact o_eq (by exact hu64 hr)) (xv 3) x_int (nomark _)) (s_cons (s_set (i := 8) (by exact sc_u_law_bent.nd) (by rfl) (by exact Or.inl rfl) (x_fz (xf_disp (xa_cons (x_bin o_add (xv 7) (x_tup (xa_cons (xv 5) xa_nil) (al_cons al_nil))) (xa_cons (x_bin o_add (x_tup (xa_cons (xv 5) xa_nil) (al_cons al_nil)) (x_sl (by rfl) (xv 7) (x_osome x_int) x_ono)) (xa_cons (x_rev (xv 7)) (xa_cons (x_callT1 (by exact c_list rfl) (by rfl) (by exact E.n_list) PyProof.Rows.boot_list (xv 7)) (xa_cons (x_tup xa_nil al_nil) (xa_cons (x_bin o_add (xv 7) (x_sl (by rfl) (xv 7) (x_osome (x_un u_neg x_int)) x_ono)) (xa_cons (xv 5) (xa_cons (x_tup (xa_cons (xv 7) xa_nil) (al_cons al_nil)) xa_nil)))))))) (al_cons (al_cons (al_cons (al_cons (al_cons (al_cons (al_cons (al_cons al_nil)))))))))))
  (s_one (s_ret (x_bin o_add (x_bin o_add (x_sl (by rfl) (xv 2) x_ono (x_osome (xv 4))) (x_tup (xa_cons (x_call (by exact ok_u_law_any E) (by exact hr.mono (by decide)) (by rfl) (by exact E.g_u_law_any) (by exact E.k_u_law_any) (by exact E.b_u_law_any) (by exact takes_of rfl rfl rfl rfl) (al_cons (al_cons al_nil)) (by exact (xa_cons (xv 0) (xa_cons (xv 8) xa_nil)))) xa_nil) (al_cons al_nil))) (x_sl (by rfl) (xv 2) (x_osome (x_bin o_add (xv 4) x_int)) x_ono))))) s_nil)
  (s_cons (s_set (i := 9) (by exact sc_u_law_bent.nd) (by rfl) (by exact Or.inl rfl) (x_call (by exact ok_u_law_draw E) (by exact hr.mono (by decide)) (by rfl) (by exact E.g_u_law_draw) (by exact E.k_u_law_draw) (by exact E.b_u_law_draw) (by exact takes_of rfl rfl rfl rfl) (al_cons (al_cons al_nil)) (by exact (xa_cons (xv 0) (xa_cons (x_callB1 (by exact c_len rfl) (by rfl) (by exact E.n_len) PySem.boot_len (xv 2)) xa_nil)))))
  (s_cons (s_if (x_tcmp (by exact o_lt (by exact hu64 hr)) (xv 3) x_int (nomark _)) (s_cons (s_set (i := 10) (by exact sc_u_law_bent.nd) (by rfl) (by exact Or.inl rfl) (x_bin o_add (x_sl (by rfl) (xv 2) x_ono (x_osome (xv 4))) (x_sl (by rfl) (xv 2) (x_osome (x_bin o_add (xv 4) x_int)) x_ono)))
  (s_one (s_ret (x_bin o_add (x_bin o_add (x_sl (by rfl) (xv 10) x_ono (x_osome (xv 9))) (x_tup (xa_cons (xv 7) xa_nil) (al_cons al_nil))) (x_sl (by rfl) (xv 10) (x_osome (xv 9)) x_ono))))) s_nil)
  (s_cons (s_if (PW.pt (x_wand (x_tcmp (by exact o_eq (by exact hu64 hr)) (xv 3) x_int (nomark _)) (x_wand1 (x_tcmp (by exact o_lt (by exact hu64 hr)) (x_bin o_add (xv 4) x_int) (x_callB1 (by exact c_len rfl) (by rfl) (by exact E.n_len) PySem.boot_len (xv 2)) (nomark _))))) (s_one (s_ret (x_bin o_add (x_bin o_add (x_sl (by rfl) (xv 2) x_ono (x_osome (xv 4))) (x_tup (xa_cons (x_callT1 (by exact c_tuple rfl) (by rfl) (by exact E.n_tuple) PyProof.Rows.boot_tuple (x_callB1 (by exact c_srt rfl (hu200 hr)) (by rfl) (by exact E.n_sorted) PyProof.Rows.boot_sorted (x_bin o_add (xv 7) (x_ix (by exact i_ix rfl (by exact hu65 hr)) (xv 2) (x_bin o_add (xv 4) x_int))))) xa_nil) (al_cons al_nil))) (x_sl (by rfl) (xv 2) (x_osome (x_bin o_add (xv 4) x_int)) x_ono)))) s_nil)
  (s_cons (s_setLc (n := 11) (a := aNil) (own := [("each", 12)]) (by rfl) (by exact sc_u_law_bent.nd) (by rfl) (by rfl) (by exact sw_true rfl rfl rfl (by decide +kernel)) (x_iIt (by rfl) (xv 2)) (by exact blkOk_by (own := [("each", 12)]) (N := N_u_law_bent) (sc := (defScope S_u_law_bent)) (by decide +kernel)) (by decide) (fun _ _ _ _ _ => (g_nm (i := 12) (by exact sc_u_law_bent.nd) (by rfl) (by exact Or.inl rfl))) (fun _ _ _ _ _ => t_yes) (fun _ _ _ _ _ => (x_callT1 (by exact c_tuple rfl) (by rfl) (by exact E.n_tuple) PyProof.Rows.boot_tuple (by exact (x_fz (xf_lc (own := [("one", 13)]) (by rfl) (by exact sc_u_law_bent.nd) (x_iIt (by rfl) (xv 12)) (by exact blkOk_by (own := [("one", 13)]) (N := N_u_law_bent) (by kernel_rfl)) (by decide) (fun _ _ _ _ _ => (g_nm (i := 13) (by exact sc_u_law_bent.nd) (by rfl) (by exact Or.inl rfl))) (fun _ _ _ _ _ => (pts_one (x_tcmp (by exact o_ne (by exact hu64 hr)) (xv 13) (x_ix (by exact i_ix rfl (by exact hu65 hr)) (xv 7) x_int) (nomark _)))) (fun _ _ _ _ _ => (xv 13))))))) true)
  (s_cons (s_asg (m_sb (by exact hu1 hr) (xv 11) (xv 9)) (x_callT1 (by exact c_tuple rfl) (by rfl) (by exact E.n_tuple) PyProof.Rows.boot_tuple (x_callB1 (by exact c_srt rfl (hu200 hr)) (by rfl) (by exact E.n_sorted) PyProof.Rows.boot_sorted (x_bin o_add (x_ix (by exact i_ix rfl (by exact hu65 hr)) (xv 11) (xv 9)) (x_sl (by rfl) (xv 7) x_ono (x_osome x_int))))))
  (s_one (s_ret (x_callT1 (by exact c_tuple rfl) (by rfl) (by exact E.n_tuple) PyProof.Rows.boot_tuple (x_fz (xf_lc (own := [("each", 12)]) (by rfl) (by exact sc_u_law_bent.nd) (x_iIt (by rfl) (xv 11)) (by exact blkOk_by (own := [("each", 12)]) (N := N_u_law_bent) (sc := (defScope S_u_law_bent)) (by decide +kernel)) (by decide) (fun _ _ _ _ _ => (g_nm (i := 12) (by exact sc_u_law_bent.nd) (by rfl) (by exact Or.inl rfl))) (fun _ _ _ _ _ => (pts_one (PW.pt (x_wor (x_tcmp (o_gt) (x_callB1 (by exact c_len rfl) (by rfl) (by exact E.n_len) PySem.boot_len (xv 12)) x_int (nomark _)) (x_wor1 (x_tcmp (by exact o_eq (by exact hu64 hr)) (x_call (by exact ok_u_law_draw E) (by exact hr.mono (by decide)) (by rfl) (by exact E.g_u_law_draw) (by exact E.k_u_law_draw) (by exact E.b_u_law_draw) (by exact takes0) (al_cons (al_cons al_nil)) (by exact (xa_cons (xv 0) (xa_cons x_int xa_nil)))) x_int (nomark _))))))) (fun _ _ _ _ _ => (xv 12)))))))))))))))))))
theorem sc_u_law_is_right : FnScope N_u_law_is_right ["hand", "count", "overs"] (defScope S_u_law_is_right) := ⟨rfl, rfl, rfl, by decide +kernel, rfl, by decide +kernel, by decide +kernel⟩
def B_u_law_is_right : SM :=
  sSeq (sSet 3 (eUn opTuple (eUn opSrt (eSl (eCall M_u_law_mixed (aCons (eVar 0) (aCons (eFz (lRange (eVar 1))) (aNil)))) none (some (eCall M_u_law_draw (aCons (eVar 0) (aCons (eBin opAdd (eVar 1) (eC (.int 1))) (aNil)))))))))
  (sSeq (sPat (.tp [.nm 14, .nm 4, .nm 15]) (eTup (aCons (eCall M_u_law_bare (aCons (eVar 1) (aCons (eVar 2) (aNil)))) (aCons (eCall M_u_law_needed (aCons (eVar 2) (aCons (eVar 3) (aNil)))) (aCons (eBin opAdd (eC (.int 1)) (eCall M_u_law_draw (aCons (eVar 0) (aCons (eC (.int 4)) (aNil))))) (aNil))))))
  (sSeq (sSet 5 (eIf (tBin cGt (eVar 1) (eC (.int 1))) (eTup (aCons (eTupRg (eVar 1)) (aNil))) (eTup (aNil))))
  (sSeq (sSet 6 (eCall (mkT 0 M_Book_UinitU) (aCons (eVar 1) (aCons (eVar 2) (aCons (eUn opTuple (eFz (lComp [18] (iRng1 (eVar 1)) (.nm 18) (tYes) (eTup (aCons (eUn opNeg (eC (.int 5))) (aCons (eVar 18) (aNil))))))) (aCons (eVar 5) (aNil)))))))
  (sSeq (sSet 7 (eCall M_needed (aCons (eVar 14) (aCons (eVar 3) (aNil)))))
  (sSeq (sIf (tOr (tNot (tE (eCall M_u_law_is_lot (aCons (eVar 7) (aCons (eVar 1) (aNil)))))) (tOr (tBin cNe (eVar 7) (eVar 4)) (tBin cNe (eCall M_needed (aCons (eVar 6) (aCons (eVar 3) (aNil)))) (eVar 4)))) (sRet (eC (.bl false))) (sNx))
  (sSeq (sSet 17 (eCall M_u_law_own_plan (aCons (eVar 0) (aCons (eVar 2) (aCons (eVar 15) (aCons (eCall M_u_law_any (aCons (eVar 0) (aCons (eFz (lDisp (aCons (eVar 4) (aCons (eTupRg (eVar 1)) (aNil))))) (aNil)))) (aNil)))))))
  (sSeq (sSet 8 (eBin opAdd (eBin opMul (eFz (lDisp (aCons (eVar 17) (aNil)))) (eC (.int 2))) (eFz (lComp [19] (iRng1 (eC (.int 8))) (.nm 19) (tYes) (eCall M_u_law_bent (aCons (eVar 0) (aCons (eVar 1) (aCons (eVar 17) (aNil)))))))))
  (sSeq (sFor (iIt (eVar 8)) (.nm 9) (sSeq (sSet 10 (eCall M_u_law_any (aCons (eVar 0) (aCons (eFz (lDisp (aCons (eVar 15) (aCons (eVar 15) (aCons (eBin opAdd (eC (.int 1)) (eCall M_u_law_draw (aCons (eVar 0) (aCons (eC (.int 4)) (aNil))))) (aNil)))))) (aNil)))))
  (sSeq (sSet 11 (eCall M_is_plan (aCons (eCall M_u_law_any (aCons (eVar 0) (aCons (eFz (lDisp (aCons (eVar 14) (aCons (eVar 6) (aNil))))) (aNil)))) (aCons (eVar 10) (aCons (eVar 3) (aCons (eVar 9) (aNil)))))))
  (sIf (tOr (tNot (tIs CS (eVar 11) [.bool])) (tBin cNe (eVar 11) (eCall M_u_law_is_plan (aCons (eVar 2) (aCons (eVar 1) (aCons (eVar 10) (aCons (eVar 3) (aCons (eVar 9) (aNil))))))))) (sRet (eC (.bl false))) (sNx)))))
  (sSeq (sPat (.tp [.nm 16, .nm 13]) (eTup (aCons (eCall M_u_law_odd_set (aCons (eVar 0) (aCons (eVar 1) (aCons (eVar 3) (aNil))))) (aCons (eCall M_u_law_any (aCons (eVar 0) (aCons (eFz (lDisp (aCons (eC (.int 0)) (aCons (eC (.int 5)) (aCons (eUn opNeg (eC (.int 1))) (aCons (eC (.bl true)) (aCons (eC .non) (aCons (eC (.str "1")) (aCons (eTup (aCons (eC (.int 1)) (aNil))) (aCons (eBin opPow (eC (.int 10)) (eC (.int 30))) (aNil))))))))))) (aNil)))) (aNil)))))
  (sSeq (sSet 12 (eBx (lDisp (aCons (eLam 4 B_u_law_word (eCall M_needed (aCons (eVar 14) (aCons (eVar 16) (aNil))))) (aNil)))))
  (sSeq (sDrop (eMb1 mApp (eVar 12) (eLam 4 B_u_law_word (eCall M_is_plan (aCons (eVar 14) (aCons (eVar 13) (aCons (eVar 16) (aCons (eVar 17) (aNil)))))))))
  (sSeq (sDrop (eMb1 mApp (eVar 12) (eLam 4 B_u_law_word (eCall M_is_plan (aCons (eVar 14) (aCons (eVar 15) (aCons (eVar 16) (aCons (eVar 17) (aNil)))))))))
  (sRet (eT (tBin cEq (eVar 12) (eFz (lDisp (aCons (eC (.str "set")) (aCons (eC (.str "crews")) (aCons (eC (.str "set")) (aNil)))))))))))))))))))))
def M_u_law_is_right : FM := fnT 3 20 B_u_law_is_right
theorem ok_u_law_is_right (E : Env P K mg base a fd ca xa ta co) : FnOk P w K mg base (L2.CX P w) 9 (a 32) (fd 32) ["hand", "count", "overs"] (spM (TT K ca xa ta) 3 M_u_law_is_right) := by
  obtain ⟨oc_u_law_word, od_u_law_word, kV_u_law_word, doc_u_law_word, pm_u_law_word, an_u_law_word, cdv_u_law_word, ct_u_law_word, osl_u_law_word, e_u_law_word, lk_u_law_word, cd_u_law_word⟩ := E.f_u_law_word.ex
  have bd_u_law_word := E.b_u_law_word
  rw [e_u_law_word] at lk_u_law_word bd_u_law_word
  obtain ⟨oc, od, kV, doc, pm, an, ct, osl, efd, lk, cd⟩ := E.l_u_law_is_right
  rw [efd] at lk ⊢
  refine fn_trim (fn_okC (b := B_u_law_is_right) (N := N_u_law_is_right) lk cd sc_u_law_is_right rfl rfl fun A outer s H EE hr => ?_)
  unfold B_u_law_is_right
  exact (s_cons (s_set (i := 3) (by exact sc_u_law_is_right.nd) (by rfl) (by exact Or.inl rfl) (x_callT1 (by exact c_tuple rfl) (by rfl) (by exact E.n_tuple) PyProof.Rows.boot_tuple (x_callB1 (by exact c_srt rfl (hu200 hr)) (by rfl) (by exact E.n_sorted) PyProof.Rows.boot_sorted (x_sl (by rfl) (x_call (by exact ok_u_law_mixed E) (by exact hr.mono (by decide)) (by rfl) (by exact E.g_u_law_mixed) (by exact E.k_u_law_mixed) (by exact E.b_u_law_mixed) (by exact takes_of rfl rfl rfl rfl) (al_cons (al_cons al_nil)) (by exact (xa_cons (xv 0) (xa_cons (x_fz (xf_lrange (by rfl) (by rfl) (by exact E.n_list) (by rfl) (by exact E.n_range) (xv 1))) xa_nil)))) x_ono (x_osome (x_call (by exact ok_u_law_draw E) (by exact hr.mono (by decide)) (by rfl) (by exact E.g_u_law_draw) (by exact E.k_u_law_draw) (by exact E.b_u_law_draw) (by exact takes_of rfl rfl rfl rfl) (al_cons (al_cons al_nil)) (by exact (xa_cons (xv 0) (xa_cons (x_bin o_add (xv 1) x_int) xa_nil)))))))))
  (s_cons (s_pat (g_tp (by rfl) (gs_cons (g_nm (i := 14) (by exact sc_u_law_is_right.nd) (by rfl) (by exact Or.inr rfl)) (gs_cons (g_nm (i := 4) (by exact sc_u_law_is_right.nd) (by rfl) (by exact Or.inl rfl)) (gs_cons (g_nm (i := 15) (by exact sc_u_law_is_right.nd) (by rfl) (by exact Or.inr rfl)) gs_nil)))) (x_tup (xa_cons (x_call (by exact ok_u_law_bare E) (by exact hr.mono (by decide)) (by rfl) (by exact E.g_u_law_bare) (by exact E.k_u_law_bare) (by exact E.b_u_law_bare) (by exact takes_of rfl rfl rfl rfl) (al_cons (al_cons al_nil)) (by exact (xa_cons (xv 1) (xa_cons (xv 2) xa_nil)))) (xa_cons (x_call (by exact ok_u_law_needed E) (by exact hr.mono (by decide)) (by rfl) (by exact E.g_u_law_needed) (by exact E.k_u_law_needed) (by exact E.b_u_law_needed) (by exact takes_of rfl rfl rfl rfl) (al_cons (al_cons al_nil)) (by exact (xa_cons (xv 2) (xa_cons (xv 3) xa_nil)))) (xa_cons (x_bin o_add x_int (x_call (by exact ok_u_law_draw E) (by exact hr.mono (by decide)) (by rfl) (by exact E.g_u_law_draw) (by exact E.k_u_law_draw) (by exact E.b_u_law_draw) (by exact takes_of rfl rfl rfl rfl) (al_cons (al_cons al_nil)) (by exact (xa_cons (xv 0) (xa_cons x_int xa_nil))))) xa_nil))) (al_cons (al_cons (al_cons al_nil)))))
  (s_cons (s_set (i := 5) (by exact sc_u_law_is_right.nd) (by rfl) (by exact Or.inl rfl) (x_if (x_tcmp (o_gt) (xv 1) x_int (nomark _)) (x_tup (xa_cons (x_tupRg (by rfl) (by rfl) (by exact E.n_tuple) (by rfl) (by exact E.n_range) (xv 1)) xa_nil) (al_cons al_nil)) (x_tup xa_nil al_nil)))
  (s_cons (s_set (i := 6) (by exact sc_u_law_is_right.nd) (by rfl) (by exact Or.inl rfl) (x_make (c := 0) (by exact E.mk_Book) (by exact ok_Book_UinitU E) (by exact hr.mono (by decide)) (by rfl) (by exact E.g_Book) (by exact E.b_Book_UinitU) (by exact takes_of rfl rfl rfl rfl) (al_cons (al_cons (al_cons (al_cons al_nil)))) (by exact (xa_cons (xv 1) (xa_cons (xv 2) (xa_cons (x_callT1 (by exact c_tuple rfl) (by rfl) (by exact E.n_tuple) PyProof.Rows.boot_tuple (x_fz (xf_lc (own := [("one", 18)]) (by rfl) (by exact sc_u_law_is_right.nd) (x_iRng1 (by rfl) (by exact E.n_range) (xv 1)) (by exact blkOk_by (own := [("one", 18)]) (N := N_u_law_is_right) (sc := (defScope S_u_law_is_right)) (by decide +kernel)) (by decide) (fun _ _ _ _ _ => (g_nm (i := 18) (by exact sc_u_law_is_right.nd) (by rfl) (by exact Or.inl rfl))) (fun _ _ _ _ _ => t_yes) (fun _ _ _ _ _ => (x_tup (xa_cons (x_un u_neg x_int) (xa_cons (xv 18) xa_nil)) (al_cons (al_cons al_nil))))))) (xa_cons (xv 5) xa_nil)))))))
  (s_cons (s_set (i := 7) (by exact sc_u_law_is_right.nd) (by rfl) (by exact Or.inl rfl) (x_call (by exact ok_needed E) (by exact hr.mono (by decide)) (by rfl) (by exact E.g_needed) (by exact E.k_needed) (by exact E.b_needed) (by exact takes_of rfl rfl rfl rfl) (al_cons (al_cons al_nil)) (by exact (xa_cons (xv 14) (xa_cons (xv 3) xa_nil)))))
  (s_cons (s_if (PW.pt (x_wor (x_tnot (x_pt (x_asT (x_call (by exact ok_u_law_is_lot E) (by exact hr.mono (by decide)) (by rfl) (by exact E.g_u_law_is_lot) (by exact E.k_u_law_is_lot) (by exact E.b_u_law_is_lot) (by exact takes_of rfl rfl rfl rfl) (al_cons (al_cons al_nil)) (by exact (xa_cons (xv 7) (xa_cons (xv 1) xa_nil))))))) (x_wor (x_tcmp (by exact o_ne (by exact hu64 hr)) (xv 7) (xv 4) (nomark _)) (x_wor1 (x_tcmp (by exact o_ne (by exact hu64 hr)) (x_call (by exact ok_needed E) (by exact hr.mono (by decide)) (by rfl) (by exact E.g_needed) (by exact E.k_needed) (by exact E.b_needed) (by exact takes_of rfl rfl rfl rfl) (al_cons (al_cons al_nil)) (by exact (xa_cons (xv 6) (xa_cons (xv 3) xa_nil)))) (xv 4) (nomark _)))))) (s_one (s_ret x_bl)) s_nil)
  (s_cons (s_set (i := 17) (by exact sc_u_law_is_right.nd) (by rfl) (by exact Or.inr rfl) (x_call (by exact ok_u_law_own_plan E) (by exact hr.mono (by decide)) (by rfl) (by exact E.g_u_law_own_plan) (by exact E.k_u_law_own_plan) (by exact E.b_u_law_own_plan) (by exact takes_of rfl rfl rfl rfl) (al_cons (al_cons (al_cons (al_cons al_nil)))) (by exact (xa_cons (xv 0) (xa_cons (xv 2) (xa_cons (xv 15) (xa_cons (x_call (by exact ok_u_law_any E) (by exact hr.mono (by decide)) (by rfl) (by exact E.g_u_law_any) (by exact E.k_u_law_any) (by exact E.b_u_law_any) (by exact takes_of rfl rfl rfl rfl) (al_cons (al_cons al_nil)) (by exact (xa_cons (xv 0) (xa_cons (x_fz (xf_disp (xa_cons (xv 4) (xa_cons (x_tupRg (by rfl) (by rfl) (by exact E.n_tuple) (by rfl) (by exact E.n_range) (xv 1)) xa_nil)) (al_cons (al_cons al_nil)))) xa_nil)))) xa_nil)))))))
  (s_cons (s_set (i := 8) (by exact sc_u_law_is_right.nd) (by rfl) (by exact Or.inl rfl) (x_bin o_add (x_bin o_mul (x_fz (xf_disp (xa_cons (xv 17) xa_nil) (al_cons al_nil))) x_int) (x_fz (xf_lc (own := [("lap", 19)]) (by rfl) (by exact sc_u_law_is_right.nd) (x_iRng1 (by rfl) (by exact E.n_range) x_int) (by exact blkOk_by (own := [("lap", 19)]) (N := N_u_law_is_right) (sc := (defScope S_u_law_is_right)) (by decide +kernel)) (by decide) (fun _ _ _ _ _ => (g_nm (i := 19) (by exact sc_u_law_is_right.nd) (by rfl) (by exact Or.inl rfl))) (fun _ _ _ _ _ => t_yes) (fun _ _ _ _ _ => (x_call (by exact ok_u_law_bent E) (by exact hr.mono (by decide)) (by rfl) (by exact E.g_u_law_bent) (by exact E.k_u_law_bent) (by exact E.b_u_law_bent) (by exact takes0) (al_cons (al_cons (al_cons al_nil))) (by exact (xa_cons (xv 0) (xa_cons (xv 1) (xa_cons (xv 17) xa_nil))))))))))
  (s_cons (s_for (by exact passes_of rfl) (by rfl) (x_iIt (by rfl) (xv 8)) (g_nm (i := 9) (by exact sc_u_law_is_right.nd) (by rfl) (by exact Or.inl rfl)) (s_cons (s_set (i := 10) (by exact sc_u_law_is_right.nd) (by rfl) (by exact Or.inl rfl) (x_call (by exact ok_u_law_any E) (by exact hr.mono (by decide)) (by rfl) (by exact E.g_u_law_any) (by exact E.k_u_law_any) (by exact E.b_u_law_any) (by exact takes_of rfl rfl rfl rfl) (al_cons (al_cons al_nil)) (by exact (xa_cons (xv 0) (xa_cons (x_fz (xf_disp (xa_cons (xv 15) (xa_cons (xv 15) (xa_cons (x_bin o_add x_int (x_call (by exact ok_u_law_draw E) (by exact hr.mono (by decide)) (by rfl) (by exact E.g_u_law_draw) (by exact E.k_u_law_draw) (by exact E.b_u_law_draw) (by exact takes_of rfl rfl rfl rfl) (al_cons (al_cons al_nil)) (by exact (xa_cons (xv 0) (xa_cons x_int xa_nil))))) xa_nil))) (al_cons (al_cons (al_cons al_nil))))) xa_nil)))))
  (s_cons (s_set (i := 11) (by exact sc_u_law_is_right.nd) (by rfl) (by exact Or.inl rfl) (x_call (by exact ok_is_plan E) (by exact hr.mono (by decide)) (by rfl) (by exact E.g_is_plan) (by exact E.k_is_plan) (by exact E.b_is_plan) (by exact takes_of rfl rfl rfl rfl) (al_cons (al_cons (al_cons (al_cons al_nil)))) (by exact (xa_cons (x_call (by exact ok_u_law_any E) (by exact hr.mono (by decide)) (by rfl) (by exact E.g_u_law_any) (by exact E.k_u_law_any) (by exact E.b_u_law_any) (by exact takes_of rfl rfl rfl rfl) (al_cons (al_cons al_nil)) (by exact (xa_cons (xv 0) (xa_cons (x_fz (xf_disp (xa_cons (xv 14) (xa_cons (xv 6) xa_nil)) (al_cons (al_cons al_nil)))) xa_nil)))) (xa_cons (xv 10) (xa_cons (xv 3) (xa_cons (xv 9) xa_nil)))))))
  (s_one (s_if (PW.pt (x_wor (x_tnot (x_pt (x_isi (t := .bool) (by rfl) (by exact E.ins) (by exact E.ty _ (by decide)) (by rfl) (by exact E.n_isinstance) (xv 11) (n_bt (by rfl) (by exact E.n_bool) PyProof.Rows.boot_bool)))) (x_wor1 (x_tcmp (by exact o_ne (by exact hu64 hr)) (xv 11) (x_call (by exact ok_u_law_is_plan E) (by exact hr.mono (by decide)) (by rfl) (by exact E.g_u_law_is_plan) (by exact E.k_u_law_is_plan) (by exact E.b_u_law_is_plan) (by exact takes_of rfl rfl rfl rfl) (al_cons (al_cons (al_cons (al_cons (al_cons al_nil))))) (by exact (xa_cons (xv 2) (xa_cons (xv 1) (xa_cons (xv 10) (xa_cons (xv 3) (xa_cons (xv 9) xa_nil))))))) (nomark _))))) (s_one (s_ret x_bl)) s_nil)))))
  (s_cons (s_pat (g_tp (by rfl) (gs_cons (g_nm (i := 16) (by exact sc_u_law_is_right.nd) (by rfl) (by exact Or.inr rfl)) (gs_cons (g_nm (i := 13) (by exact sc_u_law_is_right.nd) (by rfl) (by exact Or.inr rfl)) gs_nil))) (x_tup (xa_cons (x_call (by exact ok_u_law_odd_set E) (by exact hr.mono (by decide)) (by rfl) (by exact E.g_u_law_odd_set) (by exact E.k_u_law_odd_set) (by exact E.b_u_law_odd_set) (by exact takes_of rfl rfl rfl rfl) (al_cons (al_cons (al_cons al_nil))) (by exact (xa_cons (xv 0) (xa_cons (xv 1) (xa_cons (xv 3) xa_nil))))) (xa_cons (x_call (by exact ok_u_law_any E) (by exact hr.mono (by decide)) (by rfl) (by exact E.g_u_law_any) (by exact E.k_u_law_any) (by exact E.b_u_law_any) (by exact takes_of rfl rfl rfl rfl) (al_cons (al_cons al_nil)) (by exact (xa_cons (xv 0) (xa_cons (x_fz (xf_disp (xa_cons x_int (xa_cons x_int (xa_cons (x_un u_neg x_int) (xa_cons x_bl (xa_cons x_non (xa_cons x_str (xa_cons (x_tup (xa_cons x_int xa_nil) (al_cons al_nil)) (xa_cons (x_bin o_pow x_int x_int) xa_nil)))))))) (al_cons (al_cons (al_cons (al_cons (al_cons (al_cons (al_cons (al_cons al_nil)))))))))) xa_nil)))) xa_nil)) (al_cons (al_cons al_nil))))
  (s_cons (s_set (i := 12) (by exact sc_u_law_is_right.nd) (by rfl) (by exact Or.inl rfl) (x_bx (xf_disp (xa_cons (x_lam (c := co 0) (P := ta 0) (k := 5) (b := B_u_law_word) (Ng := N_u_law_word) (m := eCall M_needed (aCons (eVar 14) (aCons (eVar 16) (aNil)))) (by rfl) (by rfl) (by rfl) (by decide) (by rfl) (by exact E.g_u_law_word) (by exact E.k_u_law_word) lk_u_law_word cd_u_law_word bd_u_law_word sc_u_law_word (by rfl) (by exact Or.inl rfl) (fun A act s H KA => by exact wd_u_law_word E (Room.deeper (k := 0) (by exact hr.mono (by decide)) _) KA) (by exact E.tb_0) (by rfl) (by exact tm_0) (by exact E.tu_0) (by exact hr.mono (by decide)) (by exact LamX.lamS_by (sc := defScope S_u_law_is_right) (by decide +kernel)) (by rfl) (fun _ _ _ _ _ => (by rfl)) (fun A outer s H EE f c0 hr => by exact (x_call (by exact ok_needed E) (by exact hr.mono (by decide)) (by rfl) (by exact E.g_needed) (by exact E.k_needed) (by exact E.b_needed) (by exact takes_of rfl rfl rfl rfl) (al_cons (al_cons al_nil)) (by exact (xa_cons (xv 14) (xa_cons (xv 16) xa_nil)))))) xa_nil) (al_cons al_nil))))
  (s_cons (s_drop (x_mb1 calm_app PySem.F.slot_list_append PySem.F.type_list_append mb_app (xv 12) (x_lam (c := co 0) (P := ta 0) (k := 5) (b := B_u_law_word) (Ng := N_u_law_word) (m := eCall M_is_plan (aCons (eVar 14) (aCons (eVar 13) (aCons (eVar 16) (aCons (eVar 17) (aNil)))))) (by rfl) (by rfl) (by rfl) (by decide) (by rfl) (by exact E.g_u_law_word) (by exact E.k_u_law_word) lk_u_law_word cd_u_law_word bd_u_law_word sc_u_law_word (by rfl) (by exact Or.inl rfl) (fun A act s H KA => by exact wd_u_law_word E (Room.deeper (k := 0) (by exact hr.mono (by decide)) _) KA) (by exact E.tb_0) (by rfl) (by exact tm_0) (by exact E.tu_0) (by exact hr.mono (by decide)) (by exact LamX.lamS_by (sc := defScope S_u_law_is_right) (by decide +kernel)) (by rfl) (fun _ _ _ _ _ => (by rfl)) (fun A outer s H EE f c0 hr => by exact (x_call (by exact ok_is_plan E) (by exact hr.mono (by decide)) (by rfl) (by exact E.g_is_plan) (by exact E.k_is_plan) (by exact E.b_is_plan) (by exact takes_of rfl rfl rfl rfl) (al_cons (al_cons (al_cons (al_cons al_nil)))) (by exact (xa_cons (xv 14) (xa_cons (xv 13) (xa_cons (xv 16) (xa_cons (xv 17) xa_nil))))))))))
  (s_cons (s_drop (x_mb1 calm_app PySem.F.slot_list_append PySem.F.type_list_append mb_app (xv 12) (x_lam (c := co 0) (P := ta 0) (k := 5) (b := B_u_law_word) (Ng := N_u_law_word) (m := eCall M_is_plan (aCons (eVar 14) (aCons (eVar 15) (aCons (eVar 16) (aCons (eVar 17) (aNil)))))) (by rfl) (by rfl) (by rfl) (by decide) (by rfl) (by exact E.g_u_law_word) (by exact E.k_u_law_word) lk_u_law_word cd_u_law_word bd_u_law_word sc_u_law_word (by rfl) (by exact Or.inl rfl) (fun A act s H KA => by exact wd_u_law_word E (Room.deeper (k := 0) (by exact hr.mono (by decide)) _) KA) (by exact E.tb_0) (by rfl) (by exact tm_0) (by exact E.tu_0) (by exact hr.mono (by decide)) (by exact LamX.lamS_by (sc := defScope S_u_law_is_right) (by decide +kernel)) (by rfl) (fun _ _ _ _ _ => (by rfl)) (fun A outer s H EE f c0 hr => by exact (x_call (by exact ok_is_plan E) (by exact hr.mono (by decide)) (by rfl) (by exact E.g_is_plan) (by exact E.k_is_plan) (by exact E.b_is_plan) (by exact takes_of rfl rfl rfl rfl) (al_cons (al_cons (al_cons (al_cons al_nil)))) (by exact (xa_cons (xv 14) (xa_cons (xv 15) (xa_cons (xv 16) (xa_cons (xv 17) xa_nil))))))))))
  (s_one (s_ret (x_vcmp (by exact o_eq (by exact hu64 hr)) (xv 12) (x_fz (xf_disp (xa_cons x_str (xa_cons x_str (xa_cons x_str xa_nil))) (al_cons (al_cons (al_cons al_nil))))) (nomark _)))))))))))))))))
theorem sc_u_law_known_right : FnScope N_u_law_known_right [] (defScope S_u_law_known_right) := ⟨rfl, rfl, rfl, by decide +kernel, rfl, by decide +kernel, by decide +kernel⟩
def B_u_law_known_right : SM :=
  sSeq (sSet 0 (eCall M_u_law_bare (aCons (eC (.int 5)) (aCons (eTup (aCons (eTup (aCons (eC (.int 0)) (aCons (eC (.int 1)) (aNil)))) (aCons (eTup (aCons (eC (.int 1)) (aCons (eC (.int 2)) (aNil)))) (aCons (eTup (aCons (eC (.int 3)) (aCons (eC (.int 2)) (aNil)))) (aNil))))) (aNil)))))
  (sSeq (sIf (tBin cNe (eFz (lDisp (aCons (eCall M_needed (aCons (eVar 0) (aCons (eTup (aCons (eC (.int 2)) (aNil))) (aNil)))) (aCons (eCall M_needed (aCons (eVar 0) (aCons (eTup (aCons (eC (.int 1)) (aCons (eC (.int 4)) (aNil)))) (aNil)))) (aCons (eCall M_needed (aCons (eVar 0) (aCons (eTup (aNil)) (aNil)))) (aNil)))))) (eFz (lDisp (aCons (eTup (aCons (eC (.int 0)) (aCons (eC (.int 1)) (aCons (eC (.int 2)) (aCons (eC (.int 3)) (aNil)))))) (aCons (eTup (aCons (eC (.int 0)) (aCons (eC (.int 1)) (aCons (eC (.int 4)) (aNil))))) (aCons (eTup (aNil)) (aNil))))))) (sRet (eC (.bl false))) (sNx))
  (sSeq (sSet 1 (eFz (lDisp (aCons (eTup (aCons (eC (.int 2)) (aCons (eTup (aCons (eC (.int 2)) (aNil))) (aCons (eTup (aCons (eTup (aCons (eC (.int 0)) (aCons (eC (.int 3)) (aNil)))) (aCons (eTup (aCons (eC (.int 1)) (aNil))) (aCons (eTup (aCons (eC (.int 2)) (aNil))) (aNil))))) (aCons (eC (.bl true)) (aNil)))))) (aCons (eTup (aCons (eC (.int 1)) (aCons (eTup (aCons (eC (.int 2)) (aNil))) (aCons (eTup (aCons (eTup (aCons (eC (.int 0)) (aCons (eC (.int 3)) (aNil)))) (aCons (eTup (aCons (eC (.int 1)) (aNil))) (aCons (eTup (aCons (eC (.int 2)) (aNil))) (aNil))))) (aCons (eC (.bl false)) (aNil)))))) (aNil))))))
  (sSeq (sSet 1 (eBin opAdd (eVar 1) (eFz (lDisp (aCons (eTup (aCons (eC (.int 2)) (aCons (eTup (aCons (eC (.int 2)) (aNil))) (aCons (eTup (aCons (eTup (aCons (eC (.int 0)) (aNil))) (aCons (eTup (aCons (eC (.int 1)) (aCons (eC (.int 3)) (aNil)))) (aCons (eTup (aCons (eC (.int 2)) (aNil))) (aNil))))) (aCons (eC (.bl true)) (aNil)))))) (aCons (eTup (aCons (eC (.int 2)) (aCons (eTup (aCons (eC (.int 2)) (aNil))) (aCons (eTup (aCons (eTup (aCons (eC (.int 0)) (aCons (eC (.int 1)) (aNil)))) (aCons (eTup (aCons (eC (.int 3)) (aNil))) (aCons (eTup (aCons (eC (.int 2)) (aNil))) (aNil))))) (aCons (eC (.bl false)) (aNil)))))) (aNil)))))))
  (sSeq (sSet 1 (eBin opAdd (eVar 1) (eFz (lDisp (aCons (eTup (aCons (eC (.int 4)) (aCons (eTup (aNil)) (aCons (eTup (aNil)) (aCons (eC (.bl true)) (aNil)))))) (aCons (eTup (aCons (eC (.int 1)) (aCons (eTup (aNil)) (aCons (eTup (aCons (eTup (aCons (eC (.int 4)) (aNil))) (aNil))) (aCons (eC (.bl true)) (aNil)))))) (aCons (eTup (aCons (eC (.int 3)) (aCons (eTup (aCons (eC (.int 1)) (aNil))) (aCons (eTup (aCons (eTup (aCons (eC (.int 0)) (aNil))) (aNil))) (aCons (eC (.bl false)) (aNil)))))) (aNil))))))))
  (sRet (eT (tBin cEq (eFz (lComp [2, 3, 4, 5] (iIt (eVar 1)) (.tp [.nm 2, .nm 3, .nm 4, .nm 5]) (tYes) (eCall M_is_plan (aCons (eVar 0) (aCons (eVar 2) (aCons (eVar 3) (aCons (eVar 4) (aNil)))))))) (eFz (lComp [6] (iIt (eVar 1)) (.nm 6) (tYes) (eBin opIx (eVar 6) (eC (.int 3))))))))))))
def M_u_law_known_right : FM := fnT 0 7 B_u_law_known_right
theorem ok_u_law_known_right (E : Env P K mg base a fd ca xa ta co) : FnOk P w K mg base (L2.CX P w) 8 (a 33) (fd 33) [] (spM (TT K ca xa ta) 0 M_u_law_known_right) := by
  refine fn_okT (b := B_u_law_known_right) (N := N_u_law_known_right) E.f_u_law_known_right sc_u_law_known_right rfl rfl fun cdv A outer s H EE hr => ?_
  unfold B_u_law_known_right
  exact (s_cons (s_set (i := 0) (by exact sc_u_law_known_right.nd) (by rfl) (by exact Or.inr rfl) (x_call (by exact ok_u_law_bare E) (by exact hr.mono (by decide)) (by rfl) (by exact E.g_u_law_bare) (by exact E.k_u_law_bare) (by exact E.b_u_law_bare) (by exact takes_of rfl rfl rfl rfl) (al_cons (al_cons al_nil)) (by exact (xa_cons x_int (xa_cons (x_tup (xa_cons (x_tup (xa_cons x_int (xa_cons x_int xa_nil)) (al_cons (al_cons al_nil))) (xa_cons (x_tup (xa_cons x_int (xa_cons x_int xa_nil)) (al_cons (al_cons al_nil))) (xa_cons (x_tup (xa_cons x_int (xa_cons x_int xa_nil)) (al_cons (al_cons al_nil))) xa_nil))) (al_cons (al_cons (al_cons al_nil)))) xa_nil)))))
  (s_cons (s_if (x_tcmp (by exact o_ne (by exact hu64 hr)) (x_fz (xf_disp (xa_cons (x_call (by exact ok_needed E) (by exact hr.mono (by decide)) (by rfl) (by exact E.g_needed) (by exact E.k_needed) (by exact E.b_needed) (by exact takes_of rfl rfl rfl rfl) (al_cons (al_cons al_nil)) (by exact (xa_cons (xv 0) (xa_cons (x_tup (xa_cons x_int xa_nil) (al_cons al_nil)) xa_nil)))) (xa_cons (x_call (by exact ok_needed E) (by exact hr.mono (by decide)) (by rfl) (by exact E.g_needed) (by exact E.k_needed) (by exact E.b_needed) (by exact takes_of rfl rfl rfl rfl) (al_cons (al_cons al_nil)) (by exact (xa_cons (xv 0) (xa_cons (x_tup (xa_cons x_int (xa_cons x_int xa_nil)) (al_cons (al_cons al_nil))) xa_nil)))) (xa_cons (x_call (by exact ok_needed E) (by exact hr.mono (by decide)) (by rfl) (by exact E.g_needed) (by exact E.k_needed) (by exact E.b_needed) (by exact takes_of rfl rfl rfl rfl) (al_cons (al_cons al_nil)) (by exact (xa_cons (xv 0) (xa_cons (x_tup xa_nil al_nil) xa_nil)))) xa_nil))) (al_cons (al_cons (al_cons al_nil))))) (x_fz (xf_disp (xa_cons (x_tup (xa_cons x_int (xa_cons x_int (xa_cons x_int (xa_cons x_int xa_nil)))) (al_cons (al_cons (al_cons (al_cons al_nil))))) (xa_cons (x_tup (xa_cons x_int (xa_cons x_int (xa_cons x_int xa_nil))) (al_cons (al_cons (al_cons al_nil)))) (xa_cons (x_tup xa_nil al_nil) xa_nil))) (al_cons (al_cons (al_cons al_nil))))) (nomark _)) (s_one (s_ret x_bl)) s_nil)
  (s_cons (s_set (i := 1) (by exact sc_u_law_known_right.nd) (by rfl) (by exact Or.inl rfl) (x_fz (xf_disp (xa_cons (x_tup (xa_cons x_int (xa_cons (x_tup (xa_cons x_int xa_nil) (al_cons al_nil)) (xa_cons (x_tup (xa_cons (x_tup (xa_cons x_int (xa_cons x_int xa_nil)) (al_cons (al_cons al_nil))) (xa_cons (x_tup (xa_cons x_int xa_nil) (al_cons al_nil)) (xa_cons (x_tup (xa_cons x_int xa_nil) (al_cons al_nil)) xa_nil))) (al_cons (al_cons (al_cons al_nil)))) (xa_cons x_bl xa_nil)))) (al_cons (al_cons (al_cons (al_cons al_nil))))) (xa_cons (x_tup (xa_cons x_int (xa_cons (x_tup (xa_cons x_int xa_nil) (al_cons al_nil)) (xa_cons (x_tup (xa_cons (x_tup (xa_cons x_int (xa_cons x_int xa_nil)) (al_cons (al_cons al_nil))) (xa_cons (x_tup (xa_cons x_int xa_nil) (al_cons al_nil)) (xa_cons (x_tup (xa_cons x_int xa_nil) (al_cons al_nil)) xa_nil))) (al_cons (al_cons (al_cons al_nil)))) (xa_cons x_bl xa_nil)))) (al_cons (al_cons (al_cons (al_cons al_nil))))) xa_nil)) (al_cons (al_cons al_nil)))))
  (s_cons (s_set (i := 1) (by exact sc_u_law_known_right.nd) (by rfl) (by exact Or.inl rfl) (x_bin o_add (xv 1) (x_fz (xf_disp (xa_cons (x_tup (xa_cons x_int (xa_cons (x_tup (xa_cons x_int xa_nil) (al_cons al_nil)) (xa_cons (x_tup (xa_cons (x_tup (xa_cons x_int xa_nil) (al_cons al_nil)) (xa_cons (x_tup (xa_cons x_int (xa_cons x_int xa_nil)) (al_cons (al_cons al_nil))) (xa_cons (x_tup (xa_cons x_int xa_nil) (al_cons al_nil)) xa_nil))) (al_cons (al_cons (al_cons al_nil)))) (xa_cons x_bl xa_nil)))) (al_cons (al_cons (al_cons (al_cons al_nil))))) (xa_cons (x_tup (xa_cons x_int (xa_cons (x_tup (xa_cons x_int xa_nil) (al_cons al_nil)) (xa_cons (x_tup (xa_cons (x_tup (xa_cons x_int (xa_cons x_int xa_nil)) (al_cons (al_cons al_nil))) (xa_cons (x_tup (xa_cons x_int xa_nil) (al_cons al_nil)) (xa_cons (x_tup (xa_cons x_int xa_nil) (al_cons al_nil)) xa_nil))) (al_cons (al_cons (al_cons al_nil)))) (xa_cons x_bl xa_nil)))) (al_cons (al_cons (al_cons (al_cons al_nil))))) xa_nil)) (al_cons (al_cons al_nil))))))
  (s_cons (s_set (i := 1) (by exact sc_u_law_known_right.nd) (by rfl) (by exact Or.inl rfl) (x_bin o_add (xv 1) (x_fz (xf_disp (xa_cons (x_tup (xa_cons x_int (xa_cons (x_tup xa_nil al_nil) (xa_cons (x_tup xa_nil al_nil) (xa_cons x_bl xa_nil)))) (al_cons (al_cons (al_cons (al_cons al_nil))))) (xa_cons (x_tup (xa_cons x_int (xa_cons (x_tup xa_nil al_nil) (xa_cons (x_tup (xa_cons (x_tup (xa_cons x_int xa_nil) (al_cons al_nil)) xa_nil) (al_cons al_nil)) (xa_cons x_bl xa_nil)))) (al_cons (al_cons (al_cons (al_cons al_nil))))) (xa_cons (x_tup (xa_cons x_int (xa_cons (x_tup (xa_cons x_int xa_nil) (al_cons al_nil)) (xa_cons (x_tup (xa_cons (x_tup (xa_cons x_int xa_nil) (al_cons al_nil)) xa_nil) (al_cons al_nil)) (xa_cons x_bl xa_nil)))) (al_cons (al_cons (al_cons (al_cons al_nil))))) xa_nil))) (al_cons (al_cons (al_cons al_nil)))))))
  (s_one (s_ret (x_vcmp (by exact o_eq (by exact hu64 hr)) (x_fz (xf_lc (own := [("crews", 2), ("wanted", 3), ("thing", 4), ("due", 5)]) (by rfl) (by exact sc_u_law_known_right.nd) (x_iIt (by rfl) (xv 1)) (by exact blkOk_by (own := [("crews", 2), ("wanted", 3), ("thing", 4), ("due", 5)]) (N := N_u_law_known_right) (sc := (defScope S_u_law_known_right)) (by decide +kernel)) (by decide) (fun _ _ _ _ _ => (g_tp (by rfl) (gs_cons (g_nm (i := 2) (by exact sc_u_law_known_right.nd) (by rfl) (by exact Or.inl rfl)) (gs_cons (g_nm (i := 3) (by exact sc_u_law_known_right.nd) (by rfl) (by exact Or.inl rfl)) (gs_cons (g_nm (i := 4) (by exact sc_u_law_known_right.nd) (by rfl) (by exact Or.inl rfl)) (gs_cons (g_nm (i := 5) (by exact sc_u_law_known_right.nd) (by rfl) (by exact Or.inl rfl)) gs_nil)))))) (fun _ _ _ _ _ => t_yes) (fun _ _ _ _ _ => (x_call (by exact ok_is_plan E) (by exact hr.mono (by decide)) (by rfl) (by exact E.g_is_plan) (by exact E.k_is_plan) (by exact E.b_is_plan) (by exact takes0) (al_cons (al_cons (al_cons (al_cons al_nil)))) (by exact (xa_cons (xv 0) (xa_cons (xv 2) (xa_cons (xv 3) (xa_cons (xv 4) xa_nil))))))))) (x_fz (xf_lc (own := [("row", 6)]) (by rfl) (by exact sc_u_law_known_right.nd) (x_iIt (by rfl) (xv 1)) (by exact blkOk_by (own := [("row", 6)]) (N := N_u_law_known_right) (sc := (defScope S_u_law_known_right)) (by decide +kernel)) (by decide) (fun _ _ _ _ _ => (g_nm (i := 6) (by exact sc_u_law_known_right.nd) (by rfl) (by exact Or.inl rfl))) (fun _ _ _ _ _ => t_yes) (fun _ _ _ _ _ => (x_ix (by exact i_ix rfl (by exact hu65 hr)) (xv 6) x_int)))) (nomark _)))))))))
theorem sc_law : FnScope N_law ["script"] (defScope S_law) := ⟨rfl, rfl, rfl, by decide +kernel, rfl, by decide +kernel, by decide +kernel⟩
def B_law : SM :=
  sSeq (sSet 1 (eCall M_u_law_hand (aCons (eVar 0) (aNil))))
  (sSeq (sIf (tNot (tE (eCall M_u_law_known_right aNil))) (sRet (eC (.bl false))) (sNx))
  (sSeq (sFor (iRng1 (eC (.int 5))) (.nm 2) (sSeq (sSet 3 (eBin opAdd (eC (.int 1)) (eCall M_u_law_draw (aCons (eVar 1) (aCons (eCall M_u_law_any (aCons (eVar 1) (aCons (eFz (lDisp (aCons (eC (.int 3)) (aCons (eC (.int 6)) (aCons (eC (.int 9)) (aCons (eC (.int 16)) (aNil))))))) (aNil)))) (aNil))))))
  (sSeq (sSet 4 (eIf (tBin cEq (eCall M_u_law_draw (aCons (eVar 1) (aCons (eC (.int 4)) (aNil)))) (eC (.int 0))) (eC .non) (eCall M_u_law_mixed (aCons (eVar 1) (aCons (eFz (lRange (eVar 3))) (aNil))))))
  (sIf (tNot (tE (eCall M_u_law_is_right (aCons (eVar 1) (aCons (eVar 3) (aCons (eCall M_u_law_overs (aCons (eVar 1) (aCons (eVar 3) (aCons (eVar 4) (aCons (eCall M_u_law_any (aCons (eVar 1) (aCons (eFz (lDisp (aCons (eC (.int 2)) (aCons (eC (.int 6)) (aCons (eC (.int 20)) (aNil)))))) (aNil)))) (aNil)))))) (aNil))))))) (sRet (eC (.bl false))) (sNx)))))
  (sRet (eC (.bl true)))))
def M_law : FM := fnT 1 5 B_law
theorem ok_law (E : Env P K mg base a fd ca xa ta co) : FnOk P w K mg base (L2.CX P w) 10 (a 34) (fd 34) ["script"] (spM (TT K ca xa ta) 1 M_law) := by
  refine fn_okT (b := B_law) (N := N_law) E.f_law sc_law rfl rfl fun cdv A outer s H EE hr => ?_
  unfold B_law
  exact (s_cons (s_set (i := 1) (by exact sc_law.nd) (by rfl) (by exact Or.inl rfl) (x_call (by exact ok_u_law_hand E) (by exact hr.mono (by decide)) (by rfl) (by exact E.g_u_law_hand) (by exact E.k_u_law_hand) (by exact E.b_u_law_hand) (by exact takes_of rfl rfl rfl rfl) (al_cons al_nil) (by exact (xa_cons (xv 0) xa_nil))))
  (s_cons (s_if (x_tnot (x_pt (x_asT (x_call0 (by exact ok_u_law_known_right E) (by exact hr.mono (by decide)) (by rfl) (by exact E.g_u_law_known_right) (by exact E.k_u_law_known_right) (by exact E.b_u_law_known_right) (by exact takes_of rfl rfl rfl rfl))))) (s_one (s_ret x_bl)) s_nil)
  (s_cons (s_for (by exact passes_of rfl) (by rfl) (x_iRng1 (by rfl) (by exact E.n_range) x_int) (g_nm (i := 2) (by exact sc_law.nd) (by rfl) (by exact Or.inl rfl)) (s_cons (s_set (i := 3) (by exact sc_law.nd) (by rfl) (by exact Or.inl rfl) (x_bin o_add x_int (x_call (by exact ok_u_law_draw E) (by exact hr.mono (by decide)) (by rfl) (by exact E.g_u_law_draw) (by exact E.k_u_law_draw) (by exact E.b_u_law_draw) (by exact takes_of rfl rfl rfl rfl) (al_cons (al_cons al_nil)) (by exact (xa_cons (xv 1) (xa_cons (x_call (by exact ok_u_law_any E) (by exact hr.mono (by decide)) (by rfl) (by exact E.g_u_law_any) (by exact E.k_u_law_any) (by exact E.b_u_law_any) (by exact takes_of rfl rfl rfl rfl) (al_cons (al_cons al_nil)) (by exact (xa_cons (xv 1) (xa_cons (x_fz (xf_disp (xa_cons x_int (xa_cons x_int (xa_cons x_int (xa_cons x_int xa_nil)))) (al_cons (al_cons (al_cons (al_cons al_nil)))))) xa_nil)))) xa_nil))))))
  (s_cons (s_set (i := 4) (by exact sc_law.nd) (by rfl) (by exact Or.inl rfl) (x_if (x_tcmp (by exact o_eq (by exact hu64 hr)) (x_call (by exact ok_u_law_draw E) (by exact hr.mono (by decide)) (by rfl) (by exact E.g_u_law_draw) (by exact E.k_u_law_draw) (by exact E.b_u_law_draw) (by exact takes_of rfl rfl rfl rfl) (al_cons (al_cons al_nil)) (by exact (xa_cons (xv 1) (xa_cons x_int xa_nil)))) x_int (nomark _)) x_non (x_call (by exact ok_u_law_mixed E) (by exact hr.mono (by decide)) (by rfl) (by exact E.g_u_law_mixed) (by exact E.k_u_law_mixed) (by exact E.b_u_law_mixed) (by exact takes_of rfl rfl rfl rfl) (al_cons (al_cons al_nil)) (by exact (xa_cons (xv 1) (xa_cons (x_fz (xf_lrange (by rfl) (by rfl) (by exact E.n_list) (by rfl) (by exact E.n_range) (xv 3))) xa_nil))))))
  (s_one (s_if (x_tnot (x_pt (x_asT (x_call (by exact ok_u_law_is_right E) (by exact hr.mono (by decide)) (by rfl) (by exact E.g_u_law_is_right) (by exact E.k_u_law_is_right) (by exact E.b_u_law_is_right) (by exact takes_of rfl rfl rfl rfl) (al_cons (al_cons (al_cons al_nil))) (by exact (xa_cons (xv 1) (xa_cons (xv 3) (xa_cons (x_call (by exact ok_u_law_overs E) (by exact hr.mono (by decide)) (by rfl) (by exact E.g_u_law_overs) (by exact E.k_u_law_overs) (by exact E.b_u_law_overs) (by exact takes_of rfl rfl rfl rfl) (al_cons (al_cons (al_cons (al_cons al_nil)))) (by exact (xa_cons (xv 1) (xa_cons (xv 3) (xa_cons (xv 4) (xa_cons (x_call (by exact ok_u_law_any E) (by exact hr.mono (by decide)) (by rfl) (by exact E.g_u_law_any) (by exact E.k_u_law_any) (by exact E.b_u_law_any) (by exact takes_of rfl rfl rfl rfl) (al_cons (al_cons al_nil)) (by exact (xa_cons (xv 1) (xa_cons (x_fz (xf_disp (xa_cons x_int (xa_cons x_int (xa_cons x_int xa_nil))) (al_cons (al_cons (al_cons al_nil))))) xa_nil)))) xa_nil)))))) xa_nil)))))))) (s_one (s_ret x_bl)) s_nil)))))
  (s_one (s_ret x_bl)))))
end K40
set_option Elab.async false
set_option linter.all false
set_option maxRecDepth 100000
set_option maxHeartbeats 1000000
/-! Machine D: reckoning with mirrors. -/
namespace DM
open PySem
/-! ### what is data points nowhere -/
mutual
theorem under_of_toP {n : Nat} : ∀ (d : D) {p : PyData}, toP d = some p → D.under n d = true
  | .non, _, _ => by simp [D.under]
  | .bl _, _, _ => by simp [D.under]
  | .int _, _, _ => by simp [D.under]
  | .str _, _, _ => by simp [D.under]
  | .tup l, p, h => by
    rw [toP] at h
    obtain ⟨q, e, _⟩ := Option.map_eq_some_iff.mp h
    rw [D.under]
    exact unders_of_toPs l e
  | .fl l, p, h => by
    rw [toP] at h
    obtain ⟨q, e, _⟩ := Option.map_eq_some_iff.mp h
    rw [D.under]
    exact unders_of_toPs l e
  | .sc _, _, h => by rw [toP] at h; cases h
  | .fo _ _, _, h => by rw [toP] at h; cases h
  | .fdk _ _, _, h => by rw [toP] at h; cases h
  | .fdt _ _, _, h => by rw [toP] at h; cases h
  | .ref _, _, h => by rw [toP] at h; cases h
  | .ex _ _, _, h => by rw [toP] at h; cases h
theorem unders_of_toPs {n : Nat} : ∀ (l : List D) {p : List PyData}, toPs l = some p → unders n l = true
  | [], _, _ => by simp [unders]
  | d :: l, p, h => by
    rw [toPs] at h
    split at h
    · rename_i p q e1 e2
      rw [unders, under_of_toP d e1, unders_of_toPs l e2]; rfl
    · cases h
end
mutual
theorem D.same_rfl : ∀ d : D, D.same d d = true
  | .non => by simp [D.same]
  | .bl a => by simp [D.same]
  | .int a => by simp [D.same]
  | .str a => by simp [D.same]
  | .tup l => by simp [D.same, sames_rfl l]
  | .fl l => by simp [D.same, sames_rfl l]
  | .sc l => by simp [D.same, sames_rfl l]
  | .fo c l => by simp [D.same, sames_rfl l]
  | .fdk c l => by simp [D.same, sames_rfl l]
  | .fdt c l => by simp [D.same, sames_rfl l]
  | .ref a => by simp [D.same]
  | .ex c l => by simp [D.same, sames_rfl l]
theorem sames_rfl : ∀ l : List D, sames l l = true
  | [] => by simp [sames]
  | d :: l => by simp [sames, D.same_rfl d, sames_rfl l]
end
theorem O.same_rfl : ∀ o : O, O.same o o = true
  | .lst l => by simp [O.same, sames_rfl]
  | .dk l => by simp [O.same, sames_rfl]
  | .dt l => by simp [O.same, sames_rfl]
  | .ins c l => by simp [O.same, sames_rfl]
theorem hsame_rfl : ∀ h : HD, hsame h h = true
  | [] => by simp [hsame]
  | o :: h => by simp [hsame, O.same_rfl, hsame_rfl h]
/-- a call that leaves the heap as it was -/
theorem trim_same {h : HD} {d : D} (u : D.under h.length d = true) : trim h (.ok d h) = .ok d h := by
  unfold trim
  have c : clean h h = true := by unfold clean; rw [List.take_length, hsame_rfl]; rfl
  simp only [c, Nat.le_refl, decide_true, Bool.and_self, if_true]
  have f : freeze h h.length 60 d = some d := by unfold freeze; rw [if_pos u]
  rw [f]
  simp
theorem trim_excs {h : HD} {x : Xn} (u : unders h.length x.l = true) : trim h (.exc x h) = .exc x h := by
  unfold trim
  have c : clean h h = true := by unfold clean; rw [List.take_length, hsame_rfl]; rfl
  simp [c, u]
/-- .. that writes boxes, all of which point to what stood -/
theorem trim_set {h h1 : HD} {d : D} (e : h1.length = h.length) (a : h1.all (O.under h.length) = true) (u : D.under h.length d = true) : trim h (.ok d h1) = .ok d h1 := by
  unfold trim
  have t : h1.take h.length = h1 := by rw [← e, List.take_length]
  have c : clean h h1 = true := by unfold clean; rw [t, a, Bool.or_true]
  simp only [c, e, Nat.le_refl, decide_true, Bool.and_self, if_true]
  have f : freeze h1 h.length 60 d = some d := by unfold freeze; rw [if_pos u]
  rw [f, t]
/-- .. that leaves new boxes behind, to which the answer points not -/
theorem trim_new {h h1 g : HD} {d : D} (e : h1.length = h.length) (a : h1.all (O.under h.length) = true) (u : D.under h.length d = true) : trim h (.ok d (h1 ++ g)) = .ok d h1 := by
  unfold trim
  have t : (h1 ++ g).take h.length = h1 := by rw [← e, List.take_left]
  have c : clean h (h1 ++ g) = true := by unfold clean; rw [t, a, Bool.or_true]
  have l : decide (h.length ≤ (h1 ++ g).length) = true := by simp; omega
  simp only [c, l, Bool.and_self, if_true]
  have f : freeze (h1 ++ g) h.length 60 d = some d := by unfold freeze; rw [if_pos u]
  rw [f, t]
theorem isEx_dat {d : D} (h : (toP d).isSome = true) : isEx d = false := by cases d <;> first | rfl | (simp [toP] at h)
@[simp] theorem isEx_non : isEx .non = false := rfl
@[simp] theorem isEx_bl {b : Bool} : isEx (.bl b) = false := rfl
@[simp] theorem isEx_int {i : Int} : isEx (.int i) = false := rfl
@[simp] theorem isEx_str {s : Str} : isEx (.str s) = false := rfl
@[simp] theorem isEx_tup {l : List D} : isEx (.tup l) = false := rfl
@[simp] theorem isEx_fl {l : List D} : isEx (.fl l) = false := rfl
@[simp] theorem isEx_sc {l : List D} : isEx (.sc l) = false := rfl
@[simp] theorem isEx_fo {c : Nat} {l : List D} : isEx (.fo c l) = false := rfl
@[simp] theorem isEx_fdk {c : List Key} {l : List D} : isEx (.fdk c l) = false := rfl
@[simp] theorem isEx_fdt {c : List (List Key)} {l : List D} : isEx (.fdt c l) = false := rfl
@[simp] theorem isEx_ref {n : Nat} : isEx (.ref n) = false := rfl
@[simp] theorem isEx_ex {c : Nat} {l : List D} : isEx (.ex c l) = true := rfl
theorem shaped_int {i : Int} : SeqAt.shaped (.int i) = true := by unfold SeqAt.shaped; simp [PyData.canLay0, PyData.depth]
theorem shaped_str {i : Str} (h : PyData.strOk i = true) : SeqAt.shaped (.str i) = true := by unfold SeqAt.shaped; simp [PyData.canLay0, PyData.depth, h]
theorem shaped_bool {i : Bool} : SeqAt.shaped (.bool i) = true := by unfold SeqAt.shaped; simp [PyData.canLay0, PyData.depth]
theorem eqD_int {h : HD} {i j : Int} : eqD h (.int i) (.int j) = some (decide (i = j)) := by
  unfold eqD
  by_cases e : i = j <;> simp [look, toP, shaped_int, PyData.eqv, e]
theorem eqD_bl {h : HD} {i j : Bool} : eqD h (.bl i) (.bl j) = some (i == j) := by
  unfold eqD
  cases i <;> cases j <;> simp [look, toP, shaped_bool, PyData.eqv]
theorem eqD_str {h : HD} {i j : Str} (hi : PyData.strOk i = true) (hj : PyData.strOk j = true) : eqD h (.str i) (.str j) = some (decide (i = j)) := by
  unfold eqD
  by_cases e : i = j
  · subst e; simp [look, toP, shaped_str hi, PyData.eqv]
  · simp [look, toP, shaped_str hi, shaped_str hj, PyData.eqv, e]
/-- a comprehension whose turns leave the heap as it is -/
theorem lc_map {s : SD} {p : Pat} {e : EM} {own : List Nat} {w : List (Nat × List D)} {h : HD} {g : D → D} (st : stays h w = true) : ∀ (xs : List D) (acc : List D), (∀ x ∈ xs, ∃ s1, p.set x (wipeD s own) = some s1 ∧ e s1 h = .ok (g x) h) →
    lcGo s p tYes e own w xs h acc = .ok (acc ++ xs.map g) h
  | [], acc, _ => by simp [lcGo]
  | x :: xs, acc, k => by
    obtain ⟨s1, h1, h2⟩ := k x (List.mem_cons_self ..)
    rw [lcGo, h1]
    simp only [tYes, Res.calm, Res.bind, if_true, h2, st]
    rw [lc_map st xs (acc ++ [g x]) fun y hy => k y (List.mem_cons_of_mem _ hy)]
    simp
theorem lComp_map {s : SD} {p : Pat} {i : IM} {e : EM} {own : List Nat} {l : List D} {w : List (Nat × List D)} {h h1 : HD} {g : D → D} (hi : i s h = .ok ⟨l, w⟩ h1) (st : stays h1 w = true) (k : ∀ x ∈ l, ∃ s1, p.set x (wipeD s own) = some s1 ∧ e s1 h1 = .ok (g x) h1) :
    lComp own i p tYes e s h = .ok (l.map g) h1 := by
  unfold lComp
  rw [hi]
  show lcGo s p tYes e own w l h1 [] = _
  rw [lc_map st l [] k]
  simp
end DM
set_option Elab.async false
set_option linter.all false
set_option maxRecDepth 100000
set_option maxHeartbeats 1000000
/-! Machine D: good data; equality of it; the hand of draws. -/
namespace DM
open PySem
/-- data so deep at most -/
def good : Nat → D → Bool
  | _, .non => true
  | _, .bl _ => true
  | _, .int _ => true
  | _, .str s => PyData.strOk s
  | n + 1, .tup l => l.all (good n)
  | n + 1, .fl l => l.all (good n)
  | _, _ => false
@[simp] theorem strOk_lit (s : String) : PyData.strOk (Str.ofString s) = true := by
  unfold PyData.strOk
  rw [Str.ofString_eq_toList]
  simp only [List.all_toArray, List.all_map, List.all_eq_true]
  intro c _
  have := c.valid
  simp only [Function.comp, decide_eq_true_eq]
  show c.val.toNat < 0x110000
  rcases this with h | h
  · have h : c.val.toNat < 0xd800 := h
    omega
  · exact h.2
mutual
def enc : D → PyData
  | .non => .none
  | .bl b => .bool b
  | .int i => .int i
  | .str s => .str s
  | .tup l => .tuple (encs l)
  | .fl l => .list (encs l)
  | .sc _ => .none
  | .fo _ _ => .none
  | .fdk _ _ => .none
  | .fdt _ _ => .none
  | .ref _ => .none
  | .ex _ _ => .none
def encs : List D → List PyData
  | [] => []
  | d :: l => enc d :: encs l
end
theorem encs_map : ∀ l : List D, encs l = l.map enc
  | [] => by rw [encs]; rfl
  | d :: l => by rw [encs, encs_map l]; rfl
@[simp] theorem good_non {n : Nat} : good n .non = true := by cases n <;> rfl
@[simp] theorem good_bl {n : Nat} {b : Bool} : good n (.bl b) = true := by cases n <;> rfl
@[simp] theorem good_int {n : Nat} {i : Int} : good n (.int i) = true := by cases n <;> rfl
@[simp] theorem good_str {n : Nat} {s : Str} : good n (.str s) = PyData.strOk s := by cases n <;> rfl
@[simp] theorem good_tup {n : Nat} {l : List D} : good (n + 1) (.tup l) = l.all (good n) := rfl
@[simp] theorem good_fl {n : Nat} {l : List D} : good (n + 1) (.fl l) = l.all (good n) := rfl
@[simp] theorem good_tup0 {l : List D} : good 0 (.tup l) = false := rfl
@[simp] theorem good_fl0 {l : List D} : good 0 (.fl l) = false := rfl
@[simp] theorem good_sc {n : Nat} {l : List D} : good n (.sc l) = false := by cases n <;> rfl
@[simp] theorem good_fo {n c : Nat} {l : List D} : good n (.fo c l) = false := by cases n <;> rfl
@[simp] theorem good_fdk {n : Nat} {c} {l : List D} : good n (.fdk c l) = false := by cases n <;> rfl
@[simp] theorem good_fdt {n : Nat} {c} {l : List D} : good n (.fdt c l) = false := by cases n <;> rfl
@[simp] theorem good_ref {n c : Nat} : good n (.ref c) = false := by cases n <;> rfl
@[simp] theorem good_ex {n c : Nat} {l : List D} : good n (.ex c l) = false := by cases n <;> rfl
/-- what a law's things are like -/
def Sp1 (n : Nat) (d : D) : Prop := toP d = some (enc d) ∧ (enc d).canLay0 = true ∧ (enc d).depth ≤ n
def SpL (n : Nat) (l : List D) : Prop := toPs l = some (encs l) ∧ PyData.canLayAll0 (encs l) = true ∧ PyData.depthAll (encs l) ≤ n
theorem spL_of {n : Nat} : ∀ l : List D, (∀ x ∈ l, Sp1 n x) → SpL n l
  | [], _ => ⟨rfl, rfl, Nat.zero_le _⟩
  | d :: l, h => by
    obtain ⟨a, b, c⟩ := h d (List.mem_cons_self ..)
    obtain ⟨p, q, r⟩ := spL_of l fun x m => h x (List.mem_cons_of_mem _ m)
    refine ⟨by rw [toPs, a, p, encs], by rw [encs, PyData.canLayAll0, b, q]; rfl, ?_⟩
    rw [encs, PyData.depthAll]
    omega
theorem good_sp : ∀ (n : Nat) (d : D), good n d = true → Sp1 n d
  | n, .non, _ => ⟨by rw [toP, enc], by rw [enc]; rfl, by rw [enc]; exact Nat.zero_le _⟩
  | n, .bl _, _ => ⟨by rw [toP, enc], by rw [enc]; rfl, by rw [enc]; exact Nat.zero_le _⟩
  | n, .int _, _ => ⟨by rw [toP, enc], by rw [enc]; rfl, by rw [enc]; exact Nat.zero_le _⟩
  | n, .str s, h => ⟨by rw [toP, enc], by rw [enc, PyData.canLay0]; rw [good_str] at h; exact h, by rw [enc]; exact Nat.zero_le _⟩
  | n + 1, .tup l, h => by
    rw [good_tup, List.all_eq_true] at h
    obtain ⟨p, q, r⟩ := spL_of l fun x m => good_sp n x (h x m)
    exact ⟨by rw [toP, p, enc]; rfl, by rw [enc, PyData.canLay0, q], by rw [enc, PyData.depth]; omega⟩
  | n + 1, .fl l, h => by
    rw [good_fl, List.all_eq_true] at h
    obtain ⟨p, q, r⟩ := spL_of l fun x m => good_sp n x (h x m)
    exact ⟨by rw [toP, p, enc]; rfl, by rw [enc, PyData.canLay0, q], by rw [enc, PyData.depth]; omega⟩
  | 0, .tup _, h => by cases h
  | 0, .fl _, h => by cases h
  | n, .sc _, h => by rw [good_sc] at h; cases h
  | n, .fo _ _, h => by rw [good_fo] at h; cases h
  | n, .fdk _ _, h => by rw [good_fdk] at h; cases h
  | n, .fdt _ _, h => by rw [good_fdt] at h; cases h
  | n, .ref _, h => by rw [good_ref] at h; cases h
  | n, .ex _ _, h => by rw [good_ex] at h; cases h
theorem good_mono : ∀ {n m : Nat} {d : D}, n ≤ m → good n d = true → good m d = true
  | n, m, .non, _, _ => good_non
  | n, m, .bl _, _, _ => good_bl
  | n, m, .int _, _, _ => good_int
  | n, m, .str s, _, h => by rw [good_str] at h ⊢; exact h
  | n + 1, m + 1, .tup l, hm, h => by
    rw [good_tup, List.all_eq_true] at h ⊢
    exact fun x k => good_mono (Nat.le_of_succ_le_succ hm) (h x k)
  | n + 1, m + 1, .fl l, hm, h => by
    rw [good_fl, List.all_eq_true] at h ⊢
    exact fun x k => good_mono (Nat.le_of_succ_le_succ hm) (h x k)
  | 0, _, .tup _, _, h => by cases h
  | 0, _, .fl _, _, h => by cases h
  | n + 1, 0, _, hm, _ => absurd hm (Nat.not_succ_le_zero _)
  | n, m, .sc _, _, h => by rw [good_sc] at h; cases h
  | n, m, .fo _ _, _, h => by rw [good_fo] at h; cases h
  | n, m, .fdk _ _, _, h => by rw [good_fdk] at h; cases h
  | n, m, .fdt _ _, _, h => by rw [good_fdt] at h; cases h
  | n, m, .ref _, _, h => by rw [good_ref] at h; cases h
  | n, m, .ex _ _, _, h => by rw [good_ex] at h; cases h
theorem good_toP {n : Nat} {d : D} (h : good n d = true) : toP d = some (enc d) := (good_sp n d h).1
theorem good_dat {n : Nat} {d : D} (h : good n d = true) : (toP d).isSome = true := by rw [good_toP h]; rfl
theorem good_shaped {n : Nat} {d : D} (hn : n ≤ 64) (h : good n d = true) : SeqAt.shaped (enc d) = true := by
  obtain ⟨_, a, b⟩ := good_sp n d h
  unfold SeqAt.shaped
  rw [a, Bool.true_and]
  exact decide_eq_true (Nat.le_trans b hn)
theorem good_under {n m : Nat} {d : D} (h : good n d = true) : D.under m d = true := under_of_toP d (good_toP h)
theorem goods_under {n m : Nat} {l : List D} (h : l.all (good n) = true) : unders m l = true := by
  rw [List.all_eq_true] at h
  exact unders_of_toPs l (spL_of l fun x k => good_sp n x (h x k)).1
theorem good_ex' {n : Nat} {d : D} (h : good n d = true) : isEx d = false := isEx_dat (good_dat h)
theorem good_look {n : Nat} {d : D} (hp : HD) (h : good n d = true) : look hp d = d := by
  cases d with
  | ref c => rw [good_ref] at h; cases h
  | _ => rfl
theorem good_kids {n : Nat} {l : List D} (h : good n (.tup l) = true) : ∀ x ∈ l, good n x = true := by
  cases n with
  | zero => cases h
  | succ n =>
    rw [good_tup, List.all_eq_true] at h
    exact fun x m => good_mono (Nat.le_succ n) (h x m)
theorem good_kidsF {n : Nat} {l : List D} (h : good n (.fl l) = true) : ∀ x ∈ l, good n x = true := by
  cases n with
  | zero => cases h
  | succ n =>
    rw [good_fl, List.all_eq_true] at h
    exact fun x m => good_mono (Nat.le_succ n) (h x m)
/-- Python's == of data -/
def eqvD (a b : D) : Bool := PyData.eqv (enc a) (enc b)
def eqvs : List D → List D → Bool
  | [], [] => true
  | a :: l, b :: m => eqvD a b && eqvs l m
  | _, _ => false
theorem eqvs_enc : ∀ l m : List D, PyData.eqvAll (encs l) (encs m) = eqvs l m
  | [], [] => rfl
  | [], _ :: _ => by rw [encs, encs]; rfl
  | _ :: _, [] => by rw [encs, encs]; rfl
  | a :: l, b :: m => by rw [encs, encs, PyData.eqvAll, eqvs_enc l m]; rfl
theorem eqD_good {n m : Nat} {a b : D} (hp : HD) (ha : good n a = true) (hb : good m b = true) (hn : n ≤ 64) (hm : m ≤ 64) : eqD hp a b = some (eqvD a b) := by
  unfold eqD
  rw [good_look hp ha, good_look hp hb, good_toP ha, good_toP hb]
  simp only [good_shaped hn ha, good_shaped hm hb, Bool.and_self, if_true]
  rfl
theorem eqvD_refl {n : Nat} {d : D} (h : good n d = true) : eqvD d d = true := SeqAt.eqv_refl _ (good_sp n d h).2.1
@[simp] theorem eqvD_int {i j : Int} : eqvD (.int i) (.int j) = decide (i = j) := by
  unfold eqvD
  rw [enc, enc, PyData.eqv]
  by_cases e : i = j <;> simp [e]
@[simp] theorem eqvD_str {i j : Str} : eqvD (.str i) (.str j) = decide (i = j) := by
  unfold eqvD
  rw [enc, enc, PyData.eqv]
  by_cases e : i = j <;> simp [e]
@[simp] theorem eqvD_bl {i j : Bool} : eqvD (.bl i) (.bl j) = (i == j) := by unfold eqvD; rw [enc, enc, PyData.eqv]
@[simp] theorem eqvD_tup {l m : List D} : eqvD (.tup l) (.tup m) = eqvs l m := by unfold eqvD; rw [enc, enc, PyData.eqv, eqvs_enc]
@[simp] theorem eqvD_fl {l m : List D} : eqvD (.fl l) (.fl m) = eqvs l m := by unfold eqvD; rw [enc, enc, PyData.eqv, eqvs_enc]
@[simp] theorem eqvD_non : eqvD .non .non = true := rfl
@[simp] theorem eqvs_nil : eqvs [] [] = true := rfl
@[simp] theorem eqvs_cons {a b : D} {l m : List D} : eqvs (a :: l) (b :: m) = (eqvD a b && eqvs l m) := rfl
/-! ### the hand of draws -/
structure Hand where
  cells : List Int
  at_ : Int
  big : Int
  mix : Int
  met : Int
  hc : ∀ x ∈ cells, 0 ≤ x
  ha : 0 ≤ at_
  hb : 0 ≤ big
  hm : 0 ≤ mix
  ht : 0 ≤ met
def Hand.box (g : Hand) : O := .lst [.fl (g.cells.map .int), .int g.at_, .int g.big, .int g.mix, .int g.met]
theorem unders_ints {n : Nat} : ∀ l : List Int, unders n (l.map .int) = true
  | [] => by simp [unders]
  | i :: l => by simp [unders, D.under, unders_ints l]
theorem Hand.under {n : Nat} (g : Hand) : O.under n g.box = true := by
  unfold Hand.box O.under
  simp [unders, D.under, unders_ints]
/-- boxes that point at most to each other -/
def Fine (r : HD) : Prop := r.all (O.under (r.length + 1)) = true
theorem fine_nil : Fine [] := rfl
theorem trim_hand {g g' : Hand} {r x : HD} {d : D} (hr : Fine r) (u : D.under (r.length + 1) d = true) : trim (g.box :: r) (.ok d (g'.box :: (r ++ x))) = .ok d (g'.box :: r) := by
  refine trim_new (h1 := g'.box :: r) (g := x) (by simp) ?_ (by simpa using u)
  rw [List.all_cons, List.length_cons]
  rw [Hand.under, Bool.true_and]
  exact hr
theorem trim_hand0 {g g' : Hand} {r : HD} {d : D} (hr : Fine r) (u : D.under (r.length + 1) d = true) : trim (g.box :: r) (.ok d (g'.box :: r)) = .ok d (g'.box :: r) := by
  have := trim_hand (x := []) (g := g) (g' := g') hr u
  simpa using this
end DM
set_option Elab.async false
set_option linter.all false
set_option maxRecDepth 100000
set_option maxHeartbeats 1000000
/-! Machine D: rules of reckoning, by weakest premises. -/
namespace DM
open PySem
def Res.wp {α : Type} (r : Res α) (P : α → HD → Prop) (X : Xn → HD → Prop) : Prop :=
  match r with
  | .ok a h => P a h
  | .exc x h => X x h
  | .bad => False
def wpo {α : Type} (o : Option α) (P : α → Prop) : Prop :=
  match o with
  | some a => P a
  | none => False
def Out.wp (o : Out) (N : SD → HD → Prop) (R : D → HD → Prop) (X : Xn → SD → HD → Prop) : Prop :=
  match o with
  | .nx s h => N s h
  | .rt d h => R d h
  | .exc x s h => X x s h
  | _ => False
def mkRes (c : Nat) (l : List D) (h : HD) : Option Xn → Res D
  | none => .ok (.fo c l) h
  | some x => .exc x h
/-- no exception -/
def NX : Xn → HD → Prop := fun _ _ => False
section
variable {α β : Type} {P : α → HD → Prop} {X : Xn → HD → Prop} {h : HD} {s : SD} {N : SD → HD → Prop} {R Q : D → HD → Prop} {Y : Xn → SD → HD → Prop}
@[simp] theorem wp_ok {a : α} : (Res.ok a h).wp P X = P a h := rfl
@[simp] theorem wp_exc {x : Xn} : (Res.exc x h : Res α).wp P X = X x h := rfl
@[simp] theorem wp_bad : (Res.bad : Res α).wp P X = False := rfl
@[simp] theorem wpo_some {a : α} {P : α → Prop} : wpo (some a) P = P a := rfl
@[simp] theorem wpo_none {P : α → Prop} : wpo none P = False := rfl
@[simp] theorem wpo_map {o : Option α} {f : α → β} {P : β → Prop} : wpo (o.map f) P = wpo o fun a => P (f a) := by cases o <;> rfl
@[simp] theorem wpo_ite {c : Prop} [Decidable c] {a b : Option α} {P : α → Prop} : wpo (if c then a else b) P = ((c → wpo a P) ∧ (¬c → wpo b P)) := by by_cases k : c <;> simp [k]
@[simp] theorem wp_bind {r : Res β} {f : β → HD → Res α} : (r.bind f).wp P X = r.wp (fun a h => (f a h).wp P X) X := by cases r <;> rfl
@[simp] theorem wp_of {o : Option α} : (Res.of o h).wp P X = wpo o fun a => P a h := by cases o <;> rfl
@[simp] theorem wp_calm {r : Res α} {X : Xn → HD → Prop} : r.calm.wp P X = r.wp P NX := by cases r <;> rfl
@[simp] theorem NX_ap {x : Xn} : NX x h = False := rfl
theorem wp_eq {r : Res α} {a : α} (w : r.wp (fun b k => b = a ∧ k = h) NX) : r = .ok a h := by
  cases r with
  | ok b k => obtain ⟨rfl, rfl⟩ := w; rfl
  | exc x k => exact w.elim
  | bad => exact w.elim
theorem wp_imp {r : Res α} {P' : α → HD → Prop} {X' : Xn → HD → Prop} (w : r.wp P X) (i : ∀ a h, P a h → P' a h) (j : ∀ x h, X x h → X' x h) : r.wp P' X' := by
  cases r with
  | ok a h => exact i a h w
  | exc x h => exact j x h w
  | bad => exact w
theorem wp_get {r : Res α} (w : r.wp P NX) : ∃ a h, r = .ok a h ∧ P a h := by
  cases r with
  | ok a h => exact ⟨a, h, rfl, w⟩
  | exc x h => exact w.elim
  | bad => exact w.elim
@[simp] theorem out_nx : (Out.nx s h).wp N R Y = N s h := rfl
@[simp] theorem out_rt {d : D} : (Out.rt d h).wp N R Y = R d h := rfl
@[simp] theorem out_exc {x : Xn} : (Out.exc x s h).wp N R Y = Y x s h := rfl
@[simp] theorem out_bad : Out.bad.wp N R Y = False := rfl
theorem out_imp {o : Out} {N' : SD → HD → Prop} {R' : D → HD → Prop} {Y' : Xn → SD → HD → Prop} (w : o.wp N R Y) (i : ∀ a h, N a h → N' a h) (k : ∀ a h, R a h → R' a h) (j : ∀ x s h, Y x s h → Y' x s h) : o.wp N' R' Y' := by
  cases o with
  | nx s h => exact i s h w
  | rt d h => exact k d h w
  | exc x s h => exact j x s h w
  | _ => exact w.elim
@[simp] theorem out_out {r : Res D} {f : D → HD → Out} : (r.out s f).wp N R Y = r.wp (fun d h => (f d h).wp N R Y) (fun x h => Y x s h) := by cases r <;> rfl
/-! ### expressions -/
@[simp] theorem a_var {i : Nat} : eVar i s h = match s[i]? with | some (some d) => if isEx d then .bad else .ok d h | _ => .bad := rfl
@[simp] theorem a_c {d : D} : eC d s h = .ok d h := rfl
@[simp] theorem a_nil : aNil s h = .ok [] h := rfl
@[simp] theorem a_cons {e : EM} {r : AM} : aCons e r s h = (e s h).bind fun d h1 => (r s h1).bind fun l h2 => .ok (d :: l) h2 := rfl
@[simp] theorem a_tup {a : AM} : eTup a s h = (a s h).bind fun l h1 => .ok (.tup l) h1 := rfl
@[simp] theorem a_fz {m : AM} : eFz m s h = (m s h).bind fun l h1 => .ok (.fl l) h1 := rfl
@[simp] theorem a_bx {m : AM} : eBx m s h = (m s h).bind fun l h1 => .ok (.ref h1.length) (h1 ++ [.lst l]) := rfl
@[simp] theorem a_un {f : HD → D → Option D} {a : EM} : eUn f a s h = (a s h).bind fun x h1 => .of (f h1 x) h1 := rfl
@[simp] theorem a_bin {f : HD → D → D → Option D} {a b : EM} : eBin f a b s h = (a s h).bind fun x h1 => (b s h1).bind fun y h2 => .of (f h2 x y) h2 := rfl
@[simp] theorem a_tbin {f : HD → D → D → Option Bool} {a b : EM} : tBin f a b s h = (a s h).bind fun x h1 => (b s h1).bind fun y h2 => .of (f h2 x y) h2 := rfl
@[simp] theorem a_eT {t : TM} : eT t s h = (t s h).bind fun b h1 => .ok (.bl b) h1 := rfl
@[simp] theorem a_not {t : TM} : tNot t s h = (t s h).bind fun b h1 => .ok (!b) h1 := rfl
@[simp] theorem a_isN {a : EM} : tIsN a s h = (a s h).bind fun x h1 => .ok (isN x) h1 := rfl
@[simp] theorem a_notN {a : EM} : tNotN a s h = (a s h).bind fun x h1 => .ok (!isN x) h1 := rfl
@[simp] theorem a_is {cs : List Nat} {a : EM} {ts : List Ty} : tIs cs a ts s h = (a s h).bind fun x h1 => .of (anyTy cs h1 x ts) h1 := rfl
@[simp] theorem a_yes : tYes s h = .ok true h := rfl
@[simp] theorem a_dk : eDk s h = .ok (.ref h.length) (h ++ [.dk []]) := rfl
@[simp] theorem a_dt : eDt s h = .ok (.ref h.length) (h ++ [.dt []]) := rfl
@[simp] theorem a_disp {a : AM} : lDisp a = a := rfl
@[simp] theorem a_call {f : FM} {a : AM} : eCall f a s h = (a s h).bind fun ds h1 => f ds h1 := rfl
@[simp] theorem a_sl {a : EM} {i j : Option EM} : eSl a i j s h = (a s h).bind fun c h1 => (eOpt i s h1).bind fun x h2 => (eOpt j s h2).bind fun y h3 => .of (opSlT (look h3 c) x y) h3 := rfl
@[simp] theorem a_opt0 : eOpt none s h = .ok none h := rfl
@[simp] theorem w_opt1 {m : EM} {P : Option Int → HD → Prop} : (eOpt (some m) s h).wp P X = (m s h).wp (fun d h1 => match d with | .int i => P (some i) h1 | _ => False) X := by
  show ((m s h).bind _).wp P X = _
  rw [wp_bind]
  congr 1
  funext d h1
  cases d <;> rfl
@[simp] theorem w_tE {e : EM} {P : Bool → HD → Prop} : (tE e s h).wp P X = (e s h).wp (fun d h1 => match d with | .bl b => P b h1 | _ => False) X := by
  show ((e s h).bind _).wp P X = _
  rw [wp_bind]
  congr 1
  funext d h1
  cases d <;> rfl
@[simp] theorem w_and {t u : TM} {P : Bool → HD → Prop} : (tAnd t u s h).wp P X = (t s h).wp (fun b h1 => (b = true → (u s h1).wp P X) ∧ (b = false → P false h1)) X := by
  show ((t s h).bind _).wp P X = _
  rw [wp_bind]
  congr 1
  funext b h1
  cases b <;> simp
@[simp] theorem w_or {t u : TM} {P : Bool → HD → Prop} : (tOr t u s h).wp P X = (t s h).wp (fun b h1 => (b = true → P true h1) ∧ (b = false → (u s h1).wp P X)) X := by
  show ((t s h).bind _).wp P X = _
  rw [wp_bind]
  congr 1
  funext b h1
  cases b <;> simp
@[simp] theorem w_if {t : TM} {a b : EM} {P : D → HD → Prop} : (eIf t a b s h).wp P X = (t s h).wp (fun c h1 => (c = true → (a s h1).wp P X) ∧ (c = false → (b s h1).wp P X)) X := by
  show ((t s h).bind _).wp P X = _
  rw [wp_bind]
  congr 1
  funext c h1
  cases c <;> simp
@[simp] theorem w_chain {f g : HD → D → D → Option Bool} {a b c : EM} {P : Bool → HD → Prop} : (tChain f g a b c s h).wp P X = (a s h).wp (fun x h1 => (b s h1).wp (fun y h2 => wpo (f h2 x y) fun k => (k = true → (c s h2).wp (fun z h4 => wpo (g h4 y z) fun v => P v h4) X) ∧ (k = false → P false h2)) X) X := by
  unfold tChain
  rw [wp_bind]
  congr 1
  funext x h1
  rw [wp_bind]
  congr 1
  funext y h2
  rw [wp_bind, wp_of]
  congr 1
  funext k
  cases k <;> simp
@[simp] theorem w_isX {sb : SubX} {i c : Nat} {P : Bool → HD → Prop} : (tIsX sb i c s h).wp P X = (match s[i]? with | some (some (.ex e _)) => wpo (sb e c) fun b => P b h | _ => False) := by
  unfold tIsX
  rcases s[i]? with _ | _ | d
  · rfl
  · rfl
  · cases d with
    | ex e l => exact wp_of
    | _ => rfl
/-! ### what is walked -/
@[simp] theorem a_iIt {a : EM} : iIt a s h = (a s h).bind fun c h1 => .of ((items h1 c).map fun l => ⟨l, watchOf h1 c⟩) h1 := rfl
@[simp] theorem w_rng1 {a : EM} {P : Src → HD → Prop} : (iRng1 a s h).wp P X = (a s h).wp (fun x h1 => match x with | .int n => wpo (iRange 0 n) fun c => P c h1 | _ => False) X := by
  show ((a s h).bind _).wp P X = _
  rw [wp_bind]
  congr 1
  funext x h1
  cases x <;> simp
@[simp] theorem w_rng2 {a b : EM} {P : Src → HD → Prop} : (iRng2 a b s h).wp P X = (a s h).wp (fun x h1 => (b s h1).wp (fun y h2 => match x, y with | .int m, .int n => wpo (iRange m n) fun c => P c h2 | _, _ => False) X) X := by
  show ((a s h).bind _).wp P X = _
  rw [wp_bind]
  congr 1
  funext x h1
  rw [wp_bind]
  congr 1
  funext y h2
  cases x <;> cases y <;> simp
@[simp] theorem a_enum {a : EM} : iEnum a s h = (a s h).bind fun c h1 => .of ((items h1 c).map fun l => ⟨l.zipIdx.map fun p => .tup [.int p.2, p.1], watchOf h1 c⟩) h1 := rfl
@[simp] theorem a_zip {a b : EM} : iZip a b s h = (a s h).bind fun c h1 => (b s h1).bind fun e h2 => .of (match items h2 c, items h2 e with
  | some l, some m => some ⟨(l.zip m).map fun p => .tup [p.1, p.2], watchOf h2 c ++ watchOf h2 e⟩
  | _, _ => none) h2 := rfl
/-! ### statements -/
@[simp] theorem z_nx : (sNx s h) = .nx s h := rfl
@[simp] theorem o_seq {a b : SM} : (sSeq a b s h).wp N R Y = (a s h).wp (fun s1 h1 => (b s1 h1).wp N R Y) R Y := by
  unfold sSeq
  cases a s h <;> rfl
/-- the rest of a suite, put by -/
def Hold (b : SM) (N : SD → HD → Prop) (R : D → HD → Prop) (Y : Xn → SD → HD → Prop) : SD → HD → Prop := fun s h => (b s h).wp N R Y
theorem hold {b : SM} (w : (b s h).wp N R Y) : Hold b N R Y s h := w
theorem o_seqH {a b : SM} : (sSeq a b s h).wp N R Y = (a s h).wp (Hold b N R Y) R Y := o_seq
@[simp] theorem z_set {i : Nat} {e : EM} : sSet i e s h = (e s h).out s fun d h1 => .nx (s.set i (some d)) h1 := rfl
@[simp] theorem o_pat {p : Pat} {e : EM} : (sPat p e s h).wp N R Y = (e s h).wp (fun d h1 => wpo (p.set d s) fun t => N t h1) (fun x h => Y x s h) := by
  unfold sPat
  rw [out_out]
  congr 1
  funext d h1
  cases p.set d s <;> rfl
@[simp] theorem z_drop {e : EM} : sDrop e s h = (e s h).out s fun _ h1 => .nx s h1 := rfl
@[simp] theorem z_ret {e : EM} : sRet e s h = (e s h).out s fun d h1 => .rt d h1 := rfl
@[simp] theorem z_retN : sRetN s h = .rt .non h := rfl
@[simp] theorem o_if {t : TM} {a b : SM} : (sIf t a b s h).wp N R Y = (t s h).wp (fun c h1 => (c = true → (a s h1).wp N R Y) ∧ (c = false → (b s h1).wp N R Y)) (fun x h => Y x s h) := by
  unfold sIf
  cases e : t s h with
  | ok c h1 => cases c <;> simp
  | exc x h1 => rfl
  | bad => rfl
@[simp] theorem o_for {i : IM} {p : Pat} {b : SM} : (sFor i p b s h).wp N R Y = (i s h).wp (fun c h1 => (forGo p b c.watch c.its s h1).wp N R Y) (fun x h => Y x s h) := by
  unfold sFor
  cases e : i s h <;> rfl
@[simp] theorem o_asg {g : GM} {e : EM} : (sAsg g e s h).wp N R Y = (e s h).wp (fun d h1 => wpo (g s h1 d) fun p => N p.1 p.2) (fun x h => Y x s h) := by
  unfold sAsg
  rw [out_out]
  congr 1
  funext d h1
  cases g s h1 d <;> rfl
@[simp] theorem o_par {is : List Nat} {a : AM} : (sPar is a s h).wp N R Y = (a s h).wp (fun l h1 => wpo (setsN is l s) fun t => N t h1) (fun x h => Y x s h) := by
  unfold sPar
  cases e : a s h with
  | ok l h1 => show (match setsN is l s with | some t => Out.nx t h1 | none => Out.bad).wp N R Y = wpo (setsN is l s) fun t => N t h1
               cases setsN is l s <;> rfl
  | exc x h1 => rfl
  | bad => rfl
@[simp] theorem o_raise {c : Nat} {a : AM} : (sRaise c a s h).wp N R Y = (a s h).wp (fun l h1 => Y ⟨c, l⟩ s h1) (fun x h => Y x s h) := by
  unfold sRaise
  cases e : a s h <;> rfl
@[simp] theorem o_clr {i : Nat} {o : Out} : (clr i o).wp N R Y = o.wp (fun s h => N ((s.map unEx).set i none) h) R (fun _ _ _ => False) := by cases o <;> rfl
def tryX (b : Option Bool) (T F : Prop) : Prop := match b with
  | some true => T
  | some false => F
  | none => False
@[simp] theorem tryX_t {T F : Prop} : tryX (some true) T F = T := rfl
@[simp] theorem tryX_f {T F : Prop} : tryX (some false) T F = F := rfl
@[simp] theorem o_tryAs {sb : SubX} {c i : Nat} {b u : SM} : (sTryAs sb c i b u s h).wp N R Y = (b s h).wp N R (fun x s1 h1 => tryX (sb x.c c) ((u (s1.set i (some (.ex x.c x.l))) h1).wp (fun s h => N ((s.map unEx).set i none) h) R (fun _ _ _ => False)) (Y x s1 h1)) := by
  unfold sTryAs
  cases b s h with
  | exc x s1 h1 =>
    show (match sb x.c c with | some true => clr i (u (s1.set i (some (.ex x.c x.l))) h1) | some false => .exc x s1 h1 | none => .bad).wp N R Y = tryX (sb x.c c) _ _
    rcases sb x.c c with _ | _ | _ <;> simp [tryX]
  | _ => rfl
@[simp] theorem o_noX {o : Out} : (noX o).wp N R Y = o.wp N R (fun _ _ _ => False) := by cases o <;> rfl
@[simp] theorem o_tryOnly {sb : SubX} {c : Nat} {b u : SM} : (sTryOnly sb c b u s h).wp N R Y = (b s h).wp N R (fun x s1 h1 => tryX (sb x.c c) ((u s1 h1).wp N R (fun _ _ _ => False)) (Y x s1 h1)) := by
  unfold sTryOnly
  cases b s h with
  | exc x s1 h1 =>
    show (match sb x.c c with | some true => noX (u s1 h1) | some false => .exc x s1 h1 | none => .bad).wp N R Y = tryX (sb x.c c) _ _
    rcases sb x.c c with _ | _ | _ <;> simp [tryX]
  | _ => rfl
@[simp] theorem a_xf {es : List Nat} {xf : Nat → Str} {f : Str} {i : Nat} : eXfE es xf f i s h = match s[i]? with | some (some (.ex e [v])) => if e ∈ es ∧ xf e = f then .ok v h else .bad | _ => .bad := rfl
@[simp] theorem wp_mk1 {c : Nat} {l : List D} {x : Xn} {P : D → HD → Prop} : (mkRes c l h (some x)).wp P X = X x h := rfl
@[simp] theorem wp_mk0 {c : Nat} {l : List D} {P : D → HD → Prop} : (mkRes c l h none).wp P X = P (.fo c l) h := rfl
@[simp] theorem g_nm' {i : Nat} {d : D} : gNm i s h d = some (s.set i (some d), h) := rfl
theorem wpo_gFl {c f : Nat} {o : EM} {d : D} {P : SD × HD → Prop} : wpo (gFl c f o s h d) P = (o s h).wp (fun x h1 => wpo (setFld c f h1 x d) fun h2 => P (s, h2)) NX := by
  unfold gFl
  cases o s h with
  | ok x h1 => simp
  | _ => rfl
theorem wpo_gSb {o i : EM} {d : D} {P : SD × HD → Prop} : wpo (gSb o i s h d) P = (o s h).wp (fun c h1 => (i s h1).wp (fun k h2 => wpo (setIt h2 c k d) fun h3 => P (s, h3)) NX) NX := by
  unfold gSb
  cases o s h with
  | ok x h1 =>
    show wpo (match i s h1 with | .ok k h2 => (setIt h2 x k d).map fun h3 => (s, h3) | _ => none) P = _
    cases e : i s h1 with
    | ok k h2 => simp [e]
    | _ => simp [e]
  | _ => rfl
@[simp] theorem wpo_gFl' {c f : Nat} {o : EM} {d : D} {P : SD × HD → Prop} : wpo (gFl c f o s h d) P = (o s h).wp (fun x h1 => wpo (setFld c f h1 x d) fun h2 => P (s, h2)) NX := wpo_gFl
@[simp] theorem wpo_gSb' {o i : EM} {d : D} {P : SD × HD → Prop} : wpo (gSb o i s h d) P = (o s h).wp (fun c h1 => (i s h1).wp (fun k h2 => wpo (setIt h2 c k d) fun h3 => P (s, h3)) NX) NX := wpo_gSb
@[simp] theorem wpo_gTp {gs : List GM} {l : List D} {P : SD × HD → Prop} : wpo (gTp gs s h (.tup l)) P = wpo (gsGo gs l s h) P := rfl
@[simp] theorem wpo_gs0 {P : SD × HD → Prop} : wpo (gsGo [] [] s h) P = P (s, h) := rfl
@[simp] theorem wpo_gs1 {g : GM} {gs : List GM} {d : D} {ds : List D} {P : SD × HD → Prop} : wpo (gsGo (g :: gs) (d :: ds) s h) P = wpo (g s h d) fun p => wpo (gsGo gs ds p.1 p.2) P := by
  show wpo (match g s h d with | some (s1, h1) => gsGo gs ds s1 h1 | none => none) P = _
  cases g s h d <;> rfl
/-! ### defs -/
theorem wp_fn {np ns : Nat} {b : SM} {ds : List D} {P : D → HD → Prop} (hl : ds.length = np) (w : (b (ds.map some ++ List.replicate (ns - np) none) h).wp (fun _ h1 => P .non h1) P (fun x _ h1 => X x h1)) : (fnM np ns b ds h).wp P X := by
  unfold fnM
  rw [if_pos hl]
  cases e : b (ds.map some ++ List.replicate (ns - np) none) h with
  | nx s h1 => rw [e] at w; exact w
  | rt d h1 => rw [e] at w; exact w
  | exc x s h1 => rw [e] at w; exact w
  | _ => rw [e] at w; exact w.elim
/-- a call that leaves the heap -/
theorem wp_fnT {np ns : Nat} {b : SM} {ds : List D} {P : D → HD → Prop} (hl : ds.length = np) (w : (b (ds.map some ++ List.replicate (ns - np) none) h).wp (fun _ h1 => h1 = h ∧ P .non h) (fun d h1 => h1 = h ∧ D.under h.length d = true ∧ P d h) (fun x _ h1 => h1 = h ∧ unders h.length x.l = true ∧ X x h)) : (fnT np ns b ds h).wp P X := by
  unfold fnT fnM
  rw [if_pos hl]
  cases e : b (ds.map some ++ List.replicate (ns - np) none) h with
  | nx s h1 => rw [e] at w; obtain ⟨rfl, w⟩ := w; show (trim h1 (.ok .non h1)).wp P X; rw [trim_same (by simp [D.under])]; exact w
  | rt d h1 => rw [e] at w; obtain ⟨rfl, u, w⟩ := w; show (trim h1 (.ok d h1)).wp P X; rw [trim_same u]; exact w
  | exc x s h1 => rw [e] at w; obtain ⟨rfl, u, w⟩ := w; show (trim h1 (.exc x h1)).wp P X; rw [trim_excs u]; exact w
  | _ => rw [e] at w; exact w.elim
theorem eq_fnT {np ns : Nat} {b : SM} {ds : List D} {v : D} (hl : ds.length = np) (u : D.under h.length v = true) (w : (b (ds.map some ++ List.replicate (ns - np) none) h).wp (fun _ h1 => h1 = h ∧ D.non = v) (fun d h1 => h1 = h ∧ d = v) (fun _ _ _ => False)) : fnT np ns b ds h = .ok v h := by
  unfold fnT fnM
  rw [if_pos hl]
  cases e : b (ds.map some ++ List.replicate (ns - np) none) h with
  | nx s h1 => rw [e] at w; obtain ⟨rfl, rfl⟩ := w; exact trim_same u
  | rt d h1 => rw [e] at w; obtain ⟨rfl, rfl⟩ := w; exact trim_same u
  | exc x s h1 => rw [e] at w; exact w.elim
  | _ => rw [e] at w; exact w.elim
/-- behind a call that draws -/
def HP (r : HD) (P : D → HD → Prop) (d : D) (h1 : HD) : Prop := ∃ (g' : Hand) (x : HD), h1 = g'.box :: (r ++ x) ∧ D.under (r.length + 1) d = true ∧ P d (g'.box :: r)
theorem HP.mk0 {r : HD} {P : D → HD → Prop} {d : D} {g' : Hand} (u : D.under (r.length + 1) d = true) (p : P d (g'.box :: r)) : HP r P d (g'.box :: r) := ⟨g', [], by simp, u, p⟩
theorem HP.mk1 {r x : HD} {P : D → HD → Prop} {d : D} {g' : Hand} (u : D.under (r.length + 1) d = true) (p : P d (g'.box :: r)) : HP r P d (g'.box :: (r ++ x)) := ⟨g', x, rfl, u, p⟩
theorem HP.raw {r : HD} {P : D → HD → Prop} {v : Int} {cs : List Int} {a b x t : Int} (hc : ∀ y ∈ cs, 0 ≤ y) (ha : 0 ≤ a) (hb : 0 ≤ b) (hx : 0 ≤ x) (ht : 0 ≤ t) (p : ∀ g' : Hand, P (.int v) (g'.box :: r)) : HP r P (.int v) (.lst [.fl (cs.map .int), .int a, .int b, .int x, .int t] :: r) := ⟨⟨cs, a, b, x, t, hc, ha, hb, hx, ht⟩, [], by simp [Hand.box], by simp [D.under], p _⟩
/-- .. that draws -/
theorem wp_fnH {np ns : Nat} {b : SM} {ds : List D} {P : D → HD → Prop} {g : Hand} {r : HD} (hr : Fine r) (hl : ds.length = np) (w : (b (ds.map some ++ List.replicate (ns - np) none) (g.box :: r)).wp (fun _ h1 => HP r P .non h1) (fun d h1 => HP r P d h1) (fun _ _ _ => False)) : (fnT np ns b ds (g.box :: r)).wp P X := by
  unfold fnT fnM
  rw [if_pos hl]
  cases e : b (ds.map some ++ List.replicate (ns - np) none) (g.box :: r) with
  | nx s h1 => rw [e] at w; obtain ⟨g', x, rfl, u, w⟩ := w; show (trim (g.box :: r) (.ok .non (g'.box :: (r ++ x)))).wp P X; rw [trim_hand hr u]; exact w
  | rt d h1 => rw [e] at w; obtain ⟨g', x, rfl, u, w⟩ := w; show (trim (g.box :: r) (.ok d (g'.box :: (r ++ x)))).wp P X; rw [trim_hand hr u]; exact w
  | exc x s h1 => rw [e] at w; exact w.elim
  | _ => rw [e] at w; exact w.elim
/-! ### loops -/
theorem for_wp {p : Pat} {b : SM} {w : List (Nat × List D)} (I : List D → List D → SD → HD → Prop) : ∀ (post pre : List D) (s : SD) (h : HD), I pre post s h →
    (∀ pre x post s h, I pre (x :: post) s h → wpo (p.set x s) fun s1 => (b s1 h).wp (fun s2 h2 => stays h2 w = true ∧ I (pre ++ [x]) post s2 h2) R Y) →
    (∀ pre s h, I pre [] s h → N s h) → (forGo p b w post s h).wp N R Y
  | [], pre, s, h, i, _, f => f pre s h i
  | x :: xs, pre, s, h, i, st, f => by
    have k := st pre x xs s h i
    rw [forGo]
    cases e : p.set x s with
    | none => rw [e] at k; exact k.elim
    | some s1 =>
      rw [e] at k
      have k : (b s1 h).wp (fun s2 h2 => stays h2 w = true ∧ I (pre ++ [x]) xs s2 h2) R Y := k
      show (match b s1 h with
      | .nx s2 h2 => if stays h2 w then forGo p b w xs s2 h2 else .bad
      | .ct s2 h2 => if stays h2 w then forGo p b w xs s2 h2 else .bad
      | .bk s2 h2 => .nx s2 h2
      | .rt d h2 => .rt d h2
      | .exc x s2 h2 => .exc x s2 h2
      | .bad => .bad).wp N R Y
      cases e2 : b s1 h with
      | nx s2 h2 =>
        rw [e2] at k
        have k : stays h2 w = true ∧ I (pre ++ [x]) xs s2 h2 := k
        show (if stays h2 w then forGo p b w xs s2 h2 else .bad).wp N R Y
        rw [if_pos k.1]
        exact for_wp I xs (pre ++ [x]) s2 h2 k.2 st f
      | rt d h2 => rw [e2] at k; exact k
      | exc y s2 h2 => rw [e2] at k; exact k
      | bk _ _ => rw [e2] at k; exact k.elim
      | ct _ _ => rw [e2] at k; exact k.elim
      | bad => rw [e2] at k; exact k.elim
theorem lc_wp {p : Pat} {t : TM} {e : EM} {own : List Nat} {w : List (Nat × List D)} {P : List D → HD → Prop} (I : List D → List D → HD → List D → Prop) : ∀ (post pre : List D) (h : HD) (acc : List D), I pre post h acc →
    (∀ pre x post h acc, I pre (x :: post) h acc → wpo (p.set x (wipeD s own)) fun s1 => (t s1 h).wp (fun b h1 => (b = true → (e s1 h1).wp (fun y h2 => stays h2 w = true ∧ I (pre ++ [x]) post h2 (acc ++ [y])) NX) ∧ (b = false → stays h1 w = true ∧ I (pre ++ [x]) post h1 acc)) NX) →
    (∀ pre h acc, I pre [] h acc → P acc h) → (lcGo s p t e own w post h acc).wp P X
  | [], pre, h, acc, i, _, f => f pre h acc i
  | x :: xs, pre, h, acc, i, st, f => by
    have k := st pre x xs h acc i
    rw [lcGo]
    cases e1 : p.set x (wipeD s own) with
    | none => rw [e1] at k; exact k.elim
    | some s1 =>
      rw [e1] at k
      have k : (t s1 h).wp _ NX := k
      show ((t s1 h).calm.bind _).wp P X
      rw [wp_bind, wp_calm]
      refine wp_imp k (fun b h1 kb => ?_) fun x h q => q
      cases b with
      | true =>
        have kb := kb.1 rfl
        show ((e s1 h1).calm.bind _).wp P X
        rw [wp_bind, wp_calm]
        refine wp_imp kb (fun y h2 ky => ?_) fun x h q => q
        rw [if_pos ky.1]
        exact lc_wp I xs (pre ++ [x]) h2 (acc ++ [y]) ky.2 st f
      | false =>
        have kb := kb.2 rfl
        show (if stays h1 w then lcGo s p t e own w xs h1 acc else .bad).wp P X
        rw [if_pos kb.1]
        exact lc_wp I xs (pre ++ [x]) h1 acc kb.2 st f
@[simp] theorem w_lc {own : List Nat} {i : IM} {p : Pat} {t : TM} {e : EM} {P : List D → HD → Prop} : (lComp own i p t e s h).wp P X = (i s h).wp (fun c h1 => (lcGo s p t e own c.watch c.its h1 []).wp P X) X := by
  unfold lComp
  rw [wp_bind]
/-- a comprehension, by values; nothing is changed -/
theorem lc_pure {p : Pat} {t : TM} {e : EM} {own : List Nat} {w : List (Nat × List D)} {P : List D → HD → Prop} (f : D → Bool) (g : D → D) (xs : List D) (st : stays h w = true)
    (k : ∀ x ∈ xs, wpo (p.set x (wipeD s own)) fun s1 => (t s1 h).wp (fun b h1 => h1 = h ∧ b = f x ∧ (b = true → (e s1 h).wp (fun y h2 => h2 = h ∧ y = g x) NX)) NX) (q : P ((xs.filter f).map g) h) :
    (lcGo s p t e own w xs h []).wp P X := by
  refine lc_wp (I := fun pre post h1 acc => h1 = h ∧ acc = (pre.filter f).map g ∧ (∀ x ∈ post, x ∈ xs) ∧ pre ++ post = xs) xs [] h [] ⟨rfl, rfl, fun _ m => m, rfl⟩ ?_ ?_
  · rintro pre x post h1 acc ⟨rfl, rfl, m, ap⟩
    have z := k x (m x (List.mem_cons_self ..))
    cases e1 : p.set x (wipeD s own) with
    | none => rw [e1] at z; exact z.elim
    | some s1 =>
      rw [e1] at z
      show (t s1 h1).wp _ NX
      refine wp_imp z (fun b h2 => ?_) fun x h q => q
      rintro ⟨rfl, rfl, z⟩
      refine ⟨fun hb => ?_, fun hb => ⟨st, rfl, ?_, fun y my => m y (List.mem_cons_of_mem _ my), by simpa using ap⟩⟩
      · refine wp_imp (z hb) (fun y h3 => ?_) fun x h q => q
        rintro ⟨rfl, rfl⟩
        exact ⟨st, rfl, by simp [hb], fun y my => m y (List.mem_cons_of_mem _ my), by simpa using ap⟩
      · simp [hb]
  · rintro pre h1 acc ⟨rfl, rfl, _, ap⟩
    rw [List.append_nil] at ap
    subst ap
    exact q
theorem lc_map' {p : Pat} {e : EM} {own : List Nat} {w : List (Nat × List D)} {P : List D → HD → Prop} (g : D → D) {xs : List D} (st : stays h w = true)
    (k : ∀ x ∈ xs, wpo (p.set x (wipeD s own)) fun s1 => (e s1 h).wp (fun y h2 => h2 = h ∧ y = g x) NX) (q : P (xs.map g) h) :
    (lcGo s p tYes e own w xs h []).wp P X := by
  refine lc_pure (fun _ => true) g xs st (fun x m => ?_) (by rw [List.filter_eq_self.mpr (fun _ _ => rfl)]; exact q)
  have z := k x m
  cases e1 : p.set x (wipeD s own) with
  | none => rw [e1] at z; exact z.elim
  | some s1 =>
    rw [e1] at z
    exact ⟨rfl, rfl, fun _ => z⟩
/-- all([f for p in c]) -/
theorem lc_bools {p : Pat} {e : EM} {own : List Nat} {w : List (Nat × List D)} {P : List D → HD → Prop} (f : D → Bool) {xs : List D} (st : stays h w = true)
    (k : ∀ x ∈ xs, wpo (p.set x (wipeD s own)) fun s1 => (e s1 h).wp (fun y h2 => h2 = h ∧ y = .bl (f x)) NX) (q : P (xs.map fun x => .bl (f x)) h) :
    (lcGo s p tYes e own w xs h []).wp P X := lc_map' (fun x => .bl (f x)) st k q
end
end DM
set_option Elab.async false
set_option linter.all false
set_option maxRecDepth 100000
set_option maxHeartbeats 1000000
/-! Machine D: operations by constructors. -/
namespace DM
open PySem
section
variable {h : HD} {i j : Int} {a b l m : List D} {s t : Str} {x y d : D} {n k c f : Nat}
@[simp] theorem add_int : opAdd h (.int i) (.int j) = some (.int (i + j)) := rfl
@[simp] theorem add_str : opAdd h (.str s) (.str t) = if s.length + t.length ≤ LIM then some (.str (s ++ t)) else none := rfl
@[simp] theorem add_tup : opAdd h (.tup a) (.tup b) = if a.length + b.length ≤ LIM then some (.tup (a ++ b)) else none := rfl
@[simp] theorem lsts_fl : lsts h (.fl l) = some l := rfl
def lsO : Option O → Option (List D)
  | some (.lst l) => some l
  | _ => none
@[simp] theorem lsO_lst : lsO (some (.lst l)) = some l := rfl
theorem boxAt_lsO : boxAt h n = lsO h[n]? := by unfold boxAt lsO; split <;> simp_all
@[simp] theorem lsts_ref : lsts h (.ref n) = lsO h[n]? := boxAt_lsO
@[simp] theorem items_ref : items h (.ref n) = lsO h[n]? := boxAt_lsO
@[simp] theorem items_tup : items h (.tup l) = some l := rfl
@[simp] theorem items_fl : items h (.fl l) = some l := rfl
@[simp] theorem items_sc : items h (.sc l) = some l := rfl
@[simp] theorem items_fdk {ks : List Key} : items h (.fdk ks l) = none := rfl
@[simp] theorem items_fdt {ks : List (List Key)} : items h (.fdt ks l) = none := rfl
def addL (a b : Option (List D)) : Option D := match a, b with
  | some a, some b => if a.length + b.length ≤ LIM then some (.fl (a ++ b)) else none
  | _, _ => none
@[simp] theorem addL_some : addL (some a) (some b) = if a.length + b.length ≤ LIM then some (.fl (a ++ b)) else none := rfl
@[simp] theorem add_fl1 : opAdd h (.fl a) y = addL (some a) (lsts h y) := by
  cases y <;> rfl
@[simp] theorem add_ref1 : opAdd h (.ref n) y = addL (lsO h[n]?) (lsts h y) := by
  rw [← boxAt_lsO]
  cases y <;> (show (match boxAt h n, lsts h _ with | some a, some b => _ | _, _ => _) = _; rfl)
@[simp] theorem sub_int : opSub h (.int i) (.int j) = some (.int (i - j)) := rfl
@[simp] theorem mul_int : opMul h (.int i) (.int j) = if small i || small j then some (.int (i * j)) else none := rfl
@[simp] theorem mul_tup : opMul h (.tup a) (.int j) = if decide (0 < j) && decide (j ≤ 1000) && decide (0 < a.length) && decide (a.length ≤ 1000) then some (.tup (rept a j.toNat)) else none := rfl
@[simp] theorem mul_fl : opMul h (.fl a) (.int j) = if decide (j < 1000000) && decide (-1000000 < j) && decide (a.length * j.toNat ≤ LIM) then some (.fl (rept a j.toNat)) else none := rfl
@[simp] theorem mod_int : opMod h (.int i) (.int j) = if 0 < j then some (.int (i % j)) else none := rfl
@[simp] theorem div_int : opDiv h (.int i) (.int j) = if decide (0 < j) && decide (j < 1073741824) then some (.int (i / j)) else none := rfl
@[simp] theorem pow_int : opPow h (.int i) (.int j) = if decide (0 ≤ j) && decide (j ≤ 1000000) && decide (i.natAbs < 18446744073709551616) then some (.int (i ^ j.toNat)) else none := rfl
@[simp] theorem neg_int : opNeg h (.int i) = some (.int (-i)) := rfl
@[simp] theorem lt_int : cLt h (.int i) (.int j) = some (decide (i < j)) := rfl
@[simp] theorem le_int : cLe h (.int i) (.int j) = some (decide (i ≤ j)) := rfl
@[simp] theorem gt_int : cGt h (.int i) (.int j) = some (decide (j < i)) := rfl
@[simp] theorem ge_int : cGe h (.int i) (.int j) = some (decide (j ≤ i)) := rfl
@[simp] theorem eq_int : cEq h (.int i) (.int j) = some (decide (i = j)) := eqD_int
@[simp] theorem ne_int : cNe h (.int i) (.int j) = some (!decide (i = j)) := by unfold cNe; rw [eqD_int]; rfl
@[simp] theorem eq_bl {p q : Bool} : cEq h (.bl p) (.bl q) = some (p == q) := eqD_bl
@[simp] theorem ne_bl {p q : Bool} : cNe h (.bl p) (.bl q) = some (!(p == q)) := by unfold cNe; rw [eqD_bl]; rfl
theorem eq_good {n m : Nat} {a b : D} (ha : good n a = true) (hb : good m b = true) (hn : n ≤ 64) (hm : m ≤ 64) : cEq h a b = some (eqvD a b) := eqD_good h ha hb hn hm
theorem ne_good {n m : Nat} {a b : D} (ha : good n a = true) (hb : good m b = true) (hn : n ≤ 64) (hm : m ≤ 64) : cNe h a b = some (!eqvD a b) := by unfold cNe; rw [eqD_good h ha hb hn hm]; rfl
@[simp] theorem isN_non : isN .non = true := rfl
@[simp] theorem isN_bl {p : Bool} : isN (.bl p) = false := rfl
@[simp] theorem isN_int : isN (.int i) = false := rfl
@[simp] theorem isN_str : isN (.str s) = false := rfl
@[simp] theorem isN_tup : isN (.tup l) = false := rfl
@[simp] theorem isN_fl : isN (.fl l) = false := rfl
@[simp] theorem isN_fo : isN (.fo n l) = false := rfl
@[simp] theorem isN_ref : isN (.ref n) = false := rfl
/-! c[i] -/
def ixO : Option O → D → Option D
  | some (.lst l), .int i => atI l i
  | some (.lst _), _ => none
  | some (.dk l), k => (keyOf k).bind fun c => lookK c l
  | some (.dt l), k => (tkeyOf k).bind fun c => lookK c l
  | _, _ => none
theorem ix_ref : opIx h (.ref n) x = ixO h[n]? x := by
  unfold opIx
  rw [items_ref]
  rcases e : h[n]? with _ | o
  · simp [lsO, ixO, getD, dictOf, e]
  · cases o with
    | lst l => cases x <;> simp [lsO, ixO]
    | dk l => cases z : keyOf x <;> simp [lsO, ixO, getD, dictOf, e, z]
    | dt l => cases z : tkeyOf x <;> simp [lsO, ixO, getD, dictOf, e, z]
    | ins c l => simp [lsO, ixO, getD, dictOf, e]
@[simp] theorem ix_ref' : opIx h (.ref n) x = ixO h[n]? x := ix_ref
@[simp] theorem ixO_lst : ixO (some (.lst l)) (.int i) = atI l i := rfl
@[simp] theorem ixO_dk {l : List (Key × D)} : ixO (some (.dk l)) x = (keyOf x).bind fun c => lookK c l := rfl
@[simp] theorem ixO_dt {l : List (List Key × D)} : ixO (some (.dt l)) x = (tkeyOf x).bind fun c => lookK c l := rfl
@[simp] theorem ix_tup : opIx h (.tup l) (.int i) = atI l i := rfl
@[simp] theorem ix_fl : opIx h (.fl l) (.int i) = atI l i := rfl
@[simp] theorem ix_sc : opIx h (.sc l) (.int i) = atI l i := rfl
@[simp] theorem atI_lit {α : Type} {l : List α} {k : Nat} : atI l (no_index (OfNat.ofNat k)) = l[k]? := by
  unfold atI
  have : (0 : Int) ≤ (OfNat.ofNat k : Int) := Int.natCast_nonneg k
  rw [if_pos this]
  rfl
theorem atI_nat {α : Type} {l : List α} {i : Int} (h0 : 0 ≤ i) : atI l i = l[i.toNat]? := by unfold atI; rw [if_pos h0]
theorem atI_in {α : Type} {l : List α} {i : Int} (h0 : 0 ≤ i) (h1 : i < l.length) : ∃ x ∈ l, atI l i = some x := by
  have k : i.toNat < l.length := by omega
  exact ⟨l[i.toNat], List.getElem_mem _, by rw [atI_nat h0]; simp [k]⟩
/-! len -/
@[simp] theorem len_tup : opLen h (.tup l) = some (.int l.length) := rfl
@[simp] theorem len_fl : opLen h (.fl l) = some (.int l.length) := rfl
@[simp] theorem len_sc : opLen h (.sc l) = some (.int l.length) := rfl
def lenO : Option O → Option D
  | some (.lst l) => some (.int l.length)
  | some (.dk l) => some (.int l.length)
  | some (.dt l) => some (.int l.length)
  | _ => none
@[simp] theorem len_ref : opLen h (.ref n) = lenO h[n]? := by
  unfold opLen
  show (match items h (.ref n) with | some l => some (D.int l.length) | none => match dictOf h (.ref n) with | some (.k l) => some (.int l.length) | some (.t l) => some (.int l.length) | none => none) = _
  have e2 : dictOf h (.ref n) = match h[n]? with
    | some (.dk l) => some (.k l)
    | some (.dt l) => some (.t l)
    | _ => none := rfl
  rw [items_ref, e2]
  rcases h[n]? with _ | o
  · rfl
  · cases o <;> rfl
@[simp] theorem lenO_lst : lenO (some (.lst l)) = some (.int l.length) := rfl
@[simp] theorem lenO_dk {l : List (Key × D)} : lenO (some (.dk l)) = some (.int l.length) := rfl
@[simp] theorem lenO_dt {l : List (List Key × D)} : lenO (some (.dt l)) = some (.int l.length) := rfl
/-! built-in functions -/
@[simp] theorem abs_int : opAbs h (.int i) = some (.int (if i < 0 then -i else i)) := rfl
@[simp] theorem int_int : opInt h (.int i) = some (.int i) := rfl
@[simp] theorem int_bl {p : Bool} : opInt h (.bl p) = some (.int (if p then 1 else 0)) := rfl
@[simp] theorem tuple_fl : opTuple h (.fl l) = some (.tup l) := rfl
@[simp] theorem tuple_tup : opTuple h (.tup l) = some (.tup l) := rfl
@[simp] theorem tuple_ref : opTuple h (.ref n) = (lsO h[n]?).map .tup := by unfold opTuple; rw [items_ref]
@[simp] theorem list_fl : opList h (.fl l) = some (.fl l) := rfl
@[simp] theorem list_tup : opList h (.tup l) = some (.fl l) := rfl
@[simp] theorem list_ref : opList h (.ref n) = (lsO h[n]?).map .fl := by unfold opList; rw [items_ref]
@[simp] theorem min_int : opMin2 h (.int i) (.int j) = some (.int (if j < i then j else i)) := rfl
@[simp] theorem max_int : opMax2 h (.int i) (.int j) = some (.int (if j > i then j else i)) := rfl
@[simp] theorem bools_nil : bools [] = some [] := rfl
@[simp] theorem bools_cons {p : Bool} : bools (.bl p :: l) = (bools l).map (p :: ·) := rfl
@[simp] theorem bools_map {α : Type} {g : α → Bool} : ∀ {l : List α}, bools (l.map fun x => .bl (g x)) = some (l.map g)
  | [] => rfl
  | x :: l => by simp [bools_map (l := l)]
@[simp] theorem all_fl : opAll h (.fl l) = (bools l).map fun l => .bl (l.all id) := rfl
@[simp] theorem any_fl' : opAny h (.fl l) = (bools l).map fun l => .bl (l.any id) := rfl
@[simp] theorem ints_nil : intsOf [] = some [] := rfl
@[simp] theorem ints_cons : intsOf (.int i :: l) = (intsOf l).map (i :: ·) := rfl
@[simp] theorem ints_map {α : Type} {g : α → Int} : ∀ {l : List α}, intsOf (l.map fun x => .int (g x)) = some (l.map g)
  | [] => rfl
  | x :: l => by simp [ints_map (l := l)]
@[simp] theorem sum_fl : opSum h (.fl l) = (intsOf l).map fun l => .int l.sum := rfl
@[simp] theorem rev_tup : opRev h (.tup l) = some (.tup l.reverse) := rfl
@[simp] theorem rev_fl : opRev h (.fl l) = some (.fl l.reverse) := rfl
/-! slices -/
@[simp] theorem look_tup : look h (.tup l) = .tup l := rfl
@[simp] theorem look_fl : look h (.fl l) = .fl l := rfl
@[simp] theorem look_sc : look h (.sc l) = .sc l := rfl
@[simp] theorem sl_tup {p q : Option Int} : opSlT (.tup l) p q = some (.tup (cut l p q)) := rfl
@[simp] theorem sl_fl {p q : Option Int} : opSlT (.fl l) p q = some (.fl (cut l p q)) := rfl
@[simp] theorem sl_sc {p q : Option Int} : opSlT (.sc l) p q = some (.fl (cut l p q)) := rfl
theorem cut_from {α : Type} {l : List α} {i : Int} (hi : 0 ≤ i) : cut l (some i) none = l.drop i.toNat := by
  unfold cut clip
  simp only [Option.map_some, Option.getD_some, Option.map_none, Option.getD_none, if_pos hi]
  by_cases k : i.toNat ≤ l.length
  · rw [Nat.min_eq_left k, List.take_of_length_le (by simp)]
  · rw [Nat.min_eq_right (by omega), List.drop_of_length_le (Nat.le_refl _), List.drop_of_length_le (by omega)]
    simp
theorem cut_to {α : Type} {l : List α} {j : Int} (hj : 0 ≤ j) : cut l none (some j) = l.take j.toNat := by
  unfold cut clip
  simp only [Option.map_some, Option.getD_some, Option.map_none, Option.getD_none, if_pos hj]
  by_cases k : j.toNat ≤ l.length
  · rw [Nat.min_eq_left k]; simp
  · rw [Nat.min_eq_right (by omega)]
    simp only [List.drop_zero, Nat.sub_zero, List.take_length]
    exact (List.take_of_length_le (by omega)).symm
@[simp] theorem cut_lit1 {α : Type} {l : List α} {k : Nat} : cut l (some (no_index (OfNat.ofNat k))) none = l.drop k := cut_from (Int.natCast_nonneg k)
@[simp] theorem cut_lit2 {α : Type} {l : List α} {k : Nat} : cut l none (some (no_index (OfNat.ofNat k))) = l.take k := cut_to (Int.natCast_nonneg k)
/-! kinds -/
@[simp] theorem any_int {cs : List Nat} {ts : List Ty} : anyTy cs h (.int i) ts = some (ts.any (tyB "int")) := rfl
@[simp] theorem any_bool {cs : List Nat} {ts : List Ty} {p : Bool} : anyTy cs h (.bl p) ts = some (ts.any (tyB "bool")) := rfl
@[simp] theorem any_str {cs : List Nat} {ts : List Ty} : anyTy cs h (.str s) ts = some (ts.any (tyB "str")) := rfl
@[simp] theorem any_non {cs : List Nat} {ts : List Ty} : anyTy cs h .non ts = some (ts.any (tyB "NoneType")) := rfl
@[simp] theorem any_tup {cs : List Nat} {ts : List Ty} : anyTy cs h (.tup l) ts = some (ts.any (tyB "tuple")) := rfl
@[simp] theorem any_fl {cs : List Nat} {ts : List Ty} : anyTy cs h (.fl l) ts = some (ts.any (tyB "list")) := rfl
@[simp] theorem any_fo {cs : List Nat} {ts : List Ty} : anyTy cs h (.fo c l) ts = if c ∈ cs then some (ts.any (tyO c)) else none := rfl
@[simp] theorem any_fdk {cs : List Nat} {ts : List Ty} {ks : List Key} : anyTy cs h (.fdk ks l) ts = some (ts.any (tyB "dict")) := rfl
@[simp] theorem any_fdt {cs : List Nat} {ts : List Ty} {ks : List (List Key)} : anyTy cs h (.fdt ks l) ts = some (ts.any (tyB "dict")) := rfl
def kdO : Option O → Option Kd
  | some (.lst _) => some (.bt "list")
  | some (.dk _) => some (.bt "dict")
  | some (.dt _) => some (.bt "dict")
  | some (.ins c _) => some (.own c)
  | none => none
theorem kind_ref : kindD h (.ref n) = kdO h[n]? := by
  show (match h[n]? with | some (.lst _) => some (Kd.bt "list") | some (.dk _) => some (.bt "dict") | some (.dt _) => some (.bt "dict") | some (.ins c _) => some (.own c) | none => none) = _
  rcases h[n]? with _ | o
  · rfl
  · cases o <;> rfl
@[simp] theorem tyB_int {q : String} : tyB q .int = (q == "int" || q == "bool") := rfl
@[simp] theorem tyB_bool {q : String} : tyB q .bool = (q == "bool") := rfl
@[simp] theorem tyB_str {q : String} : tyB q .str = (q == "str") := rfl
@[simp] theorem tyB_tuple {q : String} : tyB q .tuple = (q == "tuple") := rfl
@[simp] theorem tyB_list {q : String} : tyB q .list = (q == "list") := rfl
@[simp] theorem tyB_dict {q : String} : tyB q .dict = (q == "dict") := rfl
@[simp] theorem tyB_cls {q : String} : tyB q (.cls c) = false := rfl
@[simp] theorem tyO_cls : tyO c (.cls f) = subc c f := rfl
@[simp] theorem tyO_int : tyO c .int = false := rfl
@[simp] theorem tyO_bool : tyO c .bool = false := rfl
@[simp] theorem tyO_str : tyO c .str = false := rfl
@[simp] theorem tyO_tuple : tyO c .tuple = false := rfl
@[simp] theorem tyO_list : tyO c .list = false := rfl
@[simp] theorem tyO_dict : tyO c .dict = false := rfl
@[simp] theorem fld_fo {e : Nat} : opFld c f h (.fo e l) = if c = e then l[f]? else none := rfl
def fldO (c f : Nat) : Option O → Option D
  | some (.ins e l) => if c = e then l[f]? else none
  | _ => none
@[simp] theorem fld_ref : opFld c f h (.ref n) = fldO c f h[n]? := by
  unfold opFld fldO
  split <;> split <;> simp_all
@[simp] theorem fldO_ins {e : Nat} : fldO c f (some (.ins e l)) = if c = e then l[f]? else none := rfl
def setFO (c f n : Nat) (h : HD) (v : D) : Option O → Option HD
  | some (.ins e l) => if c = e then (putAt l f v).map fun m => h.set n (.ins c m) else none
  | _ => none
@[simp] theorem setFld_ref : setFld c f h (.ref n) x = setFO c f n h x h[n]? := by
  unfold setFld setFO
  split <;> split <;> simp_all
@[simp] theorem setFO_ins {e : Nat} : setFO c f n h x (some (.ins e l)) = if c = e then (putAt l f x).map fun m => h.set n (.ins c m) else none := rfl
@[simp] theorem putAt_def {α : Type} {l : List α} {f : Nat} {v : α} : DM.putAt l f v = if f < l.length then some (l.set f v) else if f = l.length then some (l ++ [v]) else none := rfl
def setO (n : Nat) (h : HD) (i v : D) : Option O → Option HD
  | some (.lst l) => match i with
    | .int j => (ixOf j l.length).map fun k => h.set n (.lst (l.set k v))
    | _ => none
  | some (.dk l) => (keyOf i).bind fun k => if l.length < LIM then some (h.set n (.dk (putK k v l))) else none
  | some (.dt l) => (tkeyOf i).bind fun k => if l.length < LIM then some (h.set n (.dt (putK k v l))) else none
  | _ => none
@[simp] theorem setIt_ref : setIt h (.ref n) x y = setO n h x y h[n]? := by
  show (match h[n]? with | some (.lst l) => _ | some (.dk l) => _ | some (.dt l) => _ | _ => none) = _
  rcases e : h[n]? with _ | o
  · rfl
  · cases o <;> rfl
@[simp] theorem setO_lst : setO n h (.int j) x (some (.lst l)) = (ixOf j l.length).map fun k => h.set n (.lst (l.set k x)) := rfl
@[simp] theorem setO_dk {l : List (Key × D)} : setO n h y x (some (.dk l)) = (keyOf y).bind fun k => if l.length < LIM then some (h.set n (.dk (putK k x l))) else none := rfl
@[simp] theorem setO_dt {l : List (List Key × D)} : setO n h y x (some (.dt l)) = (tkeyOf y).bind fun k => if l.length < LIM then some (h.set n (.dt (putK k x l))) else none := rfl
@[simp] theorem rept_length {α : Type} {l : List α} {n : Nat} : (rept l n).length = n * l.length := by
  unfold rept
  simp [List.length_flatten]
theorem rept_mem {α : Type} {l : List α} {n : Nat} {x : α} (h : x ∈ rept l n) : x ∈ l := by
  unfold rept at h
  obtain ⟨m, hm, hx⟩ := List.mem_flatten.mp h
  rw [(List.mem_replicate.mp hm).2] at hx
  exact hx
theorem all_rept {α : Type} {l : List α} {n : Nat} {p : α → Bool} (h : l.all p = true) : (rept l n).all p = true := by
  rw [List.all_eq_true] at h ⊢
  exact fun x m => h x (rept_mem m)
@[simp] theorem ixOf_lit {k : Nat} : ixOf (no_index (OfNat.ofNat k)) n = if k < n then some k else none := by
  unfold ixOf
  have : (0 : Int) ≤ (OfNat.ofNat k : Int) := Int.natCast_nonneg k
  rw [if_pos this]
  rfl
theorem small_lt {i : Int} (h0 : 0 ≤ i) (h1 : i < 18446744073709551616) : small i = true := by unfold small; simp; omega
theorem mod_nn {i n : Int} (hn : 0 < n) : 0 ≤ i % n := Int.emod_nonneg _ (by omega)
theorem mod_lt {i n : Int} (hn : 0 < n) : i % n < n := Int.emod_lt_of_pos _ hn
theorem small_mod {i n : Int} (hn : 0 < n) (h1 : n < 18446744073709551616) : small (i % n) = true := small_lt (mod_nn hn) (Int.lt_trans (mod_lt hn) h1)
/-! what is walked -/
theorem range_0 (h0 : 0 ≤ i) (h1 : i ≤ 1000000) : iRange 0 i = some ⟨(List.range i.toNat).map fun (k : Nat) => D.int k, []⟩ := by
  unfold iRange
  have hL : LIM = 16777216 := rfl
  simp [hL]
  omega
@[simp] theorem watch_tup : watchOf h (.tup l) = [] := rfl
@[simp] theorem watch_fl : watchOf h (.fl l) = [] := rfl
@[simp] theorem watch_sc : watchOf h (.sc l) = [] := rfl
@[simp] theorem stays_nil : stays h [] = true := rfl
@[simp] theorem pat_nm {i : Nat} {s : SD} : (Pat.nm i).set d s = some (s.set i (some d)) := by rw [Pat.set]
@[simp] theorem pat_tp {ps : List Pat} {s : SD} : (Pat.tp ps).set (.tup l) s = Pat.sets ps l s := by rw [Pat.set]
@[simp] theorem pats_nil {s : SD} : Pat.sets [] [] s = some s := by rw [Pat.sets]
@[simp] theorem wpo_pats {p : Pat} {ps : List Pat} {s : SD} {P : SD → Prop} : wpo (Pat.sets (p :: ps) (d :: l) s) P = wpo (p.set d s) fun t => wpo (Pat.sets ps l t) P := by
  rw [Pat.sets]
  cases p.set d s <;> rfl
@[simp] theorem wipe_nil {s : SD} : wipeD s [] = s := rfl
@[simp] theorem wipe_cons {s : SD} {v : Nat} {vs : List Nat} : wipeD s (v :: vs) = (wipeD s vs).set v none := rfl
@[simp] theorem setsN_nil {s : SD} : setsN [] [] s = some s := rfl
@[simp] theorem setsN_cons {s : SD} {v : Nat} {vs : List Nat} : setsN (v :: vs) (d :: l) s = setsN vs l (s.set v (some d)) := rfl
@[simp] theorem und_non : D.under n .non = true := by simp [D.under]
@[simp] theorem und_bl {p : Bool} : D.under n (.bl p) = true := by simp [D.under]
@[simp] theorem und_int : D.under n (.int i) = true := by simp [D.under]
@[simp] theorem und_str : D.under n (.str s) = true := by simp [D.under]
@[simp] theorem und_tup : D.under n (.tup l) = unders n l := by simp [D.under]
@[simp] theorem und_fl : D.under n (.fl l) = unders n l := by simp [D.under]
@[simp] theorem und_fo : D.under n (.fo c l) = unders n l := by simp [D.under]
@[simp] theorem und_fdk {ks : List Key} : D.under n (.fdk ks l) = unders n l := by simp [D.under]
@[simp] theorem und_fdt {ks : List (List Key)} : D.under n (.fdt ks l) = unders n l := by simp [D.under]
@[simp] theorem und_ref : D.under n (.ref c) = decide (c < n) := by simp [D.under]
@[simp] theorem unds_nil : unders n [] = true := by simp [unders]
@[simp] theorem unds_cons : unders n (x :: l) = (D.under n x && unders n l) := by simp [unders]
theorem unders_all : ∀ {l : List D}, unders n l = l.all (D.under n)
  | [] => by simp
  | x :: l => by simp [unders_all (l := l)]
@[simp] theorem unds_app : unders n (l ++ m) = (unders n l && unders n m) := by rw [unders_all, unders_all, unders_all, List.all_append]
end
end DM
set_option Elab.async false
set_option linter.all false
set_option maxRecDepth 100000
set_option maxHeartbeats 1000000
/-! Machine D: instances made; the order of tuples of numbers; tidy heaps. -/
namespace DM
open PySem
def Tidy (h : HD) : Prop := h.all (O.under h.length) = true
mutual
theorem under_le {n m : Nat} (q : n ≤ m) : ∀ d : D, D.under n d = true → D.under m d = true
  | .non, _ => by simp
  | .bl _, _ => by simp
  | .int _, _ => by simp
  | .str _, _ => by simp
  | .tup l, h => by rw [D.under] at h ⊢; exact unders_le q l h
  | .fl l, h => by rw [D.under] at h ⊢; exact unders_le q l h
  | .sc l, h => by rw [D.under] at h ⊢; exact unders_le q l h
  | .fo _ l, h => by rw [D.under] at h ⊢; exact unders_le q l h
  | .fdk _ l, h => by rw [D.under] at h ⊢; exact unders_le q l h
  | .fdt _ l, h => by rw [D.under] at h ⊢; exact unders_le q l h
  | .ref c, h => by rw [D.under] at h ⊢; simp at h ⊢; omega
  | .ex _ l, h => by rw [D.under] at h ⊢; exact unders_le q l h
theorem unders_le {n m : Nat} (q : n ≤ m) : ∀ l : List D, unders n l = true → unders m l = true
  | [], _ => by simp
  | d :: l, h => by
    rw [unders, Bool.and_eq_true] at h ⊢
    exact ⟨under_le q d h.1, unders_le q l h.2⟩
end
theorem ounder_le {n m : Nat} (q : n ≤ m) {o : O} (h : O.under n o = true) : O.under m o = true := by
  cases o <;> exact unders_le q _ h
theorem tidy_nil : Tidy [] := rfl
theorem tidy_app {h : HD} {o : O} (ht : Tidy h) (u : O.under (h.length + 1) o = true) : Tidy (h ++ [o]) := by
  unfold Tidy at ht ⊢
  rw [List.all_append, Bool.and_eq_true]
  refine ⟨?_, by simpa using u⟩
  rw [List.all_eq_true] at ht ⊢
  exact fun x m => ounder_le (by simp) (ht x m)
theorem fine_tidy {r : HD} {g : Hand} : Tidy (g.box :: r) ↔ Fine r := by
  unfold Tidy Fine
  rw [List.all_cons, Hand.under, Bool.true_and, List.length_cons]
theorem each_under {h : HD} {n f : Nat} : ∀ {l : List D}, unders n l = true → each (freeze h n (f + 1)) l = some l
  | [], _ => rfl
  | d :: l, u => by
    rw [unders, Bool.and_eq_true] at u
    rw [each]
    have e : freeze h n (f + 1) d = some d := by unfold freeze; rw [if_pos u.1]
    rw [e, each_under u.2]
/-- C(..) -/
theorem make_res {h : HD} {np ns c : Nat} {b : SM} {ds l : List D} {res : Option Xn} (hl : ds.length + 1 = np) (ht : Tidy h) (ul : unders h.length l = true)
    (w : (b ((D.ref h.length :: ds).map some ++ List.replicate (ns - np) none) (h ++ [.ins c []])).wp (fun _ h1 => res = none ∧ h1 = h ++ [.ins c l]) (fun _ _ => False) (fun x _ h1 => res = some x ∧ h1 = h ++ [.ins c []] ∧ unders h.length x.l = true)) :
    mkT c (fnT np ns b) ds h = mkRes c l h res := by
  unfold mkT mkM fnT fnM
  rw [if_pos (by simpa using hl)]
  cases e : b ((D.ref h.length :: ds).map some ++ List.replicate (ns - np) none) (h ++ [.ins c []]) with
  | nx s h1 =>
    rw [e] at w
    obtain ⟨rfl, rfl⟩ := w
    have t1 : trim (h ++ [O.ins c []]) (.ok .non (h ++ [.ins c l])) = .ok .non (h ++ [.ins c l]) := by
      refine trim_set (by simp) ?_ (by simp)
      have z : Tidy (h ++ [O.ins c l]) := tidy_app ht (by show unders _ _ = true; exact unders_le (by omega) _ ul)
      unfold Tidy at z
      simpa using z
    show trim h ((trim (h ++ [O.ins c []]) (.ok .non (h ++ [.ins c l]))).bind _) = _
    rw [t1]
    show trim h (.ok (.ref h.length) (h ++ [.ins c l])) = .ok (.fo c l) h
    unfold trim
    have c1 : clean h (h ++ [O.ins c l]) = true := by unfold clean; rw [List.take_left, hsame_rfl]; rfl
    have f1 : freeze (h ++ [O.ins c l]) h.length 60 (.ref h.length) = some (.fo c l) := by
      unfold freeze
      rw [if_neg (by simp)]
      simp only [List.getElem?_append_right (Nat.le_refl _), Nat.sub_self, List.getElem?_cons_zero]
      rw [each_under ul]
      rfl
    have le1 : decide (h.length ≤ (h ++ [O.ins c l]).length) = true := by simp
    simp only [c1, le1, Bool.and_self, if_true, f1, List.take_left]
  | rt d h1 => rw [e] at w; exact w.elim
  | exc x s h1 =>
    rw [e] at w
    obtain ⟨rfl, rfl, ux⟩ := w
    show trim h ((trim (h ++ [O.ins c []]) (.exc x (h ++ [.ins c []]))).bind _) = _
    rw [trim_excs (unders_le (by simp) _ ux)]
    show trim h (.exc x (h ++ [.ins c []])) = .exc x h
    unfold trim
    have c1 : clean h (h ++ [O.ins c []]) = true := by unfold clean; rw [List.take_left, hsame_rfl]; rfl
    simp [c1, ux]
  | bk _ _ => rw [e] at w; exact w.elim
  | ct _ _ => rw [e] at w; exact w.elim
  | bad => rw [e] at w; exact w.elim
@[simp] theorem last_ins {h : HD} {o : O} : (h ++ [o])[h.length]? = some o := by simp
@[simp] theorem last_set {h : HD} {o p : O} : (h ++ [o]).set h.length p = h ++ [p] := by simp
theorem fine_app {r : HD} {o : O} (hr : Fine r) (u : O.under (r.length + 2) o = true) : Fine (r ++ [o]) := by
  unfold Fine at hr ⊢
  rw [List.all_append, Bool.and_eq_true]
  refine ⟨?_, by simpa using u⟩
  rw [List.all_eq_true] at hr ⊢
  exact fun x m => ounder_le (by simp) (hr x m)
/-- the hand ahead of what stands -/
def HH (r h : HD) : Prop := ∃ g : Hand, h = g.box :: r
theorem HH.mk {g : Hand} {r : HD} : HH r (g.box :: r) := ⟨g, rfl⟩
/-- a comprehension that draws -/
theorem lc_draw {s : SD} {p : Pat} {e : EM} {own : List Nat} {P : List D → HD → Prop} {X : Xn → HD → Prop} {r : HD} (Q : D → Prop) {xs : List D} {g : Hand}
    (k : ∀ x ∈ xs, ∀ g : Hand, wpo (p.set x (wipeD s own)) fun s1 => (e s1 (g.box :: r)).wp (fun y h2 => Q y ∧ HH r h2) NX)
    (q : ∀ (ys : List D) (g' : Hand), ys.length = xs.length → (∀ y ∈ ys, Q y) → P ys (g'.box :: r)) : (lcGo s p tYes e own [] xs (g.box :: r) []).wp P X := by
  refine lc_wp (I := fun pre post h acc => pre ++ post = xs ∧ HH r h ∧ acc.length = pre.length ∧ ∀ y ∈ acc, Q y) xs [] _ [] ⟨rfl, .mk, rfl, fun _ m => nomatch m⟩ ?_ ?_
  · rintro pre x post h acc ⟨hl, ⟨g, rfl⟩, la, ha⟩
    have z := k x (by rw [← hl]; simp) g
    cases e1 : p.set x (wipeD s own) with
    | none => rw [e1] at z; exact z.elim
    | some s1 =>
      rw [e1] at z
      refine ⟨fun _ => ?_, fun hb => nomatch hb⟩
      refine wp_imp z (fun y h2 hy => ?_) fun x h q => q
      refine ⟨rfl, by simpa using hl, hy.2, by simp [la], fun y' m => ?_⟩
      rcases List.mem_append.mp m with m | m
      · exact ha y' m
      · rw [List.mem_singleton.mp m]; exact hy.1
  · rintro pre h acc ⟨hl, ⟨g, rfl⟩, la, ha⟩
    rw [List.append_nil] at hl
    subst hl
    exact q acc g la ha
theorem putK_len {κ : Type} [DecidableEq κ] {k : κ} {v : D} {l : List (κ × D)} : (putK k v l).length ≤ l.length + 1 := by
  unfold putK
  split <;> simp
theorem putK_key {κ : Type} [DecidableEq κ] {k : κ} {v : D} {l : List (κ × D)} {p : κ × D} (h : p ∈ putK k v l) : p.1 = k ∨ ∃ q ∈ l, q.1 = p.1 := by
  unfold putK at h
  split at h
  · obtain ⟨q, m, rfl⟩ := List.mem_map.mp h
    right
    exact ⟨q, m, by split <;> rfl⟩
  · rcases List.mem_append.mp h with m | m
    · exact .inr ⟨p, m, rfl⟩
    · rw [List.mem_singleton.mp m]; exact .inl rfl
theorem putK_val {κ : Type} [DecidableEq κ] {k : κ} {v : D} {l : List (κ × D)} {p : κ × D} (h : p ∈ putK k v l) : p.2 = v ∨ p ∈ l := by
  unfold putK at h
  split at h
  · obtain ⟨q, m, rfl⟩ := List.mem_map.mp h
    split
    · exact .inl rfl
    · exact .inr m
  · rcases List.mem_append.mp h with m | m
    · exact .inr m
    · rw [List.mem_singleton.mp m]; exact .inl rfl
/-! ### sorted -/
theorem sort_mem {l : List D} {x : D} : x ∈ sortD l ↔ x ∈ l := by unfold sortD; exact List.mem_mergeSort
theorem sort_len {l : List D} : (sortD l).length = l.length := by unfold sortD; exact List.length_mergeSort _
/-! ### tuples of numbers -/
def intsT : D → Bool
  | .tup l => l.all fun | .int _ => true | _ => false
  | _ => false
theorem intsT_map {d : D} (h : intsT d = true) : ∃ l : List Int, d = .tup (l.map .int) := by
  cases d with
  | tup l =>
    have h : (l.all fun | .int _ => true | _ => false) = true := h
    induction l with
    | nil => exact ⟨[], rfl⟩
    | cons x l ih =>
      rw [List.all_cons, Bool.and_eq_true] at h
      obtain ⟨m, e⟩ := ih h.2 h.2
      cases x with
      | int i => exact ⟨i :: m, by injection e with e; rw [e]; rfl⟩
      | _ => exact absurd h.1 (by simp)
  | _ => cases h
theorem toPs_ints : ∀ l : List Int, toPs (l.map .int) = some (l.map .int)
  | [] => by rw [List.map_nil, toPs]; rfl
  | i :: l => by rw [List.map_cons, toPs, toPs_ints l, toP]; rfl
theorem alike_ints : ∀ l m : List Int, W.alikeAll (l.map .int) (m.map .int) = true
  | [], _ => by rw [List.map_nil, W.alikeAll]
  | _ :: _, [] => by rw [List.map_nil, List.map_cons, W.alikeAll]
  | i :: l, j :: m => by rw [List.map_cons, List.map_cons, W.alikeAll, alike_ints l m, W.alike]; rfl
theorem canLay_ints : ∀ l : List Int, PyData.canLayAll0 (l.map .int) = true
  | [] => rfl
  | i :: l => by rw [List.map_cons, PyData.canLayAll0, canLay_ints l]; rfl
theorem depth_ints : ∀ l : List Int, PyData.depthAll (l.map .int) = 0
  | [] => rfl
  | i :: l => by rw [List.map_cons, PyData.depthAll, depth_ints l]; rfl
theorem shaped_ints (l : List Int) : SeqAt.shaped (.tuple (l.map .int)) = true := by
  unfold SeqAt.shaped
  rw [PyData.canLay0, canLay_ints, PyData.depth, depth_ints]
  rfl
/-- one < other, of tuples of numbers -/
def ltD (a b : D) : Bool := W.dataLt (enc a) (enc b)
theorem enc_ints (l : List Int) : enc (.tup (l.map .int)) = .tuple (l.map .int) := by
  rw [enc, encs_map, List.map_map]
  have : (enc ∘ D.int) = PyData.int := by funext x; show enc (.int x) = .int x; rw [enc]
  rw [this]
theorem lt_ints {h : HD} {a b : D} (ha : intsT a = true) (hb : intsT b = true) : cLt h a b = some (ltD a b) := by
  obtain ⟨l, rfl⟩ := intsT_map ha
  obtain ⟨m, rfl⟩ := intsT_map hb
  unfold cLt
  simp only [toPs_ints, shaped_ints, Bool.and_true]
  rw [W.alike, alike_ints, if_pos rfl]
  unfold ltD
  rw [enc_ints, enc_ints]
theorem toPs_enc : ∀ {l : List D}, (∀ x ∈ l, intsT x = true) → toPs l = some (l.map enc)
  | [], _ => by rw [toPs]; rfl
  | d :: l, h => by
    obtain ⟨m, e⟩ := intsT_map (h d (List.mem_cons_self ..))
    have z : toP d = some (enc d) := by rw [e, toP, toPs_ints, enc_ints]; rfl
    rw [toPs, z, toPs_enc fun x k => h x (List.mem_cons_of_mem _ k)]
    rfl
/-- sorted lists of tuples of numbers, none empty -/
theorem sortOk_ints {l : List D} (h : ∀ x ∈ l, intsT x = true ∧ x ≠ .tup []) (hl : l.length ≤ LIM) : sortOk l = true := by
  unfold sortOk
  rw [toPs_enc fun x m => (h x m).1]
  have e : ∀ x ∈ l, ∃ i m, enc x = .tuple (.int i :: List.map PyData.int m) := by
    intro x hx
    obtain ⟨m, e⟩ := intsT_map (h x hx).1
    rw [e, enc_ints]
    cases m with
    | nil => exact absurd e (h x hx).2
    | cons i m => exact ⟨i, m, rfl⟩
  have a1 : ((l.map enc).all fun p => (l.map enc).all fun q => W.alike p q) = true := by
    rw [List.all_map, List.all_eq_true]
    intro x hx
    show ((l.map enc).all fun q => W.alike (enc x) q) = true
    rw [List.all_map, List.all_eq_true]
    intro y hy
    obtain ⟨i, m, e1⟩ := e x hx
    obtain ⟨j, n, e2⟩ := e y hy
    show W.alike (enc x) (enc y) = true
    rw [e1, e2, W.alike]
    exact alike_ints (i :: m) (j :: n)
  have a2 : (l.map enc).all isTup1 = true := by
    rw [List.all_map, List.all_eq_true]
    intro x hx
    obtain ⟨i, m, e1⟩ := e x hx
    show isTup1 (enc x) = true
    rw [e1]; rfl
  have a3 : (l.map enc).all SeqAt.shaped = true := by
    rw [List.all_map, List.all_eq_true]
    intro x hx
    obtain ⟨i, m, e1⟩ := e x hx
    show SeqAt.shaped (enc x) = true
    rw [e1]; exact shaped_ints (i :: m)
  simp only [a1, a2, a3, Bool.true_or, Bool.and_self, Bool.true_and]
  exact decide_eq_true hl
theorem good_intsT {d : D} (h : intsT d = true) : good 1 d = true := by
  obtain ⟨l, rfl⟩ := intsT_map h
  rw [good_tup, List.all_eq_true]
  intro x m
  obtain ⟨i, _, rfl⟩ := List.mem_map.mp m
  exact good_int
end DM
set_option Elab.async false
set_option linter.all false
set_option maxRecDepth 100000
set_option maxHeartbeats 1000000
/-! Machine D: what is sorted. -/
namespace DM
open PySem
/-- the order of lists of numbers -/
def ltI : List Int → List Int → Bool
  | [], [] => false
  | [], _ :: _ => true
  | _ :: _, [] => false
  | i :: l, j :: m => decide (i < j) || (decide (i = j) && ltI l m)
theorem toks_ints : ∀ l : List Int, W.keyToksAll (l.map .int) = (l.map fun i => [Sum.inl 1, Sum.inl i]).flatten ++ [.inl 0]
  | [] => by rw [List.map_nil, W.keyToksAll]; rfl
  | i :: l => by rw [List.map_cons, W.keyToksAll, toks_ints l, W.keyToks]; rfl
theorem blt_int {i j : Int} : PyProof.Rows.itemOrd.blt (.inl i) (.inl j) = decide (i < j) := rfl
theorem lex_ints : ∀ l m : List Int, PyProof.Rows.lexLt PyProof.Rows.itemOrd ((l.map fun i => [Sum.inl 1, Sum.inl i]).flatten ++ [.inl 0]) ((m.map fun i => [Sum.inl 1, Sum.inl i]).flatten ++ [.inl 0]) = ltI l m
  | [], [] => rfl
  | [], j :: m => rfl
  | i :: l, [] => rfl
  | i :: l, j :: m => by
    have ih := lex_ints l m
    show PyProof.Rows.lexLt PyProof.Rows.itemOrd (.inl 1 :: .inl i :: _) (.inl 1 :: .inl j :: _) = _
    rw [PyProof.Rows.lex_self, PyProof.Rows.lex_cons, blt_int, blt_int]
    show (decide (i < j) || (!decide (j < i) && PyProof.Rows.lexLt PyProof.Rows.itemOrd ((l.map fun i => [Sum.inl 1, Sum.inl i]).flatten ++ [.inl 0]) ((m.map fun i => [Sum.inl 1, Sum.inl i]).flatten ++ [.inl 0]))) = ltI (i :: l) (j :: m)
    rw [ih, ltI]
    by_cases h1 : i < j
    · simp [h1]
    · by_cases h2 : i = j
      · simp [h2]
      · have : j < i := by omega
        simp [h1, h2, this]
theorem ltD_ints (l m : List Int) : ltD (.tup (l.map .int)) (.tup (m.map .int)) = ltI l m := by
  unfold ltD W.dataLt
  rw [enc_ints, enc_ints, W.keyToks, W.keyToks, toks_ints, toks_ints, lex_ints]
theorem ltI_irr : ∀ l : List Int, ltI l l = false
  | [] => rfl
  | i :: l => by simp [ltI, ltI_irr l]
theorem ltI_total : ∀ l m : List Int, ltI l m = false → ltI m l = false → l = m
  | [], [], _, _ => rfl
  | [], j :: m, h, _ => by cases h
  | i :: l, [], _, h => by cases h
  | i :: l, j :: m, h, k => by
    simp only [ltI, Bool.or_eq_false_iff, decide_eq_false_iff_not] at h k
    have e : i = j := by omega
    subst e
    simp at h k
    rw [ltI_total l m h k]
theorem ltI_trans : ∀ l m n : List Int, ltI l m = true → ltI m n = true → ltI l n = true
  | [], _, [], h, k => by
    rename_i m
    cases m <;> cases h <;> cases k
  | [], _, _ :: _, _, _ => rfl
  | _ :: _, [], _, h, _ => by cases h
  | _ :: _, _ :: _, [], _, k => by cases k
  | i :: l, j :: m, o :: n, h, k => by
    simp only [ltI, Bool.or_eq_true, Bool.and_eq_true, decide_eq_true_eq] at h k ⊢
    rcases h with h | ⟨h1, h2⟩
    · rcases k with k | ⟨k1, k2⟩
      · exact .inl (by omega)
      · exact .inl (by omega)
    · rcases k with k | ⟨k1, k2⟩
      · exact .inl (by omega)
      · exact .inr ⟨by omega, ltI_trans l m n h2 k2⟩
theorem map_int_inj {l m : List Int} (h : l.map D.int = m.map D.int) : l = m := by
  induction l generalizing m with
  | nil => cases m with
    | nil => rfl
    | cons => cases h
  | cons i l ih => cases m with
    | nil => cases h
    | cons j m =>
      injection h with h1 h2
      injection h1 with h1
      rw [h1, ih h2]
theorem ltD_total {a b : D} (ha : intsT a = true) (hb : intsT b = true) (h : ltD a b = false) (k : ltD b a = false) : a = b := by
  obtain ⟨l, rfl⟩ := intsT_map ha
  obtain ⟨m, rfl⟩ := intsT_map hb
  rw [ltD_ints] at h k
  rw [ltI_total l m h k]
theorem ltD_trans {a b c : D} (ha : intsT a = true) (hb : intsT b = true) (hc : intsT c = true) (h : ltD a b = true) (k : ltD b c = true) : ltD a c = true := by
  obtain ⟨l, rfl⟩ := intsT_map ha
  obtain ⟨m, rfl⟩ := intsT_map hb
  obtain ⟨n, rfl⟩ := intsT_map hc
  rw [ltD_ints] at h k ⊢
  exact ltI_trans l m n h k
theorem ltD_irr {a : D} (ha : intsT a = true) : ltD a a = false := by
  obtain ⟨l, rfl⟩ := intsT_map ha
  rw [ltD_ints]; exact ltI_irr l
theorem encD_ints {a : D} (ha : intsT a = true) : encD a = enc a := by
  unfold encD
  rw [good_toP (good_intsT ha)]
  rfl
theorem sort_perm {l : List D} : (sortD l).Perm l := List.mergeSort_perm _ _
/-- what is sorted ascends -/
theorem sort_pair {l : List D} (h : ∀ x ∈ l, intsT x = true) : (sortD l).Pairwise fun a b => ltD b a = false := by
  have t := W.sortLe_total (PyProof.Rows.listOrd PyProof.Rows.itemOrd) false (fun d : D => W.keyToks (encD d))
  have p : (sortD l).Pairwise fun a b => W.dataLe false encD a b = true := by
    unfold sortD
    refine List.pairwise_mergeSort (fun a b c h k => t.trans a b c h k) (fun a b => ?_) l
    rw [Bool.or_eq_true]
    exact t.total a b
  refine List.Pairwise.imp_of_mem ?_ p
  intro a b ma mb k
  have ia := h a (sort_mem.mp ma)
  have ib := h b (sort_mem.mp mb)
  have k : (!PyProof.Rows.lexLt PyProof.Rows.itemOrd (W.keyToks (encD b)) (W.keyToks (encD a))) = true := k
  rw [encD_ints ia, encD_ints ib, Bool.not_eq_true'] at k
  exact k
theorem sort_asc {l : List D} (h : ∀ x ∈ l, intsT x = true) (nd : l.Nodup) : (sortD l).Pairwise fun a b => ltD a b = true := by
  have p := sort_pair h
  have q : (sortD l).Nodup := (sort_perm.nodup_iff).mpr nd
  have r := p.and q
  refine List.Pairwise.imp_of_mem ?_ r
  rintro a b ma mb ⟨k1, k2⟩
  cases e : ltD a b with
  | true => rfl
  | false => exact absurd (ltD_total (h a (sort_mem.mp ma)) (h b (sort_mem.mp mb)) e k1) k2
/-- neighbours -/
def pairs (l : List D) : List D := (l.zip l.tail).map fun p => D.tup [p.1, p.2]
def fst' : D → D
  | .tup (a :: _) => a
  | _ => .non
def snd' : D → D
  | .tup (_ :: b :: _) => b
  | _ => .non
def thd' : D → D
  | .tup (_ :: _ :: c :: _) => c
  | _ => .non
def ltP (x : D) : Bool := ltD (fst' x) (snd' x)
theorem pairs_mem {l : List D} {x : D} (h : x ∈ pairs l) : ∃ a b, x = .tup [a, b] ∧ a ∈ l ∧ b ∈ l := by
  obtain ⟨⟨a, b⟩, m, rfl⟩ := List.mem_map.mp h
  exact ⟨a, b, rfl, (List.of_mem_zip m).1, List.mem_of_mem_tail (List.of_mem_zip m).2⟩
theorem pairs_cons {a b : D} {l : List D} : pairs (a :: b :: l) = .tup [a, b] :: pairs (b :: l) := rfl
theorem pairs_asc : ∀ {l : List D}, (l.Pairwise fun a b => ltD a b = true) → (pairs l).all ltP = true
  | [], _ => rfl
  | [_], _ => rfl
  | a :: b :: l, h => by
    obtain ⟨h1, h2⟩ := List.pairwise_cons.mp h
    rw [pairs_cons, List.all_cons, pairs_asc h2, Bool.and_true]
    exact h1 b (List.mem_cons_self ..)
theorem asc_pairs : ∀ {l : List D}, (∀ x ∈ l, intsT x = true) → (pairs l).all ltP = true → (l.Pairwise fun a b => ltD a b = true)
  | [], _, _ => .nil
  | [_], _, _ => List.pairwise_singleton ..
  | a :: b :: l, hi, h => by
    rw [pairs_cons, List.all_cons, Bool.and_eq_true] at h
    have ih := asc_pairs (fun x m => hi x (List.mem_cons_of_mem _ m)) h.2
    refine List.pairwise_cons.mpr ⟨fun c mc => ?_, ih⟩
    rcases List.mem_cons.mp mc with rfl | mc
    · exact h.1
    · exact ltD_trans (hi a (List.mem_cons_self ..)) (hi b (by simp)) (hi c (by simp [mc])) h.1 ((List.pairwise_cons.mp ih).1 c mc)
theorem c_asc {s : SD} {i j : Nat} {own : List Nat} {l : List D} {h : HD} {P : List D → HD → Prop} {X : Xn → HD → Prop} (hl : ∀ x ∈ l, intsT x = true) 
    (ho : ∀ a b : D, isEx a = false → isEx b = false → wpo ((Pat.tp [.nm i, .nm j]).set (.tup [a, b]) (wipeD s own)) fun s1 => (eVar i s1 h) = .ok a h ∧ (eVar j s1 h) = .ok b h) (q : P ((pairs l).map fun x => .bl (ltP x)) h) :
    (lcGo s (.tp [.nm i, .nm j]) tYes (eT (tBin cLt (eVar i) (eVar j))) own [] (pairs l) h []).wp P X := by
  refine lc_bools ltP rfl ?_ q
  intro x hx
  obtain ⟨a, b, rfl, ha, hb⟩ := pairs_mem hx
  have z := ho a b (good_ex' (good_intsT (hl a ha))) (good_ex' (good_intsT (hl b hb)))
  cases e : (Pat.tp [.nm i, .nm j]).set (.tup [a, b]) (wipeD s own) with
  | none => rw [e] at z; exact z.elim
  | some s1 =>
    rw [e] at z
    obtain ⟨z1, z2⟩ := z
    show ((eT (tBin cLt (eVar i) (eVar j)) s1 h).wp _ NX)
    rw [a_eT, a_tbin, z1]
    simp only [wp_bind, wp_ok, z2, lt_ints (hl a ha) (hl b hb), wp_of, wpo_some, true_and]
    rfl
/-! ### dicts: keys once -/
theorem putK_nd {κ : Type} [DecidableEq κ] {k : κ} {v : D} {l : List (κ × D)} (h : (l.map (·.1)).Nodup) : ((putK k v l).map (·.1)).Nodup := by
  unfold putK
  split
  · rename_i e
    have : (l.map (fun kv => if kv.1 = k then (kv.1, v) else kv)).map (·.1) = l.map (·.1) := by
      rw [List.map_map]
      refine List.map_congr_left fun x _ => ?_
      show (if x.1 = k then (x.1, v) else x).1 = x.1
      split <;> rfl
    rw [this]; exact h
  · rename_i e
    rw [List.map_append, List.nodup_append]
    refine ⟨h, by simp, ?_⟩
    intro a ha b hb
    simp at hb
    subst hb
    rintro rfl
    obtain ⟨p, m, rfl⟩ := List.mem_map.mp ha
    exact e (List.any_eq_true.mpr ⟨p, m, by simp⟩)
/-! ### own equality -/
section
variable {h : HD} {s : SD} {X : Xn → HD → Prop} {l : List D} {y : D}
@[simp] theorem w_eqX {cs : List Nat} {c : Nat} {f : FM} {ng : Bool} {a b : EM} {P : Bool → HD → Prop} : (tEqX cs c f ng a b s h).wp P X = (a s h).wp (fun x h1 => (b s h1).wp (fun y h2 => (eqX cs c f h2 x y).wp (fun b h3 => P (if ng then !b else b) h3) NX) X) X := by
  unfold tEqX
  rw [wp_bind]
  congr 1
  funext x h1
  rw [wp_bind]
  congr 1
  funext y h2
  rw [wp_bind, wp_calm]
  rfl
@[simp] theorem w_flagR {r : Res D} {P : Bool → HD → Prop} : (flagR r).wp P X = r.wp (fun d h => match d with | .bl b => P b h | _ => False) X := by
  unfold flagR
  rw [wp_bind]
  congr 1
  funext d h1
  cases d <;> rfl
@[simp] theorem eqX_fo {cs : List Nat} {c e : Nat} {f : FM} : eqX cs c f h (.fo e l) y = if c = e then (if okR cs h y then flagR (f [.fo e l, y] h) else .bad) else .of (eqD h (.fo e l) y) h := by
  unfold eqX isIns
  by_cases k : c = e <;> simp [k]
@[simp] theorem okR_fo {cs : List Nat} {e : Nat} : okR cs h (.fo e l) = decide (e ∈ cs) := rfl
@[simp] theorem okR_tup {cs : List Nat} : okR cs h (.tup l) = true := rfl
@[simp] theorem okR_fl {cs : List Nat} : okR cs h (.fl l) = true := rfl
@[simp] theorem okR_int {cs : List Nat} {i : Int} : okR cs h (.int i) = true := rfl
@[simp] theorem okR_str {cs : List Nat} {i : Str} : okR cs h (.str i) = true := rfl
@[simp] theorem okR_bl {cs : List Nat} {i : Bool} : okR cs h (.bl i) = true := rfl
@[simp] theorem okR_non {cs : List Nat} : okR cs h .non = true := rfl
end
end DM
set_option Elab.async false
set_option linter.all false
set_option maxRecDepth 100000
set_option maxHeartbeats 1000000
/-! Machine D: the law's end. -/
namespace DM
open PySem
/-- the law itself -/
theorem law_end {ns : Nat} {b : SM} {d : D} (w : (b ([d].map some ++ List.replicate (ns - 1) none) []).wp (fun _ _ => False) (fun d _ => d = .bl true) (fun _ _ _ => False)) : ∃ h, fnT 1 ns b [d] [] = .ok (.bl true) h := by
  unfold fnT fnM
  rw [if_pos (show [d].length = 1 from rfl)]
  cases e : b ([d].map some ++ List.replicate (ns - 1) none) [] with
  | rt d h1 =>
    rw [e] at w
    have w : d = .bl true := w
    subst w
    refine ⟨[], ?_⟩
    show trim [] (.ok (.bl true) h1) = _
    unfold trim
    have c : clean [] h1 = true := by unfold clean; simp [hsame]
    have f : freeze h1 0 60 (.bl true) = some (.bl true) := by unfold freeze; rw [if_pos (by simp)]
    simp [c, f]
  | nx s h1 => rw [e] at w; exact w.elim
  | exc x s h1 => rw [e] at w; exact w.elim
  | bk _ _ => rw [e] at w; exact w.elim
  | ct _ _ => rw [e] at w; exact w.elim
  | bad => rw [e] at w; exact w.elim
end DM
set_option Elab.async false
set_option linter.all false
set_option maxRecDepth 100000
set_option maxHeartbeats 1000000
/-! Machine D: rules of reckoning for lambdas and the later operations. -/
namespace DM
open PySem
section
variable {h : HD} {s : SD} {P : D → HD → Prop} {X : Xn → HD → Prop} {N : SD → HD → Prop} {R : D → HD → Prop} {Y : Xn → SD → HD → Prop}
theorem w_act {act : HD → Res D} {l : SD} : (eAct act (some (.ex CALL []) :: l) h).wp P X = (act h).wp P X := by
  unfold eAct
  simp
@[simp] theorem o_tryF {sb : SubX} {n c i : Nat} {b u : SM} : (sTryF sb n c i b u s h).wp N R Y = (b s h).wp N R (fun x s1 h1 => tryX (sb x.c c) ((u ((List.replicate n none).set i (some (.ex x.c x.l))) h1).wp (fun s h => N ((s.map unEx).set i none) h) R (fun _ _ _ => False)) False) := by
  unfold sTryF
  cases b s h with
  | exc x s1 h1 =>
    show (match sb x.c c with | some true => clr i (u ((List.replicate n none).set i (some (.ex x.c x.l))) h1) | _ => .bad).wp N R Y = tryX (sb x.c c) _ _
    rcases sb x.c c with _ | _ | _ <;> simp [tryX]
  | _ => rfl
/-- f(lambda: m), the heap as it was -/
theorem lam_eq {ns : Nat} {b : (HD → Res D) → SM} {m : EM} {d : D} (u : D.under h.length d = true) (w : (b (fun h1 => m s h1) (some (.ex CALL []) :: List.replicate (ns - 1) none) h).wp (fun _ h1 => h1 = h ∧ D.non = d) (fun e h1 => h1 = h ∧ e = d) (fun _ _ _ => False)) :
    eLam ns b m s h = .ok d h := by
  unfold eLam lamT lamM
  cases e : b (fun h1 => m s h1) (some (.ex CALL []) :: List.replicate (ns - 1) none) h with
  | nx s h1 => rw [e] at w; obtain ⟨rfl, rfl⟩ := w; exact trim_same u
  | rt d h1 => rw [e] at w; obtain ⟨rfl, rfl⟩ := w; exact trim_same u
  | exc x s h1 => rw [e] at w; exact w.elim
  | _ => rw [e] at w; exact w.elim
@[simp] theorem a_mbV {f : HD → D → D → Option D} {o a : EM} : eMbV f o a s h = (o s h).bind fun x h1 => if (lsts h1 x).isSome then (a s h1).bind fun y h2 => .of (f h2 x y) h2 else .bad := rfl
@[simp] theorem a_lrange {a : EM} : lRange a s h = (iRng1 a s h).bind fun c h1 => .ok c.its h1 := rfl
@[simp] theorem a_tuprg {a : EM} : eTupRg a s h = (iRng1 a s h).bind fun c h1 => .ok (.tup c.its) h1 := rfl
@[simp] theorem a_llist {a : EM} : lList a s h = (a s h).bind fun c h1 => .of (items h1 c) h1 := rfl
@[simp] theorem lenset_fl {l : List D} : opLenSet h (.fl l) = match intsOf l with
  | some ns => if ns.length ≤ 4000 then some (.int (PySem.W.ossOf ns).length) else none
  | none => none := rfl
@[simp] theorem lenset_ref {n : Nat} : opLenSet h (.ref n) = match (lsO h[n]?).bind intsOf with
  | some ns => if ns.length ≤ 4000 then some (.int (PySem.W.ossOf ns).length) else none
  | none => none := by unfold opLenSet; rw [lsts_ref] <;> rfl
@[simp] theorem srt_tup {l : List D} : opSrt h (.tup l) = if sortOk l then some (.fl (sortD l)) else none := rfl
@[simp] theorem srt_fl {l : List D} : opSrt h (.fl l) = if sortOk l then some (.fl (sortD l)) else none := rfl
@[simp] theorem srt_fdt {ks : List (List Key)} {l : List D} : opSrt h (.fdt ks l) = opSorted h (.fdt ks l) := rfl
@[simp] theorem srt_ref {n : Nat} : opSrt h (.ref n) = opSorted h (.ref n) := rfl
/-! ### behind a call that draws, what is handed on frozen -/
def HZ (r : HD) (P : D → HD → Prop) (d : D) (h1 : HD) : Prop := ∃ (g' : Hand) (x : HD) (d' : D), h1 = g'.box :: (r ++ x) ∧ freeze (g'.box :: (r ++ x)) (r.length + 1) 60 d = some d' ∧ P d' (g'.box :: r)
theorem trim_handZ {g g' : Hand} {r x : HD} {d d' : D} (hr : Fine r) (f : freeze (g'.box :: (r ++ x)) (r.length + 1) 60 d = some d') : trim (g.box :: r) (.ok d (g'.box :: (r ++ x))) = .ok d' (g'.box :: r) := by
  have t : (g'.box :: (r ++ x)).take (r.length + 1) = g'.box :: r := by simp
  have c : clean (g.box :: r) (g'.box :: (r ++ x)) = true := by
    unfold clean
    rw [List.length_cons, t]
    have : (g'.box :: r).all (O.under (r.length + 1)) = true := by
      rw [List.all_cons, Hand.under, Bool.true_and]
      exact hr
    rw [this, Bool.or_true]
  have le : decide ((g.box :: r).length ≤ (g'.box :: (r ++ x)).length) = true := by simp
  unfold trim
  show (if (decide ((g.box :: r).length ≤ (g'.box :: (r ++ x)).length) && clean (g.box :: r) (g'.box :: (r ++ x))) = true then (match freeze (g'.box :: (r ++ x)) (r.length + 1) 60 d with
    | some e => Res.ok e ((g'.box :: (r ++ x)).take (r.length + 1))
    | none => .ok d _) else .ok d _) = _
  rw [le, c, Bool.and_self, if_pos rfl, f, t]
theorem wp_fnZ {np ns : Nat} {b : SM} {ds : List D} {g : Hand} {r : HD} (hr : Fine r) (hl : ds.length = np) (w : (b (ds.map some ++ List.replicate (ns - np) none) (g.box :: r)).wp (fun _ h1 => HZ r P .non h1) (fun d h1 => HZ r P d h1) (fun _ _ _ => False)) : (fnT np ns b ds (g.box :: r)).wp P X := by
  unfold fnT fnM
  rw [if_pos hl]
  cases e : b (ds.map some ++ List.replicate (ns - np) none) (g.box :: r) with
  | nx s h1 => rw [e] at w; obtain ⟨g', x, d', rfl, u, w⟩ := w; show (trim (g.box :: r) (.ok .non (g'.box :: (r ++ x)))).wp P X; rw [trim_handZ hr u]; exact w
  | rt d h1 => rw [e] at w; obtain ⟨g', x, d', rfl, u, w⟩ := w; show (trim (g.box :: r) (.ok d (g'.box :: (r ++ x)))).wp P X; rw [trim_handZ hr u]; exact w
  | exc x s h1 => rw [e] at w; exact w.elim
  | _ => rw [e] at w; exact w.elim
theorem freeze_under {n f : Nat} {d : D} (u : D.under n d = true) : freeze h n (f + 1) d = some d := by unfold freeze; rw [if_pos u]
theorem HZ.mk0 {r : HD} {d : D} {g' : Hand} (u : D.under (r.length + 1) d = true) (p : P d (g'.box :: r)) : HZ r P d (g'.box :: r) := ⟨g', [], d, by simp, freeze_under u, p⟩
theorem HZ.mk1 {r x : HD} {d : D} {g' : Hand} (u : D.under (r.length + 1) d = true) (p : P d (g'.box :: r)) : HZ r P d (g'.box :: (r ++ x)) := ⟨g', x, d, rfl, freeze_under u, p⟩
/-- a new empty dict -/
theorem HZ.dk {r : HD} {g' : Hand} {x : HD} (p : P (.fdk [] []) (g'.box :: r)) : HZ r P (.ref (r.length + 1)) (g'.box :: (r ++ .dk [] :: x)) := by
  refine ⟨g', .dk [] :: x, .fdk [] [], rfl, ?_, p⟩
  unfold freeze
  rw [if_neg (by simp)]
  simp [each]
/-! ### while -/
theorem wh_wp {t : TM} {b : SM} (I : Nat → SD → HD → Prop) : ∀ (n m0 : Nat) (s : SD) (h : HD), m0 < n → I m0 s h →
    (∀ m s h, I m s h → (t s h).wp (fun c h1 => (c = true → (b s h1).wp (fun s2 h2 => ∃ m', m' < m ∧ I m' s2 h2) R Y) ∧ (c = false → N s h1)) (fun x h => Y x s h)) → (whGo t b n s h).wp N R Y
  | 0, m0, s, h, hm, _, _ => by omega
  | n + 1, m0, s, h, hm, i, st => by
    have k := st m0 s h i
    rw [whGo]
    cases et : t s h with
    | bad => rw [et] at k; exact k.elim
    | exc x h1 => rw [et] at k; exact k
    | ok c h1 =>
      rw [et] at k
      have k : (c = true → (b s h1).wp (fun s2 h2 => ∃ m', m' < m0 ∧ I m' s2 h2) R Y) ∧ (c = false → N s h1) := k
      cases c with
      | false => exact k.2 rfl
      | true =>
        have k1 := k.1 rfl
        cases eb : b s h1 with
        | nx s2 h2 =>
          rw [eb] at k1
          obtain ⟨m', hm', i'⟩ := k1
          simp only [eb]
          exact wh_wp I n m' s2 h2 (by omega) i' st
        | ct s2 h2 => rw [eb] at k1; exact k1.elim
        | bk s2 h2 => rw [eb] at k1; exact k1.elim
        | rt d h2 => rw [eb] at k1; simp only [eb]; exact k1
        | exc x s2 h2 => rw [eb] at k1; simp only [eb]; exact k1
        | bad => rw [eb] at k1; exact k1.elim
theorem while_wp {n : Nat} {t : TM} {b : SM} (I : Nat → SD → HD → Prop) (m0 : Nat) (hm : m0 < n) (i : I m0 s h)
    (st : ∀ m s h, I m s h → (t s h).wp (fun c h1 => (c = true → (b s h1).wp (fun s2 h2 => ∃ m', m' < m ∧ I m' s2 h2) R Y) ∧ (c = false → N s h1)) (fun x h => Y x s h)) : (sWhile n t b s h).wp N R Y := by
  exact wh_wp I n m0 s h hm i st
end
end DM
set_option Elab.async false
set_option linter.all false
set_option maxRecDepth 100000
set_option maxHeartbeats 1000000
/-! Machine D: an instance with a new dict in its last field. -/
namespace DM
open PySem
theorem make_dk {h : HD} {np ns c : Nat} {b : SM} {ds la : List D} (hl : ds.length + 1 = np) (ht : Tidy h) (ul : unders h.length la = true)
    (w : (b ((D.ref h.length :: ds).map some ++ List.replicate (ns - np) none) (h ++ [.ins c []])).wp (fun _ h1 => h1 = h ++ [.ins c (la ++ [.ref (h.length + 1)]), .dk []]) (fun _ _ => False) (fun _ _ _ => False)) :
    mkT c (fnT np ns b) ds h = .ok (.fo c (la ++ [.fdk [] []])) h := by
  unfold mkT mkM fnT fnM
  rw [if_pos (by simpa using hl)]
  cases e : b ((D.ref h.length :: ds).map some ++ List.replicate (ns - np) none) (h ++ [.ins c []]) with
  | nx s h1 =>
    rw [e] at w
    obtain rfl := w
    have tk : (h ++ [O.ins c (la ++ [.ref (h.length + 1)]), .dk []]).take (h.length + 1) = h ++ [O.ins c (la ++ [.ref (h.length + 1)])] := by
      have : h ++ [O.ins c (la ++ [.ref (h.length + 1)]), .dk []] = (h ++ [O.ins c (la ++ [.ref (h.length + 1)])]) ++ [.dk []] := by simp
      rw [this]
      exact List.take_left' (by simp)
    have nc : clean (h ++ [O.ins c []]) (h ++ [O.ins c (la ++ [.ref (h.length + 1)]), .dk []]) = false := by
      unfold clean
      rw [List.length_append, List.length_singleton, tk, Bool.or_eq_false_iff]
      constructor
      · cases q : hsame (h ++ [O.ins c (la ++ [.ref (h.length + 1)])]) (h ++ [O.ins c []]) with
        | false => rfl
        | true =>
          have z := List.append_cancel_left (hsame_eq q)
          injection z with z _
          injection z with _ z
          exact absurd z (by simp)
      · rw [List.all_append, Bool.and_eq_false_iff]
        right
        have : O.under (h.length + 1) (O.ins c (la ++ [.ref (h.length + 1)])) = unders (h.length + 1) (la ++ [.ref (h.length + 1)]) := rfl
        rw [List.all_cons, this, unds_app]
        simp
    have t1 : trim (h ++ [O.ins c []]) (.ok .non (h ++ [O.ins c (la ++ [.ref (h.length + 1)]), .dk []])) = .ok .non (h ++ [O.ins c (la ++ [.ref (h.length + 1)]), .dk []]) := by
      unfold trim
      simp only [nc, Bool.and_false, Bool.false_eq_true, if_false]
    show trim h ((trim (h ++ [O.ins c []]) (.ok .non (h ++ [O.ins c (la ++ [.ref (h.length + 1)]), .dk []]))).bind _) = _
    rw [t1]
    show trim h (.ok (.ref h.length) (h ++ [O.ins c (la ++ [.ref (h.length + 1)]), .dk []])) = _
    have c1 : clean h (h ++ [O.ins c (la ++ [.ref (h.length + 1)]), .dk []]) = true := by unfold clean; rw [List.take_left, hsame_rfl]; rfl
    have ea : ∀ (f : Nat) (l : List D), unders h.length l = true → each (freeze (h ++ [O.ins c (la ++ [.ref (h.length + 1)]), .dk []]) h.length (f + 2)) (l ++ [.ref (h.length + 1)]) = some (l ++ [.fdk [] []]) := by
      intro f l
      induction l with
      | nil =>
        intro _
        have : freeze (h ++ [O.ins c (la ++ [.ref (h.length + 1)]), .dk []]) h.length (f + 2) (.ref (h.length + 1)) = some (.fdk [] []) := by
          unfold freeze
          rw [if_neg (by simp)]
          have : (h ++ [O.ins c (la ++ [.ref (h.length + 1)]), .dk []])[h.length + 1]? = some (.dk []) := by
            rw [List.getElem?_append_right (by omega)]
            simp
          simp [this, each]
        rw [List.nil_append, each, this]
        simp [each]
      | cons x l ih =>
        intro u
        rw [unders, Bool.and_eq_true] at u
        rw [List.cons_append, each, freeze_under u.1, ih u.2]
        rfl
    have f1 : freeze (h ++ [O.ins c (la ++ [.ref (h.length + 1)]), .dk []]) h.length 60 (.ref h.length) = some (.fo c (la ++ [.fdk [] []])) := by
      unfold freeze
      rw [if_neg (by simp)]
      simp only [List.getElem?_append_right (Nat.le_refl _), Nat.sub_self, List.getElem?_cons_zero]
      rw [ea _ _ ul]
      rfl
    have le1 : decide (h.length ≤ (h ++ [O.ins c (la ++ [.ref (h.length + 1)]), .dk []]).length) = true := by simp
    unfold trim
    simp only [c1, le1, Bool.and_self, if_true, f1, List.take_left]
  | rt d h1 => rw [e] at w; exact w.elim
  | exc x s h1 => rw [e] at w; exact w.elim
  | bk _ _ => rw [e] at w; exact w.elim
  | ct _ _ => rw [e] at w; exact w.elim
  | bad => rw [e] at w; exact w.elim
/-! ### in -/
theorem toPs_good {n : Nat} : ∀ {l : List D}, (∀ x ∈ l, good n x = true) → toPs l = some (l.map enc)
  | [], _ => by rw [toPs]; rfl
  | x :: l, g => by
    rw [toPs, good_toP (g x (List.mem_cons_self ..)), toPs_good fun y m => g y (List.mem_cons_of_mem _ m)]
    rfl
theorem shaped_good {n : Nat} {l : List D} (hn : n ≤ 63) (g : ∀ x ∈ l, good n x = true) : SeqAt.shaped (.list (l.map enc)) = true := by
  have q := good_toP (n := n + 1) (d := .fl l) (by rw [good_fl, List.all_eq_true]; exact g)
  have s := good_shaped (n := n + 1) (d := .fl l) (by omega) (by rw [good_fl, List.all_eq_true]; exact g)
  rw [toP, toPs_good g] at q
  injection q with q
  rw [← q] at s
  exact s
theorem in_good {n : Nat} {h : HD} {l : List D} {x c : D} (hi : items h c = some l) (hl : ∀ x ∈ l, good n x = true) (hx : good n x = true) (hn : n ≤ 63) : cIn h x c = some (l.any fun z => eqvD z x) := by
  unfold cIn
  rw [hi]
  show (match toPs l, toP (look h x) with
    | some ps, some p => if SeqAt.shaped p && SeqAt.shaped (.list ps) then some (ps.any fun z => PyData.eqv z p) else none
    | _, _ => none) = _
  rw [toPs_good hl, good_look h hx, good_toP hx]
  show (if SeqAt.shaped (enc x) && SeqAt.shaped (.list (l.map enc)) then some ((l.map enc).any fun z => PyData.eqv z (enc x)) else none) = _
  rw [good_shaped (by omega) hx, shaped_good hn hl, Bool.and_self, if_pos rfl, List.any_map]
  rfl
theorem in_ints {h : HD} {ns : List Int} {i : Int} {c : D} (hi : items h c = some (ns.map D.int)) : cIn h (.int i) c = some (decide (i ∈ ns)) := by
  rw [in_good (n := 0) hi (fun x m => by obtain ⟨j, _, rfl⟩ := List.mem_map.mp m; simp) (by simp) (by omega)]
  congr 1
  rw [Bool.eq_iff_iff, List.any_eq_true, decide_eq_true_eq]
  constructor
  · rintro ⟨x, m, e⟩
    obtain ⟨j, hj, rfl⟩ := List.mem_map.mp m
    simp at e
    subst e
    exact hj
  · intro m
    exact ⟨.int i, List.mem_map.mpr ⟨i, m, rfl⟩, by simp⟩
theorem notin_ints {h : HD} {ns : List Int} {i : Int} {c : D} (hi : items h c = some (ns.map D.int)) : cNotIn h (.int i) c = some (!decide (i ∈ ns)) := by
  unfold cNotIn; rw [in_ints hi]; rfl
/-- a call that raises -/
theorem eq_fnX {np ns : Nat} {b : SM} {ds : List D} {h : HD} {x : Xn} (hl : ds.length = np) (u : unders h.length x.l = true) (w : (b (ds.map some ++ List.replicate (ns - np) none) h).wp (fun _ _ => False) (fun _ _ => False) (fun y _ h1 => h1 = h ∧ y = x)) : fnT np ns b ds h = .exc x h := by
  unfold fnT fnM
  rw [if_pos hl]
  cases e : b (ds.map some ++ List.replicate (ns - np) none) h with
  | nx s h1 => rw [e] at w; exact w.elim
  | rt d h1 => rw [e] at w; exact w.elim
  | exc y s h1 => rw [e] at w; obtain ⟨rfl, rfl⟩ := w; exact trim_excs u
  | _ => rw [e] at w; exact w.elim
end DM
set_option Elab.async false
set_option linter.all false
set_option maxRecDepth 100000
set_option maxHeartbeats 1000000
/-! Machine D: methods of lists, numbers sorted, calls that leave boxes behind. -/
namespace DM
open PySem
section
variable {h x : HD} {s : SD} {P : D → HD → Prop} {X : Xn → HD → Prop} {l m : List D} {n : Nat}
@[simp] theorem w_mb1 {f : HD → D → D → Res D} {o a : EM} : (eMb1 f o a s h).wp P X = (o s h).wp (fun x h1 => (boxL h1 x).isSome = true ∧ (a s h1).wp (fun y h2 => (f h2 x y).wp P X) X) X := by
  unfold eMb1
  rw [wp_bind]
  congr 1
  funext x h1
  by_cases c : (boxL h1 x).isSome = true
  · rw [if_pos c, wp_bind]; simp [c]
  · rw [if_neg c]; simp [c]
@[simp] theorem boxL_ref : boxL h (.ref n) = (lsO h[n]?).map fun l => (n, l) := by show (boxAt h n).map _ = _; rw [boxAt_lsO]
theorem w_app {y : D} (e : h[n]? = some (.lst l)) (hl : l.length < LIM) : (mApp h (.ref n) y).wp P X = P .non (h.set n (.lst (l ++ [y]))) := by
  unfold mApp
  rw [boxL_ref, e]
  simp [hl]
theorem w_ext {y : D} (e : h[n]? = some (.lst l)) (e2 : lsts h y = some m) (hl : l.length + m.length ≤ LIM) : (mExt h (.ref n) y).wp P X = P .non (h.set n (.lst (l ++ m))) := by
  unfold mExt
  rw [boxL_ref, e, e2]
  simp [hl]
theorem w_extU (e : h[n]? = some (.lst l)) (hl : l.length + m.length ≤ LIM) : (mExtU h (.ref n) (.tup m)).wp P X = P .non (h.set n (.lst (l ++ m))) := by
  unfold mExtU
  rw [boxL_ref, e]
  simp [hl]
theorem trim_app {d : D} (u : D.under h.length d = true) : trim h (.ok d (h ++ x)) = .ok d h := by
  unfold trim
  have c : clean h (h ++ x) = true := by unfold clean; rw [List.take_left, hsame_rfl]; rfl
  have f : freeze (h ++ x) h.length 60 d = some d := freeze_under u
  have le : decide (h.length ≤ (h ++ x).length) = true := by simp
  simp only [c, le, Bool.and_self, if_true, f, List.take_left]
/-- a call that leaves new boxes behind -/
theorem eq_fnA {np ns : Nat} {b : SM} {ds : List D} {v : D} (hl : ds.length = np) (u : D.under h.length v = true) (w : (b (ds.map some ++ List.replicate (ns - np) none) h).wp (fun _ h1 => (∃ x, h1 = h ++ x) ∧ D.non = v) (fun d h1 => (∃ x, h1 = h ++ x) ∧ d = v) (fun _ _ _ => False)) : fnT np ns b ds h = .ok v h := by
  unfold fnT fnM
  rw [if_pos hl]
  cases e : b (ds.map some ++ List.replicate (ns - np) none) h with
  | nx s h1 => rw [e] at w; obtain ⟨⟨x, rfl⟩, rfl⟩ := w; exact trim_app u
  | rt d h1 => rw [e] at w; obtain ⟨⟨x, rfl⟩, rfl⟩ := w; exact trim_app u
  | exc x s h1 => rw [e] at w; exact w.elim
  | _ => rw [e] at w; exact w.elim
end
/-! ### numbers sorted -/
theorem sortOk_zs {ns : List Int} (hl : ns.length ≤ LIM) : sortOk (ns.map D.int) = true := by
  unfold sortOk
  rw [toPs_good (n := 0) fun x m => by obtain ⟨i, _, rfl⟩ := List.mem_map.mp m; simp]
  have e : (ns.map D.int).map enc = ns.map PyData.int := by rw [List.map_map]; rfl
  simp only [e]
  have a1 : ((ns.map PyData.int).all fun p => (ns.map PyData.int).all fun q => W.alike p q) = true := by
    simp [List.all_map, List.all_eq_true, W.alike]
  have a2 : (ns.map PyData.int).all noTupN = true := by
    simp [List.all_map, List.all_eq_true, noTupN]
  have a3 : (ns.map PyData.int).all SeqAt.shaped = true := by
    rw [List.all_map, List.all_eq_true]
    intro i _
    rfl
  rw [a1, a2, a3, Bool.or_true, Bool.and_self, Bool.and_self, Bool.true_and]
  simpa using hl
theorem ltD_zs (i j : Int) : ltD (.int i) (.int j) = decide (i < j) := by
  unfold ltD W.dataLt
  rw [enc, enc, W.keyToks, W.keyToks]
  show PyProof.Rows.lexLt PyProof.Rows.itemOrd [.inl i] [.inl j] = _
  rw [PyProof.Rows.lex_cons, blt_int, blt_int]
  by_cases h1 : i < j
  · simp [h1]
  · simp [h1]
    intro _
    rfl
/-- what is sorted: the same numbers, ascending -/
theorem sort_zs (ns : List Int) : ∃ ms : List Int, sortD (ns.map D.int) = ms.map D.int ∧ ms.Perm ns ∧ ms.Pairwise (· ≤ ·) := by
  have hm : ∀ x ∈ sortD (ns.map D.int), ∃ i : Int, x = .int i := fun x m => by
    obtain ⟨i, _, rfl⟩ := List.mem_map.mp (sort_mem.mp m)
    exact ⟨i, rfl⟩
  have un : ∀ l : List D, (∀ x ∈ l, ∃ i : Int, x = .int i) → ∃ ms : List Int, l = ms.map D.int := by
    intro l
    induction l with
    | nil => exact fun _ => ⟨[], rfl⟩
    | cons x l ih =>
      intro h
      obtain ⟨i, rfl⟩ := h x (List.mem_cons_self ..)
      obtain ⟨ms, e⟩ := ih fun y m => h y (List.mem_cons_of_mem _ m)
      exact ⟨i :: ms, by rw [e]; rfl⟩
  obtain ⟨ms, e⟩ := un _ hm
  refine ⟨ms, e, ?_, ?_⟩
  · have p : (sortD (ns.map D.int)).Perm (ns.map D.int) := sort_perm
    rw [e] at p
    have q := p.map (fun d : D => match d with | .int i => i | _ => 0)
    rw [List.map_map, List.map_map] at q
    have i1 : ∀ l : List Int, l.map ((fun d : D => match d with | .int i => i | _ => 0) ∘ D.int) = l := fun l => by
      induction l with
      | nil => rfl
      | cons i l ih => rw [List.map_cons, ih]; rfl
    rw [i1, i1] at q
    exact q
  · have t := W.sortLe_total (PyProof.Rows.listOrd PyProof.Rows.itemOrd) false (fun d : D => W.keyToks (encD d))
    have p : (sortD (ns.map D.int)).Pairwise fun a b => W.dataLe false encD a b = true := by
      unfold sortD
      refine List.pairwise_mergeSort (fun a b c h k => t.trans a b c h k) (fun a b => ?_) _
      rw [Bool.or_eq_true]
      exact t.total a b
    rw [e, List.pairwise_map] at p
    refine p.imp fun {i j} k => ?_
    have k : (!PyProof.Rows.lexLt PyProof.Rows.itemOrd (W.keyToks (encD (.int j))) (W.keyToks (encD (.int i)))) = true := k
    have z := ltD_zs j i
    unfold ltD W.dataLt at z
    have e1 : encD (.int j) = enc (.int j) := rfl
    have e2 : encD (.int i) = enc (.int i) := rfl
    rw [e1, e2, z, Bool.not_eq_true'] at k
    simpa using k
end DM
set_option Elab.async false
set_option linter.all false
set_option maxRecDepth 100000
set_option maxHeartbeats 1000000
/-! Machine D: dicts looked up, sets counted. -/
namespace DM
open PySem
section
variable {κ : Type} [DecidableEq κ] {k k' : κ} {v : D}
theorem look_map1 (h : k' ≠ k) : ∀ l : List (κ × D), lookK k' (l.map fun kv => if kv.1 = k then (kv.1, v) else kv) = lookK k' l
  | [] => rfl
  | (c, w) :: l => by
    have ih := look_map1 h l
    by_cases e : c = k
    · subst e
      have : ¬ c = k' := fun z => h z.symm
      simp only [List.map_cons, if_true, lookK, if_neg this]
      exact ih
    · by_cases e2 : c = k'
      · simp only [List.map_cons, if_neg e, lookK, if_pos e2]
      · simp only [List.map_cons, if_neg e, lookK, if_neg e2]
        exact ih
theorem look_map2 : ∀ l : List (κ × D), (l.any fun kv => decide (kv.1 = k)) = true → lookK k (l.map fun kv => if kv.1 = k then (kv.1, v) else kv) = some v
  | [], h => by cases h
  | (c, w) :: l, h => by
    by_cases e : c = k
    · simp only [List.map_cons, if_pos e, lookK]
    · simp only [List.any_cons, Bool.or_eq_true, decide_eq_true_eq] at h
      have h2 := h.resolve_left e
      simp only [List.map_cons, if_neg e, lookK]
      exact look_map2 l h2
theorem look_app : ∀ l : List (κ × D), lookK k' (l ++ [(k, v)]) = (lookK k' l).or (if k = k' then some v else none)
  | [] => by simp [lookK]
  | (c, w) :: l => by
    rw [List.cons_append, lookK, lookK]
    by_cases e : c = k'
    · simp [e]
    · simp only [if_neg e]
      exact look_app l
theorem look_none : ∀ l : List (κ × D), ¬ (l.any fun kv => decide (kv.1 = k)) = true → lookK k l = none
  | [], _ => rfl
  | (c, w) :: l, h => by
    simp only [List.any_cons, Bool.or_eq_true, decide_eq_true_eq, not_or] at h
    rw [lookK, if_neg h.1]
    exact look_none l h.2
theorem look_put {l : List (κ × D)} : lookK k' (putK k v l) = if k' = k then some v else lookK k' l := by
  unfold putK
  by_cases h : (l.any fun kv => decide (kv.1 = k)) = true
  · rw [if_pos h]
    by_cases e : k' = k
    · subst e; rw [if_pos rfl]; exact look_map2 l h
    · rw [if_neg e]; exact look_map1 e l
  · rw [if_neg h, look_app]
    by_cases e : k' = k
    · subst e; rw [if_pos rfl, look_none l h]; simp
    · rw [if_neg e, if_neg (fun z => e z.symm)]; simp
end
theorem in_dk {h : HD} {n : Nat} {l : List (Key × D)} {x : D} {k : Key} (e : h[n]? = some (.dk l)) (ek : keyOf x = some k) : cIn h x (.ref n) = some (lookK k l).isSome := by
  unfold cIn
  rw [items_ref, e]
  show (getD h (.ref n) x).map (·.isSome) = _
  unfold getD dictOf
  simp [e, ek]
theorem oss_nodup (l : List Int) : (W.ossOf l).length = l.length ↔ l.Nodup := by
  suffices h : ∀ r : List Int, (W.ossOf r.reverse).length = r.reverse.length ↔ r.reverse.Nodup by
    have := h l.reverse
    rwa [List.reverse_reverse] at this
  intro r
  induction r with
  | nil => simp [W.ossOf]
  | cons k r ih =>
    rw [List.reverse_cons, W.oss_next]
    have le := W.oss_len r.reverse
    rw [List.nodup_append]
    by_cases c : k ∈ W.ossOf r.reverse
    · rw [if_pos c]
      constructor
      · intro h; simp at h le; omega
      · rintro ⟨_, _, h⟩
        exact absurd rfl (h k (W.oss_has.mp c) k (by simp))
    · rw [if_neg c]
      have c2 : k ∉ r.reverse := fun z => c (W.oss_has.mpr z)
      constructor
      · intro h
        refine ⟨ih.mp (by simp at h ⊢; omega), by simp, fun x hx y hy e => ?_⟩
        rw [List.mem_singleton] at hy
        subst hy e
        exact c2 hx
      · rintro ⟨h, _, _⟩
        have := ih.mpr h
        simp at this ⊢
        omega
end DM
set_option Elab.async false
set_option linter.all false
set_option maxRecDepth 100000
set_option maxHeartbeats 1000000
namespace K40
open PySem DM
def isI : D → Bool
  | .int _ => true
  | _ => false
def inR (lo hi : Int) : D → Bool
  | .int i => decide (lo ≤ i) && decide (i ≤ hi)
  | _ => false
def tupN (lo hi : Int) : D → Bool
  | .tup l => decide (lo ≤ (l.length : Int)) && decide ((l.length : Int) ≤ hi)
  | _ => false
def ltZ (x : D) : Bool := match fst' x, snd' x with
  | .int i, .int j => decide (i < j)
  | _, _ => false
def isLot (m : Int) : D → Bool
  | .tup l => l.all (inR 0 (m - 1)) && (pairs l).all ltZ
  | _ => false
/-- what the judges look at: no instances; a dict is an empty one -/
def thg (n : Nat) (d : D) : Bool := match d with
  | .fdk [] [] => true
  | d => good n d
theorem thg_ex {n : Nat} {d : D} (h : thg n d = true) : isEx d = false := by
  unfold thg at h
  split at h
  · rfl
  · exact good_ex' h
theorem thg_kids {n : Nat} {l : List D} (h : thg n (.tup l) = true) : ∀ x ∈ l, good n x = true := good_kids h
theorem r_is_integer {n : Nat} {d : D} (hd : thg n d = true) (h : HD) : M_is_integer [d] h = .ok (.bl (isI d)) h := by
  refine eq_fnT rfl (by simp) ?_
  unfold B_is_integer
  have e := thg_ex hd
  cases d <;> simp_all [isI, thg]
theorem r_law_is_int {n : Nat} {d : D} (hd : thg n d = true) (h : HD) : M_u_law_is_int [d] h = .ok (.bl (isI d)) h := r_is_integer hd h
theorem r_is_within {n : Nat} {d : D} {lo hi : Int} (hd : thg n d = true) (h : HD) : M_is_within [d, .int lo, .int hi] h = .ok (.bl (inR lo hi d)) h := by
  refine eq_fnT rfl (by simp) ?_
  unfold B_is_within
  have q := r_is_integer hd h
  have e := thg_ex hd
  cases d <;> simp_all [isI, inR, thg]
  intro z; omega
theorem r_is_tuple {n : Nat} {d : D} {lo hi : Int} (hd : thg n d = true) (h : HD) : M_is_tuple [d, .int lo, .int hi] h = .ok (.bl (tupN lo hi d)) h := by
  refine eq_fnT rfl (by simp) ?_
  unfold B_is_tuple
  have e := thg_ex hd
  cases d <;> simp_all [tupN, thg]
  intro z; omega
theorem thg_good {n : Nat} {d : D} (h : good n d = true) : thg n d = true := by
  unfold thg
  split
  · rfl
  · exact h
theorem inR_int {lo hi : Int} {d : D} (h : inR lo hi d = true) : ∃ i, d = .int i ∧ lo ≤ i ∧ i ≤ hi := by
  cases d <;> simp [inR] at h
  exact ⟨_, rfl, h⟩
theorem zip_pairs {l : List D} : (l.zip (l.drop 1)).map (fun p => D.tup [p.1, p.2]) = pairs l := by
  unfold pairs; rw [List.drop_one]
theorem lot_asc {s : SD} {own : List Nat} {i j : Nat} {l : List D} {h : HD} {m : Int} {P : List D → HD → Prop} {X : Xn → HD → Prop} (hl : ∀ x ∈ l, inR 0 m x = true)
    (ho : ∀ a b : Int, wpo ((Pat.tp [.nm i, .nm j]).set (.tup [.int a, .int b]) (wipeD s own)) fun s1 => (eVar i s1 h) = .ok (.int a) h ∧ (eVar j s1 h) = .ok (.int b) h) (q : P ((pairs l).map fun x => .bl (ltZ x)) h) :
    (lcGo s (.tp [.nm i, .nm j]) tYes (eT (tBin cLt (eVar i) (eVar j))) own [] (pairs l) h []).wp P X := by
  refine lc_bools ltZ rfl ?_ q
  intro x hx
  obtain ⟨a, b, rfl, ha, hb⟩ := pairs_mem hx
  obtain ⟨a, rfl, _⟩ := inR_int (hl a ha)
  obtain ⟨b, rfl, _⟩ := inR_int (hl b hb)
  have z := ho a b
  cases e : (Pat.tp [.nm i, .nm j]).set (.tup [.int a, .int b]) (wipeD s own) with
  | none => rw [e] at z; exact z.elim
  | some s1 =>
    rw [e] at z
    obtain ⟨z1, z2⟩ := z
    show ((eT (tBin cLt (eVar i) (eVar j)) s1 h).wp _ NX)
    rw [a_eT, a_tbin, z1]
    simp only [wp_bind, wp_ok, z2, lt_int, wp_of, wpo_some, true_and]
    rfl
theorem r_is_lot {n : Nat} {d : D} {m : Int} (hd : thg n d = true) (h : HD) : M_is_lot [d, .int m] h = .ok (.bl (isLot m d)) h := by
  refine eq_fnT rfl (by simp) ?_
  unfold B_is_lot
  have e := thg_ex hd
  cases d with
  | tup l =>
    have g := thg_kids hd
    simp
    refine lc_bools (inR 0 (m - 1)) rfl (fun x hx => ?_) ?_
    · simp [good_ex' (g x hx), r_is_within (thg_good (g x hx))]
    · simp
      refine ⟨fun x hx hn => ?_, fun c => ?_⟩
      · simp [isLot]
        exact fun z => absurd (z x hx) (by simp [hn])
      · rw [← List.drop_one, zip_pairs]
        refine lot_asc c (fun a b => by simp) ?_
        simp [isLot]
        exact fun _ => c
  | fdk ks l => simp_all [isLot, thg]
  | _ => simp_all [isLot, thg]
theorem r_law_is_lot {n : Nat} {d : D} {m : Int} (hd : thg n d = true) (h : HD) : M_u_law_is_lot [d, .int m] h = .ok (.bl (isLot m d)) h := by
  refine eq_fnT rfl (by simp) ?_
  unfold B_u_law_is_lot
  have e := thg_ex hd
  cases d with
  | tup l =>
    have g := thg_kids hd
    simp
    refine lc_bools (inR 0 (m - 1)) rfl (fun x hx => ?_) ?_
    · have ex := good_ex' (g x hx)
      have q := r_law_is_int (thg_good (g x hx)) h
      simp [ex, q]
      cases x <;> simp_all [isI, inR]
      omega
    · simp
      refine ⟨fun x hx hn => ?_, fun c => ?_⟩
      · simp [isLot]
        exact fun z => absurd (z x hx) (by simp [hn])
      · rw [← List.drop_one, zip_pairs]
        refine lot_asc c (fun a b => by simp) ?_
        simp [isLot]
        exact fun _ => c
  | fdk ks l => simp_all [isLot, thg]
  | _ => simp_all [isLot, thg]
end K40
set_option Elab.async false
set_option linter.all false
set_option maxRecDepth 100000
set_option maxHeartbeats 1000000
namespace K40
open PySem DM
def ov (p : Int × Int) : D := .tup [.int p.1, .int p.2]
structure OV (c : Int) (os : List (Int × Int)) : Prop where
  rg : ∀ p ∈ os, 0 ≤ p.1 ∧ p.1 < c ∧ 0 ≤ p.2 ∧ p.2 < c ∧ p.1 ≠ p.2
  asc : (pairs (os.map ov)).all ltP = true
  few : os.length ≤ 20
def okDt (d : D) : Prop := d = .tup [.non, .non] ∨ ∃ i j : Int, d = .tup [.int i, .int j] ∧ -100000 ≤ i ∧ i ≤ j ∧ j ≤ 100000
theorem b_pair {c a b : Int} (h : HD) (a0 : 0 ≤ a) (a1 : a < c) (b0 : 0 ≤ b) (b1 : b < c) (n : a ≠ b) : M_is_pair [.int c, .tup [.int a, .int b]] h = .ok (.bl true) h := by
  refine eq_fnT rfl (by simp) ?_
  unfold B_is_pair
  have q := r_is_tuple (n := 1) (d := .tup [.int a, .int b]) (lo := 2) (hi := 2) rfl h
  simp [q, tupN]
  refine lc_bools (fun _ => true) rfl (fun x hx => ?_) ?_
  · simp at hx
    rcases hx with rfl | rfl
    · simp [r_is_within (n := 1) (d := .int a) (by rfl), inR]; omega
    · simp [r_is_within (n := 1) (d := .int b) (by rfl), inR]; omega
  · simp [n]
theorem b_overs {c : Int} {os : List (Int × Int)} (h : HD) (o : OV c os) : M_are_overs [.int c, .tup (os.map ov)] h = .ok (.bl true) h := by
  refine eq_fnT rfl (by simp) ?_
  unfold B_are_overs
  simp
  refine lc_bools (fun _ => true) rfl (fun x hx => ?_) ?_
  · obtain ⟨p, hp, rfl⟩ := List.mem_map.mp hx
    obtain ⟨h1, h2, h3, h4, h5⟩ := o.rg p hp
    have q := b_pair h h1 h2 h3 h4 h5
    simp [ov, q]
  · simp [Function.comp_def]
    rw [← List.drop_one, zip_pairs]
    refine c_asc (fun x hx => ?_) (fun a b ha hb => by simp [ha, hb]) ?_
    · obtain ⟨p, hp, rfl⟩ := List.mem_map.mp hx
      rfl
    · have := o.asc
      rw [List.all_eq_true] at this
      simpa using this
theorem b_bound {d : D} (h : HD) (q : d = .non ∨ ∃ i : Int, d = .int i ∧ -100000 ≤ i ∧ i ≤ 100000) : M_is_bound [d] h = .ok (.bl true) h := by
  refine eq_fnT rfl (by simp) ?_
  unfold B_is_bound
  rcases q with rfl | ⟨i, rfl, h1, h2⟩
  · simp
  · simp [r_is_integer (n := 1) (d := .int i) (by rfl), isI]; omega
theorem b_date {d : D} (h : HD) (q : okDt d) : M_is_date [d] h = .ok (.bl true) h := by
  refine eq_fnT rfl (by simp) ?_
  unfold B_is_date
  rcases q with rfl | ⟨i, j, rfl, h1, h2, h3⟩
  · simp [r_is_tuple (n := 1) (d := .tup [.non, .non]) (lo := 2) (hi := 2) (by rfl), tupN]
    refine lc_bools (fun _ => true) rfl (fun x hx => ?_) ?_
    · simp at hx; subst hx; simp [b_bound h (.inl rfl)]
    · have q : cIn h .non (.tup [.non, .non]) = some true := by rw [in_good (n := 1) (l := [.non, .non]) rfl (by simp) (by simp) (by omega)]; simp
      simp [q]
  · simp [r_is_tuple (n := 1) (d := .tup [.int i, .int j]) (lo := 2) (hi := 2) (by rfl), tupN]
    refine lc_bools (fun _ => true) rfl (fun x hx => ?_) ?_
    · simp at hx
      rcases hx with rfl | rfl
      · simp [b_bound (d := .int i) h (.inr ⟨i, rfl, by omega, by omega⟩)]
      · simp [b_bound (d := .int j) h (.inr ⟨j, rfl, by omega, by omega⟩)]
    · have q : cIn h .non (.tup [.int i, .int j]) = some false := by rw [in_good (n := 1) (l := [.int i, .int j]) rfl (by simp) (by simp) (by omega)]; rfl
      simp [q]
      exact h2
theorem b_kind {c : Int} {l : List D} (h : HD) (q : isLot c (.tup l) = true) (n : 1 < l.length) (g : good 1 (.tup l) = true) : M_is_kind [.int c, .tup l] h = .ok (.bl true) h := by
  refine eq_fnT rfl (by simp) ?_
  unfold B_is_kind
  simp [r_is_lot (thg_good g) h, q]; omega
end K40
set_option Elab.async false
set_option linter.all false
set_option maxRecDepth 100000
set_option maxHeartbeats 1000000
namespace K40
open PySem DM
def bk (c : Int) (os : List (Int × Int)) (dts ks : List D) : D := .fo 0 [.int c, .tup (os.map ov), .tup dts, .tup ks, .fdk [] []]
theorem okDt_good {d : D} (h : okDt d) : good 1 d = true := by
  rcases h with rfl | ⟨i, j, rfl, _⟩ <;> simp
theorem ov_good {l : List (Int × Int)} {n : Nat} : good (n + 2) (.tup (l.map ov)) = true := by
  rw [good_tup, List.all_eq_true]
  intro x m
  obtain ⟨p, _, rfl⟩ := List.mem_map.mp m
  simp [ov]
theorem r_Book {c : Int} {os : List (Int × Int)} {dts ks : List D} (c1 : 1 ≤ c) (c2 : c ≤ 16) (o : OV c os) (hd : ∀ d ∈ dts, okDt d) (ld : (dts.length : Int) = c)
    (hk : ∀ k ∈ ks, ∃ l, k = .tup l ∧ isLot c (.tup l) = true ∧ 1 < l.length ∧ good 1 (.tup l) = true) (lk : ks.length ≤ 16) {h : HD} (ht : Tidy h) :
    mkT 0 M_Book_UinitU [.int c, .tup (os.map ov), .tup dts, .tup ks] h = .ok (bk c os dts ks) h := by
  have gd : good 2 (.tup dts) = true := by rw [good_tup, List.all_eq_true]; exact fun x m => okDt_good (hd x m)
  have gk : good 2 (.tup ks) = true := by
    rw [good_tup, List.all_eq_true]
    intro x m
    obtain ⟨l, rfl, _, _, g⟩ := hk x m
    exact g
  refine make_dk (la := [.int c, .tup (os.map ov), .tup dts, .tup ks]) rfl ht (by rw [unds_cons, unds_cons, unds_cons, unds_cons, unds_nil, good_under (n := 2) (ov_good (n := 0)), good_under gd, good_under gk]; simp) ?_
  unfold B_Book_UinitU
  have q1 := r_is_within (n := 0) (d := .int c) (lo := 1) (hi := 16) rfl (h ++ [.ins 0 []])
  have q2 := b_overs (h ++ [.ins 0 []]) o
  have q3 := r_is_tuple (lo := c) (hi := c) (thg_good gd) (h ++ [.ins 0 []])
  have q4 := r_is_tuple (lo := 0) (hi := 16) (thg_good gk) (h ++ [.ins 0 []])
  have e1 : inR 1 16 (.int c) = true := by simp [inR]; omega
  have e3 : tupN c c (.tup dts) = true := by simp [tupN]; omega
  have e4 : tupN 0 16 (.tup ks) = true := by simp [tupN]; omega
  simp [q1, e1, q2, q3, e3]
  refine lc_bools (fun _ => true) rfl (fun x hx => ?_) ?_
  · simp [good_ex' (okDt_good (hd x hx)), b_date _ (hd x hx)]
  · simp [q4, e4]
    refine lc_bools (fun _ => true) rfl (fun x hx => ?_) ?_
    · obtain ⟨l, rfl, h1, h2, h3⟩ := hk x hx
      simp [b_kind (h ++ [.ins 0 []]) h1 h2 h3]
    · simp
theorem r_check_set {n : Nat} {c : Int} {os : List (Int × Int)} {dts ks : List D} {d : D} (hd : thg n d = true) (h : HD) : M_check_set [bk c os dts ks, d] h = if isLot c d then .ok .non h else .exc ⟨2, []⟩ h := by
  have q := r_is_lot (m := c) hd h
  have e := thg_ex hd
  by_cases k : isLot c d = true
  · rw [if_pos k]
    refine eq_fnT rfl (by simp) ?_
    unfold B_check_set
    simp [bk, e, q, k]
  · rw [if_neg k]
    refine eq_fnX rfl (by simp) ?_
    unfold B_check_set
    simp [bk, e, q, k]
theorem r_check_crews {n : Nat} {d : D} (hd : thg n d = true) (h : HD) : M_check_crews [d] h = if inR 1 4 d then .ok .non h else .exc ⟨3, []⟩ h := by
  have q := r_is_within (lo := 1) (hi := 4) hd h
  have e := thg_ex hd
  by_cases k : inR 1 4 d = true
  · rw [if_pos k]
    refine eq_fnT rfl (by simp) ?_
    unfold B_check_crews
    simp [e, q, k]
  · rw [if_neg k]
    refine eq_fnX rfl (by simp) ?_
    unfold B_check_crews
    simp [e, q, k]
end K40
set_option Elab.async false
set_option linter.all false
set_option maxRecDepth 100000
set_option maxHeartbeats 1000000
namespace K40
open PySem DM
/-! ### the closure -/
def un : D → Int × Int
  | .tup [.int a, .int b] => (a, b)
  | _ => (0, 0)
@[simp] theorem un_ov {p : Int × Int} : un (ov p) = p := rfl
theorem filt_ov {α : Type} (os : List (Int × Int)) (F : Int × Int → Bool) (G : Int × Int → α) : ((os.map ov).filter fun x => F (un x)).map (fun x => G (un x)) = (os.filter F).map G := by
  rw [List.filter_map, List.map_map]
  rfl
/-- a comprehension over overs -/
theorem lc_ov {s : SD} {pt : Pat} {t : TM} {e : EM} {own : List Nat} {h : HD} {P : List D → HD → Prop} {X : Xn → HD → Prop} {os : List (Int × Int)} (F : Int × Int → Bool) (G : Int × Int → D)
    (k : ∀ p ∈ os, wpo (pt.set (.tup [.int p.1, .int p.2]) (wipeD s own)) fun s1 => (t s1 h).wp (fun b h1 => h1 = h ∧ b = F p ∧ (b = true → (e s1 h).wp (fun y h2 => h2 = h ∧ y = G p) NX)) NX) (q : P ((os.filter F).map G) h) :
    (lcGo s pt t e own [] (os.map ov) h []).wp P X := by
  refine lc_pure (fun x => F (un x)) (fun x => G (un x)) _ rfl (fun x hx => ?_) ?_
  · obtain ⟨p, hp, rfl⟩ := List.mem_map.mp hx
    exact k p hp
  · rw [filt_ov]; exact q
/-- a comprehension over numbers -/
theorem lc_in {s : SD} {pt : Pat} {t : TM} {e : EM} {own : List Nat} {h : HD} {P : List D → HD → Prop} {X : Xn → HD → Prop} {ns : List Int} (F : Int → Bool) (G : Int → D)
    (k : ∀ i ∈ ns, wpo (pt.set (.int i) (wipeD s own)) fun s1 => (t s1 h).wp (fun b h1 => h1 = h ∧ b = F i ∧ (b = true → (e s1 h).wp (fun y h2 => h2 = h ∧ y = G i) NX)) NX) (q : P ((ns.filter F).map G) h) :
    (lcGo s pt t e own [] (ns.map D.int) h []).wp P X := by
  refine lc_pure (fun x => match x with | .int i => F i | _ => false) (fun x => match x with | .int i => G i | _ => .non) _ rfl (fun x hx => ?_) ?_
  · obtain ⟨i, hi, rfl⟩ := List.mem_map.mp hx
    exact k i hi
  · rw [List.filter_map, List.map_map]; exact q
def newA (os : List (Int × Int)) (f : List Int) (b : Int) : List Int := (os.filter fun p => decide (p.2 = b) && !decide (p.1 ∈ f)).map (·.1)
def clo (os : List (Int × Int)) : Nat → List Int → Nat → List Int
  | 0, f, _ => f
  | n + 1, f, i => match f[i]? with
    | some b => clo os n (f ++ newA os f b) (i + 1)
    | none => f
structure Got (c : Int) (os : List (Int × Int)) (f : List Int) : Prop where
  nd : f.Nodup
  rg : ∀ x ∈ f, 0 ≤ x ∧ x < c
theorem nodup_fst {c : Int} {os : List (Int × Int)} (nd : os.Nodup) (b : Int) : ((os.filter fun p => decide (p.2 = b)).map (·.1)).Nodup := by
  rw [List.Nodup, List.pairwise_map]
  refine List.Pairwise.imp_of_mem ?_ (List.Pairwise.filter _ nd)
  intro p q hp hq hne e
  have h1 := (List.mem_filter.mp hp).2
  have h2 := (List.mem_filter.mp hq).2
  simp at h1 h2
  exact hne (Prod.ext e (by rw [h1, h2]))
theorem Got.next {c : Int} {os : List (Int × Int)} {f : List Int} (nd : os.Nodup) (o : OV c os) (g : Got c os f) (b : Int) : Got c os (f ++ newA os f b) := by
  constructor
  · rw [List.nodup_append]
    refine ⟨g.nd, ?_, ?_⟩
    · unfold newA
      have := nodup_fst (c := c) nd b
      refine List.Sublist.nodup (List.Sublist.map _ ?_) this
      have e : (fun p : Int × Int => decide (p.2 = b) && !decide (p.1 ∈ f)) = fun p => (!decide (p.1 ∈ f)) && decide (p.2 = b) := funext fun p => Bool.and_comm _ _
      rw [e, ← List.filter_filter]
      exact List.filter_sublist
    · intro x hx y hy e
      subst e
      unfold newA at hy
      obtain ⟨p, hp, rfl⟩ := List.mem_map.mp hy
      have := (List.mem_filter.mp hp).2
      simp at this
      exact this.2 hx
  · intro x hx
    rcases List.mem_append.mp hx with hx | hx
    · exact g.rg x hx
    · unfold newA at hx
      obtain ⟨p, hp, rfl⟩ := List.mem_map.mp hx
      have := o.rg p (List.mem_filter.mp hp).1
      exact ⟨this.1, this.2.1⟩
theorem nodup_len {α : Type} [DecidableEq α] : ∀ {l m : List α}, l.Nodup → (∀ x ∈ l, x ∈ m) → l.length ≤ m.length
  | [], _, _, _ => by simp
  | x :: l, m, nd, h => by
    rw [List.nodup_cons] at nd
    have hx := h x (List.mem_cons_self ..)
    have ih := nodup_len (m := m.erase x) nd.2 fun y hy => by
      have ne : y ≠ x := fun e => nd.1 (e ▸ hy)
      exact (List.mem_erase_of_ne ne).mpr (h y (List.mem_cons_of_mem _ hy))
    rw [List.length_erase_of_mem hx] at ih
    have := List.length_pos_of_mem hx
    simp
    omega
theorem Got.len {c : Int} {os : List (Int × Int)} {f : List Int} (g : Got c os f) : f.length ≤ c.toNat := by
  have h1 : f.length ≤ ((List.range c.toNat).map fun (k : Nat) => (k : Int)).length := nodup_len g.nd fun x hx => by
    obtain ⟨h1, h2⟩ := g.rg x hx
    exact List.mem_map.mpr ⟨x.toNat, List.mem_range.mpr (by omega), by omega⟩
  simpa using h1
theorem newA_two {os : List (Int × Int)} {f : List Int} {b : Int} : ((os.filter fun p => decide (p.2 = b)).map (·.1)).filter (fun a => !decide (a ∈ f)) = newA os f b := by
  unfold newA
  rw [List.filter_map, List.filter_filter]
  congr 1
  refine List.filter_congr fun p _ => ?_
  exact Bool.and_comm _ _
theorem at_nat {f : List Int} {i : Nat} : atI (f.map D.int) (i : Int) = (f[i]?).map D.int := by
  rw [atI_nat (by omega), List.getElem?_map]
  rfl
/-- the program's -/
theorem b_needed {c : Int} {os : List (Int × Int)} {dts ks : List D} {ws : List Int} (nd : os.Nodup) (o : OV c os) (hc : c ≤ 16) (g : Got c os ws) (h : HD) (P : Nat → SD → HD → Prop) :
    True := trivial
end K40
set_option Elab.async false
set_option linter.all false
set_option maxRecDepth 100000
set_option maxHeartbeats 1000000
namespace K40
open PySem DM
/-! ### needed, the program's and the law's -/
def need (os : List (Int × Int)) (ws : List Int) : List D := sortD ((clo os 17 ws 0).map D.int)
theorem under_ints {n : Nat} {l : List D} (h : ∀ x ∈ l, ∃ i : Int, x = .int i) : unders n l = true := by
  rw [unders_all, List.all_eq_true]
  intro x m
  obtain ⟨i, rfl⟩ := h x m
  simp
theorem need_ints {os : List (Int × Int)} {ws : List Int} : ∀ x ∈ need os ws, ∃ i : Int, x = .int i := fun x m => by
  obtain ⟨i, _, rfl⟩ := List.mem_map.mp (sort_mem.mp m)
  exact ⟨i, rfl⟩
theorem r_needed_by {c : Int} {os : List (Int × Int)} {dts ks : List D} {ws : List Int} (nd : os.Nodup) (o : OV c os) (hc : c ≤ 16) (g : Got c os ws) (h : HD) :
    M_needed_by [bk c os dts ks, .tup (ws.map D.int)] h = .ok (.tup (need os ws)) h := by
  refine eq_fnA rfl (by simp [under_ints need_ints]) ?_
  unfold B_needed_by
  simp [-o_seq, o_seqH, bk]
  refine hold ?_
  simp [-o_seq, o_seqH]
  refine hold ?_
  simp [-o_seq, o_seqH]
  have gl : ∀ f : List Int, Got c os f → f.length ≤ 16 := fun f gf => by have := gf.len; omega
  refine while_wp (I := fun m s h1 => ∃ (f : List Int) (i : Nat), m = 17 - i ∧ h1 = h ++ [.lst (f.map D.int)] ∧ s = [some (bk c os dts ks), some (.tup (ws.map D.int)), some (.ref h.length), some (.int i), none, none] ∧ Got c os f ∧ i ≤ f.length ∧ clo os (17 - i) f i = clo os 17 ws 0) 17 (by omega) ⟨ws, 0, rfl, rfl, rfl, g, by omega, rfl⟩ ?_
  rintro m s h1 ⟨f, i, rfl, rfl, rfl, gf, hi, ec⟩
  have lf := gl f gf
  have fuel : 17 - i = (16 - i) + 1 := by omega
  simp
  refine ⟨fun hlt => ?_, fun hge => ?_⟩
  · obtain ⟨b, hb⟩ : ∃ b, f[i]? = some b := ⟨f[i]'(by omega), by simp⟩
    simp [bk]
    refine lc_ov (fun p => decide (p.2 = b) && !decide (p.1 ∈ f)) (fun p => .int p.1) (fun p hp => ?_) ?_
    · simp [at_nat, hb, notin_ints (ns := f)]
      exact ⟨fun a _ => a, fun n a => absurd a n⟩
    · have lA : (newA os f b).length + f.length ≤ 16 := by
        have := gl _ (gf.next nd o b)
        simpa [Nat.add_comm] using this
      have e1 : (os.filter (fun p => decide (p.2 = b) && !decide (p.1 ∈ f))).map (fun p => D.int p.1) = (newA os f b).map D.int := by unfold newA; rw [List.map_map]; rfl
      rw [e1, w_ext (l := f.map D.int) (m := (newA os f b).map D.int) (by simp) (by simp) (by simp; unfold LIM; omega)]
      refine ⟨16 - i, by omega, f ++ newA os f b, i + 1, by omega, by simp, by omega, gf.next nd o b, by simp; omega, ?_⟩
      rw [← ec, fuel, clo, hb]
      show clo os (17 - (i + 1)) _ _ = _
      have : 17 - (i + 1) = 16 - i := by omega
      rw [this]
  · refine hold ?_
    have e0 : f[i]? = none := List.getElem?_eq_none hge
    have ef : f = clo os 17 ws 0 := by rw [← ec, fuel, clo, e0]
    have ok : sortOk (f.map D.int) = true := sortOk_zs (by unfold LIM; omega)
    have eo : opSorted (h ++ [.lst (f.map D.int)]) (.ref h.length) = some (.fl (sortD (f.map D.int))) := by
      unfold opSorted keysD
      simp [ok]
    simp [eo, need, ← ef]
theorem r_law_needed {c : Int} {os : List (Int × Int)} {ws : List Int} (nd : os.Nodup) (o : OV c os) (hc : c ≤ 16) (g : Got c os ws) (h : HD) :
    M_u_law_needed [.tup (os.map ov), .tup (ws.map D.int)] h = .ok (.tup (need os ws)) h := by
  refine eq_fnT rfl (by simp [under_ints need_ints]) ?_
  unfold B_u_law_needed
  simp [-o_seq, o_seqH]
  refine hold ?_
  simp [-o_seq, o_seqH]
  have gl : ∀ f : List Int, Got c os f → f.length ≤ 16 := fun f gf => by have := gf.len; omega
  refine while_wp (I := fun m s h1 => ∃ (f : List Int) (i : Nat) (d : Option D), m = 17 - i ∧ h1 = h ∧ s = [some (.tup (os.map ov)), some (.tup (ws.map D.int)), some (.fl (f.map D.int)), some (.int i), d, none, none, none] ∧ Got c os f ∧ i ≤ f.length ∧ clo os (17 - i) f i = clo os 17 ws 0) 17 (by omega) ⟨ws, 0, none, rfl, rfl, rfl, g, by omega, rfl⟩ ?_
  rintro m s h1 ⟨f, i, d, rfl, rfl, rfl, gf, hi, ec⟩
  have lf := gl f gf
  have fuel : 17 - i = (16 - i) + 1 := by omega
  simp
  refine ⟨fun hlt => ?_, fun hge => ?_⟩
  · obtain ⟨b, hb⟩ : ∃ b, f[i]? = some b := ⟨f[i]'(by omega), by simp⟩
    refine lc_ov (fun p => decide (p.2 = b)) (fun p => .int p.1) (fun p hp => ?_) ?_
    · simp [at_nat, hb]
    · have e2 : (os.filter (fun p => decide (p.2 = b))).map (fun p => D.int p.1) = ((os.filter (fun p => decide (p.2 = b))).map (·.1)).map D.int := by rw [List.map_map]; rfl
      have hA := newA_two (os := os) (f := f) (b := b)
      rw [e2]
      generalize (os.filter (fun p => decide (p.2 = b))).map (·.1) = A at hA
      refine lc_in (fun a => !decide (a ∈ f)) (fun a => .int a) (fun a ha => ?_) ?_
      · simp
        rw [notin_ints (ns := f) rfl]
        rfl
      · have lA : (newA os f b).length + f.length ≤ 16 := by
          have := gl _ (gf.next nd o b)
          simpa [Nat.add_comm] using this
        rw [hA, List.length_map]
        have hL : LIM = 16777216 := rfl
        refine ⟨fun _ => ⟨16 - i, by omega, f ++ newA os f b, i + 1, by omega, rfl, ⟨by simp, by omega⟩, gf.next nd o b, by simp; omega, ?_⟩, by omega⟩
        rw [← ec, fuel, clo, hb]
        show clo os (17 - (i + 1)) _ _ = _
        have : 17 - (i + 1) = 16 - i := by omega
        rw [this]
  · refine hold ?_
    have e0 : f[i]? = none := List.getElem?_eq_none hge
    have ef : f = clo os 17 ws 0 := by rw [← ec, fuel, clo, e0]
    have ok : sortOk (f.map D.int) = true := sortOk_zs (by unfold LIM; omega)
    simp [ok, need, ← ef]
end K40
set_option Elab.async false
set_option linter.all false
set_option maxRecDepth 100000
set_option maxHeartbeats 1000000
namespace K40
open PySem DM
theorem pairs_lt : ∀ {ms : List Int}, ms.Pairwise (· < ·) → (pairs (ms.map D.int)).all ltZ = true
  | [], _ => rfl
  | [_], _ => rfl
  | i :: j :: ms, h => by
    obtain ⟨h1, h2⟩ := List.pairwise_cons.mp h
    have e : pairs ((i :: j :: ms).map D.int) = .tup [.int i, .int j] :: pairs ((j :: ms).map D.int) := rfl
    rw [e, List.all_cons, pairs_lt h2, Bool.and_true]
    exact decide_eq_true (h1 j (List.mem_cons_self ..))
theorem lt_pairs : ∀ {ms : List Int}, (pairs (ms.map D.int)).all ltZ = true → ms.Pairwise (· < ·)
  | [], _ => .nil
  | [_], _ => List.pairwise_singleton ..
  | i :: j :: ms, h => by
    have e : pairs ((i :: j :: ms).map D.int) = .tup [.int i, .int j] :: pairs ((j :: ms).map D.int) := rfl
    rw [e, List.all_cons, Bool.and_eq_true] at h
    have h1 : i < j := of_decide_eq_true h.1
    have ih := lt_pairs h.2
    refine List.pairwise_cons.mpr ⟨fun k hk => ?_, ih⟩
    rcases List.mem_cons.mp hk with rfl | hk
    · exact h1
    · have := (List.pairwise_cons.mp ih).1 k hk
      omega
/-- a lot: ascending layers -/
structure Lot (c : Int) (ws : List Int) : Prop where
  asc : ws.Pairwise (· < ·)
  rg : ∀ x ∈ ws, 0 ≤ x ∧ x < c
theorem Lot.got {c : Int} {ws : List Int} (l : Lot c ws) (os : List (Int × Int)) : Got c os ws := ⟨l.asc.imp fun h e => by omega, l.rg⟩
theorem Lot.is {c : Int} {ws : List Int} (l : Lot c ws) : isLot c (.tup (ws.map D.int)) = true := by
  show ((ws.map D.int).all (inR 0 (c - 1)) && (pairs (ws.map D.int)).all ltZ) = true
  rw [pairs_lt l.asc, Bool.and_true, List.all_map, List.all_eq_true]
  intro x hx
  have := l.rg x hx
  simp [inR]
  omega
theorem lot_of {c : Int} {d : D} (h : isLot c d = true) : ∃ ws, d = .tup (ws.map D.int) ∧ Lot c ws := by
  cases d with
  | tup l =>
    unfold isLot at h
    rw [Bool.and_eq_true] at h
    obtain ⟨h1, h2⟩ := h
    have : ∀ l : List D, l.all (inR 0 (c - 1)) = true → ∃ ws : List Int, l = ws.map D.int ∧ ∀ x ∈ ws, 0 ≤ x ∧ x < c := by
      intro l
      induction l with
      | nil => exact fun _ => ⟨[], rfl, fun _ m => nomatch m⟩
      | cons x l ih =>
        intro h
        rw [List.all_cons, Bool.and_eq_true] at h
        obtain ⟨ws, rfl, hw⟩ := ih h.2
        obtain ⟨i, rfl, i1, i2⟩ := inR_int h.1
        refine ⟨i :: ws, rfl, fun y m => ?_⟩
        rcases List.mem_cons.mp m with rfl | m
        · omega
        · exact hw y m
    obtain ⟨ws, rfl, hw⟩ := this l h1
    exact ⟨ws, rfl, lt_pairs h2, hw⟩
  | _ => cases h
theorem ints_good {n : Nat} {l : List Int} : good (n + 1) (.tup (l.map D.int)) = true := by
  rw [good_tup, List.all_eq_true]
  intro x m
  obtain ⟨i, _, rfl⟩ := List.mem_map.mp m
  simp
theorem Got.clo {c : Int} {os : List (Int × Int)} (nd : os.Nodup) (o : OV c os) : ∀ (n : Nat) {f : List Int} (i : Nat), Got c os f → Got c os (clo os n f i)
  | 0, f, i, g => g
  | n + 1, f, i, g => by
    unfold K40.clo
    cases f[i]? with
    | none => exact g
    | some b => exact Got.clo nd o n (i + 1) (g.next nd o b)
theorem need_lot {c : Int} {os : List (Int × Int)} {ws : List Int} (nd : os.Nodup) (o : OV c os) (g : Got c os ws) : ∃ ms, need os ws = ms.map D.int ∧ Lot c ms := by
  have G := Got.clo nd o 17 0 g
  obtain ⟨ms, e, p, a⟩ := sort_zs (K40.clo os 17 ws 0)
  refine ⟨ms, e, ?_, fun x hx => G.rg x (p.mem_iff.mp hx)⟩
  have n2 : ms.Nodup := p.nodup_iff.mpr G.nd
  refine (a.and n2).imp fun {i j} h => ?_
  have h1 := h.1
  have h2 := h.2
  omega
theorem bk_ex {c : Int} {os : List (Int × Int)} {dts ks : List D} : isEx (bk c os dts ks) = false := rfl
theorem r_needed {c : Int} {os : List (Int × Int)} {dts ks : List D} {ws : List Int} (nd : os.Nodup) (o : OV c os) (hc : c ≤ 16) (l : Lot c ws) (h : HD) :
    M_needed [bk c os dts ks, .tup (ws.map D.int)] h = .ok (.tup (need os ws)) h := by
  refine eq_fnT rfl (by simp [under_ints need_ints]) ?_
  unfold B_needed
  have q := r_check_set (c := c) (os := os) (dts := dts) (ks := ks) (thg_good (ints_good (n := 0) (l := ws))) h
  rw [if_pos l.is] at q
  have q2 := r_needed_by (dts := dts) (ks := ks) nd o hc (l.got os) h
  simp [bk_ex, q, q2]
theorem r_needed_bad {n : Nat} {c : Int} {os : List (Int × Int)} {dts ks : List D} {d : D} (hd : thg n d = true) (b : isLot c d = false) (h : HD) : M_needed [bk c os dts ks, d] h = .exc ⟨2, []⟩ h := by
  refine eq_fnX rfl (by simp) ?_
  unfold B_needed
  have q := r_check_set (c := c) (os := os) (dts := dts) (ks := ks) hd h
  rw [if_neg (by simp [b])] at q
  simp [bk_ex, thg_ex hd, q]
end K40
set_option Elab.async false
set_option linter.all false
set_option maxRecDepth 100000
set_option maxHeartbeats 1000000
namespace K40
open PySem DM
/-! ### plans: the pure law -/
/-- the last day at which a layer is dug -/
def dayR : List (List Int) → Int → Option Nat
  | [], _ => none
  | d :: rp, l => if l ∈ d then some rp.length else dayR rp l
/-- the days told backwards: the program's look -/
def prog (os : List (Int × Int)) (rp : List (List Int)) : Prop :=
  rp.reverse.flatten.Nodup ∧ ∀ p ∈ os, p.2 ∈ rp.reverse.flatten → ∃ i j, dayR rp p.1 = some i ∧ dayR rp p.2 = some j ∧ i < j
/-- .. and the law's -/
def lawR (os : List (Int × Int)) : List (List Int) → Prop
  | [] => True
  | d :: rp => lawR os rp ∧ ∀ l ∈ d, l ∉ rp.reverse.flatten ∧ ∀ p ∈ os, p.2 = l → p.1 ∈ rp.reverse.flatten
theorem dayR_lt : ∀ {rp : List (List Int)} {l : Int} {i : Nat}, dayR rp l = some i → i < rp.length
  | [], _, _, h => by cases h
  | d :: rp, l, i, h => by
    unfold dayR at h
    split at h
    · cases h; simp
    · have := dayR_lt h; simp; omega
theorem dayR_mem : ∀ {rp : List (List Int)} {l : Int}, l ∈ rp.reverse.flatten ↔ ∃ i, dayR rp l = some i
  | [], l => by simp [dayR]
  | d :: rp, l => by
    have ih := dayR_mem (rp := rp) (l := l)
    unfold dayR
    by_cases h : l ∈ d
    · rw [if_pos h]
      simp [h]
    · rw [if_neg h, ← ih]
      simp [h]
theorem plan_iff (os : List (Int × Int)) : ∀ {rp : List (List Int)}, (∀ d ∈ rp, d.Nodup) → (lawR os rp ↔ prog os rp)
  | [], _ => by simp [lawR, prog]
  | d :: rp, nd => by
    have ih := plan_iff os (rp := rp) fun x m => nd x (List.mem_cons_of_mem _ m)
    have ndd := nd d (List.mem_cons_self ..)
    have fl : (d :: rp).reverse.flatten = rp.reverse.flatten ++ d := by simp
    unfold lawR
    rw [ih]
    unfold prog
    rw [fl, List.nodup_append]
    constructor
    · rintro ⟨⟨n1, h1⟩, h2⟩
      refine ⟨⟨n1, ndd, fun x hx y hy e => (h2 y hy).1 (e ▸ hx)⟩, fun p hp hm => ?_⟩
      rcases List.mem_append.mp hm with hm | hm
      · obtain ⟨i, j, e1, e2, lt⟩ := h1 p hp hm
        have m1 : p.1 ∉ d := fun z => (h2 _ z).1 (dayR_mem.mpr ⟨i, e1⟩)
        have m2 : p.2 ∉ d := fun z => (h2 _ z).1 hm
        refine ⟨i, j, ?_, ?_, lt⟩
        · unfold dayR; rw [if_neg m1]; exact e1
        · unfold dayR; rw [if_neg m2]; exact e2
      · have q := (h2 _ hm).2 p hp rfl
        have m1 : p.1 ∉ d := fun z => (h2 _ z).1 q
        obtain ⟨i, e1⟩ := dayR_mem.mp q
        refine ⟨i, rp.length, ?_, ?_, dayR_lt e1⟩
        · unfold dayR; rw [if_neg m1]; exact e1
        · unfold dayR; rw [if_pos hm]
    · rintro ⟨⟨n1, _, dj⟩, h⟩
      have key : ∀ p ∈ os, ∀ i j, dayR (d :: rp) p.1 = some i → dayR (d :: rp) p.2 = some j → i < j → p.1 ∉ d := by
        intro p hp i j e1 e2 lt z
        unfold dayR at e1
        rw [if_pos z] at e1
        cases e1
        have := dayR_lt e2
        simp at this
        omega
      refine ⟨⟨n1, fun p hp hm => ?_⟩, fun l hl => ⟨fun z => dj l z l hl rfl, fun p hp e => ?_⟩⟩
      · obtain ⟨i, j, e1, e2, lt⟩ := h p hp (List.mem_append.mpr (.inl hm))
        have m1 := key p hp i j e1 e2 lt
        have m2 : p.2 ∉ d := fun z => dj _ hm _ z rfl
        unfold dayR at e1 e2
        rw [if_neg m1] at e1
        rw [if_neg m2] at e2
        exact ⟨i, j, e1, e2, lt⟩
      · obtain ⟨i, j, e1, e2, lt⟩ := h p hp (List.mem_append.mpr (.inr (e ▸ hl)))
        have m1 := key p hp i j e1 e2 lt
        unfold dayR at e1
        rw [if_neg m1] at e1
        exact dayR_mem.mpr ⟨i, e1⟩
end K40
set_option Elab.async false
set_option linter.all false
set_option maxRecDepth 100000
set_option maxHeartbeats 1000000
namespace K40
open PySem DM
/-! ### plans: the program's judge -/
def dy (d : List Int) : D := .tup (d.map D.int)
def lenT : D → Int
  | .tup l => l.length
  | _ => 0
def okDay (c cr : Int) (d : D) : Bool := isLot c d && (decide (1 ≤ lenT d) && decide (lenT d ≤ cr))
def dsOk (c cr : Int) : D → Bool
  | .tup l => l.all (okDay c cr)
  | _ => false
structure Days (c cr : Int) (days : List (List Int)) : Prop where
  lot : ∀ d ∈ days, Lot c d
  size : ∀ d ∈ days, 1 ≤ d.length ∧ (d.length : Int) ≤ cr
theorem days_of {c cr : Int} {t : D} (h : dsOk c cr t = true) : ∃ days, t = .tup (days.map dy) ∧ Days c cr days := by
  cases t with
  | tup l =>
    have : ∀ l : List D, l.all (okDay c cr) = true → ∃ days, l = days.map dy ∧ Days c cr days := by
      intro l
      induction l with
      | nil => exact fun _ => ⟨[], rfl, ⟨(fun _ m => nomatch m), (fun _ m => nomatch m)⟩⟩
      | cons x l ih =>
        intro h
        rw [List.all_cons, Bool.and_eq_true] at h
        obtain ⟨days, rfl, hd⟩ := ih h.2
        have h1 := h.1
        unfold okDay at h1
        rw [Bool.and_eq_true, Bool.and_eq_true] at h1
        obtain ⟨h2, h3, h4⟩ := h1
        obtain ⟨ws, rfl, hw⟩ := lot_of h2
        simp [lenT] at h3 h4
        refine ⟨ws :: days, rfl, fun d m => ?_, fun d m => ?_⟩
        · rcases List.mem_cons.mp m with rfl | m
          · exact hw
          · exact hd.lot d m
        · rcases List.mem_cons.mp m with rfl | m
          · exact ⟨by omega, h4⟩
          · exact hd.size d m
    obtain ⟨days, e, hd⟩ := this l h
    exact ⟨days, by rw [e], hd⟩
  | _ => cases h
theorem lot_len {c : Int} {d : List Int} (l : Lot c d) : d.length ≤ c.toNat := (l.got []).len
theorem flat_len {c : Int} : ∀ {days : List (List Int)}, (∀ d ∈ days, Lot c d) → days.flatten.length ≤ days.length * c.toNat
  | [], _ => by simp
  | d :: days, h => by
    have ih := flat_len fun x m => h x (List.mem_cons_of_mem _ m)
    have := lot_len (h d (List.mem_cons_self ..))
    rw [List.flatten_cons, List.length_append, List.length_cons, Nat.succ_mul]
    omega
theorem ints_zs : ∀ F : List Int, intsOf (F.map D.int) = some F
  | [] => rfl
  | i :: F => by rw [List.map_cons, ints_cons, ints_zs F]; rfl
theorem r_are_days {n : Nat} {c cr : Int} {os : List (Int × Int)} {dts ks : List D} {t : D} (hc : c ≤ 16) (ht : thg (n + 1) t = true) (hl : ∀ l, t = .tup l → l.length ≤ 100) (h : HD) :
    (dsOk c cr t = false → M_are_days [bk c os dts ks, .int cr, t] h = .ok (.bl false) h) ∧
      ∀ days, t = .tup (days.map dy) → Days c cr days → M_are_days [bk c os dts ks, .int cr, t] h = .ok (.bl (decide days.flatten.Nodup)) h := by
  have e := thg_ex ht
  constructor
  · intro hd
    refine eq_fnT rfl (by simp) ?_
    unfold B_are_days
    cases t with
    | tup l =>
      have g := thg_kids ht
      simp [-o_seq, o_seqH, bk]
      refine lc_bools (isLot c) rfl (fun x hx => ?_) ?_
      · simp [good_ex' (g x hx), r_is_lot (thg_good (g x hx))]
      · simp
        refine fun h1 => hold ?_
        simp [-o_seq, o_seqH]
        refine lc_bools (fun d => decide (1 ≤ lenT d) && decide (lenT d ≤ cr)) rfl (fun x hx => ?_) ?_
        · obtain ⟨ws, rfl, _⟩ := lot_of (h1 x hx)
          simp [lenT]
          omega
        · simp
          intro h2
          have : dsOk c cr (.tup l) = true := by
            show l.all (okDay c cr) = true
            rw [List.all_eq_true]
            intro x hx
            unfold okDay
            simp [h1 x hx, h2 x hx]
          rw [this] at hd
          cases hd
    | fdk ks l => simp [bk]
    | non => simp [bk]
    | bl => simp [bk]
    | int => simp [bk]
    | str => simp [bk]
    | fl => simp [bk]
    | sc => simp [thg] at ht
    | _ => simp_all [thg]
  · rintro days rfl hd
    refine eq_fnA rfl (by simp) ?_
    unfold B_are_days
    have g := thg_kids ht
    have l100 := hl _ rfl
    rw [List.length_map] at l100
    simp [-o_seq, o_seqH, bk]
    refine lc_bools (fun _ => true) rfl (fun x hx => ?_) ?_
    · obtain ⟨d, hd', rfl⟩ := List.mem_map.mp hx
      have q := r_is_lot (m := c) (thg_good (ints_good (n := 0) (l := d))) h
      rw [(hd.lot d hd').is] at q
      simp [dy, q]
    · simp [-o_seq, o_seqH, Function.comp_def]
      refine hold ?_
      simp [-o_seq, o_seqH]
      refine lc_bools (fun _ => true) rfl (fun x hx => ?_) ?_
      · obtain ⟨d, hd', rfl⟩ := List.mem_map.mp hx
        have := hd.size d hd'
        simp [dy]
        omega
      · simp [-o_seq, o_seqH, Function.comp_def]
        refine hold ?_
        simp [-o_seq, o_seqH]
        refine hold ?_
        simp [-o_seq, o_seqH]
        refine for_wp (I := fun pre post s h1 => ∃ (dn rs : List (List Int)) (d : Option D) (F : List Int), F = dn.flatten ∧ post = rs.map dy ∧ days = dn ++ rs ∧ h1 = h ++ [.lst (F.map D.int)] ∧ s = [some (bk c os dts ks), some (.int cr), some (.tup (days.map dy)), d, some (.ref h.length)]) _ [] _ _ ⟨[], days, none, [], rfl, rfl, rfl, rfl, rfl⟩ ?_ ?_
        · rintro pre x post s h1 ⟨dn, rs, d, F, eF, e1, e2, rfl, rfl⟩
          cases rs with
          | nil => cases e1
          | cons r rs =>
            injection e1 with e1 e3
            subst e1 e3
            have fl := flat_len (c := c) (days := dn ++ [r]) fun x m => hd.lot x (by rw [e2]; simp at m ⊢; rcases m with m | m <;> simp [m])
            have dl : (dn ++ [r]).length ≤ 100 := by rw [e2] at l100; simp at l100 ⊢; omega
            have c16 : c.toNat ≤ 16 := by omega
            have big : (dn ++ [r]).flatten.length ≤ 1600 := Nat.le_trans fl (Nat.le_trans (Nat.mul_le_mul dl c16) (by omega))
            rw [List.flatten_append, ← eF, List.length_append] at big
            simp at big
            have hL : LIM = 16777216 := rfl
            simp [dy]
            rw [w_extU (l := F.map D.int) (by simp) (by simp; omega)]
            refine ⟨dn ++ [r], rs, rfl, by rw [e2]; simp, ?_⟩
            simp [eF]
        · rintro pre s h1 ⟨dn, rs, d, F, eF, e1, e2, rfl, rfl⟩
          have : rs = [] := by cases rs with | nil => rfl | cons => cases e1
          subst this
          rw [List.append_nil] at e2
          rw [← e2] at eF
          have big : days.flatten.length ≤ 1600 := Nat.le_trans (flat_len hd.lot) (Nat.le_trans (Nat.mul_le_mul l100 (show c.toNat ≤ 16 by omega)) (by omega))
          rw [← eF] at big
          refine hold ?_
          have eI := ints_zs F
          simp [eI, show F.length ≤ 4000 by omega]
          have := oss_nodup F
          rw [← eF, ← this]
          omega
end K40
set_option Elab.async false
set_option linter.all false
set_option maxRecDepth 100000
set_option maxHeartbeats 1000000
namespace K40
open PySem DM
/-- day_of as far as the days rp -/
def Dict (rp : List (List Int)) (l : List (Key × D)) : Prop := (∀ i : Int, lookK (.inl i) l = (dayR rp i).map fun (n : Nat) => D.int (n : Int)) ∧ l.length ≤ rp.flatten.length
theorem Dict.nil : Dict [] [] := ⟨fun _ => rfl, Nat.le_refl _⟩
def enumD (k : Nat) (l : List D) : List D := (l.zipIdx k).map fun p => .tup [.int p.2, p.1]
theorem enum_cons {k : Nat} {x : D} {l : List D} : enumD k (x :: l) = .tup [.int k, x] :: enumD (k + 1) l := by
  unfold enumD
  rw [List.zipIdx_cons]
  rfl
/-- what is asked of a plan -/
def planP (os : List (Int × Int)) (ws : List Int) (days : List (List Int)) : Prop := prog os days.reverse ∧ ∀ w ∈ ws, w ∈ days.flatten
def dayLt (rp : List (List Int)) (p : Int × Int) : Bool := match dayR rp p.1, dayR rp p.2 with
  | some i, some j => decide (i < j)
  | _, _ => false
def look3 (os : List (Int × Int)) (rp : List (List Int)) (F : List Int) : Bool := (os.filter fun p => decide (p.2 ∈ F)).all fun p => dayLt rp p
def planB (os : List (Int × Int)) (ws : List Int) (days : List (List Int)) : Bool := (ws.all fun w => decide (w ∈ days.flatten)) && look3 os days.reverse days.flatten
theorem planB_iff {os : List (Int × Int)} {ws : List Int} {days : List (List Int)} (nd : days.flatten.Nodup) : planB os ws days = true ↔ planP os ws days := by
  unfold planB planP prog look3
  rw [Bool.and_eq_true, List.all_eq_true, List.all_eq_true, List.reverse_reverse]
  constructor
  · rintro ⟨h1, h2⟩
    refine ⟨⟨nd, fun p hp hm => ?_⟩, fun w hw => of_decide_eq_true (h1 w hw)⟩
    have z := h2 p (List.mem_filter.mpr ⟨hp, decide_eq_true hm⟩)
    unfold dayLt at z
    split at z
    · rename_i i j e1 e2
      exact ⟨i, j, e1, e2, of_decide_eq_true z⟩
    · cases z
  · rintro ⟨⟨_, h1⟩, h2⟩
    refine ⟨fun w hw => decide_eq_true (h2 w hw), fun p hp => ?_⟩
    obtain ⟨m1, m2⟩ := List.mem_filter.mp hp
    obtain ⟨i, j, e1, e2, lt⟩ := h1 p m1 (of_decide_eq_true m2)
    unfold dayLt
    rw [e1, e2]
    exact decide_eq_true lt
theorem Dict.has {rp : List (List Int)} {l : List (Key × D)} (d : Dict rp l) (i : Int) : (lookK (.inl i) l).isSome = decide (i ∈ rp.reverse.flatten) := by
  rw [d.1 i, Bool.eq_iff_iff, decide_eq_true_eq, dayR_mem]
  cases dayR rp i <;> simp
theorem r_is_plan {n : Nat} {c cr : Int} {os : List (Int × Int)} {dts ks : List D} {ws : List Int} {t : D} (hc : c ≤ 16) (hcr : inR 1 4 (.int cr) = true) (hw : Lot c ws) (ht : thg (n + 1) t = true) (hl : ∀ l, t = .tup l → l.length ≤ 100) (h : HD) :
    (dsOk c cr t = false → M_is_plan [bk c os dts ks, .int cr, .tup (ws.map D.int), t] h = .ok (.bl false) h) ∧
      ∀ days, t = .tup (days.map dy) → Days c cr days → ∃ b, M_is_plan [bk c os dts ks, .int cr, .tup (ws.map D.int), t] h = .ok (.bl b) h ∧ (b = true ↔ planP os ws days) := by
  have e := thg_ex ht
  have q1 := r_check_crews (n := 0) (d := .int cr) rfl h
  rw [if_pos hcr] at q1
  have q2 := r_check_set (c := c) (os := os) (dts := dts) (ks := ks) (thg_good (ints_good (n := 0) (l := ws))) h
  rw [if_pos hw.is] at q2
  obtain ⟨a1, a2⟩ := r_are_days (cr := cr) (os := os) (dts := dts) (ks := ks) hc ht hl h
  constructor
  · intro hd
    refine eq_fnT rfl (by simp) ?_
    unfold B_is_plan
    simp [q1, q2, bk_ex, e, a1 hd]
  · rintro days rfl hd
    have a3 := a2 days rfl hd
    by_cases nd : days.flatten.Nodup
    · refine ⟨planB os ws days, ?_, planB_iff nd⟩
      have l100 := hl _ rfl
      rw [List.length_map] at l100
      have big : days.flatten.length ≤ 1600 := Nat.le_trans (flat_len hd.lot) (Nat.le_trans (Nat.mul_le_mul l100 (show c.toNat ≤ 16 by omega)) (by omega))
      have hL : LIM = 16777216 := rfl
      refine eq_fnA rfl (by simp) ?_
      unfold B_is_plan
      simp [-o_seq, o_seqH, q1, bk_ex]
      refine hold ?_
      simp [-o_seq, o_seqH, q2, bk_ex]
      refine hold ?_
      simp [-o_seq, o_seqH, a3, nd, bk_ex]
      refine hold ?_
      simp [-o_seq, o_seqH]
      refine hold ?_
      simp [-o_seq, o_seqH]
      refine for_wp (I := fun pre post s h1 => ∃ (dn rs : List (List Int)) (l : List (Key × D)) (d5 d6 d7 : Option D), post = enumD dn.length (rs.map dy) ∧ days = dn ++ rs ∧ Dict dn.reverse l ∧ h1 = h ++ [.dk l] ∧ s = [some (bk c os dts ks), some (.int cr), some (.tup (ws.map D.int)), some (.tup (days.map dy)), some (.ref h.length), d5, d6, d7, none, none]) _ [] _ _ ⟨[], days, [], none, none, none, rfl, rfl, .nil, rfl, rfl⟩ ?_ ?_
      · rintro pre x post s h1 ⟨dn, rs, l, d5, d6, d7, e1, e2, dl, rfl, rfl⟩
        cases rs with
        | nil => cases e1
        | cons r rs =>
          rw [List.map_cons, enum_cons] at e1
          injection e1 with e1 e3
          subst e1 e3
          simp [dy]
          refine for_wp (I := fun pre post s h1 => ∃ (pi po : List Int) (l2 : List (Key × D)) (d7 : Option D), post = po.map D.int ∧ r = pi ++ po ∧ h1 = h ++ [.dk l2] ∧ l2.length ≤ dn.flatten.length + pi.length ∧ (∀ i : Int, lookK (.inl i) l2 = if i ∈ pi then some (.int dn.length) else lookK (.inl i) l) ∧ s = [some (bk c os dts ks), some (.int cr), some (.tup (ws.map D.int)), some (.tup (days.map dy)), some (.ref h.length), some (.int dn.length), some (dy r), d7, none, none]) _ [] _ _ ⟨[], r, l, d7, rfl, rfl, rfl, ?_, ?_, rfl⟩ ?_ ?_
          · have := dl.2
            simp at this ⊢
            exact this
          · simp
          · rintro pre x post s h1 ⟨pi, po, l2, d7, f1, f2, rfl, f3, f4, rfl⟩
            cases po with
            | nil => cases f1
            | cons i po =>
              injection f1 with f1 f5
              subst f1 f5
              have bl : l2.length < LIM := by
                rw [e2, f2] at big
                simp at big f3
                omega
              simp [keyOf, bl]
              refine ⟨pi ++ [i], po, rfl, by rw [f2]; simp, ?_, fun j => ?_⟩
              · have := putK_len (k := (Sum.inl i : Key)) (v := D.int (dn.length : Int)) (l := l2)
                simp at f3 ⊢
                omega
              · rw [look_put, f4 j]
                by_cases z : j = i
                · simp [z]
                · simp [z]
          · rintro pre s h1 ⟨pi, po, l2, d7, f1, f2, rfl, f3, f4, rfl⟩
            have : po = [] := by cases po with | nil => rfl | cons => cases f1
            subst this
            rw [List.append_nil] at f2
            subst f2
            refine ⟨dn ++ [r], rs, by simp, by rw [e2]; simp, l2, ⟨fun i => ?_, ?_⟩, rfl, _, _, _, rfl⟩
            · rw [f4 i]
              simp [dayR]
              split
              · rfl
              · exact dl.1 i
            · simp
              simp at f3
              omega
      · rintro pre s h1 ⟨dn, rs, l, d5, d6, d7, e1, e2, dl, rfl, rfl⟩
        have : rs = [] := by cases rs with | nil => rfl | cons => rw [List.map_cons, enum_cons] at e1; cases e1
        subst this
        rw [List.append_nil] at e2
        subst e2
        refine hold ?_
        simp [-o_seq, o_seqH]
        have hin : ∀ i : Int, cIn (h ++ [.dk l]) (.int i) (.ref h.length) = some (decide (i ∈ days.flatten)) := fun i => by
          rw [in_dk (l := l) (k := .inl i) (by simp) rfl, dl.has i, List.reverse_reverse]
        have hm : ∀ i : Int, i ∈ days.flatten ↔ ∃ n, dayR days.reverse i = some n := fun i => by rw [← dayR_mem, List.reverse_reverse]
        have hp : planB os ws days = ((ws.all fun w => decide (w ∈ days.flatten)) && look3 os days.reverse days.flatten) := rfl
        generalize days.flatten = F at hin hm hp
        refine lc_in (fun _ => true) (fun i => .bl (decide (i ∈ F))) (fun i _ => ?_) ?_
        · simp [hin]
        · rw [List.filter_eq_self.mpr (fun _ _ => rfl), bools_map]
          simp
          refine ⟨fun w hw hn => ?_, fun hall => hold ?_⟩
          · rw [hp, Bool.and_eq_false_iff]
            left
            rw [List.all_eq_false]
            exact ⟨w, hw, by simpa using hn⟩
          · simp [bk]
            refine lc_ov (fun p => decide (p.2 ∈ F)) (fun p => .bl (dayLt days.reverse p)) (fun p hp => ?_) ?_
            · by_cases m2 : p.2 ∈ F
              · obtain ⟨j, ej⟩ := (hm p.2).mp m2
                by_cases m1 : p.1 ∈ F
                · obtain ⟨i, ei⟩ := (hm p.1).mp m1
                  simp [hin, m1, m2, keyOf, dl.1, ei, ej, dayLt]
                · have ei : dayR days.reverse p.1 = none := by
                    cases z : dayR days.reverse p.1 with
                    | none => rfl
                    | some i => exact absurd ((hm p.1).mpr ⟨i, z⟩) m1
                  simp [hin, m1, m2, ei, dayLt]
              · simp [hin, m2]
            · rw [bools_map]
              refine ⟨⟨_, rfl⟩, ?_⟩
              have ha : (ws.all fun w => decide (w ∈ F)) = true := by
                rw [List.all_eq_true]
                exact fun w hw => decide_eq_true (hall w hw)
              rw [hp, ha, Bool.true_and, List.all_map]
              rfl
    · refine ⟨false, ?_, ?_⟩
      · refine eq_fnT rfl (by simp) ?_
        unfold B_is_plan
        simp [q1, q2, bk_ex, a3, nd]
      · constructor
        · intro z; cases z
        · rintro ⟨⟨z, _⟩, _⟩
          rw [List.reverse_reverse] at z
          exact absurd z nd
end K40
set_option Elab.async false
set_option linter.all false
set_option maxRecDepth 100000
set_option maxHeartbeats 1000000
namespace K40
open PySem DM
/-! ### plans: the law's judge -/
def hit (os : List (Int × Int)) (F : List Int) (l : Int) : Bool := decide (l ∈ F) || os.any fun p => decide (p.2 = l) && !decide (p.1 ∈ F)
def lawB (os : List (Int × Int)) : List (List Int) → Bool
  | [] => true
  | d :: rp => lawB os rp && d.all fun l => !hit os rp.reverse.flatten l
theorem lawB_iff {os : List (Int × Int)} : ∀ {rp : List (List Int)}, lawB os rp = true ↔ lawR os rp
  | [] => by simp [lawB, lawR]
  | d :: rp => by
    unfold lawB lawR
    rw [Bool.and_eq_true, lawB_iff (rp := rp), List.all_eq_true]
    refine and_congr Iff.rfl (forall_congr' fun l => forall_congr' fun _ => ?_)
    unfold hit
    rw [Bool.not_eq_true', Bool.or_eq_false_iff, decide_eq_false_iff_not, List.any_eq_false]
    refine and_congr Iff.rfl (forall_congr' fun p => forall_congr' fun _ => ?_)
    simp
theorem lawB_app {os : List (Int × Int)} {ys : List (List Int)} : ∀ {xs : List (List Int)}, lawB os (xs ++ ys) = true → lawB os ys = true
  | [], h => h
  | x :: xs, h => by
    rw [List.cons_append, lawB, Bool.and_eq_true] at h
    exact lawB_app h.1
theorem r_law_is_plan {n : Nat} {c cr : Int} {os : List (Int × Int)} {ws : List Int} {t : D} (hc : c ≤ 16) (ht : thg (n + 1) t = true) (hl : ∀ l, t = .tup l → l.length ≤ 100) (h : HD) :
    (dsOk c cr t = false → M_u_law_is_plan [.tup (os.map ov), .int c, .int cr, .tup (ws.map D.int), t] h = .ok (.bl false) h) ∧
      ∀ days, t = .tup (days.map dy) → Days c cr days → ∃ b, M_u_law_is_plan [.tup (os.map ov), .int c, .int cr, .tup (ws.map D.int), t] h = .ok (.bl b) h ∧ (b = true ↔ planP os ws days) := by
  have e := thg_ex ht
  have first : ∀ (l : List D), (∀ x ∈ l, good (n + 1) x = true) → ∀ x ∈ l, True := fun _ _ _ _ => trivial
  constructor
  · intro hd
    refine eq_fnT rfl (by simp) ?_
    unfold B_u_law_is_plan
    cases t with
    | tup l =>
      have g := thg_kids ht
      simp [-o_seq, o_seqH]
      refine lc_bools (okDay c cr) rfl (fun x hx => ?_) ?_
      · simp [good_ex' (g x hx), r_law_is_lot (thg_good (g x hx))]
        refine ⟨fun hx1 => ?_, fun hx1 => by simp [okDay, hx1]⟩
        obtain ⟨w, rfl, _⟩ := lot_of hx1
        simp [okDay, hx1, lenT]
        omega
      · simp
        intro h2
        have : dsOk c cr (.tup l) = true := by
          show l.all (okDay c cr) = true
          rw [List.all_eq_true]
          exact h2
        rw [this] at hd
        cases hd
    | fdk ks l => simp
    | non => simp
    | bl => simp
    | int => simp
    | str => simp
    | fl => simp
    | sc => simp [thg] at ht
    | _ => simp_all [thg]
  · rintro days rfl hd
    refine ⟨lawB os days.reverse && ws.all fun w => decide (w ∈ days.flatten), ?_, ?_⟩
    · have l100 := hl _ rfl
      rw [List.length_map] at l100
      have big : days.flatten.length ≤ 1600 := Nat.le_trans (flat_len hd.lot) (Nat.le_trans (Nat.mul_le_mul l100 (show c.toNat ≤ 16 by omega)) (by omega))
      have hL : LIM = 16777216 := rfl
      refine eq_fnT rfl (by simp) ?_
      unfold B_u_law_is_plan
      simp [-o_seq, o_seqH]
      refine lc_bools (fun _ => true) rfl (fun x hx => ?_) ?_
      · obtain ⟨d, hd', rfl⟩ := List.mem_map.mp hx
        have q := r_law_is_lot (m := c) (thg_good (ints_good (n := 0) (l := d))) h
        rw [(hd.lot d hd').is] at q
        have := hd.size d hd'
        simp [dy, q]
        omega
      · simp [-o_seq, o_seqH, Function.comp_def]
        refine hold ?_
        simp [-o_seq, o_seqH]
        refine hold ?_
        simp [-o_seq, o_seqH]
        refine for_wp (I := fun pre post s h1 => ∃ (dn rs : List (List Int)) (d : Option D) (F : List Int), F = dn.flatten ∧ post = rs.map dy ∧ days = dn ++ rs ∧ lawB os dn.reverse = true ∧ h1 = h ∧ s = [some (.tup (os.map ov)), some (.int c), some (.int cr), some (.tup (ws.map D.int)), some (.tup (days.map dy)), d, some (.fl (F.map D.int)), none, none, none]) _ [] _ _ ⟨[], days, none, [], rfl, rfl, rfl, rfl, rfl, rfl⟩ ?_ ?_
        · rintro pre x post s h1 ⟨dn, rs, d, F, eF, e1, e2, lb, rfl, rfl⟩
          cases rs with
          | nil => cases e1
          | cons r rs =>
            injection e1 with e1 e3
            subst e1 e3
            have hin : ∀ i : Int, cIn h1 (.int i) (.fl (F.map D.int)) = some (decide (i ∈ F)) := fun i => in_ints (ns := F) rfl
            have hni : ∀ i : Int, cNotIn h1 (.int i) (.fl (F.map D.int)) = some (!decide (i ∈ F)) := fun i => notin_ints (ns := F) rfl
            simp [dy]
            refine lc_in (fun _ => true) (fun i => .bl (hit os F i)) (fun i _ => ?_) ?_
            · simp [hin]
              refine ⟨fun m => by simp [hit, m], fun m => ?_⟩
              refine lc_ov (fun _ => true) (fun p => .bl (decide (p.2 = i) && !decide (p.1 ∈ F))) (fun p hp => ?_) ?_
              · by_cases z : p.2 = i
                · simp [z, hni]
                · simp [z]
              · rw [List.filter_eq_self.mpr (fun _ _ => rfl), bools_map]
                refine ⟨rfl, ?_⟩
                rw [List.any_map]
                unfold hit
                rw [decide_eq_false m, Bool.false_or]
                rfl
            · rw [List.filter_eq_self.mpr (fun _ _ => rfl), bools_map]
              refine ⟨fun hm => ⟨rfl, fun lb2 => ?_⟩, fun hm => ⟨fun _ => ⟨dn ++ [r], rs, rfl, by rw [e2]; simp, ?_, rfl, by simp [eF]⟩, ?_⟩⟩
              · obtain ⟨x, hx, ex⟩ := List.mem_map.mp hm
                have er : days.reverse = rs.reverse ++ r :: dn.reverse := by rw [e2]; simp
                rw [er] at lb2
                have lb3 := lawB_app lb2
                rw [lawB, Bool.and_eq_true, List.all_eq_true] at lb3
                have z := lb3.2 x hx
                rw [List.reverse_reverse, ← eF, ex] at z
                cases z
              · have er : (dn ++ [r]).reverse = r :: dn.reverse := by simp
                rw [er, lawB, lb, Bool.true_and, List.all_eq_true, List.reverse_reverse, ← eF]
                intro x hx
                cases z : hit os F x with
                | false => rfl
                | true => exact absurd (List.mem_map.mpr ⟨x, hx, z⟩) hm
              · rw [e2, List.flatten_append, List.flatten_cons, ← eF, List.length_append, List.length_append] at big
                omega
        · rintro pre s h1 ⟨dn, rs, d, F, eF, e1, e2, lb, rfl, rfl⟩
          have : rs = [] := by cases rs with | nil => rfl | cons => cases e1
          subst this
          rw [List.append_nil] at e2
          subst e2
          subst eF
          refine hold ?_
          have hF : ∀ w : Int, w ∈ days.flatten ↔ ∃ l, l ∈ days ∧ w ∈ l := fun w => List.mem_flatten
          generalize days.flatten = F at hF
          have hin : ∀ i : Int, cIn h1 (.int i) (.fl (F.map D.int)) = some (decide (i ∈ F)) := fun i => in_ints (ns := F) rfl
          simp
          refine lc_in (fun _ => true) (fun i => .bl (decide (i ∈ F))) (fun i _ => by simp [hin]) ?_
          rw [List.filter_eq_self.mpr (fun _ _ => rfl), bools_map]
          simp [lb, List.all_map, hF]
    · rw [Bool.and_eq_true, lawB_iff, plan_iff os (fun d m => (hd.lot d (by simpa using m)).asc.imp fun h e => by omega), List.all_eq_true]
      unfold planP
      simp
end K40
set_option Elab.async false
set_option linter.all false
set_option maxRecDepth 100000
set_option maxHeartbeats 1000000
namespace K40
open PySem DM
/-! ### draws -/
theorem wp_draw {g : Hand} {m : Int} {r : HD} {P : D → HD → Prop} {X : Xn → HD → Prop} (h0 : 0 < m) (h1 : m < 1073741824) (hr : Fine r) (k : ∀ (v : Int) (g' : Hand), 0 ≤ v → v < m → P (.int v) (g'.box :: r)) : (M_u_law_draw [.ref 0, .int m] (g.box :: r)).wp P X := by
  refine wp_fnH hr rfl ?_
  unfold B_u_law_draw
  obtain ⟨cs, a, b, x, t, hc, ha, hb, hx, ht⟩ := g
  have c4 : a < cs.length → ∃ c, 0 ≤ c ∧ atI (cs.map D.int) a = some (.int c) := by
    intro ha2
    have c3 : a.toNat < cs.length := by omega
    exact ⟨cs[a.toNat], hc _ (List.getElem_mem _), by rw [atI_nat ha]; simp [c3]⟩
  have s0 : ∀ i : Nat, i < 1000000 → small i = true := fun i hi => small_lt (by omega) (by omega)
  have s1 : small 69621 = true := rfl
  have s2 : small 16 = true := rfl
  have s2' : small 40692 = true := rfl
  have s3 : small 7919 = true := rfl
  have s4 : small 48271 = true := rfl
  have s5 : ∀ i : Int, small (i % 2147483647) = true := fun i => small_mod (by decide) (by decide)
  by_cases c1 : b = 0
  · by_cases c2 : a < cs.length
    · obtain ⟨c, c5, c6⟩ := c4 c2
      subst c1
      by_cases c7 : (1000000000000000000 : Int) ≤ c
      · simp [Hand.box, c2, c6, s1, s2, s2', c7, h0, h1, s3, s4, s5]
        repeat' (first | (refine And.intro ?_ ?_) | intro _)
        all_goals refine HP.raw hc ?_ ?_ ?_ ?_ fun g' => k _ g' (mod_nn h0) (mod_lt h0)
        all_goals first | omega | exact mod_nn (by decide) | exact Int.ediv_nonneg (by omega) (by omega)
      · simp [Hand.box, c2, c6, s1, s2, s2', c7, h0, h1, s3, s4, s5]
        repeat' (first | (refine And.intro ?_ ?_) | intro _)
        all_goals refine HP.raw hc ?_ ?_ ?_ ?_ fun g' => k _ g' (mod_nn h0) (mod_lt h0)
        all_goals first | omega | exact mod_nn (by decide) | exact Int.ediv_nonneg (by omega) (by omega)
    · simp [Hand.box, s1, s2, s2', h0, h1, s3, s4, s5, c1, c2]
      repeat' (first | (refine And.intro ?_ ?_) | intro _)
      all_goals refine HP.raw hc ?_ ?_ ?_ ?_ fun g' => k _ g' (mod_nn h0) (mod_lt h0)
      all_goals first | omega | exact mod_nn (by decide) | exact Int.ediv_nonneg (by omega) (by omega)
  · simp [Hand.box, s1, s2, s2', h0, h1, s3, s4, s5, c1]
    repeat' (first | (refine And.intro ?_ ?_) | intro _)
    all_goals refine HP.raw hc ?_ ?_ ?_ ?_ fun g' => k _ g' (mod_nn h0) (mod_lt h0)
    all_goals first | omega | exact mod_nn (by decide) | exact Int.ediv_nonneg (by omega) (by omega)
theorem wp_any {g : Hand} {l : List D} {r : HD} {P : D → HD → Prop} {X : Xn → HD → Prop} (h0 : 0 < l.length) (h1 : l.length < 1073741824) (u : unders (r.length + 1) l = true) (hr : Fine r) (k : ∀ x ∈ l, ∀ g' : Hand, P x (g'.box :: r)) : (M_u_law_any [.ref 0, .fl l] (g.box :: r)).wp P X := by
  refine wp_fnH hr rfl ?_
  unfold B_u_law_any
  simp
  refine wp_draw (by omega) (by omega) hr fun n g n0 n1 => ?_
  obtain ⟨x, hx, e⟩ := atI_in n0 n1
  simp [e]
  rw [unders_all, List.all_eq_true] at u
  exact HP.mk0 (u x hx) (k x hx g)
def absD : D → D
  | .int i => .int (if i < 0 then -i else i)
  | d => d
theorem r_hand (ns : List Int) (hl : ns.length ≤ 63) : ∃ g : Hand, M_u_law_hand [.sc (ns.map D.int)] [] = .ok (.ref 0) [g.box] := by
  refine ⟨⟨(ns.take 63).map fun i => if i < 0 then -i else i, 0, 0, 901 + 7 * ((ns.take 63).length : Int), 0, ?_, by omega, by omega, by omega, by omega⟩, ?_⟩
  · intro x hx
    obtain ⟨i, _, rfl⟩ := List.mem_map.mp hx
    split <;> omega
  · refine wp_eq ?_
    refine wp_fn rfl ?_
    unfold B_u_law_hand
    simp
    refine lc_map' absD rfl ?_ ?_
    · intro x hx
      obtain ⟨i, _, rfl⟩ := List.mem_map.mp (List.mem_of_mem_take hx)
      simp [absD]
    · have s7 : small 7 = true := rfl
      simp [Hand.box, List.map_take, absD, Function.comp_def, s7]
end K40
set_option Elab.async false
set_option linter.all false
set_option maxRecDepth 100000
set_option maxHeartbeats 1000000
namespace K40
open PySem DM
/-! ### mixed: a permutation -/
theorem w_popI {h : HD} {n : Nat} {i : Int} {l : List D} {P : D → HD → Prop} {X : Xn → HD → Prop} (e : h[n]? = some (.lst l)) (i0 : 0 ≤ i) (i1 : i < l.length) (big : l.length < 1000000) (k : ∀ z, l[i.toNat]? = some z → P z (h.set n (.lst (l.eraseIdx i.toNat)))) : (mPopI h (.ref n) (.int i)).wp P X := by
  unfold mPopI
  rw [boxL_ref, e]
  have c1 : (decide (-1000000000 < i) && decide (i < 1000000000)) = true := by simp; omega
  have c2 : ixOf i l.length = some i.toNat := by unfold ixOf; rw [if_pos i0, if_pos (by omega)]
  obtain ⟨z, hz⟩ : ∃ z, l[i.toNat]? = some z := ⟨l[i.toNat]'(by omega), by simp⟩
  simp only [lsO_lst, Option.map_some, c1, if_true, c2, hz, wp_ok]
  exact k z hz
theorem perm_erase : ∀ {l : List D} {i : Nat} {z : D}, l[i]? = some z → (z :: l.eraseIdx i).Perm l
  | [], _, _, h => by simp at h
  | x :: l, 0, z, h => by
    simp at h
    subst h
    exact .refl _
  | x :: l, i + 1, z, h => by
    have ih := perm_erase (l := l) (i := i) (z := z) (by simpa using h)
    exact (List.Perm.swap x z _).trans (ih.cons x)
theorem set1 {g : Hand} {r : HD} {o p q : O} : (g.box :: (r ++ [o, p])).set (r.length + 1) q = g.box :: (r ++ [q, p]) := by simp
theorem set2 {g : Hand} {r : HD} {o p q : O} : (g.box :: (r ++ [o, p])).set (r.length + 2) q = g.box :: (r ++ [o, q]) := by simp
theorem get1 {g : Hand} {r : HD} {o p : O} : (g.box :: (r ++ [o, p]))[r.length + 1]? = some o := by simp
theorem get2 {g : Hand} {r : HD} {o p : O} : (g.box :: (r ++ [o, p]))[r.length + 2]? = some p := by simp
theorem perm_pop {l m : List D} {i : Nat} {z : D} (h : l[i]? = some z) : (l.eraseIdx i ++ (m ++ [z])).Perm (l ++ m) := by
  have p : (z :: l.eraseIdx i).Perm l := perm_erase h
  have q : (l.eraseIdx i ++ (m ++ [z])).Perm (z :: (l.eraseIdx i ++ m)) := by
    rw [← List.append_assoc]
    exact List.perm_append_singleton _ _
  exact q.trans (p.append_right m)
theorem fine2 {r : HD} {a b : List D} (hr : Fine r) (ua : unders (r.length + 1) a = true) (ub : unders (r.length + 1) b = true) : Fine (r ++ [.lst a, .lst b]) := by
  have e : r ++ [O.lst a, O.lst b] = (r ++ [.lst a]) ++ [.lst b] := by simp
  rw [e]
  refine fine_app (fine_app hr ?_) ?_
  · exact unders_le (by omega) _ ua
  · exact unders_le (by simp) _ ub
theorem wp_mixed {g : Hand} {l : List D} {r : HD} {P : D → HD → Prop} {X : Xn → HD → Prop} (hl : l.length < 1000) (u : unders (r.length + 1) l = true) (hr : Fine r) (k : ∀ (m : List D) (g' : Hand), m.Perm l → P (.fl m) (g'.box :: r)) : (M_u_law_mixed [.ref 0, .fl l] (g.box :: r)).wp P X := by
  refine wp_fnZ hr rfl ?_
  unfold B_u_law_mixed
  simp [-o_seq, o_seqH]
  refine hold ?_
  simp [-o_seq, o_seqH]
  have un : ∀ {a b : List D}, (a ++ b).Perm l → unders (r.length + 1) a = true ∧ unders (r.length + 1) b = true := by
    intro a b p
    rw [unders_all, List.all_eq_true] at u
    rw [unders_all, unders_all, List.all_eq_true, List.all_eq_true]
    exact ⟨fun x hx => u x (p.mem_iff.mp (List.mem_append.mpr (.inl hx))), fun x hx => u x (p.mem_iff.mp (List.mem_append.mpr (.inr hx)))⟩
  refine while_wp (I := fun m s h1 => ∃ (g' : Hand) (a b : List D), m = a.length ∧ h1 = g'.box :: (r ++ [.lst a, .lst b]) ∧ s = [some (.ref 0), some (.fl l), some (.ref (r.length + 1)), some (.ref (r.length + 2))] ∧ (a ++ b).Perm l) l.length (by omega) ⟨g, l, [], rfl, by simp, by simp, by simp⟩ ?_
  rintro m s h1 ⟨g', a, b, rfl, rfl, rfl, p⟩
  obtain ⟨ua, ub⟩ := un p
  have ll := p.length_eq
  rw [List.length_append] at ll
  simp
  refine ⟨fun h0 => ?_, fun h0 => ?_⟩
  · refine wp_draw (by omega) (by omega) (fine2 hr ua ub) fun v g2 v0 v1 => ?_
    refine w_popI (l := a) get1 v0 v1 (by omega) fun z hz => ?_
    rw [set1, w_app (l := b) get2 (by unfold LIM; omega), set2]
    have lz : (a.eraseIdx v.toNat).length = a.length - 1 := List.length_eraseIdx_of_lt (by omega)
    exact ⟨a.length - 1, by omega, g2, _, lz.symm, _, rfl, (perm_pop hz).trans p⟩
  · refine hold ?_
    simp
    subst h0
    have ub' := ub
    refine ⟨g', [.lst [], .lst b], .fl b, rfl, ?_, k b g' (by simpa using p)⟩
    unfold freeze
    rw [if_neg (by simp)]
    have ea : ∀ (f : Nat) (l : List D), unders (r.length + 1) l = true → each (freeze (g'.box :: (r ++ [.lst [], .lst b])) (r.length + 1) (f + 1)) l = some l := fun f l ul => each_under ul
    have e59 := ea 58 _ ub
    simp only [get2, e59, Option.map_some]
end K40
set_option Elab.async false
set_option linter.all false
set_option maxRecDepth 100000
set_option maxHeartbeats 1000000
namespace K40
open PySem DM
/-! ### the words of what is refused -/
theorem cnt1 {h : HD} : opCount h (.fl [.bl true, .bl false, .bl false]) (.bl true) = some (.int 1) := rfl
theorem cnt2 {h : HD} : opCount h (.fl [.bl false, .bl true, .bl false]) (.bl true) = some (.int 1) := rfl
theorem idx1 {h : HD} : opIndex h (.fl [.bl true, .bl false, .bl false]) (.bl true) = some (.int 0) := rfl
theorem idx2 {h : HD} : opIndex h (.fl [.bl false, .bl true, .bl false]) (.bl true) = some (.int 1) := rfl
theorem word_set {m : EM} {s : SD} {h : HD} (hm : m s h = .exc ⟨2, []⟩ h) : eLam 4 B_u_law_word m s h = .ok (.str "set") h := by
  refine lam_eq (by simp) ?_
  unfold B_u_law_word
  simp [w_act, hm, SB, cnt1, idx1]
  have e : cEq h (.str "set") (.str "many") = some false := by
    rw [eq_good (n := 0) (m := 0) (by simp) (by simp) (by decide) (by decide), eqvD_str]
    rfl
  rw [e]
  simp [unEx, isEx]
theorem word_crews {m : EM} {s : SD} {h : HD} (hm : m s h = .exc ⟨3, []⟩ h) : eLam 4 B_u_law_word m s h = .ok (.str "crews") h := by
  refine lam_eq (by simp) ?_
  unfold B_u_law_word
  simp [w_act, hm, SB, cnt2, idx2]
  have e : cEq h (.str "crews") (.str "many") = some false := by
    rw [eq_good (n := 0) (m := 0) (by simp) (by simp) (by decide) (by decide), eqvD_str]
    rfl
  rw [e]
  simp [unEx, isEx]
theorem plan_crews {n : Nat} {b d e t : D} (hb : isEx b = false) (hd : thg n d = true) (he : isEx e = false) (ht : isEx t = false) (bad : inR 1 4 d = false) (h : HD) : M_is_plan [b, d, e, t] h = .exc ⟨3, []⟩ h := by
  refine eq_fnX rfl (by simp) ?_
  unfold B_is_plan
  have q := r_check_crews hd h
  rw [if_neg (by simp [bad])] at q
  simp [hb, thg_ex hd, he, ht, q]
theorem plan_set {n : Nat} {c cr : Int} {os : List (Int × Int)} {dts ks : List D} {d t : D} (hd : thg n d = true) (ht : isEx t = false) (hcr : inR 1 4 (.int cr) = true) (b : isLot c d = false) (h : HD) : M_is_plan [bk c os dts ks, .int cr, d, t] h = .exc ⟨2, []⟩ h := by
  refine eq_fnX rfl (by simp) ?_
  unfold B_is_plan
  have q1 := r_check_crews (n := 0) (d := .int cr) rfl h
  rw [if_pos hcr] at q1
  have q := r_check_set (c := c) (os := os) (dts := dts) (ks := ks) hd h
  rw [if_neg (by simp [b])] at q
  simp [bk_ex, thg_ex hd, ht, q1, q]
end K40
set_option Elab.async false
set_option linter.all false
set_option maxRecDepth 100000
set_option maxHeartbeats 1000000
namespace K40
open PySem DM
/-! ### things that are no sets -/
def odds (c : Int) : List D := [.int c, .int (-1), .bl true, .non, .str "0", .tup [.int 0]]
theorem odd_in {c : Int} {o : D} (h : o ∈ odds c) : inR 0 (c - 1) o = false ∧ good 1 o = true := by
  simp [odds] at h
  rcases h with rfl | rfl | rfl | rfl | rfl | rfl <;> simp [inR]
  omega
theorem lot_no {c : Int} {l : List D} {x : D} (hx : x ∈ l) (n : inR 0 (c - 1) x = false) : isLot c (.tup l) = false := by
  show (l.all (inR 0 (c - 1)) && (pairs l).all ltZ) = false
  rw [Bool.and_eq_false_iff]
  left
  rw [List.all_eq_false]
  exact ⟨x, hx, by simp [n]⟩
/-- what is drawn in the place of a set -/
def Odd (c : Int) (d : D) : Prop := thg 2 d = true ∧ isLot c d = false
theorem wp_odd {c : Int} {ws : List Int} {g : Hand} {r : HD} {P : D → HD → Prop} {X : Xn → HD → Prop} (hw : ws.length ≤ 16) (hr : Fine r) (k : ∀ (d : D) (g' : Hand), Odd c d → P d (g'.box :: r)) : (M_u_law_odd_set [.ref 0, .int c, .tup (ws.map D.int)] (g.box :: r)).wp P X := by
  refine wp_fnZ hr rfl ?_
  unfold B_u_law_odd_set
  simp [-o_seq, o_seqH]
  refine hold ?_
  simp [-o_seq, o_seqH]
  refine wp_any (l := odds c) (by simp [odds]) (by simp [odds]) (by simp [odds]) hr fun o1 ho1 g1 => ?_
  obtain ⟨n1, y1⟩ := odd_in ho1
  have hL : LIM = 16777216 := rfl
  refine ⟨fun _ => ⟨fun _ => hold ?_, by omega⟩, by omega⟩
  have fr : Fine (r ++ [.dk []]) := fine_app hr rfl
  have A : ∀ Q : D → HD → Prop, (∀ o2 ∈ odds c, ∀ g2 : Hand, Q o2 (g2.box :: (r ++ [.dk []]))) → (M_u_law_any [.ref 0, .fl (odds c)] (g1.box :: (r ++ [.dk []]))).wp Q (fun _ _ => False) := fun Q hq => by
    have ul : unders ((r ++ [O.dk []]).length + 1) (odds c) = true := by simp [odds]
    have l0 : 0 < (odds c).length := Nat.succ_pos _
    have l1 : (odds c).length < 1073741824 := by show 6 < 1073741824; omega
    exact wp_any l0 l1 ul fr hq
  simp
  refine A _ ?_
  intro o2 ho2 g2
  obtain ⟨n2, y2⟩ := odd_in ho2
  have B : ∀ ld : D, ld = .tup [.int 1, .int 0] ∨ ld = .tup [.int 0, .int 0] → (M_u_law_any [.ref 0, .fl [.tup (ws.map D.int ++ [o1]), .tup [.int 0, .int 0], .tup ((ws.map D.int).reverse ++ [.int c]), .fl (ws.map D.int), .non, .int 0, .str "", .ref (r.length + 1), .tup [.tup (ws.map D.int)], .tup (o2 :: ws.map D.int), ld]] (g2.box :: (r ++ [.dk []]))).wp (fun d h1 => HZ r P d h1) (fun _ _ => False) := by
    intro ld hld
    have gi : ∀ {m : Nat} {x : D}, x ∈ ws.map D.int → good m x = true := fun hx => by obtain ⟨i, _, rfl⟩ := List.mem_map.mp hx; simp
    have each : ∀ x ∈ [D.tup (ws.map D.int ++ [o1]), .tup [.int 0, .int 0], .tup ((ws.map D.int).reverse ++ [.int c]), .fl (ws.map D.int), .non, .int 0, .str "", .ref (r.length + 1), .tup [.tup (ws.map D.int)], .tup (o2 :: ws.map D.int), ld], x = .ref (r.length + 1) ∨ (good 2 x = true ∧ isLot c x = false) := by
      intro x hx
      have z0 : isLot c (.tup [.int 0, .int 0]) = false := by simp [isLot, pairs, ltZ, fst', snd']
      have z1 : isLot c (.tup [.int 1, .int 0]) = false := by simp [isLot, pairs, ltZ, fst', snd']
      simp only [List.mem_cons, List.mem_nil_iff, or_false] at hx
      rcases hx with rfl | rfl | rfl | rfl | rfl | rfl | rfl | rfl | rfl | rfl | rfl
      · refine .inr ⟨good_mono (n := 2) (by omega) ?_, lot_no (x := o1) (by simp) n1⟩
        rw [good_tup, List.all_eq_true]
        intro y hy
        rcases List.mem_append.mp hy with hy | hy
        · exact gi hy
        · rw [List.mem_singleton.mp hy]; exact y1
      · exact .inr ⟨by simp, z0⟩
      · refine .inr ⟨?_, lot_no (x := .int c) (by simp) (by simp [inR]; omega)⟩
        rw [good_tup, List.all_eq_true]
        intro y hy
        rcases List.mem_append.mp hy with hy | hy
        · exact gi (List.mem_reverse.mp hy)
        · rw [List.mem_singleton.mp hy]; simp
      · exact .inr ⟨by rw [good_fl, List.all_eq_true]; exact fun y hy => gi hy, rfl⟩
      · exact .inr ⟨by simp, rfl⟩
      · exact .inr ⟨by simp, rfl⟩
      · exact .inr ⟨by simp, rfl⟩
      · exact .inl rfl
      · refine .inr ⟨?_, lot_no (x := .tup (ws.map D.int)) (by simp) rfl⟩
        rw [good_tup, List.all_eq_true]
        intro y hy
        rw [List.mem_singleton.mp hy]
        exact ints_good (n := 0)
      · refine .inr ⟨?_, lot_no (x := o2) (by simp) n2⟩
        rw [good_tup, List.all_eq_true]
        intro y hy
        rcases List.mem_cons.mp hy with rfl | hy
        · exact y2
        · exact gi hy
      · rcases hld with rfl | rfl
        · exact .inr ⟨by simp, z1⟩
        · exact .inr ⟨by simp, z0⟩
    have ul : ∀ l : List D, (∀ x ∈ l, x = .ref (r.length + 1) ∨ (good 2 x = true ∧ isLot c x = false)) → unders ((r ++ [O.dk []]).length + 1) l = true := by
      intro l hl
      rw [unders_all, List.all_eq_true]
      intro x hx
      rcases hl x hx with rfl | ⟨h1, _⟩
      · simp
      · exact good_under h1
    refine wp_any (Nat.succ_pos _) (show 11 < 1073741824 by omega) (ul _ each) fr fun x hx g3 => ?_
    rcases each x hx with rfl | ⟨h1, h2⟩
    · exact HZ.dk (x := []) (k _ _ ⟨rfl, rfl⟩)
    · exact HZ.mk1 (x := [.dk []]) (good_under h1) (k _ _ ⟨thg_good h1, h2⟩)
  exact ⟨fun _ => ⟨fun _ => ⟨fun _ => B _ (.inl rfl), by omega⟩, fun _ => ⟨fun _ => B _ (.inr rfl), by omega⟩⟩, by omega⟩
end K40
set_option Elab.async false
set_option linter.all false
set_option maxRecDepth 100000
set_option maxHeartbeats 1000000
namespace K40
open PySem DM
/-! ### the overs that are drawn -/
def OKP (c : Int) (p : Int × Int) : Prop := 0 ≤ p.1 ∧ p.1 < c ∧ 0 ≤ p.2 ∧ p.2 < c ∧ p.1 ≠ p.2
def kov (p : Int × Int) : List Key := [.inl p.1, .inl p.2]
def rng (c : Int) : List D := (List.range c.toNat).map fun (k : Nat) => D.int k
theorem stays_watch {h : HD} {x : D} : stays h (watchOf h x) = true := by
  unfold watchOf
  cases x with
  | ref n =>
    cases e : boxAt h n with
    | none => simp [stays, e]
    | some l => simp [stays, e, sames_rfl]
  | _ => rfl
theorem ov_inj {p q : Int × Int} (h : ov p = ov q) : p = q := by
  unfold ov at h
  injection h with h
  simp at h
  exact Prod.ext h.1 h.2
theorem each_ov (ps : List (Int × Int)) : each pairT (ps.map fun p => D.tup [ov p, .bl true]) = some (ps.map fun p => (kov p, D.bl true)) := by
  induction ps with
  | nil => rfl
  | cons p ps ih =>
    rw [List.map_cons, each, ih]
    rfl
theorem putAll_spec {prs : List (List Key × D)} {S : List Key → Prop} (h : ∀ q ∈ prs, S q.1) : ((putAll prs).map (·.1)).Nodup ∧ (∀ q ∈ putAll prs, S q.1) ∧ (putAll prs).length ≤ prs.length := by
  unfold putAll
  suffices H : ∀ (ps acc : List (List Key × D)), (∀ q ∈ ps, S q.1) → (acc.map (·.1)).Nodup → (∀ q ∈ acc, S q.1) →
      ((ps.foldl (fun acc p => DM.putK p.1 p.2 acc) acc).map (·.1)).Nodup ∧ (∀ q ∈ ps.foldl (fun acc p => DM.putK p.1 p.2 acc) acc, S q.1) ∧ (ps.foldl (fun acc p => DM.putK p.1 p.2 acc) acc).length ≤ acc.length + ps.length by
    have := H prs [] h .nil (fun _ m => nomatch m)
    simpa using this
  intro ps
  induction ps with
  | nil => intro acc _ a b; exact ⟨a, b, by simp⟩
  | cons p ps ih =>
    intro acc hs a b
    rw [List.foldl_cons]
    have k := ih (DM.putK p.1 p.2 acc) (fun q m => hs q (List.mem_cons_of_mem _ m)) (putK_nd a) (fun q m => by
      rcases putK_key m with e | ⟨w, m, e⟩
      · rw [e]; exact hs p (List.mem_cons_self ..)
      · rw [← e]; exact b w m)
    refine ⟨k.1, k.2.1, ?_⟩
    have := putK_len (k := p.1) (v := p.2) (l := acc)
    have := k.2.2
    simp
    omega
theorem keys_ov {c : Int} {L : List (List Key × D)} (h : ∀ q ∈ L, ∃ p, q.1 = kov p ∧ OKP c p) (nd : (L.map (·.1)).Nodup) : ∃ ps : List (Int × Int), (L.map fun p => D.tup (p.1.map keyD)) = ps.map ov ∧ ps.Nodup ∧ (∀ p ∈ ps, OKP c p) ∧ ps.length = L.length := by
  have e : ∀ q ∈ L, D.tup (q.1.map keyD) = ov (un (.tup (q.1.map keyD))) ∧ OKP c (un (.tup (q.1.map keyD))) ∧ q.1 = kov (un (.tup (q.1.map keyD))) := by
    intro q m
    obtain ⟨p, e, o⟩ := h q m
    rw [e]
    exact ⟨rfl, o, rfl⟩
  refine ⟨L.map fun q => un (.tup (q.1.map keyD)), ?_, ?_, ?_, by simp⟩
  · rw [List.map_map]
    exact List.map_congr_left fun q m => (e q m).1
  · rw [List.Nodup, List.pairwise_map] at nd ⊢
    refine List.Pairwise.imp_of_mem ?_ nd
    intro a b ma mb ne eq
    exact ne (by rw [(e a ma).2.2, (e b mb).2.2, eq])
  · intro p hp
    obtain ⟨q, m, rfl⟩ := List.mem_map.mp hp
    exact (e q m).2.1
theorem sort_ov {c : Int} {ps : List (Int × Int)} (nd : ps.Nodup) (h : ∀ p ∈ ps, OKP c p) (few : ps.length ≤ 20) : ∃ os : List (Int × Int), sortD (ps.map ov) = os.map ov ∧ OV c os ∧ os.Nodup := by
  have mem : ∀ x ∈ sortD (ps.map ov), ∃ p ∈ ps, x = ov p := fun x m => by
    obtain ⟨p, hp, e⟩ := List.mem_map.mp (sort_mem.mp m)
    exact ⟨p, hp, e.symm⟩
  have e : sortD (ps.map ov) = ((sortD (ps.map ov)).map un).map ov := by
    rw [List.map_map]
    have : ∀ l : List D, (∀ x ∈ l, ∃ p ∈ ps, x = ov p) → l = l.map (ov ∘ un) := by
      intro l
      induction l with
      | nil => intro _; rfl
      | cons x l ih =>
        intro k
        obtain ⟨p, _, rfl⟩ := k x (List.mem_cons_self ..)
        rw [List.map_cons, ← ih fun y m => k y (List.mem_cons_of_mem _ m)]
        rfl
    exact this _ mem
  have nd2 : (ps.map ov).Nodup := by
    rw [List.Nodup, List.pairwise_map]
    exact nd.imp fun ne e => ne (ov_inj e)
  have it : ∀ x ∈ ps.map ov, intsT x = true := fun x m => by
    obtain ⟨p, _, rfl⟩ := List.mem_map.mp m
    rfl
  refine ⟨(sortD (ps.map ov)).map un, e, ⟨?_, ?_, ?_⟩, ?_⟩
  · intro p hp
    obtain ⟨x, m, rfl⟩ := List.mem_map.mp hp
    obtain ⟨p, hp2, rfl⟩ := mem x m
    exact h p hp2
  · rw [← e]
    exact pairs_asc (sort_asc it nd2)
  · rw [List.length_map, (sort_perm (l := ps.map ov)).length_eq, List.length_map]
    exact few
  · have q : (sortD (ps.map ov)).Nodup := (sort_perm.nodup_iff).mpr nd2
    rw [e, List.Nodup, List.pairwise_map] at q
    exact q.imp fun ne e => ne (by rw [e])
theorem idx_hid {h : HD} {m : List D} {c b : Int} (p : m.Perm (rng c)) (b0 : 0 ≤ b) (b1 : b < c) : ∃ k : Int, opIndex h (.fl m) (.int b) = some (.int k) := by
  have g : ∀ x ∈ m, ∃ i : Int, x = .int i := fun x hx => by
    obtain ⟨i, _, rfl⟩ := List.mem_map.mp (p.mem_iff.mp hx)
    exact ⟨i, rfl⟩
  have g2 : ∀ x ∈ m, good 0 x = true := fun x hx => by obtain ⟨i, rfl⟩ := g x hx; simp
  have hb : D.int b ∈ m := p.mem_iff.mpr (List.mem_map.mpr ⟨b.toNat, List.mem_range.mpr (by omega), by congr 1; omega⟩)
  have e : opIndex h (.fl m) (.int b) = ((m.map enc).findIdx? fun z => PyData.eqv z (.int b)).map fun (n : Nat) => D.int (n : Int) := by
    unfold opIndex datL
    rw [show lsts h (.fl m) = some m from rfl]
    simp only [toPs_good g2]
    have s := shaped_good (n := 0) (by omega) g2
    show (match toP (D.int b) with
      | some p => if (SeqAt.shaped p && SeqAt.shaped (.list (m.map enc))) = true then some (m.map enc, p) else none
      | none => none).bind _ = _
    rw [show toP (D.int b) = some (.int b) from rfl]
    simp only [s, Bool.and_true]
    rfl
  rw [e]
  cases f : (m.map enc).findIdx? fun z => PyData.eqv z (.int b) with
  | some n => exact ⟨n, rfl⟩
  | none =>
    have := List.findIdx?_eq_none_iff.mp f (enc (.int b)) (List.mem_map.mpr ⟨_, hb, rfl⟩)
    simp [enc, PyData.eqv] at this
theorem wp_overs {c mo : Int} {hid : D} {g : Hand} {r : HD} {P : D → HD → Prop} {X : Xn → HD → Prop} (c1 : 1 ≤ c) (c2 : c ≤ 16) (m0 : 0 ≤ mo) (m1 : mo ≤ 20) (hh : hid = .non ∨ ∃ m, hid = .fl m ∧ m.Perm (rng c)) (hr : Fine r)
    (k : ∀ (os : List (Int × Int)) (g' : Hand), OV c os → os.Nodup → P (.tup (os.map ov)) (g'.box :: r)) : (M_u_law_overs [.ref 0, .int c, hid, .int mo] (g.box :: r)).wp P X := by
  refine wp_fnZ hr rfl ?_
  unfold B_u_law_overs
  have hx : isEx hid = false := by rcases hh with rfl | ⟨m, rfl, _⟩ <;> rfl
  simp [-o_seq, o_seqH, hx]
  refine hold ?_
  simp [-o_seq, o_seqH, hx]
  have hL : LIM = 16777216 := rfl
  have f0 : Fine (r ++ [.lst []]) := fine_app hr rfl
  refine wp_draw (by omega) (by omega) f0 fun n g n0 n1 => ?_
  have e0 : iRange 0 n = some ⟨(List.range n.toNat).map fun (k : Nat) => D.int k, []⟩ := range_0 (by omega) (by omega)
  simp [-o_seq, o_seqH, hx, e0]
  refine for_wp (I := fun pre post s h => ∃ (g : Hand) (ps : List (Int × Int)) (x y z u : Option D), h = g.box :: (r ++ [.lst (ps.map ov)]) ∧ s = [some (.ref 0), some (.int c), some hid, some (.int mo), some (.ref (r.length + 1)), x, y, z, u, none] ∧ pre.length + post.length = n.toNat ∧ ps.length ≤ pre.length ∧ ∀ p ∈ ps, OKP c p) _ [] _ _ ⟨g, [], none, none, none, none, rfl, rfl, by simp, by simp, fun _ m => nomatch m⟩ ?_ ?_
  · rintro pre v post s h ⟨g, ps, x, y, z, u, rfl, rfl, hc, hl, hk⟩
    try simp at hc
    have f1 : Fine (r ++ [.lst (ps.map ov)]) := fine_app hr (by
      show unders _ (ps.map ov) = true
      rw [unders_all, List.all_map, List.all_eq_true]
      intro p _
      simp [ov])
    have lp : (ps.map ov).length < LIM := by rw [List.length_map]; omega
    simp [-o_seq, o_seqH, hx]
    refine wp_draw (by omega) (by omega) f1 fun a g a0 a1 => ?_
    refine wp_draw (by omega) (by omega) f1 fun b g b0 b1 => ?_
    refine hold ?_
    have ap : ∀ (g : Hand) (p : Int × Int) (Q : D → HD → Prop) (X : Xn → HD → Prop), (mApp (g.box :: (r ++ [.lst (ps.map ov)])) (.ref (r.length + 1)) (ov p)).wp Q X = Q .non (g.box :: (r ++ [.lst ((ps ++ [p]).map ov)])) := fun g p Q X => by
      rw [w_app (l := ps.map ov) (by simp) lp]
      simp
    have nx : ∀ p : Int × Int, OKP c p → ∀ q ∈ ps ++ [p], OKP c q := fun p hp q hq => by
      rcases List.mem_append.mp hq with h | h
      · exact hk q h
      · rw [List.mem_singleton.mp h]; exact hp
    have ll : ∀ p : Int × Int, (ps ++ [p]).length ≤ pre.length + 1 := fun p => by simp; omega
    have tail : ∀ g : Hand, ∃ g_1 ps_1, (g.box = Hand.box g_1 ∧ ps.map ov = List.map ov ps_1) ∧ pre.length + 1 + post.length = n.toNat ∧ ps_1.length ≤ pre.length + 1 ∧ ∀ a b : Int, (a, b) ∈ ps_1 → OKP c (a, b) :=
      fun g => ⟨g, ps, ⟨rfl, rfl⟩, by omega, by omega, fun x y => hk (x, y)⟩
    rcases hh with rfl | ⟨m, rfl, pm⟩
    · simp [-o_seq, o_seqH]
      refine ⟨fun ne => hold ?_, fun e => tail g⟩
      simp
      rw [show D.tup [.int a, .int b] = ov (a, b) from rfl, ap g (a, b)]
      exact ⟨g, ps ++ [(a, b)], rfl, by omega, ll _, fun x y => nx _ ⟨a0, a1, b0, b1, ne⟩ (x, y)⟩
    · obtain ⟨i, ei⟩ := idx_hid (h := g.box :: (r ++ [.lst (ps.map ov)])) pm b0 b1
      obtain ⟨j, ej⟩ := idx_hid (h := g.box :: (r ++ [.lst (ps.map ov)])) pm a0 a1
      simp [-o_seq, o_seqH, ei, ej]
      refine ⟨fun ne => hold ?_, fun e => tail g⟩
      simp
      rw [show D.tup [.int a, .int b] = ov (a, b) from rfl, show D.tup [.int b, .int a] = ov (b, a) from rfl, ap g (a, b), ap g (b, a)]
      exact ⟨fun _ => ⟨g, ps ++ [(a, b)], rfl, by omega, ll _, fun x y => nx _ ⟨a0, a1, b0, b1, ne⟩ (x, y)⟩, fun _ => ⟨g, ps ++ [(b, a)], rfl, by omega, ll _, fun x y => nx _ ⟨b0, b1, a0, a1, fun e => ne e.symm⟩ (x, y)⟩⟩
  · rintro pre s h ⟨g, ps, x, y, z, u, rfl, rfl, hc, hl, hk⟩
    refine hold ?_
    try simp at hc
    simp
    refine lc_map' (fun x => D.tup [x, .bl true]) stays_watch (fun x hx => ?_) ?_
    · obtain ⟨p, hp, rfl⟩ := List.mem_map.mp hx
      simp [ov]
    · have e1 : (ps.map ov).map (fun x => D.tup [x, .bl true]) = ps.map fun p => D.tup [ov p, .bl true] := by rw [List.map_map]; rfl
      have e2 := each_ov ps
      rw [e1]
      simp [opDictT, e2]
      obtain ⟨p1, p2, p3⟩ := putAll_spec (prs := ps.map fun p => (kov p, D.bl true)) (S := fun ks => ∃ p, ks = kov p ∧ OKP c p) (fun q hq => by
        obtain ⟨p, hp, rfl⟩ := List.mem_map.mp hq
        exact ⟨p, rfl, hk p hp⟩)
      rw [List.length_map] at p3
      generalize putAll (ps.map fun p => (kov p, D.bl true)) = L at p1 p2 p3
      obtain ⟨qs, e3, n3, k3, l3⟩ := keys_ov p2 p1
      obtain ⟨os, e4, o4, n4⟩ := sort_ov n3 k3 (by omega)
      have e5 : opSorted (g.box :: (r ++ [.lst (ps.map ov)])) (.fdt (L.map fun x => x.1) (L.map fun x => x.2)) = some (.fl (os.map ov)) := by
        unfold opSorted keysD dictOf
        have z : (L.map fun x => x.1).zip (L.map fun x => x.2) = L := by rw [List.zip_map']; simp
        have so : sortOk (qs.map ov) = true := by
          refine sortOk_ints (fun x m => ?_) (by rw [List.length_map]; omega)
          obtain ⟨p, _, rfl⟩ := List.mem_map.mp m
          exact ⟨rfl, by simp [ov]⟩
        show (if sortOk (((L.map fun x => x.1).zip (L.map fun x => x.2)).map fun p => D.tup (p.1.map keyD)) = true then _ else _) = _
        rw [z, e3, if_pos so, e4]
      rw [e5]
      simp
      exact HZ.mk1 (good_under (n := 2) (ov_good (n := 0))) (k os g o4 n4)
end K40
set_option Elab.async false
set_option linter.all false
set_option maxRecDepth 100000
set_option maxHeartbeats 1000000
namespace K40
open PySem DM
/-! ### a plan that the law draws -/
theorem perm_ints {x : List D} {ns : List Int} (p : x.Perm (ns.map D.int)) : ∃ ms : List Int, x = ms.map D.int ∧ ms.Perm ns := by
  have un : ∀ l : List D, (∀ x ∈ l, ∃ i : Int, x = .int i) → ∃ ms : List Int, l = ms.map D.int := by
    intro l
    induction l with
    | nil => exact fun _ => ⟨[], rfl⟩
    | cons x l ih =>
      intro h
      obtain ⟨i, rfl⟩ := h x (List.mem_cons_self ..)
      obtain ⟨ms, e⟩ := ih fun y m => h y (List.mem_cons_of_mem _ m)
      exact ⟨i :: ms, by rw [e]; rfl⟩
  obtain ⟨ms, rfl⟩ := un x fun y hy => by
    obtain ⟨i, _, rfl⟩ := List.mem_map.mp (p.mem_iff.mp hy)
    exact ⟨i, rfl⟩
  refine ⟨ms, rfl, ?_⟩
  have q := p.map (fun d : D => match d with | .int i => i | _ => 0)
  rw [List.map_map, List.map_map] at q
  have i1 : ∀ l : List Int, l.map ((fun d : D => match d with | .int i => i | _ => 0) ∘ D.int) = l := fun l => by
    induction l with
    | nil => rfl
    | cons i l ih => rw [List.map_cons, ih]; rfl
  rw [i1, i1] at q
  exact q
/-- numbers once, sorted: they ascend -/
theorem sort_nd {ns : List Int} (nd : ns.Nodup) : ∃ ms : List Int, sortD (ns.map D.int) = ms.map D.int ∧ ms.Perm ns ∧ ms.Pairwise (· < ·) := by
  obtain ⟨ms, e, p, a⟩ := sort_zs ns
  refine ⟨ms, e, p, ?_⟩
  have q : ms.Nodup := (p.nodup_iff).mpr nd
  refine (a.and q).imp ?_
  rintro x y ⟨h1, h2⟩
  omega
theorem sort_lot {c : Int} {ns : List Int} (nd : ns.Nodup) (h : ∀ x ∈ ns, 0 ≤ x ∧ x < c) : ∃ ms : List Int, sortD (ns.map D.int) = ms.map D.int ∧ ms.Perm ns ∧ Lot c ms := by
  obtain ⟨ms, e, p, a⟩ := sort_nd nd
  exact ⟨ms, e, p, a, fun x hx => h x (p.mem_iff.mp hx)⟩
theorem filt_less {ws dug d : List Int} (nw : ws.Nodup) (nd : d.Nodup) (h : ∀ x ∈ d, x ∈ ws ∧ x ∉ dug) : (ws.filter fun x => !decide (x ∈ dug ++ d)).length + d.length ≤ (ws.filter fun x => !decide (x ∈ dug)).length := by
  rw [← List.length_append]
  refine nodup_len ?_ ?_
  · rw [List.nodup_append]
    refine ⟨List.Pairwise.filter _ nw, nd, ?_⟩
    intro a ha b hb e
    subst e
    have := (List.mem_filter.mp ha).2
    simp at this
    exact this.2 hb
  · intro x hx
    rcases List.mem_append.mp hx with hx | hx
    · have := List.mem_filter.mp hx
      simp at this
      exact List.mem_filter.mpr ⟨this.1, by simp [this.2.1]⟩
    · exact List.mem_filter.mpr ⟨(h x hx).1, by simp [(h x hx).2]⟩
theorem un_ints {n : Nat} (l : List Int) : unders n (l.map D.int) = true := by
  rw [unders_all, List.all_map, List.all_eq_true]
  intro x _
  simp
theorem dy_g {n : Nat} {d : List Int} : good (n + 1) (dy d) = true := ints_good
theorem under_plan {n : Nat} (days : List (List Int)) : D.under n (.tup (days.map dy)) = true := by
  refine good_under (n := 2) ?_
  rw [good_tup, List.all_map, List.all_eq_true]
  intro x _
  exact dy_g
theorem wp_own_plan {c cr : Int} {os : List (Int × Int)} {ws : List Int} {g : Hand} {r : HD} {P : D → HD → Prop} {X : Xn → HD → Prop} (c2 : c ≤ 16) (k1 : 1 ≤ cr) (k2 : cr ≤ 4) (hw : Lot c ws) (hr : Fine r)
    (k : ∀ (days : List (List Int)) (g' : Hand), (∀ d ∈ days, Lot c d ∧ d ≠ []) → days.length ≤ 16 → P (.tup (days.map dy)) (g'.box :: r)) :
    (M_u_law_own_plan [.ref 0, .tup (os.map ov), .int cr, .tup (ws.map D.int)] (g.box :: r)).wp P X := by
  have nw : ws.Nodup := hw.asc.imp fun h e => by omega
  have lw : ws.length ≤ 16 := by have := lot_len hw; omega
  have hL : LIM = 16777216 := rfl
  refine wp_fnZ hr rfl ?_
  unfold B_u_law_own_plan
  simp [-o_seq, o_seqH]
  refine hold ?_
  simp [-o_seq, o_seqH]
  refine lc_in (fun a => !os.any fun p => decide (p.2 = a)) (fun a => .int a) (fun a ha => ?_) ?_
  · simp
    refine lc_ov (fun _ => true) (fun p => .bl (decide (p.2 = a))) (fun p hp => ?_) ?_
    · simp
    · simp
  · refine hold ?_
    simp [-o_seq, o_seqH]
    refine while_wp (I := fun m s h => ∃ (g : Hand) (dug rd : List Int) (days : List (List Int)) (x y z : Option D), m = (ws.filter fun x => !decide (x ∈ dug)).length ∧ h = g.box :: (r ++ [.lst (days.map dy)]) ∧
      s = [some (.ref 0), some (.tup (os.map ov)), some (.int cr), some (.tup (ws.map D.int)), some (.fl (dug.map D.int)), some (.ref (r.length + 1)), some (.fl (rd.map D.int)), x, y, z, none, none, none] ∧
      rd.Nodup ∧ (∀ x ∈ rd, x ∈ ws ∧ x ∉ dug) ∧ (∀ d ∈ days, Lot c d ∧ d ≠ []) ∧ days.length + m ≤ 16 ∧ dug.length + m ≤ 16) (ws.filter fun x => !decide (x ∈ ([] : List Int))).length ?_ ⟨g, [], ws.filter (fun a => !os.any fun p => decide (p.2 = a)), [], none, none, none, rfl, by simp, by simp, ?_, ?_, ?_, ?_, ?_⟩ ?_
    · have := List.length_filter_le (fun x => !decide (x ∈ ([] : List Int))) ws
      omega
    · exact List.Pairwise.filter _ nw
    · exact fun x hx => ⟨(List.mem_filter.mp hx).1, by simp⟩
    · exact fun _ m => nomatch m
    · have := List.length_filter_le (fun x => !decide (x ∈ ([] : List Int))) ws
      simp only [List.length_nil]
      omega
    · have := List.length_filter_le (fun x => !decide (x ∈ ([] : List Int))) ws
      simp only [List.length_nil]
      omega
    · rintro m s h ⟨g, dug, rd, days, x, y, z, rfl, rfl, rfl, nr, hrd, hd, l1, l2⟩
      have lr : rd.length ≤ 16 := by
        have := nodup_len nr fun x hx => (hrd x hx).1
        omega
      have ud : ∀ days : List (List Int), (Fine (r ++ [.lst (days.map dy)])) := fun days => fine_app hr (by
        show unders _ (days.map dy) = true
        rw [unders_all, List.all_map, List.all_eq_true]
        intro p _
        exact good_under (ints_good (n := 0)))
      simp
      refine ⟨fun h0 => ?_, fun h0 => ?_⟩
      · refine wp_draw (by split <;> omega) (by split <;> omega) (ud days) fun v g v0 v1 => ?_
        simp
        refine wp_mixed (by rw [List.length_map]; omega) (un_ints _) (ud days) fun m g p => ?_
        obtain ⟨ms, rfl, pm⟩ := perm_ints p
        have sub : ∀ x ∈ ms.take (1 + v).toNat, x ∈ rd := fun x hx => pm.mem_iff.mp (List.mem_of_mem_take hx)
        have tn : (ms.take (1 + v).toNat).Nodup := List.Nodup.sublist (List.take_sublist ..) ((pm.nodup_iff).mpr nr)
        obtain ⟨d, ed, pd, ldd⟩ := sort_lot (c := c) tn fun x hx => hw.rg x (hrd x (sub x hx)).1
        have so : sortOk ((ms.take (1 + v).toNat).map D.int) = true := sortOk_zs (by
          have := pm.length_eq
          rw [List.length_take]
          omega)
        have lpm := pm.length_eq
        have ldl : d.length ≤ 16 := by have := lot_len ldd; omega
        have dne : d ≠ [] := by
          rintro rfl
          have := pd.length_eq
          rw [List.length_take] at this
          simp at this
          omega
        have dsub : ∀ x ∈ d, x ∈ ws ∧ x ∉ dug := fun x hx => hrd x (sub x (pd.mem_iff.mp hx))
        have dnd : d.Nodup := (pd.nodup_iff).mpr tn
        have less := filt_less nw dnd dsub
        have dpos : 0 < d.length := List.length_pos_iff.mpr dne
        simp [cut_to (show 0 ≤ 1 + v by omega), ← List.map_take, so, ed]
        rw [w_app (l := days.map dy) (by simp) (by rw [List.length_map]; omega)]
        simp
        refine ⟨fun _ => ?_, by omega⟩
        rw [show days.map dy ++ [D.tup (d.map D.int)] = (days ++ [d]).map dy from by simp [dy], ← List.map_append]
        refine lc_in (fun a => !decide (a ∈ dug ++ d)) (fun a => .int a) (fun a ha => ?_) ?_
        · simp
          rw [notin_ints (ns := dug ++ d) (by simp)]
          simp
        · refine lc_in (fun a => !os.any fun p => decide (p.2 = a) && !decide (p.1 ∈ dug ++ d)) (fun a => .int a) (fun a ha => ?_) ?_
          · simp
            refine lc_ov (fun _ => true) (fun p => .bl (decide (p.2 = a) && !decide (p.1 ∈ dug ++ d))) (fun p hp => ?_) ?_
            · simp
              rw [notin_ints (ns := dug ++ d) (by simp)]
              by_cases e : p.2 = a <;> simp [e]
            · simp
          · refine ⟨_, ?_, g, dug ++ d, rfl, ((ws.filter fun a => !decide (a ∈ dug ++ d)).filter fun a => !os.any fun p => decide (p.2 = a) && !decide (p.1 ∈ dug ++ d)), days ++ [d], rfl, ⟨rfl, rfl⟩, ?_, ?_, ?_, ?_, ?_⟩
            · omega
            · exact List.Pairwise.filter _ (List.Pairwise.filter _ nw)
            · intro x hx
              have h1 := (List.mem_filter.mp hx).1
              have h2 := List.mem_filter.mp h1
              exact ⟨h2.1, by simpa using h2.2⟩
            · intro x hx
              rcases List.mem_append.mp hx with hx | hx
              · exact hd x hx
              · rw [List.mem_singleton.mp hx]; exact ⟨ldd, dne⟩
            · rw [List.length_append, List.length_singleton]
              omega
            · rw [List.length_append]
              omega
      · refine hold ?_
        simp
        exact HZ.mk1 (under_plan _) (k days g hd (by omega))
end K40
set_option Elab.async false
set_option linter.all false
set_option maxRecDepth 100000
set_option maxHeartbeats 1000000
namespace K40
open PySem DM
/-! ### a plan bent -/
def G (n : Nat) (l : List D) : Prop := (∀ x ∈ l, good 2 x = true) ∧ l.length ≤ n
def Th (d : D) : Prop := thg 3 d = true ∧ ∀ l, d = .tup l → l.length ≤ 100
theorem G.app {n m : Nat} {l k : List D} (a : G n l) (b : G m k) : G (n + m) (l ++ k) := by
  refine ⟨fun x hx => ?_, by have := a.2; have := b.2; simp; omega⟩
  rcases List.mem_append.mp hx with h | h
  · exact a.1 x h
  · exact b.1 x h
theorem G.cut {n : Nat} {l : List D} (a : G n l) (p q : Option Int) : G n (cut l p q) := by
  unfold DM.cut
  refine ⟨fun x hx => a.1 x (List.mem_of_mem_drop (List.mem_of_mem_take hx)), ?_⟩
  have := a.2
  simp
  omega
theorem G.one {x : D} (h : good 2 x = true) : G 1 [x] := ⟨fun y hy => by rw [List.mem_singleton.mp hy]; exact h, by simp⟩
theorem G.cons {n : Nat} {x : D} {l : List D} (h : good 2 x = true) (a : G n l) : G (n + 1) (x :: l) := by
  refine ⟨fun y hy => ?_, by have := a.2; simp; omega⟩
  rcases List.mem_cons.mp hy with rfl | hy
  · exact h
  · exact a.1 y hy
theorem G.rev {n : Nat} {l : List D} (a : G n l) : G n l.reverse := ⟨fun x hx => a.1 x (List.mem_reverse.mp hx), by have := a.2; simp; omega⟩
theorem G.th {n : Nat} {l : List D} (a : G n l) (h : n ≤ 100) : Th (.tup l) ∧ good 3 (.tup l) = true := by
  have g : good 3 (.tup l) = true := by rw [good_tup, List.all_eq_true]; exact a.1
  refine ⟨⟨thg_good g, ?_⟩, g⟩
  rintro m e
  injection e with e
  have := a.2
  rw [← e]; omega
theorem good_th {d : D} (g : good 3 d = true) (h : ∀ l, d ≠ .tup l) : Th d := ⟨thg_good g, fun l e => absurd e (h l)⟩
theorem int_g {n : Nat} {l : List Int} {x : D} (h : x ∈ l.map D.int) : good n x = true := by
  obtain ⟨i, _, rfl⟩ := List.mem_map.mp h
  simp
theorem ints_g {n : Nat} {l : List D} (h : ∀ x ∈ l, good n x = true) : good (n + 1) (.tup l) = true := by
  rw [good_tup, List.all_eq_true]; exact h
theorem dy_G {days : List (List Int)} (h : days.length ≤ 16) : G 16 (days.map dy) := by
  refine ⟨fun x hx => ?_, by simpa using h⟩
  obtain ⟨d, _, rfl⟩ := List.mem_map.mp hx
  exact ints_good
/-- layers that bend -/
def lays (c : Int) : List D := rng c ++ [.int c, .int (-1), .bl true, .non, .str "0"]
theorem lays_g {c : Int} : ∀ x ∈ lays c, good 1 x = true := by
  intro x hx
  rcases List.mem_append.mp hx with h | h
  · obtain ⟨i, _, rfl⟩ := List.mem_map.mp h
    simp
  · simp at h
    rcases h with rfl | rfl | rfl | rfl | rfl <;> simp
theorem lays_len {c : Int} (h : c ≤ 16) : (lays c).length ≤ 21 := by simp [lays, rng]; omega
theorem un_good {n m : Nat} {l : List D} (h : ∀ x ∈ l, good n x = true) : unders m l = true := by
  rw [unders_all, List.all_eq_true]
  exact fun x hx => good_under (h x hx)
def tailB : SM :=
  sSeq (sSet 11 (eBx (lComp [12] (iIt (eVar 2)) (.nm 12) (tYes) (eUn opTuple (eFz (lComp [13] (iIt (eVar 12)) (.nm 13) (tBin cNe (eVar 13) (eBin opIx (eVar 7) (eC (.int 0)))) (eVar 13)))))))
  (sSeq (sAsg (gSb (eVar 11) (eVar 9)) (eUn opTuple (eUn opSrt (eBin opAdd (eBin opIx (eVar 11) (eVar 9)) (eSl (eVar 7) none (some (eC (.int 1))))))))
  (sRet (eUn opTuple (eFz (lComp [12] (iIt (eVar 11)) (.nm 12) (tOr (tBin cGt (eUn opLen (eVar 12)) (eC (.int 0))) (tBin cEq (eCall M_u_law_draw (aCons (eVar 0) (aCons (eC (.int 4)) (aNil)))) (eC (.int 0)))) (eVar 12))))))
theorem lc_dy {s : SD} {pt : Pat} {e : EM} {own : List Nat} {h : HD} {P : List D → HD → Prop} {X : Xn → HD → Prop} {days : List (List Int)} (F : List Int → D)
    (k : ∀ d ∈ days, wpo (pt.set (.tup (d.map D.int)) (wipeD s own)) fun s1 => (e s1 h).wp (fun y h2 => h2 = h ∧ y = F d) NX) (q : P (days.map F) h) :
    (lcGo s pt tYes e own [] (days.map dy) h []).wp P X := by
  have un : ∀ d : List Int, (d.map D.int).map (fun x => match x with | .int i => i | _ => 0) = d := fun d => by
    induction d with
    | nil => rfl
    | cons i d ih => rw [List.map_cons, List.map_cons, ih]
  refine lc_map' (fun x => match x with | .tup l => F (l.map fun x => match x with | .int i => i | _ => 0) | _ => .non) rfl (fun x hx => ?_) ?_
  · obtain ⟨d, hd, rfl⟩ := List.mem_map.mp hx
    show wpo (pt.set (.tup (d.map D.int)) (wipeD s own)) fun s1 => (e s1 h).wp (fun y h2 => h2 = h ∧ y = F ((d.map D.int).map fun x => match x with | .int i => i | _ => 0)) NX
    rw [un d]
    exact k d hd
  · rw [List.map_map]
    have : (days.map ((fun x => match x with | .tup l => F (l.map fun x => match x with | .int i => i | _ => 0) | _ => D.non) ∘ dy)) = days.map F := by
      refine List.map_congr_left fun d _ => ?_
      show F ((d.map D.int).map fun x => match x with | .int i => i | _ => 0) = F d
      rw [un d]
    rw [this]
    exact q
theorem wp_tail {c at' to : Int} {layer kd : D} {d : List Int} {days : List (List Int)} {g : Hand} {r : HD} {P : D → HD → Prop} (hd : ∀ d ∈ days, Lot c d ∧ d ≠ []) (ld : days.length ≤ 16) (hr : Fine r) (dne : d ≠ []) (c2 : c ≤ 16) (t0 : 0 ≤ to) (t1 : to < days.length)
    (fin : ∀ {n : Nat} {l : List D} {g : Hand} {x : HD}, n ≤ 100 → G n l → HZ r P (.tup l) (g.box :: (r ++ x))) :
    (tailB [some (.ref 0), some (.int c), some (.tup (days.map dy)), some kd, some (.int at'), some layer, none, some (.tup (d.map D.int)), none, some (.int to), none, none, none, none] (g.box :: r)).wp (fun x h1 => HZ r P .non h1) (fun d h1 => HZ r P d h1) (fun _ _ _ => False) := by
  unfold tailB
  have hL : LIM = 16777216 := rfl
  cases d with
  | nil => exact absurd rfl dne
  | cons d0 dr =>
  simp [-o_seq, o_seqH]
  refine lc_dy (fun w => dy (w.filter fun i => !decide (i = d0))) (fun w hw => ?_) ?_
  · simp
    refine lc_in (fun i => !decide (i = d0)) (fun i => .int i) (fun i hi => ?_) ?_
    · simp
    · exact ⟨rfl, rfl⟩
  · refine hold ?_
    have eW : (days.map fun w => dy (w.filter fun i => !decide (i = d0))) = (days.map fun w => w.filter fun i => !decide (i = d0)).map dy := by rw [List.map_map]; rfl
    have lW : (days.map fun w => w.filter fun i => !decide (i = d0)).length = days.length := List.length_map ..
    have sW : ∀ w ∈ days.map fun w => w.filter fun i => !decide (i = d0), w.length ≤ 16 := fun w hw => by
      obtain ⟨v, hv, rfl⟩ := List.mem_map.mp hw
      have h1 := lot_len (hd v hv).1
      have h2 := List.length_filter_le (fun i => !decide (i = d0)) v
      omega
    rw [eW]
    generalize (days.map fun w => w.filter fun i => !decide (i = d0)) = W at lW sW
    obtain ⟨x, hx, ex⟩ := atI_in (l := W.map dy) t0 (by rw [List.length_map, lW]; exact t1)
    obtain ⟨w, hw, rfl⟩ := List.mem_map.mp hx
    have ew : atI (W.map dy) to = some (.tup (w.map D.int)) := ex
    have lw := sW w hw
    obtain ⟨ms, em, pm, _⟩ := sort_zs (w ++ [d0])
    have so : sortOk (w.map D.int ++ [D.int d0]) = true := by
      have := sortOk_zs (ns := w ++ [d0]) (by rw [List.length_append, hL]; simp; omega)
      rwa [List.map_append] at this
    rw [List.map_append] at em
    have em : sortD (w.map D.int ++ [D.int d0]) = ms.map D.int := em
    have ix : ixOf to W.length = some to.toNat := by unfold ixOf; rw [if_pos t0, if_pos (by omega)]
    have m1 : w.length + 1 ≤ LIM := by omega
    simp [-o_seq, o_seqH, ew, so, em, ix, m1]
    refine hold ?_
    have es : (W.map dy).set to.toNat (.tup (ms.map D.int)) = (W.set to.toNat ms).map dy := by rw [List.map_set]; rfl
    rw [es]
    have l2 : (W.set to.toNat ms).length = days.length := by rw [List.length_set, lW]
    generalize W.set to.toNat ms = V at l2
    simp
    refine lc_wp (I := fun pre post h acc => (∃ g, h = Hand.box g :: (r ++ [.lst (V.map dy)])) ∧ pre ++ post = V.map dy ∧ acc.length ≤ pre.length ∧ ∀ y ∈ acc, good 2 y = true) _ [] _ [] ⟨⟨g, rfl⟩, rfl, by simp, fun _ m => nomatch m⟩ ?_ ?_
    · rintro pre x post h acc ⟨⟨g, rfl⟩, hs, la, ha⟩
      have hx : x ∈ V.map dy := by rw [← hs]; simp
      obtain ⟨v, hv, rfl⟩ := List.mem_map.mp hx
      have nx : ∀ y ∈ acc ++ [dy v], good 2 y = true := fun y hy => by
        rcases List.mem_append.mp hy with h | h
        · exact ha y h
        · rw [List.mem_singleton.mp h]; exact dy_g
      have ev : dy v = .tup (v.map D.int) := rfl
      have fV : Fine (r ++ [.lst (V.map dy)]) := fine_app hr (by
        show unders _ (V.map dy) = true
        rw [unders_all, List.all_map, List.all_eq_true]
        intro p _
        exact good_under (ints_good (n := 0)))
      have st : ∀ g g' : Hand, stays (g.box :: (r ++ [.lst (V.map dy)])) (watchOf (g'.box :: (r ++ [.lst (V.map dy)])) (.ref (r.length + 1))) = true := fun g g' => by
        have : watchOf (g'.box :: (r ++ [.lst (V.map dy)])) (.ref (r.length + 1)) = watchOf (g.box :: (r ++ [.lst (V.map dy)])) (.ref (r.length + 1)) := rfl
        rw [this]
        exact stays_watch
      rw [ev]
      simp
      have hs2 : pre ++ D.tup (v.map D.int) :: post = V.map dy := hs
      have nx2 : ∀ y, y ∈ acc ∨ y = D.tup (v.map D.int) → good 2 y = true := fun y hy => by
        rcases hy with h | h
        · exact ha y h
        · rw [h]; exact ints_good
      refine ⟨fun _ => ⟨st _ _, ⟨g, rfl⟩, hs2, la, nx2⟩, fun e => ?_⟩
      refine wp_draw (by omega) (by omega) fV fun a g a0 a1 => ?_
      simp
      exact ⟨fun _ => ⟨st _ _, ⟨g, rfl⟩, hs2, la, nx2⟩, fun _ => ⟨st _ _, ⟨g, rfl⟩, hs2, by omega, ha⟩⟩
    · rintro pre h acc ⟨⟨g, rfl⟩, hs, la, ha⟩
      refine fin (n := 16) (by omega) ⟨ha, ?_⟩
      have : (pre ++ []).length = (V.map dy).length := congrArg List.length hs
      rw [List.append_nil, List.length_map] at this
      omega
theorem wp_bent {c : Int} {days : List (List Int)} {g : Hand} {r : HD} {P : D → HD → Prop} {X : Xn → HD → Prop} (c1 : 1 ≤ c) (c2 : c ≤ 16) (hd : ∀ d ∈ days, Lot c d ∧ d ≠ []) (ld : days.length ≤ 16) (hr : Fine r)
    (k : ∀ (d : D) (g' : Hand), Th d → P d (g'.box :: r)) : (M_u_law_bent [.ref 0, .int c, .tup (days.map dy)] (g.box :: r)).wp P X := by
  have hL : LIM = 16777216 := rfl
  have gd := dy_G ld
  have fin : ∀ {n : Nat} {l : List D} {g : Hand} {x : HD}, n ≤ 100 → G n l → HZ r P (.tup l) (g.box :: (r ++ x)) := fun hn a => HZ.mk1 (good_under (a.th hn).2) (k _ _ (a.th hn).1)
  have fin0 : ∀ {n : Nat} {l : List D} {g : Hand}, n ≤ 100 → G n l → HZ r P (.tup l) (g.box :: r) := fun hn a => HZ.mk0 (good_under (a.th hn).2) (k _ _ (a.th hn).1)
  refine wp_fnZ hr rfl ?_
  unfold B_u_law_bent
  simp [-o_seq, o_seqH]
  refine wp_draw (by omega) (by omega) hr fun kind g k0 k1 => ?_
  refine wp_draw (by split <;> omega) (by split <;> omega) hr fun at' g a0 a1 => ?_
  refine hold ?_
  simp [-o_seq, o_seqH]
  rw [range_0 (by omega) (by omega)]
  simp [-o_seq, o_seqH]
  refine ⟨fun _ => ?_, by omega⟩
  refine wp_any (l := lays c) (by simp [lays]) (by have := lays_len c2; omega) (un_good lays_g) hr fun layer hla g => ?_
  have gl := lays_g layer hla
  have xl := good_ex' gl
  have plg : ∀ {n : Nat} {l : List D}, n ≤ 100 → G n l → Th (.tup l) ∧ good 3 (.tup l) = true := fun h a => a.th h
  have fr : Fine (r ++ [.dk []]) := fine_app hr rfl
  have B : ∀ g : Hand, (M_u_law_any [.ref 0, .fl [.fl (days.map dy), .tup (days.map dy ++ [.tup []]), .tup (days.map dy ++ [.tup [layer]]), .non, .int 0, .str "", .ref (r.length + 1), .tup (days.map dy).reverse, .tup (days.map dy ++ (days.map dy).take 1)]] (g.box :: (r ++ [.dk []]))).wp (fun d h1 => HZ r P d h1) (fun _ _ => False) := by
    intro g
    have each : ∀ x ∈ [D.fl (days.map dy), .tup (days.map dy ++ [.tup []]), .tup (days.map dy ++ [.tup [layer]]), .non, .int 0, .str "", .ref (r.length + 1), .tup (days.map dy).reverse, .tup (days.map dy ++ (days.map dy).take 1)], x = .ref (r.length + 1) ∨ (good 3 x = true ∧ Th x) := by
      intro x hx
      simp only [List.mem_cons, List.mem_nil_iff, or_false] at hx
      have fw : ∀ {x : D}, Th x ∧ good 3 x = true → x = .ref (r.length + 1) ∨ (good 3 x = true ∧ Th x) := fun h => .inr ⟨h.2, h.1⟩
      have nt : ∀ {x : D}, good 3 x = true → (∀ l, x ≠ .tup l) → x = .ref (r.length + 1) ∨ (good 3 x = true ∧ Th x) := fun h n => .inr ⟨h, good_th h n⟩
      rcases hx with rfl | rfl | rfl | rfl | rfl | rfl | rfl | rfl | rfl
      · exact nt (by rw [good_fl, List.all_eq_true]; exact gd.1) (fun l e => by cases e)
      · exact fw (plg (by omega) (gd.app (.one (by simp))))
      · exact fw (plg (by omega) (gd.app (.one (by simp [gl]))))
      · exact nt (by simp) (fun l e => by cases e)
      · exact nt (by simp) (fun l e => by cases e)
      · exact nt (by simp) (fun l e => by cases e)
      · exact .inl rfl
      · exact fw (plg (by omega) gd.rev)
      · refine fw (plg (n := 16 + 16) (by omega) (gd.app ⟨fun x hx => gd.1 x (List.mem_of_mem_take hx), ?_⟩))
        rw [List.length_take]
        have := gd.2
        omega
    have ul : unders ((r ++ [O.dk []]).length + 1) [D.fl (days.map dy), .tup (days.map dy ++ [.tup []]), .tup (days.map dy ++ [.tup [layer]]), .non, .int 0, .str "", .ref (r.length + 1), .tup (days.map dy).reverse, .tup (days.map dy ++ (days.map dy).take 1)] = true := by
      rw [unders_all, List.all_eq_true]
      intro x hx
      rcases each x hx with rfl | ⟨h1, _⟩
      · simp
      · exact good_under h1
    refine wp_any (Nat.succ_pos _) (show 9 < 1073741824 by omega) ul fr fun x hx g3 => ?_
    rcases each x hx with rfl | ⟨h1, h2⟩
    · exact HZ.dk (x := []) (k _ _ ⟨rfl, fun l e => by cases e⟩)
    · exact HZ.mk1 (x := [.dk []]) (good_under h1) (k _ _ h2)
  refine hold ?_
  by_cases hz : days = [] ∨ kind = 0
  · have e : (days = [] ∨ kind = 0) := hz
    simp [-o_seq, o_seqH, xl]
    have mm : days.length + min 1 days.length ≤ LIM := by omega
    have mp : days.length + 1 ≤ LIM := by omega
    refine ⟨fun _ => ⟨fun _ => ⟨fun _ => ⟨fun _ => hold ?_, mm⟩, mp⟩, mp⟩, fun h1 => ⟨fun _ => ⟨fun _ => ⟨fun _ => ⟨fun _ => hold ?_, mm⟩, mp⟩, mp⟩, fun h2 => absurd hz (by simp [h1, h2])⟩⟩
    · simp
      exact B g
    · simp
      exact B g
  · have z1 : ¬ days = [] := fun e => hz (.inl e)
    have z2 : ¬ kind = 0 := fun e => hz (.inr e)
    simp [-o_seq, o_seqH, xl, z1, z2]
    refine hold ?_
    have a1' : at' < (days.map dy).length := by
      have : 0 < days.length := List.length_pos_iff.mpr z1
      rw [List.length_map]
      split at a1 <;> omega
    obtain ⟨x, hx, ex⟩ := atI_in a0 a1'
    obtain ⟨d, hdm, rfl⟩ := List.mem_map.mp hx
    obtain ⟨ldd, dne⟩ := hd d hdm
    have gdd : ∀ {n : Nat}, good (n + 1) (dy d) = true := dy_g
    have lw : d.length ≤ 16 := by have := lot_len ldd; omega
    have lp : 0 < days.length := List.length_pos_iff.mpr z1
    have ey : atI (days.map dy) at' = some (.tup (d.map D.int)) := ex
    have gA : G 16 (cut (days.map dy) none (some at')) := gd.cut _ _
    have gC : G 16 (cut (days.map dy) (some (at' + 1)) none) := gd.cut _ _
    have lA := gA.2
    have lC := gC.2
    have gE : ∀ p q, ∀ x ∈ cut (d.map D.int) p q, good 1 x = true := fun p q x hx => int_g (List.mem_of_mem_drop (List.mem_of_mem_take hx))
    have lE : (cut (d.map D.int) (some (-1)) none).length ≤ 16 := by
      unfold cut
      simp
      omega
    have m1 : d.length + 1 ≤ LIM := by omega
    have m2 : 1 + (d.length - 1) ≤ LIM := by omega
    have m3 : d.length + (cut (d.map D.int) (some (-1)) none).length ≤ LIM := by omega
    have mA : (cut (days.map dy) none (some at')).length + 1 ≤ LIM := by omega
    have mC : (cut (days.map dy) none (some at')).length + 1 + (cut (days.map dy) (some (at' + 1)) none).length ≤ LIM := by omega
    have mD : (cut (days.map dy) none (some at')).length + (cut (days.map dy) (some (at' + 1)) none).length ≤ LIM := by omega
    have put : ∀ {x : D} {g : Hand}, good 2 x = true → HZ r P (.tup (cut (days.map dy) none (some at') ++ x :: cut (days.map dy) (some (at' + 1)) none)) (g.box :: r) := fun h => fin0 (n := 16 + (16 + 1)) (by omega) (gA.app (.cons h gC))
    simp [-o_seq, o_seqH, ey]
    refine hold ?_
    by_cases q1 : kind = 1
    · subst q1
      simp [-o_seq, o_seqH]
      exact ⟨fun _ => fin0 (n := 16 + 16) (by omega) (gA.app gC), by omega⟩
    simp [-o_seq, o_seqH, q1]
    refine hold ?_
    by_cases q2 : kind = 2
    · subst q2
      simp [-o_seq, o_seqH]
      simp [mA, mC]
      exact put (ints_g fun x hx => int_g (List.mem_of_mem_tail hx))
    simp [-o_seq, o_seqH, q2]
    refine hold ?_
    by_cases q3 : kind = 3
    · subst q3
      simp [-o_seq, o_seqH, xl, m1, m2, m3]
      refine hold ?_
      simp [mA, mC]
      have all : ∀ x ∈ [D.tup (d.map D.int ++ [layer]), D.tup (layer :: (d.map D.int).tail), D.tup (d.map D.int).reverse, D.fl (d.map D.int), D.tup [], D.tup (d.map D.int ++ cut (d.map D.int) (some (-1)) none), layer, D.tup [D.tup (d.map D.int)]], good 2 x = true := by
        intro x hx
        simp only [List.mem_cons, List.mem_nil_iff, or_false] at hx
        have ap : ∀ {l k : List D}, (∀ x ∈ l, good 1 x = true) → (∀ x ∈ k, good 1 x = true) → good 2 (.tup (l ++ k)) = true := fun h1 h2 => ints_g fun x hx => by
          rcases List.mem_append.mp hx with h | h
          · exact h1 x h
          · exact h2 x h
        have on : ∀ x ∈ [layer], good 1 x = true := fun x hx => by rw [List.mem_singleton.mp hx]; exact gl
        have ig : ∀ x ∈ d.map D.int, good 1 x = true := fun x hx => int_g hx
        rcases hx with rfl | rfl | rfl | rfl | rfl | rfl | rfl | rfl
        · exact ap ig on
        · exact ap (l := [layer]) on fun x hx => int_g (List.mem_of_mem_tail hx)
        · exact ints_g fun x hx => int_g (List.mem_reverse.mp hx)
        · rw [good_fl, List.all_eq_true]; exact ig
        · rfl
        · exact ap ig (gE _ _)
        · exact good_mono (by omega) gl
        · exact ints_g fun x hx => by rw [List.mem_singleton.mp hx]; exact ints_good (n := 0)
      exact wp_any (Nat.succ_pos _) (show 8 < 1073741824 by omega) (un_good all) hr fun x hx g' => put (all x hx)
    simp [-o_seq, o_seqH, q3]
    refine hold ?_
    simp [-o_seq, o_seqH]
    refine wp_draw (by omega) (by omega) hr fun to g t0 t1 => ?_
    refine hold ?_
    by_cases q4 : kind < 6
    · simp [-o_seq, o_seqH, q4]
      refine ⟨fun _ => hold ?_, mD⟩
      have gR : G 32 (cut (days.map dy) none (some at') ++ cut (days.map dy) (some (at' + 1)) none) := gA.app gC
      generalize cut (days.map dy) none (some at') ++ cut (days.map dy) (some (at' + 1)) none = R at gR
      have g1 : G 32 (cut R none (some to)) := gR.cut _ _
      have g2 : G 32 (cut R (some to) none) := gR.cut _ _
      have l1 := g1.2
      have l2 := g2.2
      have u1 : (cut R none (some to)).length + 1 ≤ LIM := by omega
      have u2 : (cut R none (some to)).length + 1 + (cut R (some to) none).length ≤ LIM := by omega
      simp [u1, u2]
      exact fin0 (n := 32 + (32 + 1)) (by omega) (g1.app (.cons (gdd (n := 1)) g2))
    simp [-o_seq, o_seqH, q4]
    refine hold ?_
    have mv : ∀ kd : D, (tailB [some (.ref 0), some (.int c), some (.tup (days.map dy)), some kd, some (.int at'), some layer, none, some (.tup (d.map D.int)), none, some (.int to), none, none, none, none] (g.box :: r)).wp (fun x h1 => HZ r P .non h1) (fun d h1 => HZ r P d h1) (fun _ _ _ => False) :=
      fun kd => wp_tail hd ld hr dne c2 t0 t1 fin
    by_cases q5 : kind = 6
    · subst q5
      simp [-o_seq, o_seqH]
      refine ⟨fun lt => ?_, fun ge => ?_⟩
      · obtain ⟨y, hy, ey2⟩ := atI_in (l := days.map dy) (i := at' + 1) (by omega) (by rw [List.length_map]; omega)
        obtain ⟨e, em, rfl⟩ := List.mem_map.mp hy
        have ey3 : atI (days.map dy) (at' + 1) = some (.tup (e.map D.int)) := ey2
        have le : e.length ≤ 16 := by have := lot_len (hd e em).1; omega
        have so : sortOk (d.map D.int ++ e.map D.int) = true := by
          rw [← List.map_append]
          exact sortOk_zs (by rw [List.length_append]; omega)
        obtain ⟨ms, em, _, _⟩ := sort_zs (d ++ e)
        rw [List.map_append] at em
        have gS : G 16 (cut (days.map dy) (some (at' + 2)) none) := gd.cut _ _
        have lS := gS.2
        have m5 : d.length + e.length ≤ LIM := by omega
        have m6 : (cut (days.map dy) none (some at')).length + 1 + (cut (days.map dy) (some (at' + 2)) none).length ≤ LIM := by omega
        simp [ey3, so, em, m5, m6, mA]
        exact fin0 (n := 16 + (16 + 1)) (by omega) (gA.app (.cons (ints_good (n := 1)) gS))
      · exact hold (mv _)
    simp [-o_seq, o_seqH, q5]
    exact hold (mv _)
end K40
set_option Elab.async false
set_option linter.all false
set_option maxRecDepth 100000
set_option maxHeartbeats 1000000
namespace K40
open PySem DM
/-! ### a book known by hand -/
def bare (c : Int) (os : List (Int × Int)) : D := bk c os (rept [.tup [.non, .non]] c.toNat) []
theorem rept_mem {l : List D} {x : D} : ∀ {n : Nat}, x ∈ rept l n → x ∈ l := by
  intro n h
  unfold rept at h
  simp at h
  obtain ⟨l', ⟨_, h1⟩, h2⟩ := h
  rw [← h1]
  exact h2
theorem rept_len {x : D} {n : Nat} : (rept [x] n).length = n := by
  unfold rept
  simp
theorem bk_under {n : Nat} {c : Int} {os : List (Int × Int)} {dts ks : List D} (h1 : good 2 (.tup dts) = true) (h2 : good 2 (.tup ks) = true) : D.under n (bk c os dts ks) = true := by
  show unders n [.int c, .tup (os.map ov), .tup dts, .tup ks, .fdk [] []] = true
  rw [unds_cons, unds_cons, unds_cons, unds_cons, unds_cons, unds_nil, good_under (n := 2) (ov_good (n := 0)), good_under h1, good_under h2]
  simp
theorem bare_dts {c : Int} : good 2 (.tup (rept [.tup [.non, .non]] c.toNat)) = true := by
  rw [good_tup, List.all_eq_true]
  intro x hx
  have := rept_mem hx
  rw [List.mem_singleton.mp this]
  rfl
theorem r_bare {c : Int} {os : List (Int × Int)} (c1 : 1 ≤ c) (c2 : c ≤ 16) (o : OV c os) {h : HD} (ht : Tidy h) : M_u_law_bare [.int c, .tup (os.map ov)] h = .ok (bare c os) h := by
  refine eq_fnT rfl (bk_under bare_dts rfl) ?_
  unfold B_u_law_bare
  have q := r_Book (dts := rept [.tup [.non, .non]] c.toNat) (ks := []) c1 c2 o (fun d hd => .inl (by simpa using rept_mem hd)) (by rw [rept_len]; omega) (fun _ m => nomatch m) (by simp) ht
  simp
  refine ⟨fun _ _ => ?_, by omega, by omega⟩
  rw [q]
  exact ⟨rfl, rfl⟩
theorem need_val {os : List (Int × Int)} {ws ms : List Int} (p : ms.Perm (clo os 17 ws 0)) (a : ms.Pairwise (· ≤ ·)) : need os ws = ms.map D.int := by
  obtain ⟨ns, e, p2, a2⟩ := sort_zs (clo os 17 ws 0)
  unfold need
  rw [e, List.Perm.eq_of_pairwise (fun x y _ _ h1 h2 => Int.le_antisymm h1 h2) a2 a (p2.trans p.symm)]
theorem plan_val {c cr : Int} {os : List (Int × Int)} {dts ks : List D} {ws : List Int} {days : List (List Int)} {b : Bool} (hc : c ≤ 16) (hcr : inR 1 4 (.int cr) = true) (hw : Lot c ws) (hd : Days c cr days) (nd : days.flatten.Nodup) (ld : days.length ≤ 16) (eb : planB os ws days = b) (h : HD) :
    M_is_plan [bk c os dts ks, .int cr, .tup (ws.map D.int), .tup (days.map dy)] h = .ok (.bl b) h := by
  obtain ⟨b', e, q⟩ := (r_is_plan (n := 2) (os := os) (dts := dts) (ks := ks) hc hcr hw (G.th (dy_G ld) (by omega)).1.1 (G.th (dy_G ld) (by omega)).1.2 h).2 days rfl hd
  have : b' = b := by rw [← eb, Bool.eq_iff_iff, q, planB_iff nd]
  rw [e, this]
theorem Days.of {c cr : Int} {days : List (List Int)} (h : ∀ d ∈ days, d.Pairwise (· < ·) ∧ (∀ x ∈ d, 0 ≤ x ∧ x < c) ∧ 1 ≤ d.length ∧ (d.length : Int) ≤ cr) : Days c cr days := ⟨fun d hd => ⟨(h d hd).1, (h d hd).2.1⟩, fun d hd => (h d hd).2.2⟩
def f4 : D → D
  | .tup [_, _, _, x] => x
  | _ => .non
def os3 : List (Int × Int) := [(0, 1), (1, 2), (3, 2)]
theorem o3 : OV 5 os3 := ⟨by decide, by decide +kernel, by decide⟩
theorem r_known {h : HD} (ht : Tidy h) : M_u_law_known_right [] h = .ok (.bl true) h := by
  refine eq_fnT rfl rfl ?_
  unfold B_u_law_known_right
  have q0 : M_u_law_bare [.int 5, .tup [.tup [.int 0, .int 1], .tup [.int 1, .int 2], .tup [.int 3, .int 2]]] h = .ok (bare 5 os3) h := r_bare (c := 5) (by decide) (by decide) o3 ht
  have n1 := r_needed (c := 5) (os := os3) (dts := rept [.tup [.non, .non]] 5) (ks := []) (ws := [2]) (by decide) o3 (by decide) ⟨by decide, by decide⟩ h
  have n2 := r_needed (c := 5) (os := os3) (dts := rept [.tup [.non, .non]] 5) (ks := []) (ws := [1, 4]) (by decide) o3 (by decide) ⟨by decide, by decide⟩ h
  have n3 := r_needed (c := 5) (os := os3) (dts := rept [.tup [.non, .non]] 5) (ks := []) (ws := []) (by decide) o3 (by decide) ⟨by decide, by decide⟩ h
  rw [need_val (ms := [0, 1, 2, 3]) (by decide) (by decide)] at n1
  rw [need_val (ms := [0, 1, 4]) (by decide) (by decide)] at n2
  rw [need_val (ms := []) (by decide) (by decide)] at n3
  have n1 : M_needed [bare 5 os3, .tup [.int 2]] h = .ok (.tup [.int 0, .int 1, .int 2, .int 3]) h := n1
  have n2 : M_needed [bare 5 os3, .tup [.int 1, .int 4]] h = .ok (.tup [.int 0, .int 1, .int 4]) h := n2
  have n3 : M_needed [bare 5 os3, .tup []] h = .ok (.tup []) h := n3
  have p1 : M_is_plan [bare 5 os3, .int 2, .tup [.int 2], .tup [.tup [.int 0, .int 3], .tup [.int 1], .tup [.int 2]]] h = .ok (.bl true) h :=
    plan_val (ws := [2]) (days := [[0, 3], [1], [2]]) (by decide) (by decide) ⟨by decide, by decide⟩ (.of (by decide)) (by decide) (by decide) (by decide) h
  have p2 : M_is_plan [bare 5 os3, .int 1, .tup [.int 2], .tup [.tup [.int 0, .int 3], .tup [.int 1], .tup [.int 2]]] h = .ok (.bl false) h :=
    (r_is_plan (n := 2) (ws := [2]) (by decide) (by decide) ⟨by decide, by decide⟩ rfl (fun l e => by cases e; decide) h).1 rfl
  have p3 : M_is_plan [bare 5 os3, .int 2, .tup [.int 2], .tup [.tup [.int 0], .tup [.int 1, .int 3], .tup [.int 2]]] h = .ok (.bl true) h :=
    plan_val (ws := [2]) (days := [[0], [1, 3], [2]]) (by decide) (by decide) ⟨by decide, by decide⟩ (.of (by decide)) (by decide) (by decide) (by decide) h
  have p4 : M_is_plan [bare 5 os3, .int 2, .tup [.int 2], .tup [.tup [.int 0, .int 1], .tup [.int 3], .tup [.int 2]]] h = .ok (.bl false) h :=
    plan_val (ws := [2]) (days := [[0, 1], [3], [2]]) (by decide) (by decide) ⟨by decide, by decide⟩ (.of (by decide)) (by decide) (by decide) (by decide) h
  have p5 : M_is_plan [bare 5 os3, .int 4, .tup [], .tup []] h = .ok (.bl true) h :=
    plan_val (ws := []) (days := []) (by decide) (by decide) ⟨by decide, by decide⟩ (.of (by decide)) (by decide) (by decide) (by decide) h
  have p6 : M_is_plan [bare 5 os3, .int 1, .tup [], .tup [.tup [.int 4]]] h = .ok (.bl true) h :=
    plan_val (ws := []) (days := [[4]]) (by decide) (by decide) ⟨by decide, by decide⟩ (.of (by decide)) (by decide) (by decide) (by decide) h
  have p7 : M_is_plan [bare 5 os3, .int 3, .tup [.int 1], .tup [.tup [.int 0]]] h = .ok (.bl false) h :=
    plan_val (ws := [1]) (days := [[0]]) (by decide) (by decide) ⟨by decide, by decide⟩ (.of (by decide)) (by decide) (by decide) (by decide) h
  have xb : isEx (bare 5 os3) = false := rfl
  have qn := ne_good (h := h) (n := 2) (m := 2) (a := .fl [.tup [.int 0, .int 1, .int 2, .int 3], .tup [.int 0, .int 1, .int 4], .tup []]) (b := .fl [.tup [.int 0, .int 1, .int 2, .int 3], .tup [.int 0, .int 1, .int 4], .tup []]) rfl rfl (by decide) (by decide)
  rw [eqvD_refl (n := 2) rfl] at qn
  have qe := eq_good (h := h) (n := 2) (m := 2) (a := .fl [.bl true, .bl false, .bl true, .bl false, .bl true, .bl true, .bl false]) (b := .fl [.bl true, .bl false, .bl true, .bl false, .bl true, .bl true, .bl false]) rfl rfl (by decide) (by decide)
  rw [eqvD_refl (n := 2) rfl] at qe
  generalize bare 5 os3 = B at q0 n1 n2 n3 p1 p2 p3 p4 p5 p6 p7 xb
  have hL : LIM = 16777216 := rfl
  simp [-o_seq, o_seqH, q0]
  refine hold ?_
  simp [-o_seq, o_seqH, xb, n1, n2, n3, qn]
  refine hold ?_
  simp [-o_seq, o_seqH]
  refine hold ?_
  simp [-o_seq, o_seqH, hL]
  refine hold ?_
  simp [-o_seq, o_seqH, hL]
  refine hold ?_
  simp [-o_seq, o_seqH]
  refine lc_map' f4 rfl (fun x hx => ?_) ?_
  · simp only [List.mem_cons, List.mem_nil_iff, or_false] at hx
    rcases hx with rfl | rfl | rfl | rfl | rfl | rfl | rfl <;> simp [xb, p1, p2, p3, p4, p5, p6, p7, f4]
  · refine lc_map' f4 rfl (fun x hx => ?_) ?_
    · simp only [List.mem_cons, List.mem_nil_iff, or_false] at hx
      rcases hx with rfl | rfl | rfl | rfl | rfl | rfl | rfl <;> simp [f4]
    · simp [f4, qe]
end K40
set_option Elab.async false
set_option linter.all false
set_option maxRecDepth 100000
set_option maxHeartbeats 1000000
namespace K40
open PySem DM
/-! ### the law's rounds -/
def rngI (c : Int) : List Int := (List.range c.toNat).map fun (k : Nat) => (k : Int)
theorem rng_eq (c : Int) : rng c = (rngI c).map D.int := by unfold rng rngI; rw [List.map_map]; rfl
theorem rng_lot (c : Int) : Lot c (rngI c) := by
  refine ⟨?_, fun x hx => ?_⟩
  · unfold rngI
    rw [List.pairwise_map]
    exact List.pairwise_lt_range.imp fun h => by omega
  · obtain ⟨k, hk, rfl⟩ := List.mem_map.mp hx
    have := List.mem_range.mp hk
    omega
theorem rng_len (c : Int) : (rngI c).length = c.toNat := by simp [rngI]
/-- both judges say the same -/
theorem same_flag {c cr : Int} {os : List (Int × Int)} {dts ks : List D} {ws : List Int} {t : D} (hc : c ≤ 16) (k1 : 1 ≤ cr) (k2 : cr ≤ 4) (hw : Lot c ws) (ht : Th t) (h : HD) :
    ∃ b, M_is_plan [bk c os dts ks, .int cr, .tup (ws.map D.int), t] h = .ok (.bl b) h ∧ M_u_law_is_plan [.tup (os.map ov), .int c, .int cr, .tup (ws.map D.int), t] h = .ok (.bl b) h := by
  have hcr : inR 1 4 (.int cr) = true := by simp [inR]; omega
  obtain ⟨a1, a2⟩ := r_is_plan (n := 2) (os := os) (dts := dts) (ks := ks) hc hcr hw ht.1 ht.2 h
  obtain ⟨b1, b2⟩ := r_law_is_plan (n := 2) (c := c) (cr := cr) (os := os) (ws := ws) hc ht.1 ht.2 h
  cases e : dsOk c cr t with
  | false => exact ⟨false, a1 e, b1 e⟩
  | true =>
    obtain ⟨days, rfl, hd⟩ := days_of e
    obtain ⟨x, e1, q1⟩ := a2 days rfl hd
    obtain ⟨y, e2, q2⟩ := b2 days rfl hd
    have : x = y := by rw [Bool.eq_iff_iff, q1, q2]
    rw [this] at e1
    exact ⟨y, e1, e2⟩
def rightT : SM :=
  sSeq (sSet 6 (eCall (mkT 0 M_Book_UinitU) (aCons (eVar 1) (aCons (eVar 2) (aCons (eUn opTuple (eFz (lComp [18] (iRng1 (eVar 1)) (.nm 18) (tYes) (eTup (aCons (eUn opNeg (eC (.int 5))) (aCons (eVar 18) (aNil))))))) (aCons (eVar 5) (aNil)))))))
  (sSeq (sSet 7 (eCall M_needed (aCons (eVar 14) (aCons (eVar 3) (aNil)))))
  (sSeq (sIf (tOr (tNot (tE (eCall M_u_law_is_lot (aCons (eVar 7) (aCons (eVar 1) (aNil)))))) (tOr (tBin cNe (eVar 7) (eVar 4)) (tBin cNe (eCall M_needed (aCons (eVar 6) (aCons (eVar 3) (aNil)))) (eVar 4)))) (sRet (eC (.bl false))) (sNx))
  (sSeq (sSet 17 (eCall M_u_law_own_plan (aCons (eVar 0) (aCons (eVar 2) (aCons (eVar 15) (aCons (eCall M_u_law_any (aCons (eVar 0) (aCons (eFz (lDisp (aCons (eVar 4) (aCons (eTupRg (eVar 1)) (aNil))))) (aNil)))) (aNil)))))))
  (sSeq (sSet 8 (eBin opAdd (eBin opMul (eFz (lDisp (aCons (eVar 17) (aNil)))) (eC (.int 2))) (eFz (lComp [19] (iRng1 (eC (.int 8))) (.nm 19) (tYes) (eCall M_u_law_bent (aCons (eVar 0) (aCons (eVar 1) (aCons (eVar 17) (aNil)))))))))
  (sSeq (sFor (iIt (eVar 8)) (.nm 9) (sSeq (sSet 10 (eCall M_u_law_any (aCons (eVar 0) (aCons (eFz (lDisp (aCons (eVar 15) (aCons (eVar 15) (aCons (eBin opAdd (eC (.int 1)) (eCall M_u_law_draw (aCons (eVar 0) (aCons (eC (.int 4)) (aNil))))) (aNil)))))) (aNil)))))
  (sSeq (sSet 11 (eCall M_is_plan (aCons (eCall M_u_law_any (aCons (eVar 0) (aCons (eFz (lDisp (aCons (eVar 14) (aCons (eVar 6) (aNil))))) (aNil)))) (aCons (eVar 10) (aCons (eVar 3) (aCons (eVar 9) (aNil)))))))
  (sIf (tOr (tNot (tIs CS (eVar 11) [.bool])) (tBin cNe (eVar 11) (eCall M_u_law_is_plan (aCons (eVar 2) (aCons (eVar 1) (aCons (eVar 10) (aCons (eVar 3) (aCons (eVar 9) (aNil))))))))) (sRet (eC (.bl false))) (sNx)))))
  (sSeq (sPat (.tp [.nm 16, .nm 13]) (eTup (aCons (eCall M_u_law_odd_set (aCons (eVar 0) (aCons (eVar 1) (aCons (eVar 3) (aNil))))) (aCons (eCall M_u_law_any (aCons (eVar 0) (aCons (eFz (lDisp (aCons (eC (.int 0)) (aCons (eC (.int 5)) (aCons (eUn opNeg (eC (.int 1))) (aCons (eC (.bl true)) (aCons (eC .non) (aCons (eC (.str "1")) (aCons (eTup (aCons (eC (.int 1)) (aNil))) (aCons (eBin opPow (eC (.int 10)) (eC (.int 30))) (aNil))))))))))) (aNil)))) (aNil)))))
  (sSeq (sSet 12 (eBx (lDisp (aCons (eLam 4 B_u_law_word (eCall M_needed (aCons (eVar 14) (aCons (eVar 16) (aNil))))) (aNil)))))
  (sSeq (sDrop (eMb1 mApp (eVar 12) (eLam 4 B_u_law_word (eCall M_is_plan (aCons (eVar 14) (aCons (eVar 13) (aCons (eVar 16) (aCons (eVar 17) (aNil)))))))))
  (sSeq (sDrop (eMb1 mApp (eVar 12) (eLam 4 B_u_law_word (eCall M_is_plan (aCons (eVar 14) (aCons (eVar 15) (aCons (eVar 16) (aCons (eVar 17) (aNil)))))))))
  (sRet (eT (tBin cEq (eVar 12) (eFz (lDisp (aCons (eC (.str "set")) (aCons (eC (.str "crews")) (aCons (eC (.str "set")) (aNil))))))))))))))))))
theorem wp_rightT {c cr : Int} {os : List (Int × Int)} {ws nd' : List Int} {ks : List D} {g : Hand} {P : D → HD → Prop} (c1 : 1 ≤ c) (c2 : c ≤ 16) (k1 : 1 ≤ cr) (k2 : cr ≤ 4) (o : OV c os) (nd : os.Nodup) (hw : Lot c ws) (en : need os ws = nd'.map D.int) (ln : Lot c nd')
    (hk : ks = [] ∨ (ks = [.tup ((rngI c).map D.int)] ∧ 1 < c)) (k : ∀ g' : Hand, P (.bl true) [g'.box]) :
    (rightT [some (.ref 0), some (.int c), some (.tup (os.map ov)), some (.tup (ws.map D.int)), some (.tup (nd'.map D.int)), some (.tup ks), none, none, none, none, none, none, none, none, some (bare c os), some (.int cr), none, none, none, none] [g.box]).wp
      (fun x h1 => HZ [] P .non h1) (fun d h1 => HZ [] P d h1) (fun _ _ _ => False) := by
  have hL : LIM = 16777216 := rfl
  have hr : Fine [] := fine_nil
  have ht : ∀ g : Hand, Tidy [g.box] := fun g => fine_tidy.mpr fine_nil
  unfold rightT
  have xb : isEx (bare c os) = false := rfl
  have nb : ∀ h : HD, M_needed [bare c os, .tup (ws.map D.int)] h = .ok (.tup (nd'.map D.int)) h := fun h => by rw [← en]; exact r_needed nd o c2 hw h
  have dts : ∃ dts : List D, dts = (rngI c).map fun i => D.tup [.int (-5), .int i] := ⟨_, rfl⟩
  obtain ⟨dts, ed⟩ := dts
  have od : ∀ d ∈ dts, okDt d := fun d hd => by
    rw [ed] at hd
    obtain ⟨i, hi, rfl⟩ := List.mem_map.mp hd
    have := (rng_lot c).rg i hi
    exact .inr ⟨-5, i, rfl, by omega, by omega, by omega⟩
  have okk : ∀ k ∈ ks, ∃ l, k = .tup l ∧ isLot c (.tup l) = true ∧ 1 < l.length ∧ good 1 (.tup l) = true := fun k hkm => by
    rcases hk with rfl | ⟨rfl, h1⟩
    · cases hkm
    · rw [List.mem_singleton.mp hkm]
      exact ⟨_, rfl, (rng_lot c).is, by rw [List.length_map, rng_len]; omega, ints_good⟩
  have oB : ∀ h : HD, Tidy h → mkT 0 M_Book_UinitU [.int c, .tup (os.map ov), .tup dts, .tup ks] h = .ok (bk c os dts ks) h := fun h ht =>
    r_Book c1 c2 o od (by rw [ed, List.length_map, rng_len]; omega) okk (by rcases hk with rfl | ⟨rfl, _⟩ <;> simp) ht
  have no : ∀ h : HD, M_needed [bk c os dts ks, .tup (ws.map D.int)] h = .ok (.tup (nd'.map D.int)) h := fun h => by rw [← en]; exact r_needed nd o c2 hw h
  have xo : isEx (bk c os dts ks) = false := rfl
  simp [-o_seq, o_seqH]
  rw [range_0 (by omega) (by omega)]
  simp [-o_seq, o_seqH]
  rw [show ((List.range c.toNat).map fun (k : Nat) => D.int k) = (rngI c).map D.int from rng_eq c]
  refine lc_in (fun _ => true) (fun i => .tup [.int (-5), .int i]) (fun i hi => ?_) ?_
  · simp
  rw [List.filter_eq_self.mpr fun _ _ => rfl, ← ed]
  simp [-o_seq, o_seqH, oB _ (ht g), xo]
  refine hold ?_
  simp [-o_seq, o_seqH, xb, nb]
  refine hold ?_
  have q1 : ∀ h : HD, M_u_law_is_lot [.tup (nd'.map D.int), .int c] h = .ok (.bl true) h := fun h => by
    rw [r_law_is_lot (thg_good (ints_good (n := 0) (l := nd'))) h, ln.is]
  have q2 : ∀ h : HD, cNe h (.tup (nd'.map D.int)) (.tup (nd'.map D.int)) = some false := fun h => by
    rw [ne_good (n := 1) (m := 1) ints_good ints_good (by decide) (by decide), eqvD_refl (n := 1) ints_good]
    rfl
  simp [-o_seq, o_seqH, q1, q2, no, xo]
  refine hold ?_
  simp [-o_seq, o_seqH]
  rw [range_0 (by omega) (by omega)]
  simp [-o_seq, o_seqH]
  rw [show ((List.range c.toNat).map fun (k : Nat) => D.int k) = (rngI c).map D.int from rng_eq c]
  have A : ∀ x ∈ [D.tup (nd'.map D.int), .tup ((rngI c).map D.int)], ∃ w, x = .tup (w.map D.int) ∧ Lot c w := fun x hx => by
    simp only [List.mem_cons, List.mem_nil_iff, or_false] at hx
    rcases hx with rfl | rfl
    · exact ⟨_, rfl, ln⟩
    · exact ⟨_, rfl, rng_lot c⟩
  refine wp_any (l := [D.tup (nd'.map D.int), .tup ((rngI c).map D.int)]) (Nat.succ_pos _) (show 2 < 1073741824 by omega) (un_good (n := 1) fun x hx => by obtain ⟨w, rfl, _⟩ := A x hx; exact ints_good) hr fun x hx g => ?_
  obtain ⟨w, rfl, lw⟩ := A x hx
  refine wp_own_plan c2 k1 k2 lw hr fun days g hdays ldays => ?_
  refine hold ?_
  have tO : Th (.tup (days.map dy)) := (G.th (dy_G ldays) (by omega)).1
  have l2 : rept [D.tup (days.map dy)] 2 = [.tup (days.map dy), .tup (days.map dy)] := rfl
  simp [-o_seq, o_seqH, l2]
  rw [range_0 (by omega) (by omega)]
  simp [-o_seq, o_seqH, l2]
  refine ⟨fun _ => ?_, by omega⟩
  refine lc_draw (fun d => Th d) (fun x hx g => ?_) fun ys g ly hy => ?_
  · obtain ⟨j, _, rfl⟩ := List.mem_map.mp hx
    simp
    exact wp_bent c1 c2 hdays ldays hr fun d g' td => ⟨td, HH.mk⟩
  · rw [List.length_map, List.length_range] at ly
    refine ⟨fun _ => hold ?_, by omega⟩
    simp [-o_seq, o_seqH]
    refine for_wp (I := fun pre post s h => (∀ x ∈ post, Th x) ∧ (∃ g : Hand, h = [g.box]) ∧ ∃ a b c' : Option D, s = [some (.ref 0), some (.int c), some (.tup (os.map ov)), some (.tup (ws.map D.int)), some (.tup (nd'.map D.int)), some (.tup ks), some (bk c os dts ks), some (.tup (nd'.map D.int)),
      some (.fl (.tup (days.map dy) :: .tup (days.map dy) :: ys)), a, b, c', none, none, some (bare c os), some (.int cr), none, some (.tup (days.map dy)), none, none]) _ [] _ _ ⟨?_, ⟨g, rfl⟩, none, none, none, rfl⟩ ?_ ?_
    · intro x hx
      rcases List.mem_cons.mp hx with rfl | hx
      · exact tO
      rcases List.mem_cons.mp hx with rfl | hx
      · exact tO
      · exact hy x hx
    · rintro pre x post s h ⟨hp, ⟨g, rfl⟩, a, b, c', rfl⟩
      have tx := hp x (List.mem_cons_self ..)
      have xx := thg_ex tx.1
      have hp' := fun y hy => hp y (List.mem_cons_of_mem _ hy)
      simp [-o_seq, o_seqH, xx]
      refine wp_draw (by omega) (by omega) hr fun q g q0 q1 => ?_
      simp [-o_seq, o_seqH]
      have Z : ∀ z ∈ [D.int cr, .int cr, .int (1 + q)], ∃ i : Int, z = .int i ∧ 1 ≤ i ∧ i ≤ 4 := fun z hz => by
        simp only [List.mem_cons, List.mem_nil_iff, or_false] at hz
        rcases hz with rfl | rfl | rfl
        · exact ⟨_, rfl, k1, k2⟩
        · exact ⟨_, rfl, k1, k2⟩
        · exact ⟨_, rfl, by omega, by omega⟩
      refine wp_any (l := [D.int cr, .int cr, .int (1 + q)]) (Nat.succ_pos _) (show 3 < 1073741824 by omega) (un_good (n := 0) fun z hz => by obtain ⟨i, rfl, _⟩ := Z z hz; simp) hr fun z hz g => ?_
      obtain ⟨sz, rfl, s1, s2⟩ := Z z hz
      refine hold ?_
      simp [-o_seq, o_seqH, xb, xo, xx]
      have U : unders (([] : HD).length + 1) [bare c os, bk c os dts ks] = true := by
        have gd : good 2 (.tup dts) = true := by rw [good_tup, List.all_eq_true]; exact fun d hd => okDt_good (od d hd)
        have gk : good 2 (.tup ks) = true := by
          rw [good_tup, List.all_eq_true]
          intro d hd
          obtain ⟨l, rfl, _, _, g⟩ := okk d hd
          exact g
        rw [unds_cons, unds_cons, unds_nil, bk_under gd gk, show D.under _ (bare c os) = true from bk_under bare_dts rfl]
        rfl
      refine wp_any (l := [bare c os, bk c os dts ks]) (Nat.succ_pos _) (show 2 < 1073741824 by omega) U hr fun B hB g => ?_
      have F : ∃ b, M_is_plan [B, .int sz, .tup (ws.map D.int), x] [g.box] = .ok (.bl b) [g.box] ∧ M_u_law_is_plan [.tup (os.map ov), .int c, .int sz, .tup (ws.map D.int), x] [g.box] = .ok (.bl b) [g.box] := by
        simp only [List.mem_cons, List.mem_nil_iff, or_false] at hB
        rcases hB with rfl | rfl
        · exact same_flag c2 s1 s2 hw tx _
        · exact same_flag c2 s1 s2 hw tx _
      obtain ⟨b, f1, f2⟩ := F
      have xB : isEx B = false := by
        simp only [List.mem_cons, List.mem_nil_iff, or_false] at hB
        rcases hB with rfl | rfl <;> rfl
      have qq : cNe [g.box] (.bl b) (.bl b) = some false := by
        rw [ne_good (n := 0) (m := 0) rfl rfl (by decide) (by decide), eqvD_refl (n := 0) rfl]
        rfl
      simp [-o_seq, o_seqH, xB, xx, f1]
      refine hold ?_
      simp [xx, f2, qq]
      exact ⟨hp', g, rfl⟩
    · rintro pre s h ⟨_, ⟨g, rfl⟩, a, b, c', rfl⟩
      refine hold ?_
      simp [-o_seq, o_seqH]
      refine wp_odd (by have := lot_len hw; omega) hr fun odd g ho => ?_
      have xd := thg_ex ho.1
      have hcr : inR 1 4 (.int cr) = true := by simp [inR]; omega
      have BD : ∀ z ∈ [D.int 0, .int 5, .int (-1), .bl true, .non, .str "1", .tup [.int 1], .int 1000000000000000000000000000000], good 1 z = true ∧ inR 1 4 z = false := fun z hz => by
        simp only [List.mem_cons, List.mem_nil_iff, or_false] at hz
        rcases hz with rfl | rfl | rfl | rfl | rfl | rfl | rfl | rfl <;> refine ⟨by simp, by rfl⟩
      refine wp_any (Nat.succ_pos _) (show 8 < 1073741824 by omega) (un_good fun z hz => (BD z hz).1) hr fun bad hbad g => ?_
      obtain ⟨gb, nb'⟩ := BD bad hbad
      have xbad := good_ex' gb
      refine hold ?_
      have w1 : ∀ (v : Option D) (h : HD), eLam 4 B_u_law_word (eCall M_needed (aCons (eVar 14) (aCons (eVar 16) aNil))) [some (.ref 0), some (.int c), some (.tup (os.map ov)), some (.tup (ws.map D.int)), some (.tup (nd'.map D.int)), some (.tup ks), some (bk c os dts ks), some (.tup (nd'.map D.int)), some (.fl (.tup (days.map dy) :: .tup (days.map dy) :: ys)), a, b, c', v, some bad, some (bare c os), some (.int cr), some odd, some (.tup (days.map dy)), none, none] h = .ok (.str "set") h := fun v h => by
        refine word_set ?_
        simp [xb, xd]
        exact r_needed_bad ho.1 ho.2 h
      have w2 : ∀ (v : Option D) (h : HD), eLam 4 B_u_law_word (eCall M_is_plan (aCons (eVar 14) (aCons (eVar 13) (aCons (eVar 16) (aCons (eVar 17) aNil))))) [some (.ref 0), some (.int c), some (.tup (os.map ov)), some (.tup (ws.map D.int)), some (.tup (nd'.map D.int)), some (.tup ks), some (bk c os dts ks), some (.tup (nd'.map D.int)), some (.fl (.tup (days.map dy) :: .tup (days.map dy) :: ys)), a, b, c', v, some bad, some (bare c os), some (.int cr), some odd, some (.tup (days.map dy)), none, none] h = .ok (.str "crews") h := fun v h => by
        refine word_crews ?_
        simp [xb, xd, xbad]
        exact plan_crews xb (thg_good gb) xd rfl nb' h
      have w3 : ∀ (v : Option D) (h : HD), eLam 4 B_u_law_word (eCall M_is_plan (aCons (eVar 14) (aCons (eVar 15) (aCons (eVar 16) (aCons (eVar 17) aNil))))) [some (.ref 0), some (.int c), some (.tup (os.map ov)), some (.tup (ws.map D.int)), some (.tup (nd'.map D.int)), some (.tup ks), some (bk c os dts ks), some (.tup (nd'.map D.int)), some (.fl (.tup (days.map dy) :: .tup (days.map dy) :: ys)), a, b, c', v, some bad, some (bare c os), some (.int cr), some odd, some (.tup (days.map dy)), none, none] h = .ok (.str "set") h := fun v h => by
        refine word_set ?_
        simp [xb, xd]
        exact plan_set ho.1 rfl hcr ho.2 h
      simp [-o_seq, o_seqH, w1]
      refine hold ?_
      simp [-o_seq, o_seqH, w2]
      rw [w_app (l := [.str "set"]) rfl (by decide)]
      refine hold ?_
      simp [-o_seq, o_seqH, w3]
      rw [w_app (l := [.str "set", .str "crews"]) rfl (by decide)]
      refine hold ?_
      simp
      have gs : good 1 (.fl [.str "set", .str "crews", .str "set"]) = true := by simp
      have qe : cEq [g.box, O.lst [.str "set", .str "crews", .str "set"]] (.ref 1) (.fl [.str "set", .str "crews", .str "set"]) = some true := by
        show cEq [g.box, O.lst [.str "set", .str "crews", .str "set"]] (.fl [.str "set", .str "crews", .str "set"]) (.fl [.str "set", .str "crews", .str "set"]) = some true
        rw [eq_good gs gs (by decide) (by decide), eqvD_refl gs]
      rw [qe]
      exact HZ.mk1 (r := []) (x := [.lst [.str "set", .str "crews", .str "set"]]) rfl (k g)
theorem wp_right {c : Int} {os : List (Int × Int)} {g : Hand} {P : D → HD → Prop} {X : Xn → HD → Prop} (c1 : 1 ≤ c) (c2 : c ≤ 16) (o : OV c os) (nd : os.Nodup) (k : ∀ g' : Hand, P (.bl true) [g'.box]) :
    (M_u_law_is_right [.ref 0, .int c, .tup (os.map ov)] [g.box]).wp P X := by
  have hL : LIM = 16777216 := rfl
  have hr : Fine [] := fine_nil
  have ht : ∀ g : Hand, Tidy [g.box] := fun g => fine_tidy.mpr fine_nil
  refine wp_fnZ hr rfl ?_
  unfold B_u_law_is_right
  simp [-o_seq, o_seqH]
  rw [range_0 (by omega) (by omega)]
  simp [-o_seq, o_seqH]
  refine wp_mixed (l := rng c) (by rw [rng_eq, List.length_map, rng_len]; omega) (by rw [rng_eq]; exact un_ints _) hr fun m g p => ?_
  rw [rng_eq] at p
  obtain ⟨ms, rfl, pm⟩ := perm_ints p
  simp [-o_seq, o_seqH]
  refine wp_draw (by omega) (by omega) hr fun n g n0 n1 => ?_
  have et : cut (ms.map D.int) none (some n) = (ms.take n.toNat).map D.int := by rw [cut_to n0, List.map_take]
  have mn : (ms.take n.toNat).Nodup := List.Nodup.sublist (List.take_sublist ..) ((pm.nodup_iff).mpr ((rng_lot c).got []).nd)
  obtain ⟨ws, ew, pw, hw⟩ := sort_lot (c := c) mn fun x hx => (rng_lot c).rg x (pm.mem_iff.mp (List.mem_of_mem_take hx))
  have lpm := pm.length_eq
  rw [rng_len] at lpm
  have so : sortOk ((ms.take n.toNat).map D.int) = true := sortOk_zs (by rw [List.length_take]; omega)
  obtain ⟨nd', en, ln⟩ := need_lot nd o (hw.got os)
  have xb : isEx (bare c os) = false := rfl
  have el := r_law_needed nd o c2 (hw.got os)
  rw [List.map_take] at so ew et
  simp [-o_seq, o_seqH, et, so, ew]
  refine hold ?_
  have eb := r_bare c1 c2 o (ht g)
  have el := el [g.box]
  rw [en] at el
  simp [-o_seq, o_seqH, eb, el, xb]
  refine wp_draw (by omega) (by omega) hr fun q g q0 q1 => ?_
  refine hold ?_
  simp [-o_seq, o_seqH]
  refine ⟨fun h1 => ?_, fun h1 => hold ?_⟩
  · rw [range_0 (by omega) (by omega)]
    simp [-o_seq, o_seqH]
    rw [show ((List.range c.toNat).map fun (k : Nat) => D.int k) = (rngI c).map D.int from rng_eq c]
    exact hold (wp_rightT c1 c2 (by omega) (by omega) o nd hw en ln (.inr ⟨rfl, h1⟩) k)
  · exact wp_rightT c1 c2 (by omega) (by omega) o nd hw en ln (.inl rfl) k
theorem law_math : ∀ ns : List Int, ns.length ≤ 63 → ∃ h, M_law [.sc (ns.map D.int)] [] = .ok (.bl true) h := by
  intro ns hl
  obtain ⟨g, eh⟩ := r_hand ns hl
  refine law_end ?_
  unfold B_law
  have hL : LIM = 16777216 := rfl
  have hr : Fine [] := fine_nil
  have ht : ∀ g : Hand, Tidy [g.box] := fun g => fine_tidy.mpr fine_nil
  simp [-o_seq, o_seqH, eh]
  refine hold ?_
  simp [-o_seq, o_seqH, r_known (ht g)]
  refine hold ?_
  simp [-o_seq, o_seqH]
  rw [range_0 (by decide) (by decide)]
  simp [-o_seq, o_seqH]
  refine for_wp (I := fun pre post s h => ∃ (g : Hand) (a b c : Option D), h = [g.box] ∧ s = [some (.sc (ns.map D.int)), some (.ref 0), a, b, c]) _ [] _ _ ⟨g, none, none, none, rfl, rfl⟩ ?_ ?_
  · rintro pre v post s h ⟨g, a, b, c, rfl, rfl⟩
    simp [-o_seq, o_seqH]
    have N : ∀ z ∈ [D.int 3, .int 6, .int 9, .int 16], ∃ i : Int, z = .int i ∧ 1 ≤ i ∧ i ≤ 16 := fun z hz => by
      simp only [List.mem_cons, List.mem_nil_iff, or_false] at hz
      rcases hz with rfl | rfl | rfl | rfl <;> exact ⟨_, rfl, by decide, by decide⟩
    refine wp_any (l := [D.int 3, .int 6, .int 9, .int 16]) (Nat.succ_pos _) (show 4 < 1073741824 by omega) (un_good (n := 0) fun z hz => by obtain ⟨i, rfl, _⟩ := N z hz; simp) hr fun z hz g => ?_
    obtain ⟨m, rfl, m1, m2⟩ := N z hz
    refine wp_draw (by omega) (by omega) hr fun q g q0 q1 => ?_
    have K : ∀ z ∈ [D.int 2, .int 6, .int 20], ∃ i : Int, z = .int i ∧ 0 ≤ i ∧ i ≤ 20 := fun z hz => by
      simp only [List.mem_cons, List.mem_nil_iff, or_false] at hz
      rcases hz with rfl | rfl | rfl <;> exact ⟨_, rfl, by decide, by decide⟩
    simp [-o_seq, o_seqH]
    refine hold ?_
    simp [-o_seq, o_seqH]
    refine wp_draw (by omega) (by omega) hr fun q2 g q20 q21 => ?_
    simp [-o_seq, o_seqH]
    refine ⟨fun e => ?_, fun e => ?_⟩
    · refine hold ?_
      simp [-o_seq, o_seqH]
      refine wp_any (l := [D.int 2, .int 6, .int 20]) (Nat.succ_pos _) (show 3 < 1073741824 by omega) (un_good (n := 0) fun z hz => by obtain ⟨i, rfl, _⟩ := K z hz; simp) hr fun z hz g => ?_
      obtain ⟨mo, rfl, mo1, mo2⟩ := K z hz
      refine wp_overs (by omega) (by omega) (by omega) mo2 (.inl rfl) hr fun os g o nd => ?_
      refine wp_right (by omega) (by omega) o nd fun g => ?_
      simp
      exact ⟨g, rfl⟩
    · rw [range_0 (by omega) (by omega)]
      simp [-o_seq, o_seqH]
      refine wp_mixed (l := rng (1 + q)) (by rw [rng_eq, List.length_map, rng_len]; omega) (by rw [rng_eq]; exact un_ints _) hr fun m g p => ?_
      refine hold ?_
      simp [-o_seq, o_seqH]
      refine wp_any (l := [D.int 2, .int 6, .int 20]) (Nat.succ_pos _) (show 3 < 1073741824 by omega) (un_good (n := 0) fun z hz => by obtain ⟨i, rfl, _⟩ := K z hz; simp) hr fun z hz g => ?_
      obtain ⟨mo, rfl, mo1, mo2⟩ := K z hz
      refine wp_overs (by omega) (by omega) (by omega) mo2 (.inr ⟨m, rfl, p⟩) hr fun os g o nd => ?_
      refine wp_right (by omega) (by omega) o nd fun g => ?_
      simp
      exact ⟨g, rfl⟩
  · rintro pre s h ⟨g, a, b, c, rfl, rfl⟩
    refine hold ?_
    simp
end K40
set_option Elab.async false
set_option linter.all false
set_option maxRecDepth 100000
set_option maxHeartbeats 4000000
namespace K40
open PySem PySem.Spec PyProof.Rows L2 DM
section
open PySem.W (Frag)
theorem all_mk {w : World} {K : PySem.W.Frag} {h : Heap} {mg : Str → Option Value} {fa : Addr} (X : K.In h) (G : h.Ns mainGlobals mg) (hfa : mg "law" = some (.ref fa))
    {C0 X0 X1 X2 X3 X4 f0 f1 f2 f3 f4 f5 f6 f7 f8 f9 f10 f11 f12 f13 f14 f15 f16 f17 f18 f19 f20 f21 f22 f23 f24 f25 f26 f27 f28 f29 f30 f31 f32 f33 f34 co0 ta0 NX1 fIX1 cdaX1 ccX1 NX0 NX2 fIX2 cdaX2 ccX2 NX3 fIX3 cdaX3 ccX3 : Addr} {oc0 kV0 dc0 pm0 ct0 cd0 oc1 kV1 dc1 pm1 ct1 cd1 oc2 kV2 dc2 pm2 ct2 cd2 oc3 kV3 dc3 pm3 ct3 cd3 oc4 kV4 dc4 pm4 ct4 cd4 oc5 kV5 dc5 pm5 ct5 cd5 oc6 kV6 dc6 pm6 ct6 cd6 oc7 kV7 dc7 pm7 ct7 cd7 oc8 kV8 dc8 pm8 ct8 cd8 oc9 kV9 dc9 pm9 ct9 cd9 oc10 kV10 dc10 pm10 ct10 cd10 oc11 kV11 dc11 pm11 ct11 cd11 oc12 kV12 dc12 pm12 ct12 cd12 oc13 kV13 dc13 pm13 ct13 cd13 oc14 kV14 dc14 pm14 ct14 cd14 oc15 kV15 dc15 pm15 ct15 cd15 oc16 kV16 dc16 pm16 ct16 cd16 oc17 kV17 dc17 pm17 ct17 cd17 oc18 kV18 dc18 pm18 ct18 cd18 oc19 kV19 dc19 pm19 ct19 cd19 oc20 kV20 dc20 pm20 ct20 cd20 oc21 kV21 dc21 pm21 ct21 cd21 oc22 kV22 dc22 pm22 ct22 cd22 oc23 kV23 dc23 pm23 ct23 cd23 oc24 kV24 dc24 pm24 ct24 cd24 oc25 kV25 dc25 pm25 ct25 cd25 oc26 kV26 dc26 pm26 ct26 cd26 oc27 kV27 dc27 pm27 ct27 cd27 oc28 kV28 dc28 pm28 ct28 cd28 oc29 kV29 dc29 pm29 ct29 cd29 oc30 kV30 dc30 pm30 ct30 cd30 oc31 kV31 dc31 pm31 ct31 cd31 oc32 kV32 dc32 pm32 ct32 oc33 kV33 dc33 pm33 ct33 cd33 oc34 kV34 dc34 pm34 ct34 cd34 mcl0 oIX1 dIX1 pIX1 tIX1 cclX1 clX1 oIX2 dIX2 pIX2 tIX2 cclX2 clX2 oIX3 dIX3 pIX3 tIX3 cclX3 clX3 : Value} {od0 an0 od1 an1 od2 an2 od3 an3 od4 an4 od5 an5 od6 an6 od7 an7 od8 an8 od9 an9 od10 an10 od11 an11 od12 an12 od13 an13 od14 an14 od15 an15 od16 an16 od17 an17 od18 an18 od19 an19 od20 an20 od21 an21 od22 an22 od23 an23 od24 an24 od25 an25 od26 an26 od27 an27 od28 an28 od29 an29 od30 an30 od31 an31 od32 an32 od33 an33 od34 an34 mcd0 odIX1 anIX1 ccdX1 cldX1 odIX2 anIX2 ccdX2 cldX2 odIX3 anIX3 ccdX3 cldX3 : Option Addr} {sl0 sl1 sl2 sl3 sl4 sl5 sl6 sl7 sl8 sl9 sl10 sl11 sl12 sl13 sl14 sl15 sl16 sl17 sl18 sl19 sl20 sl21 sl22 sl23 sl24 sl25 sl26 sl27 sl28 sl29 sl30 sl31 sl32 sl33 sl34 mcs0 slIX1 ccsX1 cslX1 slIX2 ccsX2 cslX2 slIX3 ccsX3 cslX3 : Array (Option Value)}
    {mvs0 : Array Value} {t_FARTHEST : _} {t_MOST_CREWS : _} {t_MOST_KINDS : _} {t_MOST_LAYERS : _} {nmX1 qX1 : Str} {bsX1 : List Value} {snX1 : List Str} {suX1 : List Value} {abX1 : Bool} {coX1 : Option Bool} {ddX1 : Option Addr} {m0X1 m1X1 m2X1 m3X1 m5X1 : Option Value} {neX0 : String} {nmX0 qX0 : Str} {bsX0 : List Value} {snX0 : List Str} {suX0 : List Value} {abX0 : Bool} {coX0 : Option Bool} {ddX0 : Option Addr} {m0X0 m1X0 m2X0 m3X0 m5X0 : Option Value} {vsX1 : Array Value} {fiX1 : Str} {tfX1 : _} {nmX2 qX2 : Str} {bsX2 : List Value} {snX2 : List Str} {suX2 : List Value} {abX2 : Bool} {coX2 : Option Bool} {ddX2 : Option Addr} {m0X2 m1X2 m2X2 m3X2 m5X2 : Option Value} {vsX2 : Array Value} {fiX2 : Str} {tfX2 : _} {nmX3 qX3 : Str} {bsX3 : List Value} {snX3 : List Str} {suX3 : List Value} {abX3 : Bool} {coX3 : Option Bool} {ddX3 : Option Addr} {m0X3 m1X3 m2X3 m3X3 m5X3 : Option Value} {vsX3 : Array Value} {fiX3 : Str} {tfX3 : _}
    (aC0 : PySem.W.nsIn K mainGlobals "Book" = some (some (.ref C0)))
    (aX0 : PySem.W.nsIn K mainGlobals "EarthError" = some (some (.ref X0)))
    (aX1 : PySem.W.nsIn K mainGlobals "BadBook" = some (some (.ref X1)))
    (aX2 : PySem.W.nsIn K mainGlobals "NoSet" = some (some (.ref X2)))
    (aX3 : PySem.W.nsIn K mainGlobals "NoCrews" = some (some (.ref X3)))
    (aX4 : PySem.W.nsIn K mainGlobals "TooMany" = some (some (.ref X4)))
    (a0 : PySem.W.nsIn K mainGlobals "is_integer" = some (some (.ref f0)))
    (l0 : K.lookup f0 = some ⟨oc0, od0, .func (PySem.W.fnOf "is_integer" "is_integer" (defArgs S_is_integer) (defBody S_is_integer) (defScope S_is_integer) .none kV0 dc0 pm0 an0 cd0 ct0), sl0⟩)
    (c0 : PySem.W.codeIn K cd0 "is_integer" = true)
    (k0 : PySem.W.keepIn K (.ref f0) = true)
    (a1 : PySem.W.nsIn K mainGlobals "is_within" = some (some (.ref f1)))
    (l1 : K.lookup f1 = some ⟨oc1, od1, .func (PySem.W.fnOf "is_within" "is_within" (defArgs S_is_within) (defBody S_is_within) (defScope S_is_within) .none kV1 dc1 pm1 an1 cd1 ct1), sl1⟩)
    (c1 : PySem.W.codeIn K cd1 "is_within" = true)
    (k1 : PySem.W.keepIn K (.ref f1) = true)
    (a2 : PySem.W.nsIn K mainGlobals "is_tuple" = some (some (.ref f2)))
    (l2 : K.lookup f2 = some ⟨oc2, od2, .func (PySem.W.fnOf "is_tuple" "is_tuple" (defArgs S_is_tuple) (defBody S_is_tuple) (defScope S_is_tuple) .none kV2 dc2 pm2 an2 cd2 ct2), sl2⟩)
    (c2 : PySem.W.codeIn K cd2 "is_tuple" = true)
    (k2 : PySem.W.keepIn K (.ref f2) = true)
    (a3 : PySem.W.nsIn K mainGlobals "is_lot" = some (some (.ref f3)))
    (l3 : K.lookup f3 = some ⟨oc3, od3, .func (PySem.W.fnOf "is_lot" "is_lot" (defArgs S_is_lot) (defBody S_is_lot) (defScope S_is_lot) .none kV3 dc3 pm3 an3 cd3 ct3), sl3⟩)
    (c3 : PySem.W.codeIn K cd3 "is_lot" = true)
    (k3 : PySem.W.keepIn K (.ref f3) = true)
    (a4 : PySem.W.nsIn K mainGlobals "check_set" = some (some (.ref f4)))
    (l4 : K.lookup f4 = some ⟨oc4, od4, .func (PySem.W.fnOf "check_set" "check_set" (defArgs S_check_set) (defBody S_check_set) (defScope S_check_set) .none kV4 dc4 pm4 an4 cd4 ct4), sl4⟩)
    (c4 : PySem.W.codeIn K cd4 "check_set" = true)
    (k4 : PySem.W.keepIn K (.ref f4) = true)
    (a5 : PySem.W.nsIn K mainGlobals "check_crews" = some (some (.ref f5)))
    (l5 : K.lookup f5 = some ⟨oc5, od5, .func (PySem.W.fnOf "check_crews" "check_crews" (defArgs S_check_crews) (defBody S_check_crews) (defScope S_check_crews) .none kV5 dc5 pm5 an5 cd5 ct5), sl5⟩)
    (c5 : PySem.W.codeIn K cd5 "check_crews" = true)
    (k5 : PySem.W.keepIn K (.ref f5) = true)
    (a6 : PySem.W.nsIn K mainGlobals "needed_by" = some (some (.ref f6)))
    (l6 : K.lookup f6 = some ⟨oc6, od6, .func (PySem.W.fnOf "needed_by" "needed_by" (defArgs S_needed_by) (defBody S_needed_by) (defScope S_needed_by) .none kV6 dc6 pm6 an6 cd6 ct6), sl6⟩)
    (c6 : PySem.W.codeIn K cd6 "needed_by" = true)
    (k6 : PySem.W.keepIn K (.ref f6) = true)
    (a7 : PySem.W.nsIn K mainGlobals "needed" = some (some (.ref f7)))
    (l7 : K.lookup f7 = some ⟨oc7, od7, .func (PySem.W.fnOf "needed" "needed" (defArgs S_needed) (defBody S_needed) (defScope S_needed) .none kV7 dc7 pm7 an7 cd7 ct7), sl7⟩)
    (c7 : PySem.W.codeIn K cd7 "needed" = true)
    (k7 : PySem.W.keepIn K (.ref f7) = true)
    (a8 : PySem.W.nsIn K mainGlobals "are_days" = some (some (.ref f8)))
    (l8 : K.lookup f8 = some ⟨oc8, od8, .func (PySem.W.fnOf "are_days" "are_days" (defArgs S_are_days) (defBody S_are_days) (defScope S_are_days) .none kV8 dc8 pm8 an8 cd8 ct8), sl8⟩)
    (c8 : PySem.W.codeIn K cd8 "are_days" = true)
    (k8 : PySem.W.keepIn K (.ref f8) = true)
    (a9 : PySem.W.nsIn K mainGlobals "is_plan" = some (some (.ref f9)))
    (l9 : K.lookup f9 = some ⟨oc9, od9, .func (PySem.W.fnOf "is_plan" "is_plan" (defArgs S_is_plan) (defBody S_is_plan) (defScope S_is_plan) .none kV9 dc9 pm9 an9 cd9 ct9), sl9⟩)
    (c9 : PySem.W.codeIn K cd9 "is_plan" = true)
    (k9 : PySem.W.keepIn K (.ref f9) = true)
    (a10 : PySem.W.nsIn K mainGlobals "is_pair" = some (some (.ref f10)))
    (l10 : K.lookup f10 = some ⟨oc10, od10, .func (PySem.W.fnOf "is_pair" "is_pair" (defArgs S_is_pair) (defBody S_is_pair) (defScope S_is_pair) .none kV10 dc10 pm10 an10 cd10 ct10), sl10⟩)
    (c10 : PySem.W.codeIn K cd10 "is_pair" = true)
    (k10 : PySem.W.keepIn K (.ref f10) = true)
    (a11 : PySem.W.nsIn K mainGlobals "are_overs" = some (some (.ref f11)))
    (l11 : K.lookup f11 = some ⟨oc11, od11, .func (PySem.W.fnOf "are_overs" "are_overs" (defArgs S_are_overs) (defBody S_are_overs) (defScope S_are_overs) .none kV11 dc11 pm11 an11 cd11 ct11), sl11⟩)
    (c11 : PySem.W.codeIn K cd11 "are_overs" = true)
    (k11 : PySem.W.keepIn K (.ref f11) = true)
    (a12 : PySem.W.nsIn K mainGlobals "is_bound" = some (some (.ref f12)))
    (l12 : K.lookup f12 = some ⟨oc12, od12, .func (PySem.W.fnOf "is_bound" "is_bound" (defArgs S_is_bound) (defBody S_is_bound) (defScope S_is_bound) .none kV12 dc12 pm12 an12 cd12 ct12), sl12⟩)
    (c12 : PySem.W.codeIn K cd12 "is_bound" = true)
    (k12 : PySem.W.keepIn K (.ref f12) = true)
    (a13 : PySem.W.nsIn K mainGlobals "is_date" = some (some (.ref f13)))
    (l13 : K.lookup f13 = some ⟨oc13, od13, .func (PySem.W.fnOf "is_date" "is_date" (defArgs S_is_date) (defBody S_is_date) (defScope S_is_date) .none kV13 dc13 pm13 an13 cd13 ct13), sl13⟩)
    (c13 : PySem.W.codeIn K cd13 "is_date" = true)
    (k13 : PySem.W.keepIn K (.ref f13) = true)
    (a14 : PySem.W.nsIn K mainGlobals "is_kind" = some (some (.ref f14)))
    (l14 : K.lookup f14 = some ⟨oc14, od14, .func (PySem.W.fnOf "is_kind" "is_kind" (defArgs S_is_kind) (defBody S_is_kind) (defScope S_is_kind) .none kV14 dc14 pm14 an14 cd14 ct14), sl14⟩)
    (c14 : PySem.W.codeIn K cd14 "is_kind" = true)
    (k14 : PySem.W.keepIn K (.ref f14) = true)
    (a15 : PySem.W.findIn K (.ref C0) "__init__" = some (some (.ref f15)))
    (i15 : PySem.W.isFn K (.ref f15) = true)
    (l15 : K.lookup f15 = some ⟨oc15, od15, .func (PySem.W.fnOf "__init__" "Book.__init__" (defArgs S_Book_UinitU) (defBody S_Book_UinitU) (defScope S_Book_UinitU) .none kV15 dc15 pm15 an15 cd15 ct15), sl15⟩)
    (c15 : PySem.W.codeIn K cd15 "Book.__init__" = true)
    (k15 : PySem.W.keepIn K (.ref f15) = true)
    (a16 : PySem.W.findIn K (.ref C0) "__eq__" = some (some (.ref f16)))
    (i16 : PySem.W.isFn K (.ref f16) = true)
    (l16 : K.lookup f16 = some ⟨oc16, od16, .func (PySem.W.fnOf "__eq__" "Book.__eq__" (defArgs S_Book_UeqU) (defBody S_Book_UeqU) (defScope S_Book_UeqU) .none kV16 dc16 pm16 an16 cd16 ct16), sl16⟩)
    (c16 : PySem.W.codeIn K cd16 "Book.__eq__" = true)
    (k16 : PySem.W.keepIn K (.ref f16) = true)
    (a17 : PySem.W.findIn K (.ref C0) "parts" = some (some (.ref f17)))
    (i17 : PySem.W.isFn K (.ref f17) = true)
    (l17 : K.lookup f17 = some ⟨oc17, od17, .func (PySem.W.fnOf "parts" "Book.parts" (defArgs S_Book_parts) (defBody S_Book_parts) (defScope S_Book_parts) .none kV17 dc17 pm17 an17 cd17 ct17), sl17⟩)
    (c17 : PySem.W.codeIn K cd17 "Book.parts" = true)
    (k17 : PySem.W.keepIn K (.ref f17) = true)
    (a18 : PySem.W.nsIn K mainGlobals "_law_hand" = some (some (.ref f18)))
    (l18 : K.lookup f18 = some ⟨oc18, od18, .func (PySem.W.fnOf "_law_hand" "_law_hand" (defArgs S_u_law_hand) (defBody S_u_law_hand) (defScope S_u_law_hand) .none kV18 dc18 pm18 an18 cd18 ct18), sl18⟩)
    (c18 : PySem.W.codeIn K cd18 "_law_hand" = true)
    (k18 : PySem.W.keepIn K (.ref f18) = true)
    (a19 : PySem.W.nsIn K mainGlobals "_law_draw" = some (some (.ref f19)))
    (l19 : K.lookup f19 = some ⟨oc19, od19, .func (PySem.W.fnOf "_law_draw" "_law_draw" (defArgs S_u_law_draw) (defBody S_u_law_draw) (defScope S_u_law_draw) .none kV19 dc19 pm19 an19 cd19 ct19), sl19⟩)
    (c19 : PySem.W.codeIn K cd19 "_law_draw" = true)
    (k19 : PySem.W.keepIn K (.ref f19) = true)
    (a20 : PySem.W.nsIn K mainGlobals "_law_any" = some (some (.ref f20)))
    (l20 : K.lookup f20 = some ⟨oc20, od20, .func (PySem.W.fnOf "_law_any" "_law_any" (defArgs S_u_law_any) (defBody S_u_law_any) (defScope S_u_law_any) .none kV20 dc20 pm20 an20 cd20 ct20), sl20⟩)
    (c20 : PySem.W.codeIn K cd20 "_law_any" = true)
    (k20 : PySem.W.keepIn K (.ref f20) = true)
    (a21 : PySem.W.nsIn K mainGlobals "_law_is_int" = some (some (.ref f21)))
    (l21 : K.lookup f21 = some ⟨oc21, od21, .func (PySem.W.fnOf "_law_is_int" "_law_is_int" (defArgs S_u_law_is_int) (defBody S_u_law_is_int) (defScope S_u_law_is_int) .none kV21 dc21 pm21 an21 cd21 ct21), sl21⟩)
    (c21 : PySem.W.codeIn K cd21 "_law_is_int" = true)
    (k21 : PySem.W.keepIn K (.ref f21) = true)
    (a22 : PySem.W.nsIn K mainGlobals "_law_overs" = some (some (.ref f22)))
    (l22 : K.lookup f22 = some ⟨oc22, od22, .func (PySem.W.fnOf "_law_overs" "_law_overs" (defArgs S_u_law_overs) (defBody S_u_law_overs) (defScope S_u_law_overs) .none kV22 dc22 pm22 an22 cd22 ct22), sl22⟩)
    (c22 : PySem.W.codeIn K cd22 "_law_overs" = true)
    (k22 : PySem.W.keepIn K (.ref f22) = true)
    (a23 : PySem.W.nsIn K mainGlobals "_law_mixed" = some (some (.ref f23)))
    (l23 : K.lookup f23 = some ⟨oc23, od23, .func (PySem.W.fnOf "_law_mixed" "_law_mixed" (defArgs S_u_law_mixed) (defBody S_u_law_mixed) (defScope S_u_law_mixed) .none kV23 dc23 pm23 an23 cd23 ct23), sl23⟩)
    (c23 : PySem.W.codeIn K cd23 "_law_mixed" = true)
    (k23 : PySem.W.keepIn K (.ref f23) = true)
    (a24 : PySem.W.nsIn K mainGlobals "_law_bare" = some (some (.ref f24)))
    (l24 : K.lookup f24 = some ⟨oc24, od24, .func (PySem.W.fnOf "_law_bare" "_law_bare" (defArgs S_u_law_bare) (defBody S_u_law_bare) (defScope S_u_law_bare) .none kV24 dc24 pm24 an24 cd24 ct24), sl24⟩)
    (c24 : PySem.W.codeIn K cd24 "_law_bare" = true)
    (k24 : PySem.W.keepIn K (.ref f24) = true)
    (a25 : PySem.W.nsIn K mainGlobals "_law_is_lot" = some (some (.ref f25)))
    (l25 : K.lookup f25 = some ⟨oc25, od25, .func (PySem.W.fnOf "_law_is_lot" "_law_is_lot" (defArgs S_u_law_is_lot) (defBody S_u_law_is_lot) (defScope S_u_law_is_lot) .none kV25 dc25 pm25 an25 cd25 ct25), sl25⟩)
    (c25 : PySem.W.codeIn K cd25 "_law_is_lot" = true)
    (k25 : PySem.W.keepIn K (.ref f25) = true)
    (a26 : PySem.W.nsIn K mainGlobals "_law_needed" = some (some (.ref f26)))
    (l26 : K.lookup f26 = some ⟨oc26, od26, .func (PySem.W.fnOf "_law_needed" "_law_needed" (defArgs S_u_law_needed) (defBody S_u_law_needed) (defScope S_u_law_needed) .none kV26 dc26 pm26 an26 cd26 ct26), sl26⟩)
    (c26 : PySem.W.codeIn K cd26 "_law_needed" = true)
    (k26 : PySem.W.keepIn K (.ref f26) = true)
    (a27 : PySem.W.nsIn K mainGlobals "_law_is_plan" = some (some (.ref f27)))
    (l27 : K.lookup f27 = some ⟨oc27, od27, .func (PySem.W.fnOf "_law_is_plan" "_law_is_plan" (defArgs S_u_law_is_plan) (defBody S_u_law_is_plan) (defScope S_u_law_is_plan) .none kV27 dc27 pm27 an27 cd27 ct27), sl27⟩)
    (c27 : PySem.W.codeIn K cd27 "_law_is_plan" = true)
    (k27 : PySem.W.keepIn K (.ref f27) = true)
    (a28 : PySem.W.nsIn K mainGlobals "_law_odd_set" = some (some (.ref f28)))
    (l28 : K.lookup f28 = some ⟨oc28, od28, .func (PySem.W.fnOf "_law_odd_set" "_law_odd_set" (defArgs S_u_law_odd_set) (defBody S_u_law_odd_set) (defScope S_u_law_odd_set) .none kV28 dc28 pm28 an28 cd28 ct28), sl28⟩)
    (c28 : PySem.W.codeIn K cd28 "_law_odd_set" = true)
    (k28 : PySem.W.keepIn K (.ref f28) = true)
    (a29 : PySem.W.nsIn K mainGlobals "_law_word" = some (some (.ref f29)))
    (l29 : K.lookup f29 = some ⟨oc29, od29, .func (PySem.W.fnOf "_law_word" "_law_word" (defArgs S_u_law_word) (defBody S_u_law_word) (defScope S_u_law_word) .none kV29 dc29 pm29 an29 cd29 ct29), sl29⟩)
    (c29 : PySem.W.codeIn K cd29 "_law_word" = true)
    (k29 : PySem.W.keepIn K (.ref f29) = true)
    (a30 : PySem.W.nsIn K mainGlobals "_law_own_plan" = some (some (.ref f30)))
    (l30 : K.lookup f30 = some ⟨oc30, od30, .func (PySem.W.fnOf "_law_own_plan" "_law_own_plan" (defArgs S_u_law_own_plan) (defBody S_u_law_own_plan) (defScope S_u_law_own_plan) .none kV30 dc30 pm30 an30 cd30 ct30), sl30⟩)
    (c30 : PySem.W.codeIn K cd30 "_law_own_plan" = true)
    (k30 : PySem.W.keepIn K (.ref f30) = true)
    (a31 : PySem.W.nsIn K mainGlobals "_law_bent" = some (some (.ref f31)))
    (l31 : K.lookup f31 = some ⟨oc31, od31, .func (PySem.W.fnOf "_law_bent" "_law_bent" (defArgs S_u_law_bent) (defBody S_u_law_bent) (defScope S_u_law_bent) .none kV31 dc31 pm31 an31 cd31 ct31), sl31⟩)
    (c31 : PySem.W.codeIn K cd31 "_law_bent" = true)
    (k31 : PySem.W.keepIn K (.ref f31) = true)
    (a32 : PySem.W.nsIn K mainGlobals "_law_is_right" = some (some (.ref f32)))
    (l32 : K.lookup f32 = some ⟨oc32, od32, .func (PySem.W.fnOf "_law_is_right" "_law_is_right" (defArgs S_u_law_is_right) (defBody S_u_law_is_right) (defScope S_u_law_is_right) .none kV32 dc32 pm32 an32 (.ref co0) ct32), sl32⟩)
    (c32 : PySem.W.codeIn K (.ref co0) "_law_is_right" = true)
    (k32 : PySem.W.keepIn K (.ref f32) = true)
    (a33 : PySem.W.nsIn K mainGlobals "_law_known_right" = some (some (.ref f33)))
    (l33 : K.lookup f33 = some ⟨oc33, od33, .func (PySem.W.fnOf "_law_known_right" "_law_known_right" (defArgs S_u_law_known_right) (defBody S_u_law_known_right) (defScope S_u_law_known_right) .none kV33 dc33 pm33 an33 cd33 ct33), sl33⟩)
    (c33 : PySem.W.codeIn K cd33 "_law_known_right" = true)
    (k33 : PySem.W.keepIn K (.ref f33) = true)
    (a34 : PySem.W.nsIn K mainGlobals "law" = some (some (.ref f34)))
    (l34 : K.lookup f34 = some ⟨oc34, od34, .func (PySem.W.fnOf "law" "law" (defArgs S_law) (defBody S_law) (defScope S_law) .none kV34 dc34 pm34 an34 cd34 ct34), sl34⟩)
    (c34 : PySem.W.codeIn K cd34 "law" = true)
    (k34 : PySem.W.keepIn K (.ref f34) = true)
    (ml0 : K.lookup co0 = some ⟨mcl0, mcd0, .fields mvs0, mcs0⟩)
    (mv0 : mvs0[11]? = some (.ref ta0))
    (mh0 : PySem.W.codeHdIn K co0 ta0 = true)
    (mn0 : K.lookup ta0 = none)
    (mt0 : h.get? ta0 = some { cls := .none, data := .fields #[] })
    (n_ValueError : PySem.W.nsIn K mainGlobals "ValueError" = some none)
    (n_abs : PySem.W.nsIn K mainGlobals "abs" = some none)
    (n_all : PySem.W.nsIn K mainGlobals "all" = some none)
    (n_any : PySem.W.nsIn K mainGlobals "any" = some none)
    (n_bool : PySem.W.nsIn K mainGlobals "bool" = some none)
    (n_dict : PySem.W.nsIn K mainGlobals "dict" = some none)
    (n_enumerate : PySem.W.nsIn K mainGlobals "enumerate" = some none)
    (n_int : PySem.W.nsIn K mainGlobals "int" = some none)
    (n_isinstance : PySem.W.nsIn K mainGlobals "isinstance" = some none)
    (n_len : PySem.W.nsIn K mainGlobals "len" = some none)
    (n_list : PySem.W.nsIn K mainGlobals "list" = some none)
    (n_max : PySem.W.nsIn K mainGlobals "max" = some none)
    (n_min : PySem.W.nsIn K mainGlobals "min" = some none)
    (n_range : PySem.W.nsIn K mainGlobals "range" = some none)
    (n_set : PySem.W.nsIn K mainGlobals "set" = some none)
    (n_sorted : PySem.W.nsIn K mainGlobals "sorted" = some none)
    (n_super : PySem.W.nsIn K mainGlobals "super" = some none)
    (n_tuple : PySem.W.nsIn K mainGlobals "tuple" = some none)
    (n_zip : PySem.W.nsIn K mainGlobals "zip" = some none)
    (c_FARTHEST : PySem.W.nsIn K mainGlobals "FARTHEST" = some (some (.int 100000 t_FARTHEST)))
    (c_MOST_CREWS : PySem.W.nsIn K mainGlobals "MOST_CREWS" = some (some (.int 4 t_MOST_CREWS)))
    (c_MOST_KINDS : PySem.W.nsIn K mainGlobals "MOST_KINDS" = some (some (.int 16 t_MOST_KINDS)))
    (c_MOST_LAYERS : PySem.W.nsIn K mainGlobals "MOST_LAYERS" = some (some (.int 16 t_MOST_LAYERS)))
    (hn : PySem.W.specialIn K (.builtin "object.__class__") "__get__" = some (some (.builtin "getset_descriptor.__get__")))
    (htk : PySem.W.takesIn K (.builtin "object.__class__") = some true)
    (pgC0 : PySem.W.plainGet K C0 Str.empty = true)
    (hdC0 : PySem.W.hasDictIn K C0 = true)
    (poC0 : PySem.W.plainOver K C0 = true)
    (saC0 : PySem.W.findIn K (.ref C0) "__setattr__" = some (some (.builtin "object.__setattr__")))
    (mkC0 : PySem.W.makesIn K C0 = true)
    (kcC0 : PySem.W.keepIn K (.ref C0) = true)
    (noC0_0 : PySem.W.findIn K (.ref C0) "count" = some none)
    (noC0_1 : PySem.W.findIn K (.ref C0) "overs" = some none)
    (noC0_2 : PySem.W.findIn K (.ref C0) "dates" = some none)
    (noC0_3 : PySem.W.findIn K (.ref C0) "kinds" = some none)
    (noC0_4 : PySem.W.findIn K (.ref C0) "looked" = some none)
    (haC0 : PySem.W.findIn K (.ref C0) "__class__" = some (some (.builtin "object.__class__")))
    (moC0 : PySem.W.mroIn K C0 (.type "object") = some true)
    (isC0 : PySem.W.isClsIn K C0 = true)
    (tyC0 : PySem.W.typeIn K (.ref C0) = some (.type "type"))
    (sbC0_bool : PySem.W.subIn K (.ref C0) (.type "bool") = some false)
    (sbC0_int : PySem.W.subIn K (.ref C0) (.type "int") = some false)
    (sbC0_tuple : PySem.W.subIn K (.ref C0) (.type "tuple") = some false)
    (sbC0C0 : PySem.W.subIn K (.ref C0) (.ref C0) = some true)
    (neC0 : PySem.W.findIn K (.ref C0) "__ne__" = some (some (.builtin "object.__ne__")))
    (exX0 : PySem.W.subIn K (.ref X0) (.type "BaseException") = some true)
    (isX0 : PySem.W.isClsIn K X0 = true)
    (tyX0 : PySem.W.typeIn K (.ref X0) = some (.type "type"))
    (sxX0 : PySem.W.subIn K (.ref X0) (.ref X0) = some true)
    (exX1 : PySem.W.subIn K (.ref X1) (.type "BaseException") = some true)
    (isX1 : PySem.W.isClsIn K X1 = true)
    (tyX1 : PySem.W.typeIn K (.ref X1) = some (.type "type"))
    (sxX1 : PySem.W.subIn K (.ref X1) (.ref X1) = some true)
    (exX2 : PySem.W.subIn K (.ref X2) (.type "BaseException") = some true)
    (isX2 : PySem.W.isClsIn K X2 = true)
    (tyX2 : PySem.W.typeIn K (.ref X2) = some (.type "type"))
    (sxX2 : PySem.W.subIn K (.ref X2) (.ref X2) = some true)
    (exX3 : PySem.W.subIn K (.ref X3) (.type "BaseException") = some true)
    (isX3 : PySem.W.isClsIn K X3 = true)
    (tyX3 : PySem.W.typeIn K (.ref X3) = some (.type "type"))
    (sxX3 : PySem.W.subIn K (.ref X3) (.ref X3) = some true)
    (exX4 : PySem.W.subIn K (.ref X4) (.type "BaseException") = some true)
    (isX4 : PySem.W.isClsIn K X4 = true)
    (tyX4 : PySem.W.typeIn K (.ref X4) = some (.type "type"))
    (sxX4 : PySem.W.subIn K (.ref X4) (.ref X4) = some true)
    (sX1X0 : PySem.W.subIn K (.ref X1) (.ref X0) = some true)
    (sX1X2 : PySem.W.subIn K (.ref X1) (.ref X2) = some false)
    (sX1X3 : PySem.W.subIn K (.ref X1) (.ref X3) = some false)
    (sX1X4 : PySem.W.subIn K (.ref X1) (.ref X4) = some false)
    (xX1 : K.lookup X1 = some (excClassObj nmX1 qX1 X1 NX1 bsX1 [.ref X0, .type "ValueError", .type "Exception", .type "BaseException", .type "object"] true snX1 suX1 abX1 coX1 ddX1 m0X1 m1X1 m2X1 m3X1 m5X1 "ValueError.__new__"))
    (xX0 : K.lookup X0 = some (excClassObj nmX0 qX0 X0 NX0 bsX0 [.type "ValueError", .type "Exception", .type "BaseException", .type "object"] true snX0 suX0 abX0 coX0 ddX0 m0X0 m1X0 m2X0 m3X0 m5X0 neX0))
    (spX1 : PySem.W.findIn K (.ref X0) "__init__" = some (some (.builtin "ValueError.__init__")))
    (saX1 : PySem.W.findIn K (.ref X1) "__setattr__" = some (some (.builtin "object.__setattr__")))
    (gaX1 : PySem.W.findIn K (.ref X1) "__getattribute__" = some (some (.builtin "BaseException.__getattribute__")))
    (ggX1 : PySem.W.findIn K (.ref X1) "__getattr__" = some none)
    (nfX1 : PySem.W.findIn K (.ref X1) "part" = some none)
    (iiX1 : PySem.W.findIn K (.ref X1) "__init__" = some (some (.ref fIX1)))
    (tiX1 : PySem.W.typeIn K (.ref fIX1) = some (.type "function"))
    (kcX1 : PySem.W.keepIn K (.ref X1) = true)
    (veX1 : PySem.W.subIn K (.ref X1) (.type "ValueError") = some true)
    (hdX1 : PySem.W.hasDictIn K X1 = true)
    (opq : PySem.W.nsIn K cStatics "thirdparty.any" = some none)
    (haX1 : PySem.W.findIn K (.ref X1) "__class__" = some (some (.builtin "object.__class__")))
    (moX1 : PySem.W.mroIn K X1 (.type "object") = some true)
    (seX1 : PySem.W.mroIn K X1 (.ref X1) = some true)
    (lIX1 : K.lookup fIX1 = some ⟨oIX1, odIX1, .func (PySem.W.ksFn "__init__" "BadBook.__init__" (PySem.DX.A1 "part" ⟨17, 17, 17, 21⟩ ⟨17, 23, 17, 27⟩) (PySem.DX.B1 "part" ⟨18, 8, 18, 13⟩ ⟨18, 8, 18, 15⟩ ⟨18, 8, 18, 24⟩ ⟨18, 25, 18, 29⟩ ⟨18, 8, 18, 30⟩ ⟨18, 8, 18, 30⟩ ⟨19, 8, 19, 12⟩ ⟨19, 8, 19, 17⟩ ⟨19, 20, 19, 24⟩ ⟨19, 8, 19, 24⟩) (PySem.DX.S1 "part") .none .none dIX1 pIX1 anIX1 (.ref cdaX1) tIX1 ccX1), slIX1⟩)
    (cIX1 : PySem.W.codeIn K (.ref cdaX1) "BadBook.__init__" = true)
    (lcX1 : K.lookup cdaX1 = some ⟨cclX1, ccdX1, .fields vsX1, ccsX1⟩)
    (vcX1 : vsX1[2]? = some (.str fiX1 tfX1))
    (fcX1 : ((PySem.Challenge.rw_earthtold_k40_whole_needed_and_plans_jud).prog.main.file : Str) == fiX1)
    (ceX1 : K.lookup ccX1 = some ⟨clX1, cldX1, .cell (some (.ref X1)), cslX1⟩)
    (sX2X0 : PySem.W.subIn K (.ref X2) (.ref X0) = some true)
    (sX2X1 : PySem.W.subIn K (.ref X2) (.ref X1) = some false)
    (sX2X3 : PySem.W.subIn K (.ref X2) (.ref X3) = some false)
    (sX2X4 : PySem.W.subIn K (.ref X2) (.ref X4) = some false)
    (xX2 : K.lookup X2 = some (excClassObj nmX2 qX2 X2 NX2 bsX2 [.ref X0, .type "ValueError", .type "Exception", .type "BaseException", .type "object"] true snX2 suX2 abX2 coX2 ddX2 m0X2 m1X2 m2X2 m3X2 m5X2 "ValueError.__new__"))
    (spX2 : PySem.W.findIn K (.ref X0) "__init__" = some (some (.builtin "ValueError.__init__")))
    (saX2 : PySem.W.findIn K (.ref X2) "__setattr__" = some (some (.builtin "object.__setattr__")))
    (gaX2 : PySem.W.findIn K (.ref X2) "__getattribute__" = some (some (.builtin "BaseException.__getattribute__")))
    (ggX2 : PySem.W.findIn K (.ref X2) "__getattr__" = some none)
    (iiX2 : PySem.W.findIn K (.ref X2) "__init__" = some (some (.ref fIX2)))
    (tiX2 : PySem.W.typeIn K (.ref fIX2) = some (.type "function"))
    (kcX2 : PySem.W.keepIn K (.ref X2) = true)
    (veX2 : PySem.W.subIn K (.ref X2) (.type "ValueError") = some true)
    (hdX2 : PySem.W.hasDictIn K X2 = true)
    (haX2 : PySem.W.findIn K (.ref X2) "__class__" = some (some (.builtin "object.__class__")))
    (moX2 : PySem.W.mroIn K X2 (.type "object") = some true)
    (seX2 : PySem.W.mroIn K X2 (.ref X2) = some true)
    (lIX2 : K.lookup fIX2 = some ⟨oIX2, odIX2, .func (PySem.W.ksFn "__init__" "NoSet.__init__" (PySem.DX.A0 ⟨22, 17, 22, 21⟩) (PySem.DX.B0 ⟨23, 8, 23, 13⟩ ⟨23, 8, 23, 15⟩ ⟨23, 8, 23, 24⟩ ⟨23, 8, 23, 26⟩ ⟨23, 8, 23, 26⟩) (PySem.DX.S0) .none .none dIX2 pIX2 anIX2 (.ref cdaX2) tIX2 ccX2), slIX2⟩)
    (cIX2 : PySem.W.codeIn K (.ref cdaX2) "NoSet.__init__" = true)
    (lcX2 : K.lookup cdaX2 = some ⟨cclX2, ccdX2, .fields vsX2, ccsX2⟩)
    (vcX2 : vsX2[2]? = some (.str fiX2 tfX2))
    (fcX2 : ((PySem.Challenge.rw_earthtold_k40_whole_needed_and_plans_jud).prog.main.file : Str) == fiX2)
    (ceX2 : K.lookup ccX2 = some ⟨clX2, cldX2, .cell (some (.ref X2)), cslX2⟩)
    (sX3X0 : PySem.W.subIn K (.ref X3) (.ref X0) = some true)
    (sX3X1 : PySem.W.subIn K (.ref X3) (.ref X1) = some false)
    (sX3X2 : PySem.W.subIn K (.ref X3) (.ref X2) = some false)
    (sX3X4 : PySem.W.subIn K (.ref X3) (.ref X4) = some false)
    (xX3 : K.lookup X3 = some (excClassObj nmX3 qX3 X3 NX3 bsX3 [.ref X0, .type "ValueError", .type "Exception", .type "BaseException", .type "object"] true snX3 suX3 abX3 coX3 ddX3 m0X3 m1X3 m2X3 m3X3 m5X3 "ValueError.__new__"))
    (spX3 : PySem.W.findIn K (.ref X0) "__init__" = some (some (.builtin "ValueError.__init__")))
    (saX3 : PySem.W.findIn K (.ref X3) "__setattr__" = some (some (.builtin "object.__setattr__")))
    (gaX3 : PySem.W.findIn K (.ref X3) "__getattribute__" = some (some (.builtin "BaseException.__getattribute__")))
    (ggX3 : PySem.W.findIn K (.ref X3) "__getattr__" = some none)
    (iiX3 : PySem.W.findIn K (.ref X3) "__init__" = some (some (.ref fIX3)))
    (tiX3 : PySem.W.typeIn K (.ref fIX3) = some (.type "function"))
    (kcX3 : PySem.W.keepIn K (.ref X3) = true)
    (veX3 : PySem.W.subIn K (.ref X3) (.type "ValueError") = some true)
    (hdX3 : PySem.W.hasDictIn K X3 = true)
    (haX3 : PySem.W.findIn K (.ref X3) "__class__" = some (some (.builtin "object.__class__")))
    (moX3 : PySem.W.mroIn K X3 (.type "object") = some true)
    (seX3 : PySem.W.mroIn K X3 (.ref X3) = some true)
    (lIX3 : K.lookup fIX3 = some ⟨oIX3, odIX3, .func (PySem.W.ksFn "__init__" "NoCrews.__init__" (PySem.DX.A0 ⟨26, 17, 26, 21⟩) (PySem.DX.B0 ⟨27, 8, 27, 13⟩ ⟨27, 8, 27, 15⟩ ⟨27, 8, 27, 24⟩ ⟨27, 8, 27, 26⟩ ⟨27, 8, 27, 26⟩) (PySem.DX.S0) .none .none dIX3 pIX3 anIX3 (.ref cdaX3) tIX3 ccX3), slIX3⟩)
    (cIX3 : PySem.W.codeIn K (.ref cdaX3) "NoCrews.__init__" = true)
    (lcX3 : K.lookup cdaX3 = some ⟨cclX3, ccdX3, .fields vsX3, ccsX3⟩)
    (vcX3 : vsX3[2]? = some (.str fiX3 tfX3))
    (fcX3 : ((PySem.Challenge.rw_earthtold_k40_whole_needed_and_plans_jud).prog.main.file : Str) == fiX3)
    (ceX3 : K.lookup ccX3 = some ⟨clX3, cldX3, .cell (some (.ref X3)), cslX3⟩)
    : LamX.LawAtS PySem.Challenge.rw_earthtold_k40_whole_needed_and_plans_jud w K (L2.CX PySem.Challenge.rw_earthtold_k40_whole_needed_and_plans_jud.prog w) 10 63 "script" mg fa h := by
  have e := hfa.symm.trans (PySem.W.mg_of X G a34)
  cases e
  have F0 := fun_mk (st := S_is_integer) l0 c0 k0
  have F1 := fun_mk (st := S_is_within) l1 c1 k1
  have F2 := fun_mk (st := S_is_tuple) l2 c2 k2
  have F3 := fun_mk (st := S_is_lot) l3 c3 k3
  have F4 := fun_mk (st := S_check_set) l4 c4 k4
  have F5 := fun_mk (st := S_check_crews) l5 c5 k5
  have F6 := fun_mk (st := S_needed_by) l6 c6 k6
  have F7 := fun_mk (st := S_needed) l7 c7 k7
  have F8 := fun_mk (st := S_are_days) l8 c8 k8
  have F9 := fun_mk (st := S_is_plan) l9 c9 k9
  have F10 := fun_mk (st := S_is_pair) l10 c10 k10
  have F11 := fun_mk (st := S_are_overs) l11 c11 k11
  have F12 := fun_mk (st := S_is_bound) l12 c12 k12
  have F13 := fun_mk (st := S_is_date) l13 c13 k13
  have F14 := fun_mk (st := S_is_kind) l14 c14 k14
  have F15 := fun_mk (st := S_Book_UinitU) l15 c15 k15
  have F16 := fun_mk (st := S_Book_UeqU) l16 c16 k16
  have F17 := fun_mk (st := S_Book_parts) l17 c17 k17
  have F18 := fun_mk (st := S_u_law_hand) l18 c18 k18
  have F19 := fun_mk (st := S_u_law_draw) l19 c19 k19
  have F20 := fun_mk (st := S_u_law_any) l20 c20 k20
  have F21 := fun_mk (st := S_u_law_is_int) l21 c21 k21
  have F22 := fun_mk (st := S_u_law_overs) l22 c22 k22
  have F23 := fun_mk (st := S_u_law_mixed) l23 c23 k23
  have F24 := fun_mk (st := S_u_law_bare) l24 c24 k24
  have F25 := fun_mk (st := S_u_law_is_lot) l25 c25 k25
  have F26 := fun_mk (st := S_u_law_needed) l26 c26 k26
  have F27 := fun_mk (st := S_u_law_is_plan) l27 c27 k27
  have F28 := fun_mk (st := S_u_law_odd_set) l28 c28 k28
  have F29 := fun_mk (st := S_u_law_word) l29 c29 k29
  have F30 := fun_mk (st := S_u_law_own_plan) l30 c30 k30
  have F31 := fun_mk (st := S_u_law_bent) l31 c31 k31
  have F32 := fun_mk (st := S_u_law_is_right) l32 c32 k32
  have F33 := fun_mk (st := S_u_law_known_right) l33 c33 k33
  have F34 := fun_mk (st := S_law) l34 c34 k34
  refine ⟨PySem.W.fnOf "law" "law" (defArgs S_law) (defBody S_law) (defScope S_law) .none kV34 dc34 pm34 an34 cd34 ct34, [(co0, ta0)], DM.spLawT K [(co0, ta0)], fun p hp => by
    simp only [List.mem_cons, List.mem_nil_iff, or_false] at hp
    subst hp; exact mt0, fun p hp => by
    simp only [List.mem_cons, List.mem_nil_iff, or_false] at hp
    subst hp; exact mn0, fun p hp => by
    simp only [List.mem_cons, List.mem_nil_iff, or_false] at hp
    subst hp; exact PySem.W.codeHd_of_K X mh0, fun s v => .of_eq rfl, fun H a ns hl _ hc hS => ⟨a, ns, rfl, hS, hl, hc, fun _ => rfl⟩, fun base KB NB TB => ?_⟩
  have E : Env PySem.Challenge.rw_earthtold_k40_whole_needed_and_plans_jud.prog K mg base (fun i => match i with | 0 => f0 | 1 => f1 | 2 => f2 | 3 => f3 | 4 => f4 | 5 => f5 | 6 => f6 | 7 => f7 | 8 => f8 | 9 => f9 | 10 => f10 | 11 => f11 | 12 => f12 | 13 => f13 | 14 => f14 | 15 => f15 | 16 => f16 | 17 => f17 | 18 => f18 | 19 => f19 | 20 => f20 | 21 => f21 | 22 => f22 | 23 => f23 | 24 => f24 | 25 => f25 | 26 => f26 | 27 => f27 | 28 => f28 | 29 => f29 | 30 => f30 | 31 => f31 | 32 => f32 | 33 => f33 | 34 => fa | _ => 0) (fun i => match i with | 0 => PySem.W.fnOf "is_integer" "is_integer" (defArgs S_is_integer) (defBody S_is_integer) (defScope S_is_integer) .none kV0 dc0 pm0 an0 cd0 ct0 | 1 => PySem.W.fnOf "is_within" "is_within" (defArgs S_is_within) (defBody S_is_within) (defScope S_is_within) .none kV1 dc1 pm1 an1 cd1 ct1 | 2 => PySem.W.fnOf "is_tuple" "is_tuple" (defArgs S_is_tuple) (defBody S_is_tuple) (defScope S_is_tuple) .none kV2 dc2 pm2 an2 cd2 ct2 | 3 => PySem.W.fnOf "is_lot" "is_lot" (defArgs S_is_lot) (defBody S_is_lot) (defScope S_is_lot) .none kV3 dc3 pm3 an3 cd3 ct3 | 4 => PySem.W.fnOf "check_set" "check_set" (defArgs S_check_set) (defBody S_check_set) (defScope S_check_set) .none kV4 dc4 pm4 an4 cd4 ct4 | 5 => PySem.W.fnOf "check_crews" "check_crews" (defArgs S_check_crews) (defBody S_check_crews) (defScope S_check_crews) .none kV5 dc5 pm5 an5 cd5 ct5 | 6 => PySem.W.fnOf "needed_by" "needed_by" (defArgs S_needed_by) (defBody S_needed_by) (defScope S_needed_by) .none kV6 dc6 pm6 an6 cd6 ct6 | 7 => PySem.W.fnOf "needed" "needed" (defArgs S_needed) (defBody S_needed) (defScope S_needed) .none kV7 dc7 pm7 an7 cd7 ct7 | 8 => PySem.W.fnOf "are_days" "are_days" (defArgs S_are_days) (defBody S_are_days) (defScope S_are_days) .none kV8 dc8 pm8 an8 cd8 ct8 | 9 => PySem.W.fnOf "is_plan" "is_plan" (defArgs S_is_plan) (defBody S_is_plan) (defScope S_is_plan) .none kV9 dc9 pm9 an9 cd9 ct9 | 10 => PySem.W.fnOf "is_pair" "is_pair" (defArgs S_is_pair) (defBody S_is_pair) (defScope S_is_pair) .none kV10 dc10 pm10 an10 cd10 ct10 | 11 => PySem.W.fnOf "are_overs" "are_overs" (defArgs S_are_overs) (defBody S_are_overs) (defScope S_are_overs) .none kV11 dc11 pm11 an11 cd11 ct11 | 12 => PySem.W.fnOf "is_bound" "is_bound" (defArgs S_is_bound) (defBody S_is_bound) (defScope S_is_bound) .none kV12 dc12 pm12 an12 cd12 ct12 | 13 => PySem.W.fnOf "is_date" "is_date" (defArgs S_is_date) (defBody S_is_date) (defScope S_is_date) .none kV13 dc13 pm13 an13 cd13 ct13 | 14 => PySem.W.fnOf "is_kind" "is_kind" (defArgs S_is_kind) (defBody S_is_kind) (defScope S_is_kind) .none kV14 dc14 pm14 an14 cd14 ct14 | 15 => PySem.W.fnOf "__init__" "Book.__init__" (defArgs S_Book_UinitU) (defBody S_Book_UinitU) (defScope S_Book_UinitU) .none kV15 dc15 pm15 an15 cd15 ct15 | 16 => PySem.W.fnOf "__eq__" "Book.__eq__" (defArgs S_Book_UeqU) (defBody S_Book_UeqU) (defScope S_Book_UeqU) .none kV16 dc16 pm16 an16 cd16 ct16 | 17 => PySem.W.fnOf "parts" "Book.parts" (defArgs S_Book_parts) (defBody S_Book_parts) (defScope S_Book_parts) .none kV17 dc17 pm17 an17 cd17 ct17 | 18 => PySem.W.fnOf "_law_hand" "_law_hand" (defArgs S_u_law_hand) (defBody S_u_law_hand) (defScope S_u_law_hand) .none kV18 dc18 pm18 an18 cd18 ct18 | 19 => PySem.W.fnOf "_law_draw" "_law_draw" (defArgs S_u_law_draw) (defBody S_u_law_draw) (defScope S_u_law_draw) .none kV19 dc19 pm19 an19 cd19 ct19 | 20 => PySem.W.fnOf "_law_any" "_law_any" (defArgs S_u_law_any) (defBody S_u_law_any) (defScope S_u_law_any) .none kV20 dc20 pm20 an20 cd20 ct20 | 21 => PySem.W.fnOf "_law_is_int" "_law_is_int" (defArgs S_u_law_is_int) (defBody S_u_law_is_int) (defScope S_u_law_is_int) .none kV21 dc21 pm21 an21 cd21 ct21 | 22 => PySem.W.fnOf "_law_overs" "_law_overs" (defArgs S_u_law_overs) (defBody S_u_law_overs) (defScope S_u_law_overs) .none kV22 dc22 pm22 an22 cd22 ct22 | 23 => PySem.W.fnOf "_law_mixed" "_law_mixed" (defArgs S_u_law_mixed) (defBody S_u_law_mixed) (defScope S_u_law_mixed) .none kV23 dc23 pm23 an23 cd23 ct23 | 24 => PySem.W.fnOf "_law_bare" "_law_bare" (defArgs S_u_law_bare) (defBody S_u_law_bare) (defScope S_u_law_bare) .none kV24 dc24 pm24 an24 cd24 ct24 | 25 => PySem.W.fnOf "_law_is_lot" "_law_is_lot" (defArgs S_u_law_is_lot) (defBody S_u_law_is_lot) (defScope S_u_law_is_lot) .none kV25 dc25 pm25 an25 cd25 ct25 | 26 => PySem.W.fnOf "_law_needed" "_law_needed" (defArgs S_u_law_needed) (defBody S_u_law_needed) (defScope S_u_law_needed) .none kV26 dc26 pm26 an26 cd26 ct26 | 27 => PySem.W.fnOf "_law_is_plan" "_law_is_plan" (defArgs S_u_law_is_plan) (defBody S_u_law_is_plan) (defScope S_u_law_is_plan) .none kV27 dc27 pm27 an27 cd27 ct27 | 28 => PySem.W.fnOf "_law_odd_set" "_law_odd_set" (defArgs S_u_law_odd_set) (defBody S_u_law_odd_set) (defScope S_u_law_odd_set) .none kV28 dc28 pm28 an28 cd28 ct28 | 29 => PySem.W.fnOf "_law_word" "_law_word" (defArgs S_u_law_word) (defBody S_u_law_word) (defScope S_u_law_word) .none kV29 dc29 pm29 an29 cd29 ct29 | 30 => PySem.W.fnOf "_law_own_plan" "_law_own_plan" (defArgs S_u_law_own_plan) (defBody S_u_law_own_plan) (defScope S_u_law_own_plan) .none kV30 dc30 pm30 an30 cd30 ct30 | 31 => PySem.W.fnOf "_law_bent" "_law_bent" (defArgs S_u_law_bent) (defBody S_u_law_bent) (defScope S_u_law_bent) .none kV31 dc31 pm31 an31 cd31 ct31 | 32 => PySem.W.fnOf "_law_is_right" "_law_is_right" (defArgs S_u_law_is_right) (defBody S_u_law_is_right) (defScope S_u_law_is_right) .none kV32 dc32 pm32 an32 (.ref co0) ct32 | 33 => PySem.W.fnOf "_law_known_right" "_law_known_right" (defArgs S_u_law_known_right) (defBody S_u_law_known_right) (defScope S_u_law_known_right) .none kV33 dc33 pm33 an33 cd33 ct33 | 34 => PySem.W.fnOf "law" "law" (defArgs S_law) (defBody S_law) (defScope S_law) .none kV34 dc34 pm34 an34 cd34 ct34 | _ => PySem.W.fnOf "law" "law" (defArgs S_law) (defBody S_law) (defScope S_law) .none kV34 dc34 pm34 an34 cd34 ct34) (fun i => match i with | 0 => C0 | _ => 0) (fun i => match i with | 0 => X0 | 1 => X1 | 2 => X2 | 3 => X3 | 4 => X4 | _ => 0) (fun i => match i with | 0 => ta0 | _ => 0) (fun i => match i with | 0 => co0 | _ => 0) := {
    f_is_integer := (F0),
    b_is_integer := (F0.binds (ps := ["thing"]) fun _ _ _ _ _ _ us hl => match us, hl with | [_], _ => rfl),
    g_is_integer := (PySem.W.mg_of X G a0),
    k_is_integer := (k0),
    f_is_within := (F1),
    b_is_within := (F1.binds (ps := ["thing", "low", "high"]) fun _ _ _ _ _ _ us hl => match us, hl with | [_, _, _], _ => rfl),
    g_is_within := (PySem.W.mg_of X G a1),
    k_is_within := (k1),
    f_is_tuple := (F2),
    b_is_tuple := (F2.binds (ps := ["thing", "least", "most"]) fun _ _ _ _ _ _ us hl => match us, hl with | [_, _, _], _ => rfl),
    g_is_tuple := (PySem.W.mg_of X G a2),
    k_is_tuple := (k2),
    f_is_lot := (F3),
    b_is_lot := (F3.binds (ps := ["thing", "many"]) fun _ _ _ _ _ _ us hl => match us, hl with | [_, _], _ => rfl),
    g_is_lot := (PySem.W.mg_of X G a3),
    k_is_lot := (k3),
    f_check_set := (F4),
    b_check_set := (F4.binds (ps := ["book", "wanted"]) fun _ _ _ _ _ _ us hl => match us, hl with | [_, _], _ => rfl),
    g_check_set := (PySem.W.mg_of X G a4),
    k_check_set := (k4),
    f_check_crews := (F5),
    b_check_crews := (F5.binds (ps := ["crews"]) fun _ _ _ _ _ _ us hl => match us, hl with | [_], _ => rfl),
    g_check_crews := (PySem.W.mg_of X G a5),
    k_check_crews := (k5),
    f_needed_by := (F6),
    b_needed_by := (F6.binds (ps := ["book", "wanted"]) fun _ _ _ _ _ _ us hl => match us, hl with | [_, _], _ => rfl),
    g_needed_by := (PySem.W.mg_of X G a6),
    k_needed_by := (k6),
    f_needed := (F7),
    b_needed := (F7.binds (ps := ["book", "wanted"]) fun _ _ _ _ _ _ us hl => match us, hl with | [_, _], _ => rfl),
    g_needed := (PySem.W.mg_of X G a7),
    k_needed := (k7),
    f_are_days := (F8),
    b_are_days := (F8.binds (ps := ["book", "crews", "thing"]) fun _ _ _ _ _ _ us hl => match us, hl with | [_, _, _], _ => rfl),
    g_are_days := (PySem.W.mg_of X G a8),
    k_are_days := (k8),
    f_is_plan := (F9),
    b_is_plan := (F9.binds (ps := ["book", "crews", "wanted", "thing"]) fun _ _ _ _ _ _ us hl => match us, hl with | [_, _, _, _], _ => rfl),
    g_is_plan := (PySem.W.mg_of X G a9),
    k_is_plan := (k9),
    f_is_pair := (F10),
    b_is_pair := (F10.binds (ps := ["count", "thing"]) fun _ _ _ _ _ _ us hl => match us, hl with | [_, _], _ => rfl),
    g_is_pair := (PySem.W.mg_of X G a10),
    k_is_pair := (k10),
    f_are_overs := (F11),
    b_are_overs := (F11.binds (ps := ["count", "thing"]) fun _ _ _ _ _ _ us hl => match us, hl with | [_, _], _ => rfl),
    g_are_overs := (PySem.W.mg_of X G a11),
    k_are_overs := (k11),
    f_is_bound := (F12),
    b_is_bound := (F12.binds (ps := ["thing"]) fun _ _ _ _ _ _ us hl => match us, hl with | [_], _ => rfl),
    g_is_bound := (PySem.W.mg_of X G a12),
    k_is_bound := (k12),
    f_is_date := (F13),
    b_is_date := (F13.binds (ps := ["thing"]) fun _ _ _ _ _ _ us hl => match us, hl with | [_], _ => rfl),
    g_is_date := (PySem.W.mg_of X G a13),
    k_is_date := (k13),
    f_is_kind := (F14),
    b_is_kind := (F14.binds (ps := ["count", "thing"]) fun _ _ _ _ _ _ us hl => match us, hl with | [_, _], _ => rfl),
    g_is_kind := (PySem.W.mg_of X G a14),
    k_is_kind := (k14),
    f_Book_UinitU := (F15),
    b_Book_UinitU := (F15.binds (ps := ["self", "count", "overs", "dates", "kinds"]) fun _ _ _ _ _ _ us hl => match us, hl with | [_, _, _, _, _], _ => rfl),
    f_Book_UeqU := (F16),
    b_Book_UeqU := (F16.binds (ps := ["self", "other"]) fun _ _ _ _ _ _ us hl => match us, hl with | [_, _], _ => rfl),
    eq_Book := ({ eq := a16, fn := i16, ne := neC0, nf := fun n hn => DM.nf_bt hn, no := (fun e he => by
      simp only [CS, List.mem_cons, List.mem_nil_iff, or_false] at he; subst he; exact DM.nf_self) }),
    f_Book_parts := (F17),
    b_Book_parts := (F17.binds (ps := ["self"]) fun _ _ _ _ _ _ us hl => match us, hl with | [_], _ => rfl),
    m_Book_parts := (⟨⟨a17, i17, k17⟩, by show ¬ ("parts" : Str) ∈ FS 0; decide +kernel⟩),
    f_u_law_hand := (F18),
    b_u_law_hand := (F18.binds (ps := ["script"]) fun _ _ _ _ _ _ us hl => match us, hl with | [_], _ => rfl),
    g_u_law_hand := (PySem.W.mg_of X G a18),
    k_u_law_hand := (k18),
    f_u_law_draw := (F19),
    b_u_law_draw := (F19.binds (ps := ["hand", "below"]) fun _ _ _ _ _ _ us hl => match us, hl with | [_, _], _ => rfl),
    g_u_law_draw := (PySem.W.mg_of X G a19),
    k_u_law_draw := (k19),
    f_u_law_any := (F20),
    b_u_law_any := (F20.binds (ps := ["hand", "some"]) fun _ _ _ _ _ _ us hl => match us, hl with | [_, _], _ => rfl),
    g_u_law_any := (PySem.W.mg_of X G a20),
    k_u_law_any := (k20),
    f_u_law_is_int := (F21),
    b_u_law_is_int := (F21.binds (ps := ["thing"]) fun _ _ _ _ _ _ us hl => match us, hl with | [_], _ => rfl),
    g_u_law_is_int := (PySem.W.mg_of X G a21),
    k_u_law_is_int := (k21),
    f_u_law_overs := (F22),
    b_u_law_overs := (F22.binds (ps := ["hand", "count", "hidden", "most"]) fun _ _ _ _ _ _ us hl => match us, hl with | [_, _, _, _], _ => rfl),
    g_u_law_overs := (PySem.W.mg_of X G a22),
    k_u_law_overs := (k22),
    f_u_law_mixed := (F23),
    b_u_law_mixed := (F23.binds (ps := ["hand", "things"]) fun _ _ _ _ _ _ us hl => match us, hl with | [_, _], _ => rfl),
    g_u_law_mixed := (PySem.W.mg_of X G a23),
    k_u_law_mixed := (k23),
    f_u_law_bare := (F24),
    b_u_law_bare := (F24.binds (ps := ["count", "overs"]) fun _ _ _ _ _ _ us hl => match us, hl with | [_, _], _ => rfl),
    g_u_law_bare := (PySem.W.mg_of X G a24),
    k_u_law_bare := (k24),
    f_u_law_is_lot := (F25),
    b_u_law_is_lot := (F25.binds (ps := ["thing", "count"]) fun _ _ _ _ _ _ us hl => match us, hl with | [_, _], _ => rfl),
    g_u_law_is_lot := (PySem.W.mg_of X G a25),
    k_u_law_is_lot := (k25),
    f_u_law_needed := (F26),
    b_u_law_needed := (F26.binds (ps := ["overs", "wanted"]) fun _ _ _ _ _ _ us hl => match us, hl with | [_, _], _ => rfl),
    g_u_law_needed := (PySem.W.mg_of X G a26),
    k_u_law_needed := (k26),
    f_u_law_is_plan := (F27),
    b_u_law_is_plan := (F27.binds (ps := ["overs", "count", "crews", "wanted", "thing"]) fun _ _ _ _ _ _ us hl => match us, hl with | [_, _, _, _, _], _ => rfl),
    g_u_law_is_plan := (PySem.W.mg_of X G a27),
    k_u_law_is_plan := (k27),
    f_u_law_odd_set := (F28),
    b_u_law_odd_set := (F28.binds (ps := ["hand", "count", "wanted"]) fun _ _ _ _ _ _ us hl => match us, hl with | [_, _, _], _ => rfl),
    g_u_law_odd_set := (PySem.W.mg_of X G a28),
    k_u_law_odd_set := (k28),
    f_u_law_word := (F29),
    b_u_law_word := (F29.binds (ps := ["call"]) fun _ _ _ _ _ _ us hl => match us, hl with | [_], _ => rfl),
    g_u_law_word := (PySem.W.mg_of X G a29),
    k_u_law_word := (k29),
    f_u_law_own_plan := (F30),
    b_u_law_own_plan := (F30.binds (ps := ["hand", "overs", "crews", "wanted"]) fun _ _ _ _ _ _ us hl => match us, hl with | [_, _, _, _], _ => rfl),
    g_u_law_own_plan := (PySem.W.mg_of X G a30),
    k_u_law_own_plan := (k30),
    f_u_law_bent := (F31),
    b_u_law_bent := (F31.binds (ps := ["hand", "count", "plan"]) fun _ _ _ _ _ _ us hl => match us, hl with | [_, _, _], _ => rfl),
    g_u_law_bent := (PySem.W.mg_of X G a31),
    k_u_law_bent := (k31),
    f_u_law_is_right := (F32),
    b_u_law_is_right := (F32.binds (ps := ["hand", "count", "overs"]) fun _ _ _ _ _ _ us hl => match us, hl with | [_, _, _], _ => rfl),
    g_u_law_is_right := (PySem.W.mg_of X G a32),
    k_u_law_is_right := (k32),
    f_u_law_known_right := (F33),
    b_u_law_known_right := (F33.binds (ps := []) fun _ _ _ _ _ _ us hl => match us, hl with | [], _ => rfl),
    g_u_law_known_right := (PySem.W.mg_of X G a33),
    k_u_law_known_right := (k33),
    f_law := (F34),
    b_law := (F34.binds (ps := ["script"]) fun _ _ _ _ _ _ us hl => match us, hl with | [_], _ => rfl),
    g_law := (PySem.W.mg_of X G a34),
    k_law := (k34),
    n_ValueError := (PySem.W.mg_none_of X G n_ValueError),
    n_abs := (PySem.W.mg_none_of X G n_abs),
    n_all := (PySem.W.mg_none_of X G n_all),
    n_any := (PySem.W.mg_none_of X G n_any),
    n_bool := (PySem.W.mg_none_of X G n_bool),
    n_dict := (PySem.W.mg_none_of X G n_dict),
    n_enumerate := (PySem.W.mg_none_of X G n_enumerate),
    n_int := (PySem.W.mg_none_of X G n_int),
    n_isinstance := (PySem.W.mg_none_of X G n_isinstance),
    n_len := (PySem.W.mg_none_of X G n_len),
    n_list := (PySem.W.mg_none_of X G n_list),
    n_max := (PySem.W.mg_none_of X G n_max),
    n_min := (PySem.W.mg_none_of X G n_min),
    n_range := (PySem.W.mg_none_of X G n_range),
    n_set := (PySem.W.mg_none_of X G n_set),
    n_sorted := (PySem.W.mg_none_of X G n_sorted),
    n_super := (PySem.W.mg_none_of X G n_super),
    n_tuple := (PySem.W.mg_none_of X G n_tuple),
    n_zip := (PySem.W.mg_none_of X G n_zip),
    c_FARTHEST := (⟨_, PySem.W.mg_of X G c_FARTHEST⟩),
    c_MOST_CREWS := (⟨_, PySem.W.mg_of X G c_MOST_CREWS⟩),
    c_MOST_KINDS := (⟨_, PySem.W.mg_of X G c_MOST_KINDS⟩),
    c_MOST_LAYERS := (⟨_, PySem.W.mg_of X G c_MOST_LAYERS⟩),
    ins := (fun c hc => by
      simp only [CS, List.mem_cons, List.mem_nil_iff, or_false] at hc
      subst hc; exact { cl := DM.clsK_of ⟨pgC0, hdC0, poC0, saC0⟩ (show (FS 0).Nodup by decide +kernel) (show (FS 0).length < 1000 by decide) (fun f hf => by
        simp only [FS, List.mem_cons, List.mem_nil_iff, or_false] at hf
        rcases hf with rfl | rfl | rfl | rfl | rfl
        all_goals first | exact noC0_0 | exact noC0_1 | exact noC0_2 | exact noC0_3 | exact noC0_4), ha := haC0, hn := hn, htk := htk, hm := moC0 }),
    ty := (fun t ht => by
      simp only [TS, List.mem_cons, List.mem_nil_iff, or_false] at ht
      rcases ht with rfl | rfl | rfl | rfl
      · exact DM.ty_cls isC0 tyC0 sbC0C0 (fun e he => by
          simp only [CS, List.mem_cons, List.mem_nil_iff, or_false] at he
          subst he; exact sbC0C0)
      · exact DM.ty_bool (fun e he => by
          simp only [CS, List.mem_cons, List.mem_nil_iff, or_false] at he
          subst he; exact sbC0_bool)
      · exact DM.ty_int (fun e he => by
          simp only [CS, List.mem_cons, List.mem_nil_iff, or_false] at he
          subst he; exact sbC0_int)
      · exact DM.ty_tuple (fun e he => by
          simp only [CS, List.mem_cons, List.mem_nil_iff, or_false] at he
          subst he; exact sbC0_tuple)),
    g_Book := (PySem.W.mg_of X G aC0),
    mk_Book := (⟨mkC0, a15, i15, kcC0⟩),
    g_EarthError := (PySem.W.mg_of X G aX0),
    g_BadBook := (PySem.W.mg_of X G aX1),
    x_BadBook := (⟨fIX1, cdaX1, ccX1, { cls := ⟨_, _, _, _, _, _, _, _, _, _, _, _, _, _, _, xX1, by first | rfl | with_unfolding_all rfl | simp [PySem.HandSPX.refsVE]⟩, sa := saX1, ga := gaX1, gg := ggX1, iC := iiX1, tC := tiX1, kC := kcX1, exC := exX1, veC := veX1, tyC := tyX1, hdC := hdX1, opq := opq, sup := DM.super_of xX1 xX0 rfl spX1, self := seX1, code := ⟨_, _, _, _, _, _, lcX1, vcX1, fcX1⟩, cell := ⟨_, _, _, ceX1⟩, top := by decide +kernel, noN := nfX1, fs := by decide, fn := ⟨_, _, _, _, _, _, _, _, _, _, _, _, _, _, _, _, _, _, _, lIX1, cIX1, rfl, fun x v => rfl⟩ }⟩),
    g_NoSet := (PySem.W.mg_of X G aX2),
    x_NoSet := (⟨fIX2, cdaX2, ccX2, { cls := ⟨_, _, _, _, _, _, _, _, _, _, _, _, _, _, _, xX2, by first | rfl | with_unfolding_all rfl | simp [PySem.HandSPX.refsVE]⟩, sa := saX2, ga := gaX2, gg := ggX2, iC := iiX2, tC := tiX2, kC := kcX2, exC := exX2, veC := veX2, tyC := tyX2, hdC := hdX2, opq := opq, sup := DM.super_of xX2 xX0 rfl spX2, self := seX2, code := ⟨_, _, _, _, _, _, lcX2, vcX2, fcX2⟩, cell := ⟨_, _, _, ceX2⟩, top := by decide +kernel, fn := ⟨_, _, _, _, _, _, _, _, _, _, _, _, _, lIX2, cIX2, rfl⟩ }⟩),
    g_NoCrews := (PySem.W.mg_of X G aX3),
    x_NoCrews := (⟨fIX3, cdaX3, ccX3, { cls := ⟨_, _, _, _, _, _, _, _, _, _, _, _, _, _, _, xX3, by first | rfl | with_unfolding_all rfl | simp [PySem.HandSPX.refsVE]⟩, sa := saX3, ga := gaX3, gg := ggX3, iC := iiX3, tC := tiX3, kC := kcX3, exC := exX3, veC := veX3, tyC := tyX3, hdC := hdX3, opq := opq, sup := DM.super_of xX3 xX0 rfl spX3, self := seX3, code := ⟨_, _, _, _, _, _, lcX3, vcX3, fcX3⟩, cell := ⟨_, _, _, ceX3⟩, top := by decide +kernel, fn := ⟨_, _, _, _, _, _, _, _, _, _, _, _, _, lIX3, cIX3, rfl⟩ }⟩),
    g_TooMany := (PySem.W.mg_of X G aX4),
    held := (fun e he => by
      simp only [ES, List.mem_cons, List.mem_nil_iff, or_false] at he
      rcases he with rfl | rfl | rfl
      · exact { ec := ⟨gaX1, ggX1, exX1, hdX1, haX1, hn, htk, moX1⟩, no := fun _ => nfX1, lt := by decide }
      · exact { ec := ⟨gaX2, ggX2, exX2, hdX2, haX2, hn, htk, moX2⟩, no := fun z => absurd rfl z, lt := by decide }
      · exact { ec := ⟨gaX3, ggX3, exX3, hdX3, haX3, hn, htk, moX3⟩, no := fun z => absurd rfl z, lt := by decide }),
    hdict := (fun e he => by
      simp only [ES, List.mem_cons, List.mem_nil_iff, or_false] at he
      rcases he with rfl | rfl | rfl
      · exact hdX1
      · exact hdX2
      · exact hdX3),
    exm_0 := (fun e b he => by
      unfold SB at he
      split at he
      all_goals first | (cases he; done) | skip
      all_goals first | contradiction | skip
      · rename_i h1 h2; first | (cases h2; done) | (cases he; exact DM.exm_of exX0 isX0 tyX0 sX1X0)
      · rename_i h1 h2; first | (cases h2; done) | (cases he; exact DM.exm_of exX0 isX0 tyX0 sX2X0)
      · rename_i h1 h2; first | (cases h2; done) | (cases he; exact DM.exm_of exX0 isX0 tyX0 sX3X0)),
    kit_0 := (fun e b he => by
      unfold SB at he
      split at he
      all_goals first | (cases he; done) | skip
      all_goals first | contradiction | skip
      · rename_i h1 h2; first | (cases h2; done) | (cases he; exact ⟨by decide, DM.kit_rf isX0 tyX0 sxX0 sX1X0⟩)
      · rename_i h1 h2; first | (cases h2; done) | (cases he; exact ⟨by decide, DM.kit_rf isX0 tyX0 sxX0 sX2X0⟩)
      · rename_i h1 h2; first | (cases h2; done) | (cases he; exact ⟨by decide, DM.kit_rf isX0 tyX0 sxX0 sX3X0⟩)),
    exm_1 := (fun e b he => by
      unfold SB at he
      split at he
      all_goals first | (cases he; done) | skip
      all_goals first | contradiction | skip
      · rename_i h1 h2; first | (cases h2; done) | (cases he; exact DM.exm_of exX1 isX1 tyX1 sxX1)
      · rename_i h1 h2; first | (cases h2; done) | (cases he; exact DM.exm_of exX1 isX1 tyX1 sX2X1)
      · rename_i h1 h2; first | (cases h2; done) | (cases he; exact DM.exm_of exX1 isX1 tyX1 sX3X1)),
    kit_1 := (fun e b he => by
      unfold SB at he
      split at he
      all_goals first | (cases he; done) | skip
      all_goals first | contradiction | skip
      · rename_i h1 h2; first | (cases h2; done) | (cases he; exact ⟨by decide, DM.kit_rf isX1 tyX1 sxX1 sxX1⟩)
      · rename_i h1 h2; first | (cases h2; done) | (cases he; exact ⟨by decide, DM.kit_rf isX1 tyX1 sxX1 sX2X1⟩)
      · rename_i h1 h2; first | (cases h2; done) | (cases he; exact ⟨by decide, DM.kit_rf isX1 tyX1 sxX1 sX3X1⟩)),
    exm_2 := (fun e b he => by
      unfold SB at he
      split at he
      all_goals first | (cases he; done) | skip
      all_goals first | contradiction | skip
      · rename_i h1 h2; first | (cases h2; done) | (cases he; exact DM.exm_of exX2 isX2 tyX2 sX1X2)
      · rename_i h1 h2; first | (cases h2; done) | (cases he; exact DM.exm_of exX2 isX2 tyX2 sxX2)
      · rename_i h1 h2; first | (cases h2; done) | (cases he; exact DM.exm_of exX2 isX2 tyX2 sX3X2)),
    kit_2 := (fun e b he => by
      unfold SB at he
      split at he
      all_goals first | (cases he; done) | skip
      all_goals first | contradiction | skip
      · rename_i h1 h2; first | (cases h2; done) | (cases he; exact ⟨by decide, DM.kit_rf isX2 tyX2 sxX2 sX1X2⟩)
      · rename_i h1 h2; first | (cases h2; done) | (cases he; exact ⟨by decide, DM.kit_rf isX2 tyX2 sxX2 sxX2⟩)
      · rename_i h1 h2; first | (cases h2; done) | (cases he; exact ⟨by decide, DM.kit_rf isX2 tyX2 sxX2 sX3X2⟩)),
    exm_3 := (fun e b he => by
      unfold SB at he
      split at he
      all_goals first | (cases he; done) | skip
      all_goals first | contradiction | skip
      · rename_i h1 h2; first | (cases h2; done) | (cases he; exact DM.exm_of exX3 isX3 tyX3 sX1X3)
      · rename_i h1 h2; first | (cases h2; done) | (cases he; exact DM.exm_of exX3 isX3 tyX3 sX2X3)
      · rename_i h1 h2; first | (cases h2; done) | (cases he; exact DM.exm_of exX3 isX3 tyX3 sxX3)),
    kit_3 := (fun e b he => by
      unfold SB at he
      split at he
      all_goals first | (cases he; done) | skip
      all_goals first | contradiction | skip
      · rename_i h1 h2; first | (cases h2; done) | (cases he; exact ⟨by decide, DM.kit_rf isX3 tyX3 sxX3 sX1X3⟩)
      · rename_i h1 h2; first | (cases h2; done) | (cases he; exact ⟨by decide, DM.kit_rf isX3 tyX3 sxX3 sX2X3⟩)
      · rename_i h1 h2; first | (cases h2; done) | (cases he; exact ⟨by decide, DM.kit_rf isX3 tyX3 sxX3 sxX3⟩)),
    exm_4 := (fun e b he => by
      unfold SB at he
      split at he
      all_goals first | (cases he; done) | skip
      all_goals first | contradiction | skip
      · rename_i h1 h2; first | (cases h2; done) | (cases he; exact DM.exm_of exX4 isX4 tyX4 sX1X4)
      · rename_i h1 h2; first | (cases h2; done) | (cases he; exact DM.exm_of exX4 isX4 tyX4 sX2X4)
      · rename_i h1 h2; first | (cases h2; done) | (cases he; exact DM.exm_of exX4 isX4 tyX4 sX3X4)),
    kit_4 := (fun e b he => by
      unfold SB at he
      split at he
      all_goals first | (cases he; done) | skip
      all_goals first | contradiction | skip
      · rename_i h1 h2; first | (cases h2; done) | (cases he; exact ⟨by decide, DM.kit_rf isX4 tyX4 sxX4 sX1X4⟩)
      · rename_i h1 h2; first | (cases h2; done) | (cases he; exact ⟨by decide, DM.kit_rf isX4 tyX4 sxX4 sX2X4⟩)
      · rename_i h1 h2; first | (cases h2; done) | (cases he; exact ⟨by decide, DM.kit_rf isX4 tyX4 sxX4 sX3X4⟩)),
    kit_1000 := (fun e b he => by
      unfold SB at he
      split at he
      all_goals first | (cases he; done) | skip
      all_goals first | contradiction | skip
      · rename_i h1 h2; first | (cases h2; done) | (cases he; exact ⟨by decide, DM.kit_bt (by decide +kernel) veX1⟩)
      · rename_i h1 h2; first | (cases h2; done) | (cases he; exact ⟨by decide, DM.kit_bt (by decide +kernel) veX2⟩)
      · rename_i h1 h2; first | (cases h2; done) | (cases he; exact ⟨by decide, DM.kit_bt (by decide +kernel) veX3⟩)),
    l_u_law_is_right := (⟨oc32, od32, kV32, dc32, pm32, an32, ct32, sl32, rfl, l32, c32⟩),
    tb_0 := (TB (co0, ta0) (by simp)),
    tu_0 := (fun p hp he => by
      simp only [List.mem_cons, List.mem_nil_iff, or_false] at hp
      subst hp; rfl)
  }
  exact DM.law_doneT (cs := [(co0, ta0)]) rfl (fun t m => by
    simp only [List.mem_cons, List.mem_nil_iff, or_false] at m
    subst m; exact ⟨(co0, ta0), by simp, rfl⟩) (ok_law E) K40.law_math
theorem walk {q : Program} {loose : List Str} {XP : (Str → Option Value) → Heap → Prop} {YP : World → Heap → Prop} {d : DefRec} {K : Params → PySem.W.Frag} (hdf : d.params.defaults = []) (hY : ∀ (w : World) (h : Heap), YP w h → (K w.params).In h)
    (F : ∀ (w : World) (mg : Str → Option Value) (fa : Addr) (h : Heap), YP w h → (K w.params).In h → h.Ns mainGlobals mg → mg d.name = some (.ref fa) → LamX.LawAtS PySem.Challenge.rw_earthtold_k40_whole_needed_and_plans_jud w (K w.params) (L2.CX PySem.Challenge.rw_earthtold_k40_whole_needed_and_plans_jud.prog w) 10 63 "script" mg fa h) :
    PySem.W.WalkO q loose XP YP PySem.Challenge.rw_earthtold_k40_whole_needed_and_plans_jud.row.toRowW d [] (fun f vs => PySem.call f vs) :=
  LamX.walk_ofTs (l := PySem.Challenge.rw_earthtold_k40_whole_needed_and_plans_jud) (n := 63) (k := 10) (x := "script") (CX := fun w => L2.CX PySem.Challenge.rw_earthtold_k40_whole_needed_and_plans_jud.prog w) rfl (by decide) hdf ⟨rfl, by decide, by decide⟩ hY F fun _ _ _ _ _ ⟨_, _, _, _, _, _, _, _, _, _, _, _, z⟩ => z
end
end K40
open PySem PySem.W PyProof.Rows
set_option maxRecDepth 100000 in
set_option maxHeartbeats 0 in
theorem PySem.Challenge.cw_earthtold_k40_whole_needed_and_plans_jud_holds : PySem.Challenge.rw_earthtold_k40_whole_needed_and_plans_jud.Holds := by
  w_on; o_law; k_head; (case hw => w_witness2)
  k_fill
  refine K40.walk rfl (fun w h Y => PySem.W.km_in_of Y) ?F
  case F =>
    intro w mg fa h Y KX G hmg
    refine' K40.all_mk KX G hmg ?aC0 ?aX0 ?aX1 ?aX2 ?aX3 ?aX4 ?a0 ?l0 ?c0 ?k0 ?a1 ?l1 ?c1 ?k1 ?a2 ?l2 ?c2 ?k2 ?a3 ?l3 ?c3 ?k3 ?a4 ?l4 ?c4 ?k4 ?a5 ?l5 ?c5 ?k5 ?a6 ?l6 ?c6 ?k6 ?a7 ?l7 ?c7 ?k7 ?a8 ?l8 ?c8 ?k8 ?a9 ?l9 ?c9 ?k9 ?a10 ?l10 ?c10 ?k10 ?a11 ?l11 ?c11 ?k11 ?a12 ?l12 ?c12 ?k12 ?a13 ?l13 ?c13 ?k13 ?a14 ?l14 ?c14 ?k14 ?a15 ?i15 ?l15 ?c15 ?k15 ?a16 ?i16 ?l16 ?c16 ?k16 ?a17 ?i17 ?l17 ?c17 ?k17 ?a18 ?l18 ?c18 ?k18 ?a19 ?l19 ?c19 ?k19 ?a20 ?l20 ?c20 ?k20 ?a21 ?l21 ?c21 ?k21 ?a22 ?l22 ?c22 ?k22 ?a23 ?l23 ?c23 ?k23 ?a24 ?l24 ?c24 ?k24 ?a25 ?l25 ?c25 ?k25 ?a26 ?l26 ?c26 ?k26 ?a27 ?l27 ?c27 ?k27 ?a28 ?l28 ?c28 ?k28 ?a29 ?l29 ?c29 ?k29 ?a30 ?l30 ?c30 ?k30 ?a31 ?l31 ?c31 ?k31 ?a32 ?l32 ?c32 ?k32 ?a33 ?l33 ?c33 ?k33 ?a34 ?l34 ?c34 ?k34 ?ml0 ?mv0 ?mh0 ?mn0 ?mt0 ?n_ValueError ?n_abs ?n_all ?n_any ?n_bool ?n_dict ?n_enumerate ?n_int ?n_isinstance ?n_len ?n_list ?n_max ?n_min ?n_range ?n_set ?n_sorted ?n_super ?n_tuple ?n_zip ?c_FARTHEST ?c_MOST_CREWS ?c_MOST_KINDS ?c_MOST_LAYERS ?hn ?htk ?pgC0 ?hdC0 ?poC0 ?saC0 ?mkC0 ?kcC0 ?noC0_0 ?noC0_1 ?noC0_2 ?noC0_3 ?noC0_4 ?haC0 ?moC0 ?isC0 ?tyC0 ?sbC0_bool ?sbC0_int ?sbC0_tuple ?sbC0C0 ?neC0 ?exX0 ?isX0 ?tyX0 ?sxX0 ?exX1 ?isX1 ?tyX1 ?sxX1 ?exX2 ?isX2 ?tyX2 ?sxX2 ?exX3 ?isX3 ?tyX3 ?sxX3 ?exX4 ?isX4 ?tyX4 ?sxX4 ?sX1X0 ?sX1X2 ?sX1X3 ?sX1X4 ?xX1 ?xX0 ?spX1 ?saX1 ?gaX1 ?ggX1 ?nfX1 ?iiX1 ?tiX1 ?kcX1 ?veX1 ?hdX1 ?opq ?haX1 ?moX1 ?seX1 ?lIX1 ?cIX1 ?lcX1 ?vcX1 ?fcX1 ?ceX1 ?sX2X0 ?sX2X1 ?sX2X3 ?sX2X4 ?xX2 ?spX2 ?saX2 ?gaX2 ?ggX2 ?iiX2 ?tiX2 ?kcX2 ?veX2 ?hdX2 ?haX2 ?moX2 ?seX2 ?lIX2 ?cIX2 ?lcX2 ?vcX2 ?fcX2 ?ceX2 ?sX3X0 ?sX3X1 ?sX3X2 ?sX3X4 ?xX3 ?spX3 ?saX3 ?gaX3 ?ggX3 ?iiX3 ?tiX3 ?kcX3 ?veX3 ?hdX3 ?haX3 ?moX3 ?seX3 ?lIX3 ?cIX3 ?lcX3 ?vcX3 ?fcX3 ?ceX3
    (case aC0 => k_is)
    (case aX0 => k_is)
    (case aX1 => k_is)
    (case aX2 => k_is)
    (case aX3 => k_is)
    (case aX4 => k_is)
    (case a0 => k_is)
    (case l0 => k_is)
    (case c0 => k_is)
    (case k0 => k_is)
    (case a1 => k_is)
    (case l1 => k_is)
    (case c1 => k_is)
    (case k1 => k_is)
    (case a2 => k_is)
    (case l2 => k_is)
    (case c2 => k_is)
    (case k2 => k_is)
    (case a3 => k_is)
    (case l3 => k_is)
    (case c3 => k_is)
    (case k3 => k_is)
    (case a4 => k_is)
    (case l4 => k_is)
    (case c4 => k_is)
    (case k4 => k_is)
    (case a5 => k_is)
    (case l5 => k_is)
    (case c5 => k_is)
    (case k5 => k_is)
    (case a6 => k_is)
    (case l6 => k_is)
    (case c6 => k_is)
    (case k6 => k_is)
    (case a7 => k_is)
    (case l7 => k_is)
    (case c7 => k_is)
    (case k7 => k_is)
    (case a8 => k_is)
    (case l8 => k_is)
    (case c8 => k_is)
    (case k8 => k_is)
    (case a9 => k_is)
    (case l9 => k_is)
    (case c9 => k_is)
    (case k9 => k_is)
    (case a10 => k_is)
    (case l10 => k_is)
    (case c10 => k_is)
    (case k10 => k_is)
    (case a11 => k_is)
    (case l11 => k_is)
    (case c11 => k_is)
    (case k11 => k_is)
    (case a12 => k_is)
    (case l12 => k_is)
    (case c12 => k_is)
    (case k12 => k_is)
    (case a13 => k_is)
    (case l13 => k_is)
    (case c13 => k_is)
    (case k13 => k_is)
    (case a14 => k_is)
    (case l14 => k_is)
    (case c14 => k_is)
    (case k14 => k_is)
    (case a15 => k_is)
    (case i15 => k_is)
    (case l15 => k_is)
    (case c15 => k_is)
    (case k15 => k_is)
    (case a16 => k_is)
    (case i16 => k_is)
    (case l16 => k_is)
    (case c16 => k_is)
    (case k16 => k_is)
    (case a17 => k_is)
    (case i17 => k_is)
    (case l17 => k_is)
    (case c17 => k_is)
    (case k17 => k_is)
    (case a18 => k_is)
    (case l18 => k_is)
    (case c18 => k_is)
    (case k18 => k_is)
    (case a19 => k_is)
    (case l19 => k_is)
    (case c19 => k_is)
    (case k19 => k_is)
    (case a20 => k_is)
    (case l20 => k_is)
    (case c20 => k_is)
    (case k20 => k_is)
    (case a21 => k_is)
    (case l21 => k_is)
    (case c21 => k_is)
    (case k21 => k_is)
    (case a22 => k_is)
    (case l22 => k_is)
    (case c22 => k_is)
    (case k22 => k_is)
    (case a23 => k_is)
    (case l23 => k_is)
    (case c23 => k_is)
    (case k23 => k_is)
    (case a24 => k_is)
    (case l24 => k_is)
    (case c24 => k_is)
    (case k24 => k_is)
    (case a25 => k_is)
    (case l25 => k_is)
    (case c25 => k_is)
    (case k25 => k_is)
    (case a26 => k_is)
    (case l26 => k_is)
    (case c26 => k_is)
    (case k26 => k_is)
    (case a27 => k_is)
    (case l27 => k_is)
    (case c27 => k_is)
    (case k27 => k_is)
    (case a28 => k_is)
    (case l28 => k_is)
    (case c28 => k_is)
    (case k28 => k_is)
    (case a29 => k_is)
    (case l29 => k_is)
    (case c29 => k_is)
    (case k29 => k_is)
    (case a30 => k_is)
    (case l30 => k_is)
    (case c30 => k_is)
    (case k30 => k_is)
    (case a31 => k_is)
    (case l31 => k_is)
    (case c31 => k_is)
    (case k31 => k_is)
    (case a32 => k_is)
    (case l32 => k_is)
    (case c32 => k_is)
    (case k32 => k_is)
    (case a33 => k_is)
    (case l33 => k_is)
    (case c33 => k_is)
    (case k33 => k_is)
    (case a34 => k_is)
    (case l34 => k_is)
    (case c34 => k_is)
    (case k34 => k_is)
    (case ml0 => k_is)
    (case mv0 => rfl)
    (case mh0 => first | kernel_rfl | k_is)
    (case mn0 => first | kernel_rfl | k_is)
    (case mt0 => exact PySem.W.km_tabs_of Y _ (by decide))
    (case n_ValueError => k_is)
    (case n_abs => k_is)
    (case n_all => k_is)
    (case n_any => k_is)
    (case n_bool => k_is)
    (case n_dict => k_is)
    (case n_enumerate => k_is)
    (case n_int => k_is)
    (case n_isinstance => k_is)
    (case n_len => k_is)
    (case n_list => k_is)
    (case n_max => k_is)
    (case n_min => k_is)
    (case n_range => k_is)
    (case n_set => k_is)
    (case n_sorted => k_is)
    (case n_super => k_is)
    (case n_tuple => k_is)
    (case n_zip => k_is)
    (case c_FARTHEST => k_is)
    (case c_MOST_CREWS => k_is)
    (case c_MOST_KINDS => k_is)
    (case c_MOST_LAYERS => k_is)
    (case hn => k_is)
    (case htk => k_is)
    (case pgC0 => k_is)
    (case hdC0 => k_is)
    (case poC0 => k_is)
    (case saC0 => k_is)
    (case mkC0 => k_is)
    (case kcC0 => k_is)
    (case noC0_0 => k_is)
    (case noC0_1 => k_is)
    (case noC0_2 => k_is)
    (case noC0_3 => k_is)
    (case noC0_4 => k_is)
    (case haC0 => k_is)
    (case moC0 => k_is)
    (case isC0 => k_is)
    (case tyC0 => k_is)
    (case sbC0_bool => k_is)
    (case sbC0_int => k_is)
    (case sbC0_tuple => k_is)
    (case sbC0C0 => k_is)
    (case neC0 => k_is)
    (case exX0 => k_is)
    (case isX0 => k_is)
    (case tyX0 => k_is)
    (case sxX0 => first | rfl | k_is)
    (case exX1 => k_is)
    (case isX1 => k_is)
    (case tyX1 => k_is)
    (case sxX1 => first | rfl | k_is)
    (case exX2 => k_is)
    (case isX2 => k_is)
    (case tyX2 => k_is)
    (case sxX2 => first | rfl | k_is)
    (case exX3 => k_is)
    (case isX3 => k_is)
    (case tyX3 => k_is)
    (case sxX3 => first | rfl | k_is)
    (case exX4 => k_is)
    (case isX4 => k_is)
    (case tyX4 => k_is)
    (case sxX4 => first | rfl | k_is)
    (case sX1X0 => k_is)
    (case sX1X2 => k_is)
    (case sX1X3 => k_is)
    (case sX1X4 => k_is)
    (case xX1 => k_is)
    (case xX0 => k_is)
    (case spX1 => k_is)
    (case saX1 => k_is)
    (case gaX1 => k_is)
    (case ggX1 => k_is)
    (case nfX1 => k_is)
    (case iiX1 => k_is)
    (case tiX1 => k_is)
    (case kcX1 => k_is)
    (case veX1 => k_is)
    (case hdX1 => k_is)
    (case opq => k_is)
    (case haX1 => k_is)
    (case moX1 => k_is)
    (case seX1 => k_is)
    (case lIX1 => k_is)
    (case cIX1 => k_is)
    (case lcX1 => k_is)
    (case vcX1 => rfl)
    (case fcX1 => first | rfl | decide)
    (case ceX1 => k_is)
    (case sX2X0 => k_is)
    (case sX2X1 => k_is)
    (case sX2X3 => k_is)
    (case sX2X4 => k_is)
    (case xX2 => k_is)
    (case spX2 => k_is)
    (case saX2 => k_is)
    (case gaX2 => k_is)
    (case ggX2 => k_is)
    (case iiX2 => k_is)
    (case tiX2 => k_is)
    (case kcX2 => k_is)
    (case veX2 => k_is)
    (case hdX2 => k_is)
    (case haX2 => k_is)
    (case moX2 => k_is)
    (case seX2 => k_is)
    (case lIX2 => k_is)
    (case cIX2 => k_is)
    (case lcX2 => k_is)
    (case vcX2 => rfl)
    (case fcX2 => first | rfl | decide)
    (case ceX2 => k_is)
    (case sX3X0 => k_is)
    (case sX3X1 => k_is)
    (case sX3X2 => k_is)
    (case sX3X4 => k_is)
    (case xX3 => k_is)
    (case spX3 => k_is)
    (case saX3 => k_is)
    (case gaX3 => k_is)
    (case ggX3 => k_is)
    (case iiX3 => k_is)
    (case tiX3 => k_is)
    (case kcX3 => k_is)
    (case veX3 => k_is)
    (case hdX3 => k_is)
    (case haX3 => k_is)
    (case moX3 => k_is)
    (case seX3 => k_is)
    (case lIX3 => k_is)
    (case cIX3 => k_is)
    (case lcX3 => k_is)
    (case vcX3 => rfl)
    (case fcX3 => first | rfl | decide)
    (case ceX3 => k_is)
#print axioms PySem.Challenge.cw_earthtold_k40_whole_needed_and_plans_jud_holds
