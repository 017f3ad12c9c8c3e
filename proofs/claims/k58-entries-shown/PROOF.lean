import PyProof.Rows.All
import Wide.All
import OpenK.AllK
import Wide.FinOn
import PyProof.ReprReads
import PyProof.EqLayable
import KE.KStateDown
import HandS.ForMost
import HandS.More
import HandS.WordsExc
import HandS.CallSlots
import HandS.TryMany
import HandS.Lambda
import HandS.Wide
import HandS.IsInst
import HandS.Zip
import HandS.Defaults
import HandS.HeadHook1
import HandS.HeadHook2
import HandS.TupAny
import HandS.TupLe
import HandS.TupMul
import HandS.TupLen
import KE.KExcSuper
import HandS.ExcInit
import HandS.ExcField
import HandS.Small
import HandS.Style
import HandS.SetFor
import HandS.Strs
import HandS.EndTab
import HandS.HeadHook3
import HandS.HeadHook4
import KE.GoesEnum
import HandS.DictComp
import HandS.Conv
import KE.KDictDisplayH
import HandS.Head0
import HandS.Head1
import HandS.Head2
import PyProof.Rows.StrDigits
import PyProof.Rows.RegStrFacts
import PySem.Challenge.RW_worksward_k58_whole_entries_shown
set_option linter.all false
set_option autoImplicit false
/-! Wd0: a small functional semantics for the Python of these laws: values are trees, lists that a def changes live in its own slot, shared ones in a store. -/
namespace Wd
open PySem

/-- a value: a tree; lst, dct: a list, a dict that nobody changes any more (t: its keys are tuples); ref n: the n-th object of the store -/
inductive D where
  | non | bl (b : Bool) | int (i : Int) | str (x : Str)
  | tup (xs : List D) | lst (xs : List D) | dct (t : Bool) (kvs : List (D × D)) | ref (n : Nat)

/-- an object that may be changed -/
inductive O where
  | lst (xs : List D) | dct (t : Bool) (kvs : List (D × D))
abbrev S := List O
/-- an exception of an own class -/
structure Exn where
  cls : Str
  flds : List (Str × D)
inductive Slot where
  | val (d : D) | own (o : O)
abbrev Env := List (Option Slot)
inductive Res (α : Type) where
  | ok (a : α) (s : S) | exc (x : Exn) (s : S) | bad
def Res.bind {α β : Type} (r : Res α) (f : α → S → Res β) : Res β := match r with
  | .ok a s => f a s
  | .exc x s => .exc x s
  | .bad => .bad
abbrev EM (α : Type) := Env → S → Res α
def EM.bind {α β : Type} (m : EM α) (f : α → EM β) : EM β := fun l s => (m l s).bind fun a s' => f a l s'
/-- a statement's end -/
inductive R where
  | nx (l : Env) (s : S) | rt (d : D) (s : S) | bk (l : Env) (s : S) | ct (l : Env) (s : S) | ex (x : Exn) (l : Env) (s : S) | bad
abbrev SM := Env → S → R
def Res.toR {α : Type} (r : Res α) (l : Env) (f : α → S → R) : R := match r with
  | .ok a s => f a s
  | .exc x s => .ex x l s
  | .bad => .bad

/-! ### data -/
def O.d : O → D
  | .lst xs => .lst xs
  | .dct t kvs => .dct t kvs
/-- what a value shows: an object of the store by what it holds now -/
def look (s : S) : D → D
  | .ref n => match s[n]? with
    | some o => o.d
    | none => .ref n
  | d => d
mutual
/-- as the library's data (no store, no dict) -/
def D.py : D → Option PyData
  | .non => some .none
  | .bl b => some (.bool b)
  | .int i => some (.int i)
  | .str x => some (.str x)
  | .tup xs => (D.pys xs).map .tuple
  | .lst xs => (D.pys xs).map .list
  | .dct _ [] => some (.dict [])
  | .dct _ (_ :: _) => none
  | .ref _ => none
def D.pys : List D → Option (List PyData)
  | [] => some []
  | x :: xs => match D.py x, D.pys xs with
    | some d, some ds => some (d :: ds)
    | _, _ => none
end

/-! ### expressions -/
section
variable {α : Type}
def eOk (a : α) : EM α := fun _ s => .ok a s
def eC (d : D) : EM D := fun _ s => .ok d s
def eV (i : Nat) : EM D := fun l s => match l[i]? with
  | some (some (.val d)) => .ok d s
  | _ => .bad
/-- a slot looked at: also an own list or dict -/
def eW (i : Nat) : EM D := fun l s => match l[i]? with
  | some (some (.val d)) => .ok d s
  | some (some (.own o)) => .ok o.d s
  | _ => .bad
def eNil : EM (List D) := fun _ s => .ok [] s
def eCons (a : EM D) (r : EM (List D)) : EM (List D) := fun l s => (a l s).bind fun d s1 => (r l s1).bind fun ds s2 => .ok (d :: ds) s2
def eAll : List (EM D) → EM (List D)
  | [] => eNil
  | m :: ms => eCons m (eAll ms)
def opt (r : Option α) (s : S) : Res α := match r with
  | some a => .ok a s
  | none => .bad
/-- by values, one, two -/
def e1 (f : S → D → Option D) (a : EM D) : EM D := fun l s => (a l s).bind fun x s1 => opt (f s1 x) s1
def e2 (f : S → D → D → Option D) (a b : EM D) : EM D := fun l s => (a l s).bind fun x s1 => (b l s1).bind fun y s2 => opt (f s2 x y) s2
def eN (f : S → List D → Option D) (a : EM (List D)) : EM D := fun l s => (a l s).bind fun xs s1 => opt (f s1 xs) s1
def eTup (a : EM (List D)) : EM D := fun l s => (a l s).bind fun xs s1 => .ok (.tup xs) s1
def eLst (a : EM (List D)) : EM D := fun l s => (a l s).bind fun xs s1 => .ok (.lst xs) s1
/-- tests -/
def qB (a : EM D) : EM Bool := fun l s => (a l s).bind fun x s1 => match x with
  | .bl b => .ok b s1
  | _ => .bad
def qAnd (a b : EM Bool) : EM Bool := fun l s => (a l s).bind fun x s1 => if x = true then b l s1 else .ok false s1
def qOr (a b : EM Bool) : EM Bool := fun l s => (a l s).bind fun x s1 => if x = true then .ok true s1 else b l s1
def qNot (a : EM Bool) : EM Bool := fun l s => (a l s).bind fun x s1 => .ok (!x) s1
def eIf (c : EM Bool) (a b : EM D) : EM D := fun l s => (c l s).bind fun x s1 => if x = true then a l s1 else b l s1
/-- and, or, not as values: all but the last are truths -/
def eAnd (a b : EM D) : EM D := fun l s => (a l s).bind fun x s1 => match x with
  | .bl true => b l s1
  | .bl false => .ok (.bl false) s1
  | _ => .bad
def eOr (a b : EM D) : EM D := fun l s => (a l s).bind fun x s1 => match x with
  | .bl true => .ok (.bl true) s1
  | .bl false => b l s1
  | _ => .bad
def eNot (a : EM D) : EM D := fun l s => (a l s).bind fun x s1 => match x with
  | .bl b => .ok (.bl (!b)) s1
  | _ => .bad
end

/-! ### operators, by values -/
def big : Nat := 1000000
def oAdd (s : S) (x y : D) : Option D := match look s x, look s y with
  | .int i, .int j => some (.int (i + j))
  | .str a, .str b => if a.length + b.length ≤ big then some (.str (a ++ b)) else none
  | .tup a, .tup b => if a.length + b.length ≤ big then some (.tup (a ++ b)) else none
  | .lst a, .lst b => if a.length + b.length ≤ big then some (.lst (a ++ b)) else none
  | _, _ => none
def oAddL (s : S) (x y : D) : Option D := match look s x, look s y with
  | .lst a, .lst b => if a.length + b.length ≤ big then some (.lst (a ++ b)) else none
  | _, _ => none
def oSub (_ : S) (x y : D) : Option D := match x, y with
  | .int i, .int j => some (.int (i - j))
  | _, _ => none
def small (i : Int) : Bool := decide (-(2 ^ 64) < i) && decide (i < 2 ^ 64)
def oMul (_ : S) (x y : D) : Option D := match x, y with
  | .int i, .int j => if small i || small j then some (.int (i * j)) else none
  | _, _ => none
def oDiv (_ : S) (x y : D) : Option D := match x, y with
  | .int i, .int j => if 0 < j ∧ j < 1073741824 then some (.int (i / j)) else none
  | _, _ => none
def oMod (_ : S) (x y : D) : Option D := match x, y with
  | .int i, .int j => if 0 < j then some (.int (i % j)) else none
  | _, _ => none
def oPow (_ : S) (x y : D) : Option D := match x, y with
  | .int i, .int j => if 0 ≤ j ∧ j ≤ 1000 ∧ i.natAbs < 1000 then some (.int (i ^ j.toNat)) else none
  | _, _ => none
def oNeg (_ : S) (x : D) : Option D := match x with
  | .int i => some (.int (-i))
  | _ => none
def oLt (_ : S) (x y : D) : Option D := match x, y with
  | .int i, .int j => some (.bl (decide (i < j)))
  | _, _ => none
def oLe (_ : S) (x y : D) : Option D := match x, y with
  | .int i, .int j => some (.bl (decide (i ≤ j)))
  | _, _ => none
def oGt (_ : S) (x y : D) : Option D := match x, y with
  | .int i, .int j => some (.bl (decide (j < i)))
  | _, _ => none
def oGe (_ : S) (x y : D) : Option D := match x, y with
  | .int i, .int j => some (.bl (decide (j ≤ i)))
  | _, _ => none
/-- == as a truth -/
def eqD (s : S) (x y : D) : Option Bool := match (look s x).py, (look s y).py with
  | some p, some q => if SeqAt.shaped p && SeqAt.shaped q then some (PyData.eqv p q) else none
  | _, _ => none
def oEq (s : S) (x y : D) : Option D := (eqD s x y).map .bl
def oNe (s : S) (x y : D) : Option D := (eqD s x y).map fun b => .bl (!b)
def D.isNon : D → Bool
  | .non => true
  | _ => false
def oIsN (_ : S) (x : D) : Option D := some (.bl x.isNon)
def oNotN (_ : S) (x : D) : Option D := some (.bl (!x.isNon))
def oIsB (_ : S) (x y : D) : Option D := match x, y with
  | .bl a, .bl b => some (.bl (decide (a = b)))
  | _, _ => none
def oNotB (_ : S) (x y : D) : Option D := match x, y with
  | .bl a, .bl b => some (.bl (!decide (a = b)))
  | _, _ => none
/-- flat values, == -/
def D.flat : D → Bool
  | .non => true
  | .bl _ => true
  | .int _ => true
  | .str _ => true
  | _ => false
def D.feq : D → D → Bool
  | .non, .non => true
  | .bl a, .bl b => a == b
  | .bl a, .int j => (if a then 1 else 0) == j
  | .int i, .bl b => i == (if b then 1 else 0)
  | .int i, .int j => i == j
  | .str x, .str y => x == y
  | _, _ => false
def oIn (s : S) (x y : D) : Option D := match look s y with
  | .tup xs => if x.flat && xs.all D.flat then some (.bl (xs.any fun z => z.feq x)) else none
  | .lst xs => if x.flat && xs.all D.flat then some (.bl (xs.any fun z => z.feq x)) else none
  | _ => none
def oNotIn (s : S) (x y : D) : Option D := match look s y with
  | .tup xs => if x.flat && xs.all D.flat then some (.bl (!xs.any fun z => z.feq x)) else none
  | .lst xs => if x.flat && xs.all D.flat then some (.bl (!xs.any fun z => z.feq x)) else none
  | _ => none
/-- places -/
def ixI (n : Nat) (i : Int) : Option Nat := if 0 ≤ i then (if i < n then some i.toNat else none) else if -(n : Int) ≤ i then some (i + n).toNat else none
def atL {α : Type} (xs : List α) (i : Int) : Option α := (ixI xs.length i).bind fun j => xs[j]?
/-- keys -/
def D.keq0 : D → D → Bool
  | .int i, .int j => i == j
  | .str x, .str y => x == y
  | _, _ => false
def keqs : List D → List D → Bool
  | [], [] => true
  | x :: xs, y :: ys => x.keq0 y && keqs xs ys
  | _, _ => false
def D.keq : D → D → Bool
  | .tup xs, .tup ys => keqs xs ys
  | x, y => x.keq0 y
def D.isKey0 : D → Bool
  | .int _ => true
  | .str _ => true
  | _ => false
def dget (kvs : List (D × D)) (k : D) : Option D := match kvs with
  | [] => none
  | p :: r => if p.1.keq k then some p.2 else dget r k
def dput (kvs : List (D × D)) (k v : D) : List (D × D) := if kvs.any fun p => p.1.keq k then kvs.map (fun p => if p.1.keq k then (p.1, v) else p) else kvs ++ [(k, v)]
/-- a key of a table of this kind -/
def D.keyOf (t : Bool) : D → Bool
  | .tup xs => t && xs.all D.isKey0
  | x => !t && x.isKey0
def oIx (s : S) (x y : D) : Option D := match look s x, y with
  | .tup xs, .int i => atL xs i
  | .lst xs, .int i => atL xs i
  | _, _ => none
/-- d[k], k in d -/
def oDix (s : S) (x y : D) : Option D := match look s x with
  | .dct t kvs => if y.keyOf t then dget kvs y else none
  | _ => none
def oDin (s : S) (y x : D) : Option D := match look s x with
  | .dct t kvs => if y.keyOf t then some (.bl (dget kvs y).isSome) else none
  | _ => none
def oDnotin (s : S) (y x : D) : Option D := match look s x with
  | .dct t kvs => if y.keyOf t then some (.bl (!(dget kvs y).isSome)) else none
  | _ => none
/-- a slice's end: none, or by number -/
def cutAt (n d : Nat) : Option Int → Nat
  | none => d
  | some v => if v < 0 then (v + (n : Int)).toNat else min v.toNat n
def cut {α : Type} (xs : List α) (lo hi : Option Int) : List α := (xs.drop (cutAt xs.length 0 lo)).take (cutAt xs.length xs.length hi - cutAt xs.length 0 lo)
def oSl (s : S) (x : D) (lo hi : Option Int) : Option D := match look s x with
  | .tup xs => some (.tup (cut xs lo hi))
  | .lst xs => some (.lst (cut xs lo hi))
  | _ => none
/-- a op b op' c -/
def eChain (f g : S → D → D → Option D) (a b c : EM D) : EM D := fun l s => (a l s).bind fun x s1 => (b l s1).bind fun y s2 => match f s2 x y with
  | some (.bl true) => (c l s2).bind fun z s3 => opt (g s3 y z) s3
  | some (.bl false) => .ok (.bl false) s2
  | _ => .bad
/-- t * n, xs * n -/
def oRep (s : S) (x y : D) : Option D := match look s x, y with
  | .tup xs, .int k => if xs.length ≤ 1000 ∧ -1000 ≤ k ∧ k ≤ 1000 then some (.tup (List.replicate k.toNat xs).flatten) else none
  | .lst xs, .int k => if xs.length ≤ 1000 ∧ -1000 ≤ k ∧ k ≤ 1000 then some (.lst (List.replicate k.toNat xs).flatten) else none
  | _, _ => none
def eNo : EM (Option Int) := fun _ s => .ok none s
def eAt (a : EM D) : EM (Option Int) := fun l s => (a l s).bind fun x s1 => match x with
  | .int i => .ok (some i) s1
  | _ => .bad
def eSl (a : EM D) (lo hi : EM (Option Int)) : EM D := fun l s => (a l s).bind fun x s1 => (lo l s1).bind fun i s2 => (hi l s2).bind fun j s3 => opt (oSl s3 x i j) s3
/-- built-ins -/
def oLen (s : S) (xs : List D) : Option D := match xs with
  | [x] => (match look s x with
    | .tup xs => some (.int xs.length)
    | .lst xs => some (.int xs.length)
    | .dct _ xs => some (.int xs.length)
    | .str x => if x.length ≤ big then some (.int x.length) else none
    | _ => none)
  | _ => none
def oInt (_ : S) (xs : List D) : Option D := match xs with
  | [.int i] => some (.int i)
  | _ => none
def oMin (_ : S) (xs : List D) : Option D := match xs with
  | [.int i, .int j] => some (.int (if j < i then j else i))
  | _ => none
def oMax (_ : S) (xs : List D) : Option D := match xs with
  | [.int i, .int j] => some (.int (if j > i then j else i))
  | _ => none
def bools : List D → Option (List Bool)
  | [] => some []
  | .bl b :: r => (bools r).map (b :: ·)
  | _ => none
def oAllB (s : S) (xs : List D) : Option D := match xs with
  | [x] => (match look s x with
    | .lst xs => (bools xs).map fun bs => .bl (bs.all id)
    | _ => none)
  | _ => none
def oAnyB (s : S) (xs : List D) : Option D := match xs with
  | [x] => (match look s x with
    | .lst xs => (bools xs).map fun bs => .bl (bs.any id)
    | _ => none)
  | _ => none
inductive Ty where
  | int | bool | str | tuple | list
def D.isa : Ty → D → Option Bool
  | _, .ref _ => none
  | _, .dct true _ => none
  | .int, .int _ => some true
  | .int, .bl _ => some true
  | .bool, .bl _ => some true
  | .str, .str _ => some true
  | .tuple, .tup _ => some true
  | .list, .lst _ => some true
  | _, _ => some false
def oIsa (t : Ty) (_ : S) (x : D) : Option D := (x.isa t).map .bl
def oRepr (s : S) (xs : List D) : Option D := match xs with
  | [x] => (match (look s x).py with
    | some p => if p.showable && !p.hasDict && decide (p.depth ≤ 64) && decide (p.shown.length ≤ big) then some (.str p.shown) else none
    | none => none)
  | _ => none
def oTupL (s : S) (xs : List D) : Option D := match xs with
  | [x] => (match look s x with
    | .lst xs => some (.tup xs)
    | .tup xs => some (.tup xs)
    | _ => none)
  | _ => none
def oLstL (s : S) (xs : List D) : Option D := match xs with
  | [x] => (match look s x with
    | .lst xs => some (.lst xs)
    | .tup xs => some (.lst xs)
    | _ => none)
  | _ => none
/-- what is walked -/
def iSeq (a : EM D) : EM (List D) := fun l s => (a l s).bind fun x s1 => match x with
  | .tup xs => .ok xs s1
  | .lst xs => .ok xs s1
  | _ => .bad
def upto (lo : Int) : Nat → List D
  | 0 => []
  | n + 1 => .int lo :: upto (lo + 1) n
def iRange1 (a : EM D) : EM (List D) := fun l s => (a l s).bind fun x s1 => match x with
  | .int n => if n < 1000000 ∧ -1000000 < n then .ok (upto 0 n.toNat) s1 else .bad
  | _ => .bad
def iRange2 (a b : EM D) : EM (List D) := fun l s => (a l s).bind fun x s1 => (b l s1).bind fun y s2 => match x, y with
  | .int i, .int j => if i < 1000000 ∧ -1000000 < i ∧ j < 1000000 ∧ -1000000 < j then .ok (upto i (j - i).toNat) s2 else .bad
  | _, _ => .bad
def enumL (i : Int) : List D → List D
  | [] => []
  | x :: xs => .tup [.int i, x] :: enumL (i + 1) xs
def zipL : List D → List D → List D
  | x :: xs, y :: ys => .tup [x, y] :: zipL xs ys
  | _, _ => []
def iEnum (a : EM (List D)) : EM (List D) := fun l s => (a l s).bind fun xs s1 => .ok (enumL 0 xs) s1
def iZip (a b : EM (List D)) : EM (List D) := fun l s => (a l s).bind fun xs s1 => (b l s1).bind fun ys s2 => .ok (zipL xs ys) s2

/-! ### statements -/
def sPass : SM := fun l s => .nx l s
def sSeq (a b : SM) : SM := fun l s => match a l s with
  | .nx l' s' => b l' s'
  | r => r
def sAsg (i : Nat) (e : EM D) : SM := fun l s => (e l s).toR l fun d s' => .nx (l.set i (some (.val d))) s'
/-- a new list, dict becomes the slot's own -/
def D.own? : D → Option O
  | .lst xs => some (.lst xs)
  | .dct t kvs => some (.dct t kvs)
  | _ => none
def sOwn (i : Nat) (e : EM D) : SM := fun l s => (e l s).toR l fun d s' => match d.own? with
  | some o => .nx (l.set i (some (.own o))) s'
  | none => .bad
/-- nobody changes it any more -/
def sFrz (i : Nat) : SM := fun l s => match l[i]? with
  | some (some (.own o)) => .nx (l.set i (some (.val o.d))) s
  | some (some (.val d)) => .nx l s
  | _ => .bad
/-- several at once: the parts from the left, then the slots; true: the slot's own -/
def putAll : List (Nat × Bool) → List D → Env → Option Env
  | [], [], l => some l
  | (i, true) :: ts, d :: ds, l => match d.own? with
    | some o => putAll ts ds (l.set i (some (.own o)))
    | none => none
  | (i, false) :: ts, d :: ds, l => putAll ts ds (l.set i (some (.val d)))
  | _, _, _ => none
def sPar (ts : List (Nat × Bool)) (ms : List (EM D)) : SM := fun l s => (eAll ms l s).toR l fun ds s' => match putAll ts ds l with
  | some l' => .nx l' s'
  | none => .bad
/-- return x, x a slot's own -/
def sRetO (i : Nat) : SM := fun l s => match l[i]? with
  | some (some (.own o)) => .rt o.d s
  | some (some (.val d)) => .rt d s
  | _ => .bad
/-- y = x, x a slot's own: it moves -/
def sMove (i j : Nat) : SM := fun l s => match l[j]? with
  | some (some (.own o)) => .nx ((l.set j none).set i (some (.own o))) s
  | _ => .bad
/-- x.append(e) -/
def sApp (i : Nat) (e : EM D) : SM := fun l s => match l[i]? with
  | some (some (.own (.lst xs))) => (e l s).toR l fun d s' => if xs.length < big then .nx (l.set i (some (.own (.lst (xs ++ [d]))))) s' else .bad
  | _ => .bad
/-- x[k] = v of a table -/
def sDput (i : Nat) (k v : EM D) : SM := fun l s => match l[i]? with
  | some (some (.own (.dct t kvs))) => (v l s).toR l fun y s1 => (k l s1).toR l fun x s2 => if x.keyOf t && decide (kvs.length < big) then .nx (l.set i (some (.own (.dct t (dput kvs x y))))) s2 else .bad
  | _ => .bad
/-- .. of a table of the store -/
def sDputR (o k v : EM D) : SM := fun l s => (v l s).toR l fun y s1 => (o l s1).toR l fun r s2 => (k l s2).toR l fun x s3 => match r with
  | .ref n => (match s3[n]? with
    | some (.dct t kvs) => if x.keyOf t && decide (kvs.length < big) then .nx l (s3.set n (.dct t (dput kvs x y))) else .bad
    | _ => .bad)
  | _ => .bad
def sRet (e : EM D) : SM := fun l s => (e l s).toR l fun d s' => .rt d s'
def sIf (c : EM Bool) (a b : SM) : SM := fun l s => (c l s).toR l fun x s' => if x = true then a l s' else b l s'
def sExpr (e : EM D) : SM := fun l s => (e l s).toR l fun _ s' => .nx l s'
def sBreak : SM := fun l s => .bk l s
def sCont : SM := fun l s => .ct l s
/-- targets -/
inductive Tg where
  | nm (i : Nat) | tp (ts : List Tg)
mutual
def Tg.put : Tg → D → Env → Option Env
  | .nm i, d, l => some (l.set i (some (.val d)))
  | .tp ts, .tup ds, l => Tg.puts ts ds l
  | .tp _, _, _ => none
def Tg.puts : List Tg → List D → Env → Option Env
  | [], [], l => some l
  | t :: ts, d :: ds, l => match t.put d l with
    | some l' => Tg.puts ts ds l'
    | none => none
  | _, _, _ => none
end
mutual
def Tg.slots : Tg → List Nat
  | .nm i => [i]
  | .tp ts => Tg.slotss ts
def Tg.slotss : List Tg → List Nat
  | [] => []
  | t :: ts => t.slots ++ Tg.slotss ts
end
def sPut (t : Tg) (e : EM D) : SM := fun l s => (e l s).toR l fun d s' => match t.put d l with
  | some l' => .nx l' s'
  | none => .bad
def forL (t : Tg) (b : SM) : List D → SM
  | [] => fun l s => .nx l s
  | d :: ds => fun l s => match t.put d l with
    | none => .bad
    | some l1 => match b l1 s with
      | .nx l2 s2 => forL t b ds l2 s2
      | .ct l2 s2 => forL t b ds l2 s2
      | .bk l2 s2 => .nx l2 s2
      | .rt d s2 => .rt d s2
      | .ex x l2 s2 => .ex x l2 s2
      | .bad => .bad
def sFor (t : Tg) (it : EM (List D)) (b : SM) : SM := fun l s => (it l s).toR l fun ds s' => forL t b ds l s'
def whileN (c : EM Bool) (b : SM) : Nat → SM
  | 0 => fun _ _ => .bad
  | n + 1 => fun l s => (c l s).toR l fun x s1 => if x = true then (match b l s1 with
      | .nx l2 s2 => whileN c b n l2 s2
      | .ct l2 s2 => whileN c b n l2 s2
      | .bk l2 s2 => .nx l2 s2
      | .rt d s2 => .rt d s2
      | .ex x l2 s2 => .ex x l2 s2
      | .bad => .bad) else .nx l s1
/-- a list comprehension: vs its own slots -/
def wipeE (l : Env) : List Nat → Env
  | [] => l
  | v :: vs => (wipeE l vs).set v none
def lcL (t : Tg) (c : EM Bool) (e : EM D) : List D → Env → S → Res (List D)
  | [], _, s => .ok [] s
  | d :: ds, l, s => match t.put d l with
    | none => .bad
    | some l1 => match c l1 s with
      | .ok true s1 => (match e l1 s1 with
        | .ok x s2 => (match lcL t c e ds l s2 with
          | .ok xs s3 => .ok (x :: xs) s3
          | _ => .bad)
        | _ => .bad)
      | .ok false s1 => lcL t c e ds l s1
      | _ => .bad
def eLc (vs : List Nat) (t : Tg) (it : EM (List D)) (c : EM Bool) (e : EM D) : EM D := fun l s => (it l s).bind fun ds s1 => (lcL t c e ds (wipeE l vs) s1).bind fun xs s2 => if ds.length ≤ big then .ok (.lst xs) s2 else .bad
def qT : EM Bool := fun _ s => .ok true s

/-! ### defs -/
abbrev Fn := List D → S → Res D
def runB (b : SM) (n : Nat) : Fn := fun ds s => match b (ds.map (fun d => some (.val d)) ++ List.replicate (n - ds.length) none) s with
  | .nx _ s' => .ok .non s'
  | .rt d s' => .ok d s'
  | .ex x _ s' => .exc x s'
  | _ => .bad
/-- a new list, dict is laid in the store -/
def eNew (e : EM D) : EM D := fun l s => (e l s).bind fun d s1 => match d.own? with
  | some o => .ok (.ref s1.length) (s1 ++ [o])
  | none => .bad
def eCall (f : Fn) (a : EM (List D)) : EM D := fun l s => (a l s).bind fun ds s1 => f ds s1
end Wd
set_option Elab.async false
set_option linter.all false
set_option maxRecDepth 100000
set_option autoImplicit false
/-! Wd1: what of the model a tree of Wd0 stands for; readings. -/
namespace Wd
open PySem PySem.Spec PyProof.Rows L2

def kD : Key → D
  | .inl i => .int i
  | .inr x => .str x
def tD (ks : List Key) : D := .tup (ks.map kD)

mutual
inductive Rel (K : PySem.W.Frag) (θ : List Addr) (F : Hp) : D → V → Prop
  | non : Rel K θ F .non .non
  | bl (b : Bool) : Rel K θ F (.bl b) (.bl b)
  | int (i : Int) : Rel K θ F (.int i) (.int i)
  | str (x : Str) : Rel K θ F (.str x) (.str x)
  | tup {a : Addr} {xs : List D} {vs : List V} : F a = some (.tup vs) → Rels K θ F xs vs → Rel K θ F (.tup xs) (.ref a)
  | lst {a : Addr} {xs : List D} {vs : List V} : SqL K F a vs → Rels K θ F xs vs → Rel K θ F (.lst xs) (.ref a)
  | dK {a : Addr} {o : Obj} {kvs : List (D × D)} {es : List (Key × V)} : F a = some (.frz o (.dK es)) → RelKs K θ F kvs es → Rel K θ F (.dct false kvs) (.ref a)
  | dT {a : Addr} {o : Obj} {kvs : List (D × D)} {es : List (List Key × V)} : F a = some (.frz o (.dT es)) → RelTs K θ F kvs es → Rel K θ F (.dct true kvs) (.ref a)
  | ref {n : Nat} {a : Addr} : θ[n]? = some a → Rel K θ F (.ref n) (.ref a)
inductive Rels (K : PySem.W.Frag) (θ : List Addr) (F : Hp) : List D → List V → Prop
  | nil : Rels K θ F [] []
  | cons {d : D} {v : V} {ds : List D} {vs : List V} : Rel K θ F d v → Rels K θ F ds vs → Rels K θ F (d :: ds) (v :: vs)
inductive RelKs (K : PySem.W.Frag) (θ : List Addr) (F : Hp) : List (D × D) → List (Key × V) → Prop
  | nil : RelKs K θ F [] []
  | cons {k : Key} {d : D} {v : V} {ds : List (D × D)} {vs : List (Key × V)} : Rel K θ F d v → RelKs K θ F ds vs → RelKs K θ F ((kD k, d) :: ds) ((k, v) :: vs)
inductive RelTs (K : PySem.W.Frag) (θ : List Addr) (F : Hp) : List (D × D) → List (List Key × V) → Prop
  | nil : RelTs K θ F [] []
  | cons {k : List Key} {d : D} {v : V} {ds : List (D × D)} {vs : List (List Key × V)} : Rel K θ F d v → RelTs K θ F ds vs → RelTs K θ F ((tD k, d) :: ds) ((k, v) :: vs)
end

/-- what F knows, F' knows -/
def Le (F F' : Hp) : Prop := ∀ a o, F a = some o → F' a = some o
theorem Le.refl (F : Hp) : Le F F := fun _ _ h => h
theorem Le.trans {F G H : Hp} (a : Le F G) (b : Le G H) : Le F H := fun x o h => b x o (a x o h)
theorem Le.rd {F F' : Hp} {a : Addr} {u : HO} (e : Le F F') (h : Rd F a u) : Rd F' a u := by
  rcases h with h | ⟨o, h⟩
  · exact .inl (e a _ h)
  · exact .inr ⟨o, e a _ h⟩
theorem Le.l {K : PySem.W.Frag} {F F' : Hp} {a : Addr} {xs : List V} (e : Le F F') (h : SqL K F a xs) : SqL K F' a xs := by
  rcases h with h | h
  · exact .inl (e.rd h)
  · exact .inr h
theorem Le.t {K : PySem.W.Frag} {F F' : Hp} {a : Addr} {xs : List V} (e : Le F F') (h : SqT K F a xs) : SqT K F' a xs := by
  rcases h with h | h
  · exact .inl (e.rd h)
  · exact .inr h
theorem Le.new {F : Hp} {a : Addr} {o : HO} (h : F a = none) : Le F (upd F a o) := fun b u e => by
  rw [upd_ne (ne_of_none e h)]
  exact e

section
variable {K : PySem.W.Frag} {θ θ' : List Addr} {F F' : Hp}
theorem pre_at {n : Nat} {a : Addr} {t : List Addr} (h : θ[n]? = some a) : (θ ++ t)[n]? = some a := by
  have hl := (List.getElem?_eq_some_iff.mp h).1
  rw [List.getElem?_append_left hl]
  exact h
mutual
theorem Rel.mono {t : List Addr} (e : Le F F') : ∀ {d : D} {v : V}, Rel K θ F d v → Rel K (θ ++ t) F' d v
  | _, _, .non => .non
  | _, _, .bl b => .bl b
  | _, _, .int i => .int i
  | _, _, .str x => .str x
  | _, _, .tup h r => .tup (e _ _ h) (Rels.mono e r)
  | _, _, .lst h r => .lst (e.l h) (Rels.mono e r)
  | _, _, .dK h r => .dK (e _ _ h) (RelKs.mono e r)
  | _, _, .dT h r => .dT (e _ _ h) (RelTs.mono e r)
  | _, _, .ref h => .ref (pre_at h)
theorem Rels.mono {t : List Addr} (e : Le F F') : ∀ {ds : List D} {vs : List V}, Rels K θ F ds vs → Rels K (θ ++ t) F' ds vs
  | _, _, .nil => .nil
  | _, _, .cons a b => .cons (Rel.mono e a) (Rels.mono e b)
theorem RelKs.mono {t : List Addr} (e : Le F F') : ∀ {ds : List (D × D)} {vs : List (Key × V)}, RelKs K θ F ds vs → RelKs K (θ ++ t) F' ds vs
  | _, _, .nil => .nil
  | _, _, .cons a b => .cons (Rel.mono e a) (RelKs.mono e b)
theorem RelTs.mono {t : List Addr} (e : Le F F') : ∀ {ds : List (D × D)} {vs : List (List Key × V)}, RelTs K θ F ds vs → RelTs K (θ ++ t) F' ds vs
  | _, _, .nil => .nil
  | _, _, .cons a b => .cons (Rel.mono e a) (RelTs.mono e b)
end
theorem Rels.length : ∀ {ds : List D} {vs : List V}, Rels K θ F ds vs → ds.length = vs.length
  | _, _, .nil => rfl
  | _, _, .cons _ b => by rw [List.length_cons, List.length_cons, Rels.length b]
theorem Rels.append : ∀ {ds es : List D} {vs ws : List V}, Rels K θ F ds vs → Rels K θ F es ws → Rels K θ F (ds ++ es) (vs ++ ws)
  | _, _, _, _, .nil, r => r
  | _, _, _, _, .cons a b, r => .cons a (Rels.append b r)
theorem Rels.get : ∀ {ds : List D} {vs : List V} {i : Nat} {d : D}, Rels K θ F ds vs → ds[i]? = some d → ∃ v, vs[i]? = some v ∧ Rel K θ F d v
  | _, _, _, _, .nil, e => by simp at e
  | _, _, 0, _, .cons a _, e => by
    simp at e
    subst e
    exact ⟨_, rfl, a⟩
  | _, _, i + 1, d, .cons _ b, e => by
    obtain ⟨v, h1, h2⟩ := Rels.get (i := i) (d := d) b (by simpa using e)
    exact ⟨v, by simpa using h1, h2⟩
theorem Rels.get' : ∀ {ds : List D} {vs : List V} {i : Nat} {v : V}, Rels K θ F ds vs → vs[i]? = some v → ∃ d, ds[i]? = some d ∧ Rel K θ F d v
  | _, _, _, _, .nil, e => by simp at e
  | _, _, 0, _, .cons a _, e => by
    simp at e
    subst e
    exact ⟨_, rfl, a⟩
  | _, _, i + 1, v, .cons _ b, e => by
    obtain ⟨d, h1, h2⟩ := Rels.get' (i := i) (v := v) b (by simpa using e)
    exact ⟨d, by simpa using h1, h2⟩
theorem Rels.take (n : Nat) : ∀ {ds : List D} {vs : List V}, Rels K θ F ds vs → Rels K θ F (ds.take n) (vs.take n) := by
  induction n with
  | zero => intro ds vs _; exact .nil
  | succ n ih =>
    intro ds vs r
    cases r with
    | nil => exact .nil
    | cons a b => exact .cons a (ih b)
theorem Rels.drop (n : Nat) : ∀ {ds : List D} {vs : List V}, Rels K θ F ds vs → Rels K θ F (ds.drop n) (vs.drop n) := by
  induction n with
  | zero => intro ds vs r; exact r
  | succ n ih =>
    intro ds vs r
    cases r with
    | nil => exact .nil
    | cons a b => exact ih b
theorem Rels.reverse : ∀ {ds : List D} {vs : List V}, Rels K θ F ds vs → Rels K θ F ds.reverse vs.reverse
  | _, _, .nil => .nil
  | _, _, .cons a b => by
    rw [List.reverse_cons, List.reverse_cons]
    exact (Rels.reverse b).append (.cons a .nil)
theorem Rels.ints : ∀ ns : List Int, Rels K θ F (ns.map D.int) (ns.map V.int)
  | [] => .nil
  | n :: ns => .cons (.int n) (Rels.ints ns)
end

/-- an object that may be changed -/
def RelO (K : PySem.W.Frag) (θ : List Addr) (F : Hp) : O → Option HO → Prop
  | .lst xs, h => ∃ vs, h = some (.lst vs) ∧ Rels K θ F xs vs
  | .dct false kvs, h => ∃ es, h = some (.dK es) ∧ RelKs K θ F kvs es
  | .dct true kvs, h => ∃ es, h = some (.dT es) ∧ RelTs K θ F kvs es
section
variable {K : PySem.W.Frag} {θ θ' : List Addr} {F F' H H' : Hp}
theorem RelO.mono {t : List Addr} (e : Le F F') {o : O} {h : Option HO} (r : RelO K θ F o h) : RelO K (θ ++ t) F' o h := by
  cases o with
  | lst xs =>
    obtain ⟨vs, e1, r⟩ := r
    exact ⟨vs, e1, r.mono e⟩
  | dct t kvs =>
    cases t with
    | false =>
      obtain ⟨es, e1, r⟩ := r
      exact ⟨es, e1, r.mono e⟩
    | true =>
      obtain ⟨es, e1, r⟩ := r
      exact ⟨es, e1, r.mono e⟩
theorem RelO.there {o : O} {h : Option HO} (r : RelO K θ F o h) : ∃ u, h = some u ∧ ∀ ps, u ≠ .tbl ps := by
  cases o with
  | lst xs =>
    obtain ⟨vs, e1, r⟩ := r
    exact ⟨_, e1, fun _ z => nomatch z⟩
  | dct t kvs =>
    cases t with
    | false =>
      obtain ⟨es, e1, r⟩ := r
      exact ⟨_, e1, fun _ z => nomatch z⟩
    | true =>
      obtain ⟨es, e1, r⟩ := r
      exact ⟨_, e1, fun _ z => nomatch z⟩
/-- frozen -/
theorem RelO.rel {xs : List D} {a : Addr} (r : RelO K θ F (.lst xs) (F a)) : Rel K θ F (.lst xs) (.ref a) := by
  obtain ⟨vs, e1, r⟩ := r
  exact .lst (SqL.of e1) r
/-- .. by a lock -/
theorem RelO.relL {o : O} {a : Addr} {ho : HO} {od : Obj} (r : RelO K θ F o (some ho)) (e : F a = some (.frz od ho)) : Rel K θ F o.d (.ref a) := by
  cases o with
  | lst xs =>
    obtain ⟨vs, e1, r⟩ := r
    cases e1
    exact .lst (.inl (.inr ⟨od, e⟩)) r
  | dct t kvs =>
    cases t with
    | false =>
      obtain ⟨es, e1, r⟩ := r
      cases e1
      exact .dK e r
    | true =>
      obtain ⟨es, e1, r⟩ := r
      cases e1
      exact .dT e r
theorem RelO.mut {o : O} {h : Option HO} (r : RelO K θ F o h) : Mut h := by
  cases o with
  | lst xs =>
    obtain ⟨vs, rfl, r⟩ := r
    exact True.intro
  | dct t kvs =>
    cases t with
    | false =>
      obtain ⟨es, rfl, r⟩ := r
      exact True.intro
    | true =>
      obtain ⟨es, rfl, r⟩ := r
      exact True.intro
theorem RelO.noTup {o : O} {h : Option HO} {u : HO} (r : RelO K θ F o h) (e : h = some u) : ∀ vs, u ≠ .tup vs := by
  have m := r.mut
  subst e
  intro vs z
  subst z
  exact m
/-- neither a table of code nor a code -/
theorem RelO.plain {o : O} {h : Option HO} (r : RelO K θ F o h) : (∀ ps, h ≠ some (.tbl ps)) ∧ ∀ φ, h ≠ some (.ext φ) := by
  cases o with
  | lst xs =>
    obtain ⟨vs, rfl, r⟩ := r
    exact ⟨fun _ z => (nomatch z), fun _ z => (nomatch z)⟩
  | dct t kvs =>
    cases t with
    | false =>
      obtain ⟨es, rfl, r⟩ := r
      exact ⟨fun _ z => (nomatch z), fun _ z => (nomatch z)⟩
    | true =>
      obtain ⟨es, rfl, r⟩ := r
      exact ⟨fun _ z => (nomatch z), fun _ z => (nomatch z)⟩
end

/-! ### from one state to a later one -/
structure Step (θ : List Addr) (F H : Hp) (θ' : List Addr) (F' H' : Hp) : Prop where
  pre : ∃ t, θ' = θ ++ t ∧ ∀ a ∈ t, H a = none
  frz : Le F F'
  new : ∀ a o, H a = some o → a ∉ θ → (∀ ps, o ≠ .tbl ps) → (∀ vs, o ≠ .tup vs) → F' a = F a
  keep : ∀ a o, H a = some o → a ∉ θ → (∀ ps, o ≠ .tbl ps) → H' a = some o
  dom : ∀ a, H a ≠ none → H' a ≠ none
section
variable {θ θ' θ'' : List Addr} {F F' F'' H H' H'' : Hp}
theorem Step.refl : Step θ F H θ F H := ⟨⟨[], by simp, fun a h => nomatch h⟩, Le.refl F, fun _ _ _ _ _ _ => rfl, fun _ _ h _ _ => h, fun _ h => h⟩
theorem Step.notin (s : Step θ F H θ' F' H') {a : Addr} (h : H a ≠ none) (n : a ∉ θ) : a ∉ θ' := by
  obtain ⟨t, rfl, ht⟩ := s.pre
  intro z
  rcases List.mem_append.mp z with z | z
  · exact n z
  · exact h (ht a z)
theorem Step.fresh (s : Step θ F H θ' F' H') {a : Addr} (h : H' a = none) : H a = none := by
  cases e : H a with
  | none => rfl
  | some o => exact absurd h (s.dom a (by rw [e]; exact fun z => nomatch z))
theorem Step.trans (s : Step θ F H θ' F' H') (r : Step θ' F' H' θ'' F'' H'') : Step θ F H θ'' F'' H'' := by
  refine ⟨?_, s.frz.trans r.frz, fun a o h n q nu => (r.new a o (s.keep a o h n q) (s.notin (by rw [h]; exact fun z => nomatch z) n) q nu).trans (s.new a o h n q nu), fun a o h n q => r.keep a o (s.keep a o h n q) (s.notin (by rw [h]; exact fun z => nomatch z) n) q, fun a h => r.dom a (s.dom a h)⟩
  obtain ⟨t, rfl, ht⟩ := s.pre
  obtain ⟨u, rfl, hu⟩ := r.pre
  refine ⟨t ++ u, by rw [List.append_assoc], fun a h => ?_⟩
  rcases List.mem_append.mp h with z | z
  · exact ht a z
  · exact s.fresh (hu a z)
/-- a new object that nobody changes -/
theorem Step.laid {a : Addr} {o : HO} (h : H a = none) (hF : F a = none) : Step θ F H θ (upd F a o) (upd H a o) :=
  ⟨⟨[], by simp, fun a h => nomatch h⟩, Le.new hF, fun b u e _ _ _ => by rw [upd_ne (ne_of_none e h)], fun b u e _ _ => by rw [upd_ne (ne_of_none e h)]; exact e, fun b q => by
    rw [upd_ne (fun z => q (by rw [z]; exact h))]
    exact q⟩
/-- a new object -/
theorem Step.made {a : Addr} {o : HO} (h : H a = none) : Step θ F H θ F (upd H a o) :=
  ⟨⟨[], by simp, fun a h => nomatch h⟩, Le.refl F, fun _ _ _ _ _ _ => rfl, fun b u e _ _ => by rw [upd_ne (ne_of_none e h)]; exact e, fun b q => by
    rw [upd_ne (fun z => q (by rw [z]; exact h))]
    exact q⟩
end

/-- what stays through a def: tables of code objects, slots that are known, objects that are known -/
structure Cc where
  T : List (Addr × Str) := []
  pin : List (Nat × V) := []
  fz : List (Addr × HO) := []
  more : List Addr → Hp → Hp → Prop := fun _ _ _ => True
  mono : ∀ θ F H θ' F' H', Step θ F H θ' F' H' → more θ F H → more θ' F' H' := by exact fun _ _ _ _ _ _ _ h => h
/-- nothing more is known -/
def Cc.Free (c : Cc) : Prop := ∀ θ F H, c.more θ F H

structure RS (K : PySem.W.Frag) (c : Cc) (θ : List Addr) (F H : Hp) (s : S) : Prop where
  sub : Le F H
  len : θ.length = s.length
  inj : θ.Nodup
  st : ∀ (n : Nat) (o : O), s[n]? = some o → ∃ a, θ[n]? = some a ∧ RelO K θ F o (H a) ∧ F a = none
  tabs : LamX.Tabs c.T H
  fz : ∀ p ∈ c.fz, F p.1 = some p.2
  ntb : ∀ a ps, F a ≠ some (.tbl ps)
  more : c.more θ F H
structure RL (K : PySem.W.Frag) (c : Cc) (θ : List Addr) (F H H0 : Hp) (l : Env) (σ : L2.St) : Prop where
  loc : ∀ (i : Nat) (d : D), l[i]? = some (some (Slot.val d)) → ∃ v, σ[i]? = some (some v) ∧ Rel K θ F d v
  own : ∀ (i : Nat) (o : O), l[i]? = some (some (Slot.own o)) → ∃ a, σ[i]? = some (some (.ref a)) ∧ RelO K θ F o (H a) ∧ F a = none ∧ a ∉ θ ∧ H0 a = none ∧ ∀ (j : Nat) (o' : O), l[j]? = some (some (Slot.own o')) → σ[j]? = some (some (.ref a)) → j = i
  pin : ∀ p ∈ c.pin, σ[p.1]? = some (some p.2)
  len : l.length = σ.length
section
variable {K : PySem.W.Frag} {c : Cc} {θ θ' : List Addr} {F F' H H' H0 : Hp} {s : S} {l : Env} {σ : L2.St}
theorem RL.step (r : RL K c θ F H H0 l σ) (t : Step θ F H θ' F' H') : RL K c θ' F' H' H0 l σ := by
  obtain ⟨u, rfl, hu⟩ := id t.pre
  refine ⟨fun i d h => ?_, fun i o h => ?_, r.pin, r.len⟩
  · obtain ⟨v, e, q⟩ := r.loc i d h
    exact ⟨v, e, q.mono t.frz⟩
  · obtain ⟨a, e, q, n, m, z, w⟩ := r.own i o h
    obtain ⟨ho, e1, nt⟩ := q.there
    have hn : H a ≠ none := by rw [e1]; exact fun z => nomatch z
    refine ⟨a, e, ?_, (t.new a ho e1 m nt (q.noTup e1)).trans n, t.notin hn m, z, w⟩
    rw [t.keep a ho e1 m nt, ← e1]
    exact q.mono t.frz
theorem RS.non (r : RS K c θ F H s) {a : Addr} (h : H a = none) : F a = none := by
  cases e : F a with
  | none => rfl
  | some o =>
    have := r.sub a o e
    rw [h] at this
    cases this
theorem RS.nth (r : RS K c θ F H s) {a : Addr} (h : H a = none) : a ∉ θ := fun z => by
  obtain ⟨n, e⟩ := List.getElem?_of_mem z
  have hl : n < s.length := by
    rw [← r.len]
    exact (List.getElem?_eq_some_iff.mp e).1
  obtain ⟨b, e1, q, _⟩ := r.st n s[n] (List.getElem?_eq_getElem hl)
  rw [e] at e1
  cases e1
  obtain ⟨ho, e2, _⟩ := q.there
  rw [h] at e2
  cases e2
theorem tabs_ext {T : List (Addr × Str)} (t : LamX.Tabs T H) (e : Le H H') : LamX.Tabs T H' := t.ext e
/-- a new object that nobody changes -/
theorem RS.laid (r : RS K c θ F H s) {a : Addr} {o : HO} (h : H a = none) (nt : ∀ ps, o ≠ .tbl ps) : RS K c θ (upd F a o) (upd H a o) s := by
  have hF := r.non h
  refine ⟨fun b u e => ?_, r.len, r.inj, fun n ob e => ?_, r.tabs.ext fun b u e => by rw [upd_ne (ne_of_none e h)]; exact e, fun p hp => by rw [upd_ne (ne_of_none (r.fz p hp) hF)]; exact r.fz p hp, fun b ps e => ?_, c.mono _ _ _ _ _ _ (.laid h hF) r.more⟩
  · by_cases hb : b = a
    · subst hb
      rw [upd_same] at e ⊢
      exact e
    · rw [upd_ne hb] at e ⊢
      exact r.sub b u e
  · obtain ⟨b, e1, q, n⟩ := r.st n ob e
    obtain ⟨ho, e2, _⟩ := q.there
    have hb : b ≠ a := fun z => by
      rw [z, h] at e2
      cases e2
    refine ⟨b, e1, ?_, by rw [upd_ne hb]; exact n⟩
    rw [upd_ne hb]
    have := q.mono (t := []) (Le.new (o := o) hF)
    rw [List.append_nil] at this
    exact this
  · by_cases hb : b = a
    · subst hb
      rw [upd_same] at e
      exact nt ps (Option.some.inj e)
    · rw [upd_ne hb] at e
      exact r.ntb b ps e
/-- a new object -/
theorem RS.made (r : RS K c θ F H s) {a : Addr} {o : HO} (h : H a = none) : RS K c θ F (upd H a o) s := by
  refine ⟨fun b u e => ?_, r.len, r.inj, fun n ob e => ?_, r.tabs.ext fun b u e => by rw [upd_ne (ne_of_none e h)]; exact e, r.fz, r.ntb, c.mono _ _ _ _ _ _ (.made h) r.more⟩
  · rw [upd_ne (ne_of_none (r.sub b u e) h)]
    exact r.sub b u e
  · obtain ⟨b, e1, q, n⟩ := r.st n ob e
    obtain ⟨ho, e2, _⟩ := q.there
    have hb : b ≠ a := fun z => by
      rw [z, h] at e2
      cases e2
    refine ⟨b, e1, ?_, n⟩
    rw [upd_ne hb]
    exact q
/-- an object that nobody changes any more -/
theorem RS.freeze (r : RS K c θ F H s) {a : Addr} {o : HO} (h : H a = some o) (m : a ∉ θ) (hF : F a = none) (nt : ∀ ps, o ≠ .tbl ps) (hm : c.more θ (upd F a o) H) : RS K c θ (upd F a o) H s := by
  refine ⟨fun b u e => ?_, r.len, r.inj, fun n ob e => ?_, r.tabs, fun p hp => by rw [upd_ne (ne_of_none (r.fz p hp) hF)]; exact r.fz p hp, fun b ps e => ?_, hm⟩
  · by_cases hb : b = a
    · subst hb
      rw [upd_same] at e
      rw [h]
      exact e
    · rw [upd_ne hb] at e
      exact r.sub b u e
  · obtain ⟨b, e1, q, n⟩ := r.st n ob e
    have hb : b ≠ a := fun z => m (by rw [← z]; exact List.mem_of_getElem? e1)
    refine ⟨b, e1, ?_, by rw [upd_ne hb]; exact n⟩
    have := q.mono (t := []) (Le.new (o := o) hF)
    rw [List.append_nil] at this
    exact this
  · by_cases hb : b = a
    · subst hb
      rw [upd_same] at e
      exact nt ps (Option.some.inj e)
    · rw [upd_ne hb] at e
      exact r.ntb b ps e
/-- .. by a lock -/
theorem RS.lock (r : RS K c θ F H s) {a : Addr} {o : HO} {od : Obj} (h : H a = some o) (m : a ∉ θ) (hF : F a = none) (np : (∀ ps, o ≠ .tbl ps) ∧ ∀ φ, o ≠ .ext φ) (hm : c.more θ (upd F a (.frz od o)) (upd H a (.frz od o))) : RS K c θ (upd F a (.frz od o)) (upd H a (.frz od o)) s := by
  refine ⟨fun b u e => ?_, r.len, r.inj, fun n ob e => ?_, fun p hp => ?_, fun p hp => by rw [upd_ne (ne_of_none (r.fz p hp) hF)]; exact r.fz p hp, fun b ps e => ?_, hm⟩
  · by_cases hb : b = a
    · subst hb
      rw [upd_same] at e ⊢
      exact e
    · rw [upd_ne hb] at e ⊢
      exact r.sub b u e
  · obtain ⟨b, e1, q, n⟩ := r.st n ob e
    have hb : b ≠ a := fun z => m (by rw [← z]; exact List.mem_of_getElem? e1)
    refine ⟨b, e1, ?_, by rw [upd_ne hb]; exact n⟩
    rw [upd_ne hb]
    have := q.mono (t := []) (Le.new (o := HO.frz od o) hF)
    rw [List.append_nil] at this
    exact this
  · obtain ⟨ps, h2, h3, h4⟩ := r.tabs p hp
    refine ⟨ps, by rw [upd_ne (fun z => by rw [z, h] at h2; exact np.1 ps (Option.some.inj h2))]; exact h2, h3, fun pos cv hc => ?_⟩
    obtain ⟨cc, e5, e6⟩ := h4 pos cv hc
    refine ⟨cc, e5, ?_⟩
    rw [upd_ne (fun z => by rw [z, h] at e6; unfold LamX.CodeO at e6; exact np.2 _ (Option.some.inj e6))]
    exact e6
  · by_cases hb : b = a
    · subst hb
      rw [upd_same] at e
      cases e
    · rw [upd_ne hb] at e
      exact r.ntb b ps e
/-- a lock as a step -/
theorem Step.lock {H0 : Hp} {θ0 : List Addr} {F0 : Hp} {a : Addr} {o : HO} (t : Step θ0 F0 H0 θ F H) (hF : F a = none) (h0 : H0 a = none) : Step θ0 F0 H0 θ (upd F a o) (upd H a o) :=
  ⟨t.pre, t.frz.trans (Le.new hF), fun b u e n nt nu => by rw [upd_ne (ne_of_none e h0)]; exact t.new b u e n nt nu, fun b u e n nt => by rw [upd_ne (ne_of_none e h0)]; exact t.keep b u e n nt, fun b q => by
    rw [upd_ne (fun z => q (by rw [z]; exact h0))]
    exact t.dom b q⟩
end

/-! ### what a value is known as -/
theorem look_d (s : S) (o : O) : look s o.d = o.d := by cases o <;> rfl
/-- exceptions -/
def RelX (K : PySem.W.Frag) (θ : List Addr) (F : Hp) (x : Exn) (cls : Value) (dx : Option Addr) : Prop :=
  cls = .ref (He.ga K x.cls) ∧ (match x.flds with
    | [] => True
    | _ => ∃ d fs, dx = some d ∧ F d = some (.xd fs) ∧ ∀ f y, x.flds.lookup f = some y → ∃ v, fs.lookup f = some v ∧ Rel K θ F y v)
/-- of two kinds α, β: at θ, F, the heap ahead, the heap now -/
abbrev RT (α β : Type) := PySem.W.Frag → List Addr → Hp → Hp → Hp → α → β → Prop
def rel : RT D V := fun K θ F _ _ d v => Rel K θ F d v
def rels : RT (List D) (List V) := fun K θ F _ _ d v => Rels K θ F d v
def relB : RT Bool Bool := fun _ _ _ _ _ a b => a = b
/-- looked at now: frozen, or a slot's own -/
def relW : RT D V := fun K θ F _ H d v => Rel K θ F d v ∨ ∃ o a, d = O.d o ∧ v = .ref a ∧ RelO K θ F o (H a) ∧ a ∉ θ
/-- made on the way, nobody else knows it -/
def relF : RT D V := fun K θ F Hs H d v => ∃ o a, d = O.d o ∧ v = .ref a ∧ RelO K θ F o (H a) ∧ a ∉ θ ∧ F a = none ∧ Hs a = none
def Post {α β : Type} (K : PySem.W.Frag) (c : Cc) (θ : List Addr) (F H : Hp) (q : RT α β) (r : Res α) (Q : β → Hp → Prop) (E : XK) : Prop := match r with
  | .ok d s' => ∀ v θ' F' H', Step θ F H θ' F' H' → RS K c θ' F' H' s' → q K θ' F' H H' d v → Q v H'
  | .exc x s' => ∀ cls dx θ' F' H', Step θ F H θ' F' H' → RS K c θ' F' H' s' → RelX K θ' F' x cls dx → E cls dx H'
  | .bad => False
/-- the reading of a part by what it does -/
def rd {α β : Type} (K : PySem.W.Frag) (c : Cc) (W : WX) (q : RT α β) (m : EM α) : L2.St → Hp → (β → Hp → Prop) → Prop := fun σ H Q =>
  ∃ l s θ F H0, RS K c θ F H s ∧ RL K c θ F H H0 l σ ∧ Post K c θ F H q (m l s) Q fun cls d H' => W cls d σ H'
/-- what is known grows -/
def Grow (θ : List Addr) (F : Hp) (θ' : List Addr) (F' : Hp) : Prop := (∃ u, θ' = θ ++ u) ∧ Le F F'
theorem Grow.refl {θ : List Addr} {F : Hp} : Grow θ F θ F := ⟨⟨[], by simp⟩, Le.refl F⟩
theorem Grow.trans {θ θ' θ'' : List Addr} {F F' F'' : Hp} (a : Grow θ F θ' F') (b : Grow θ' F' θ'' F'') : Grow θ F θ'' F'' := by
  obtain ⟨⟨u, rfl⟩, e⟩ := a
  obtain ⟨⟨w, rfl⟩, f⟩ := b
  exact ⟨⟨u ++ w, by rw [List.append_assoc]⟩, e.trans f⟩
theorem Step.grow {θ θ' : List Addr} {F F' H H' : Hp} (t : Step θ F H θ' F' H') : Grow θ F θ' F' := by
  obtain ⟨u, rfl, _⟩ := t.pre
  exact ⟨⟨u, rfl⟩, t.frz⟩
def PostS (K : PySem.W.Frag) (c : Cc) (θ0 : List Addr) (F0 H0 : Hp) (θs : List Addr) (Fs : Hp) (r : R) (D : Ends) (W : WX) : Prop := match r with
  | .nx l' s' => ∀ σ' θ' F' H', Step θ0 F0 H0 θ' F' H' → Grow θs Fs θ' F' → RS K c θ' F' H' s' → RL K c θ' F' H' H0 l' σ' → D.nx σ' H'
  | .rt d s' => ∀ v θ' F' H', Step θ0 F0 H0 θ' F' H' → Grow θs Fs θ' F' → RS K c θ' F' H' s' → Rel K θ' F' d v → D.rt v H'
  | .bk l' s' => ∀ σ' θ' F' H', Step θ0 F0 H0 θ' F' H' → Grow θs Fs θ' F' → RS K c θ' F' H' s' → RL K c θ' F' H' H0 l' σ' → D.bk σ' H'
  | .ct l' s' => ∀ σ' θ' F' H', Step θ0 F0 H0 θ' F' H' → Grow θs Fs θ' F' → RS K c θ' F' H' s' → RL K c θ' F' H' H0 l' σ' → D.ct σ' H'
  | .ex x l' s' => ∀ cls dx σ' θ' F' H', Step θ0 F0 H0 θ' F' H' → Grow θs Fs θ' F' → RS K c θ' F' H' s' → RL K c θ' F' H' H0 l' σ' → RelX K θ' F' x cls dx → W cls dx σ' H'
  | .bad => False
def rs (K : PySem.W.Frag) (c : Cc) (W : WX) (m : SM) : TS := fun D σ H =>
  ∃ l s θ F θ0 F0 H0, Step θ0 F0 H0 θ F H ∧ RS K c θ F H s ∧ RL K c θ F H H0 l σ ∧ PostS K c θ0 F0 H0 θ F (m l s) D W
theorem PostS.grow {K : PySem.W.Frag} {c : Cc} {θ0 θ θ' : List Addr} {F0 H0 F F' : Hp} {r : R} {D : Ends} {W : WX} (p : PostS K c θ0 F0 H0 θ F r D W) (g : Grow θ F θ' F') : PostS K c θ0 F0 H0 θ' F' r D W := by
  cases r with
  | nx l s => exact fun σ θ1 F1 H1 t h a b => p σ θ1 F1 H1 t (g.trans h) a b
  | rt d s => exact fun v θ1 F1 H1 t h a b => p v θ1 F1 H1 t (g.trans h) a b
  | bk l s => exact fun σ θ1 F1 H1 t h a b => p σ θ1 F1 H1 t (g.trans h) a b
  | ct l s => exact fun σ θ1 F1 H1 t h a b => p σ θ1 F1 H1 t (g.trans h) a b
  | ex x l s => exact fun cls dx σ θ1 F1 H1 t h a b e => p cls dx σ θ1 F1 H1 t (g.trans h) a b e
  | bad => exact p

section
variable {K : PySem.W.Frag} {c : Cc} {θ : List Addr} {F H Hs : Hp} {s : S} {x : D} {v : V}
theorem view (r : RS K c θ F H s) (h : relW K θ F Hs H x v) : Rel K θ F (look s x) v ∨ ∃ o a, look s x = O.d o ∧ v = .ref a ∧ RelO K θ F o (H a) := by
  rcases h with h | ⟨o, a, e1, e2, q, _⟩
  · cases h with
    | @ref n a e =>
      have hl : n < s.length := by
        rw [← r.len]
        exact (List.getElem?_eq_some_iff.mp e).1
      obtain ⟨b, e1, q, _⟩ := r.st n s[n] (List.getElem?_eq_getElem hl)
      rw [e] at e1
      cases e1
      refine .inr ⟨s[n], a, ?_, rfl, q⟩
      show (match s[n]? with | some o => o.d | none => D.ref n) = _
      rw [List.getElem?_eq_getElem hl]
    | non => exact .inl .non
    | bl b => exact .inl (.bl b)
    | int i => exact .inl (.int i)
    | str x => exact .inl (.str x)
    | tup h q => exact .inl (.tup h q)
    | lst h q => exact .inl (.lst h q)
    | dK h q => exact .inl (.dK h q)
    | dT h q => exact .inl (.dT h q)
  · subst e1
    exact .inr ⟨o, a, look_d s o, e2, q⟩
theorem view_lst {xs : List D} (r : RS K c θ F H s) (h : relW K θ F Hs H x v) (e : look s x = .lst xs) : ∃ a vs, v = .ref a ∧ SqL K H a vs ∧ Rels K θ F xs vs := by
  rcases view r h with h | ⟨o, a, e1, e2, q⟩
  · rw [e] at h
    cases h with
    | lst g q => exact ⟨_, _, rfl, r.sub.l g, q⟩
  · rw [e] at e1
    cases o with
    | lst ys =>
      cases e1
      obtain ⟨vs, e3, q⟩ := q
      exact ⟨a, vs, e2, SqL.of e3, q⟩
    | dct _ _ => cases e1
theorem view_tup {xs : List D} (r : RS K c θ F H s) (h : relW K θ F Hs H x v) (e : look s x = .tup xs) : ∃ a vs, v = .ref a ∧ SqT K H a vs ∧ Rels K θ F xs vs ∧ F a = some (.tup vs) := by
  rcases view r h with h | ⟨o, a, e1, e2, q⟩
  · rw [e] at h
    cases h with
    | tup g q => exact ⟨_, _, rfl, SqT.of (r.sub _ _ g), q, g⟩
  · rw [e] at e1
    cases o <;> cases e1
theorem view_int {i : Int} (r : RS K c θ F H s) (h : relW K θ F Hs H x v) (e : look s x = .int i) : v = .int i := by
  rcases view r h with h | ⟨o, a, e1, e2, q⟩
  · rw [e] at h
    cases h
    rfl
  · rw [e] at e1
    cases o <;> cases e1
theorem view_str {i : Str} (r : RS K c θ F H s) (h : relW K θ F Hs H x v) (e : look s x = .str i) : v = .str i := by
  rcases view r h with h | ⟨o, a, e1, e2, q⟩
  · rw [e] at h
    cases h
    rfl
  · rw [e] at e1
    cases o <;> cases e1
theorem view_dct {kd : Bool} {kvs : List (D × D)} (r : RS K c θ F H s) (h : relW K θ F Hs H x v) (e : look s x = .dct kd kvs) : ∃ a u, v = .ref a ∧ Rd H a u ∧ RelO K θ F (.dct kd kvs) (some u) := by
  rcases view r h with h | ⟨o, a, e1, e2, q⟩
  · rw [e] at h
    cases h with
    | dK g q => exact ⟨_, _, rfl, .inr ⟨_, r.sub _ _ g⟩, _, rfl, q⟩
    | dT g q => exact ⟨_, _, rfl, .inr ⟨_, r.sub _ _ g⟩, _, rfl, q⟩
  · rw [e] at e1
    cases o with
    | lst _ => cases e1
    | dct t ys =>
      cases e1
      obtain ⟨ho, e3, _⟩ := q.there
      exact ⟨a, ho, e2, .inl e3, by rw [← e3]; exact q⟩
theorem relW_int {i : Int} (h : relW K θ F Hs H (.int i) v) : v = .int i := by
  rcases h with h | ⟨o, a, e1, _⟩
  · cases h
    rfl
  · cases o <;> cases e1
theorem relW_bl {i : Bool} (h : relW K θ F Hs H (.bl i) v) : v = .bl i := by
  rcases h with h | ⟨o, a, e1, _⟩
  · cases h
    rfl
  · cases o <;> cases e1
theorem relW_str {i : Str} (h : relW K θ F Hs H (.str i) v) : v = .str i := by
  rcases h with h | ⟨o, a, e1, _⟩
  · cases h
    rfl
  · cases o <;> cases e1
mutual
theorem dp_of (e : Le F H) : ∀ {d : D} {v : V} {p : PyData}, Rel K θ F d v → d.py = some p → p.hasDict = false → Dp K H v p
  | _, _, _, .non, h, _ => by
    cases h
    exact .non
  | _, _, _, .bl b, h, _ => by
    cases h
    exact .bl b
  | _, _, _, .int b, h, _ => by
    cases h
    exact .int b
  | _, _, _, .str b, h, _ => by
    cases h
    exact .str b
  | _, _, p, @Rel.tup _ _ _ a xs vs h1 r, h, hd => by
    unfold D.py at h
    cases q : D.pys xs with
    | none =>
      rw [q] at h
      cases h
    | some ds =>
      rw [q] at h
      cases h
      exact .tup (SqT.of (e _ _ h1)) (dps_of e r q (by simpa [PyData.hasDict] using hd))
  | _, _, p, @Rel.lst _ _ _ a xs vs h1 r, h, hd => by
    unfold D.py at h
    cases q : D.pys xs with
    | none =>
      rw [q] at h
      cases h
    | some ds =>
      rw [q] at h
      cases h
      exact .lst (e.l h1) (dps_of e r q (by simpa [PyData.hasDict] using hd))
  | _, _, p, @Rel.dK _ _ _ a ob kvs es h1 r, h, hd => by
    cases kvs with
    | nil =>
      cases h
      simp [PyData.hasDict] at hd
    | cons _ _ => cases h
  | _, _, p, @Rel.dT _ _ _ a ob kvs es h1 r, h, hd => by
    cases kvs with
    | nil =>
      cases h
      simp [PyData.hasDict] at hd
    | cons _ _ => cases h
  | _, _, _, .ref _, h, _ => by cases h
theorem dps_of (e : Le F H) : ∀ {ds : List D} {vs : List V} {ps : List PyData}, Rels K θ F ds vs → D.pys ds = some ps → PyData.hasDictAll ps = false → DpAll K H vs ps
  | _, _, _, .nil, h, _ => by
    cases h
    exact .nil
  | _, _, ps, @Rels.cons _ _ _ d v ds vs a b, h, hd => by
    unfold D.pys at h
    cases q1 : D.py d with
    | none =>
      rw [q1] at h
      cases h
    | some p =>
      cases q2 : D.pys ds with
      | none =>
        rw [q1, q2] at h
        cases h
      | some ps =>
        rw [q1, q2] at h
        cases h
        have hd' : p.hasDict = false ∧ PyData.hasDictAll ps = false := by simpa [PyData.hasDictAll] using hd
        exact .cons (dp_of e a q1 hd'.1) (dps_of e b q2 hd'.2)
end
/-- what is looked at, as data -/
theorem view_dp {p : PyData} (r : RS K c θ F H s) (h : relW K θ F Hs H x v) (e : (look s x).py = some p) (hd : p.hasDict = false) : Dp K H v p := by
  rcases view r h with h | ⟨o, a, e1, e2, q⟩
  · exact dp_of r.sub h e hd
  · rw [e1] at e
    cases o with
    | lst xs =>
      obtain ⟨vs, e3, q⟩ := q
      subst e2
      have e : (D.lst xs).py = some p := e
      unfold D.py at e
      cases q2 : D.pys xs with
      | none =>
        rw [q2] at e
        cases e
      | some ds =>
        rw [q2] at e
        cases e
        exact .lst (SqL.of e3) (dps_of r.sub q q2 (by simpa [PyData.hasDict] using hd))
    | dct t kvs =>
      cases kvs with
      | nil =>
        cases e
        simp [PyData.hasDict] at hd
      | cons _ _ => cases e
end
abbrev GE (X : Cx) (c : Cc) (W : WX) (e : Expr) (m : EM D) : Prop := PE X e (rd X.K c W rel m)
abbrev GV (X : Cx) (c : Cc) (W : WX) (e : Expr) (m : EM D) : Prop := PE X e (rd X.K c W relW m)
abbrev GF (X : Cx) (c : Cc) (W : WX) (e : Expr) (m : EM D) : Prop := PE X e (rd X.K c W relF m)
abbrev GT (X : Cx) (c : Cc) (W : WX) (e : Expr) (m : EM Bool) : Prop := PT X e (rd X.K c W relB m)
abbrev GA (X : Cx) (c : Cc) (W : WX) (es : List Expr) (m : EM (List D)) : Prop := PA X es (rd X.K c W rels m)
abbrev GS (X : Cx) (c : Cc) (W : WX) (st : Stmt) (m : SM) : Prop := PS X st (rs X.K c W m)
abbrev GB (X : Cx) (c : Cc) (W : WX) (st : List Stmt) (m : SM) : Prop := PSs X st (rs X.K c W m)

theorem pe_imp {X : Cx} {e : Expr} {t t' : TE} (h : PE X e t) (i : ∀ σ H Q, t' σ H Q → t σ H Q) : PE X e t' := ⟨fun pins s σ H Q I q => h.run pins s σ H Q I (i σ H Q q)⟩
theorem pt_imp {X : Cx} {e : Expr} {t t' : TT} (h : PT X e t) (i : ∀ σ H Q, t' σ H Q → t σ H Q) : PT X e t' := ⟨fun pins s σ H Q I q => h.run pins s σ H Q I (i σ H Q q)⟩
theorem pa_imp {X : Cx} {e : List Expr} {t t' : TA} (h : PA X e t) (i : ∀ σ H Q, t' σ H Q → t σ H Q) : PA X e t' := ⟨fun pos pins s σ H Q I q => h.run pos pins s σ H Q I (i σ H Q q)⟩
theorem ps_imp {X : Cx} {e : Stmt} {t t' : TS} (h : PS X e t) (i : ∀ D σ H, t' D σ H → t D σ H) : PS X e t' := ⟨fun pins s σ H D I q => h.run pins s σ H D I (i D σ H q)⟩
theorem pss_imp {X : Cx} {e : List Stmt} {t t' : TS} (h : PSs X e t) (i : ∀ D σ H, t' D σ H → t D σ H) : PSs X e t' := ⟨fun pins s σ H D I q => h.run pins s σ H D I (i D σ H q)⟩

section
variable {K : PySem.W.Frag} {c : Cc} {W : WX} {θ θ1 : List Addr} {F F1 H H1 H0 Hs Hs' : Hp} {s s1 : S} {l : Env} {σ : L2.St} {α β γ δ : Type}
/-- which relations may look at an older heap ahead -/
def Older (q : RT α β) : Prop := ∀ K θ F Hs Hs' H d v, (∀ a, Hs a ≠ none → Hs' a ≠ none) → q K θ F Hs' H d v → q K θ F Hs H d v
theorem older_rel : Older rel := fun _ _ _ _ _ _ _ _ _ h => h
theorem older_rels : Older rels := fun _ _ _ _ _ _ _ _ _ h => h
theorem older_relB : Older relB := fun _ _ _ _ _ _ _ _ _ h => h
theorem older_relW : Older relW := fun _ _ _ _ _ _ _ _ _ h => h
theorem older_relF : Older relF := fun K θ F Hs Hs' H d v e h => by
  obtain ⟨o, a, e1, e2, r, n, f, z⟩ := h
  refine ⟨o, a, e1, e2, r, n, f, ?_⟩
  cases q : Hs a with
  | none => rfl
  | some u => exact absurd z (e a (by rw [q]; exact fun z => nomatch z))
/-- .. and persist -/
def Lasts (q : RT α β) : Prop := ∀ K θ F Hs H θ' F' H' d v, Step θ F H θ' F' H' → q K θ F Hs H d v → q K θ' F' Hs H' d v
theorem lasts_rel : Lasts rel := fun K θ F Hs H θ' F' H' d v t h => by
  obtain ⟨u, rfl, _⟩ := t.pre
  exact Rel.mono t.frz h
theorem lasts_rels : Lasts rels := fun K θ F Hs H θ' F' H' d v t h => by
  obtain ⟨u, rfl, _⟩ := t.pre
  exact Rels.mono t.frz h
theorem lasts_relB : Lasts relB := fun _ _ _ _ _ _ _ _ _ _ _ h => h
theorem lasts_relW : Lasts relW := fun K θ F Hs H θ' F' H' d v t h => by
  rcases h with h | ⟨o, a, e1, e2, r, n⟩
  · exact .inl (lasts_rel K θ F Hs H θ' F' H' d v t h)
  · obtain ⟨ho, e3, nt⟩ := r.there
    have hn : H a ≠ none := by rw [e3]; exact fun z => nomatch z
    obtain ⟨u, e4, _⟩ := id t.pre
    refine .inr ⟨o, a, e1, e2, ?_, t.notin hn n⟩
    rw [t.keep a ho e3 n nt, ← e3, e4]
    exact r.mono t.frz
theorem lasts_relF : Lasts relF := fun K θ F Hs H θ' F' H' d v t h => by
  obtain ⟨o, a, e1, e2, r, n, f, z⟩ := h
  obtain ⟨ho, e3, nt⟩ := r.there
  have hn : H a ≠ none := by rw [e3]; exact fun z => nomatch z
  obtain ⟨u, e4, _⟩ := id t.pre
  refine ⟨o, a, e1, e2, ?_, t.notin hn n, (t.new a ho e3 n nt (r.noTup e3)).trans f, z⟩
  rw [t.keep a ho e3 n nt, ← e3, e4]
  exact r.mono t.frz
/-- seen from later on -/
theorem Post.step {q : RT α β} (ho : Older q) {r : Res α} {Q : β → Hp → Prop} {E : XK} (p : Post K c θ F H q r Q E) (t : Step θ F H θ1 F1 H1) : Post K c θ1 F1 H1 q r Q E := by
  cases r with
  | ok d s' => exact fun v θ' F' H' u r h => p v θ' F' H' (t.trans u) r (ho _ _ _ _ _ _ _ _ t.dom h)
  | exc x s' => exact fun cls dx θ' F' H' u r h => p cls dx θ' F' H' (t.trans u) r h
  | bad => exact p
/-- first m, then what follows -/
theorem rd_bind {q : RT α β} {q' : RT γ δ} (ho : Older q') {m : EM α} {f : α → S → Res γ} {Q : β → Hp → Prop} {Q' : δ → Hp → Prop} (rS : RS K c θ F H s) (rL : RL K c θ F H H0 l σ)
    (p : Post K c θ F H q' ((m l s).bind f) Q' fun cls d H' => W cls d σ H')
    (h : ∀ a s1 v θ1 F1 H1, m l s = .ok a s1 → Step θ F H θ1 F1 H1 → RS K c θ1 F1 H1 s1 → RL K c θ1 F1 H1 H0 l σ → q K θ1 F1 H H1 a v → Post K c θ1 F1 H1 q' (f a s1) Q' (fun cls d H' => W cls d σ H') → Q v H1) :
    rd K c W q m σ H Q := by
  refine ⟨l, s, θ, F, H0, rS, rL, ?_⟩
  cases e : m l s with
  | ok a s1 =>
    rw [e] at p
    exact fun v θ1 F1 H1 t r h1 => h a s1 v θ1 F1 H1 e t r (rL.step t) h1 (Post.step ho p t)
  | exc x s1 =>
    rw [e] at p
    exact p
  | bad =>
    rw [e] at p
    exact p
end
/-- a frozen value may be looked at -/
theorem GE.v {X : Cx} {c : Cc} {W : WX} {e : Expr} {m : EM D} (h : GE X c W e m) : GV X c W e m := pe_imp h fun σ H Q ⟨l, s, θ, F, H0, r1, r2, p⟩ => ⟨l, s, θ, F, H0, r1, r2, by
  cases q : m l s with
  | ok d s' =>
    rw [q] at p
    exact fun v θ' F' H' t r h => p v θ' F' H' t r (.inl h)
  | exc x s' =>
    rw [q] at p
    exact p
  | bad =>
    rw [q] at p
    exact p⟩
/-- at the end of a part something may be locked -/
theorem pe_lock {X : Cx} {e : Expr} {t : TE} (h : PE X e t) : PE X e fun σ H Q => t σ H fun v H1 => Q v H1 ∨ ∃ d u, H1 d = some u ∧ Mut (some u) ∧ ∀ od, Q v (upd H1 d (.frz od u)) := ⟨fun pins s σ H Q I q => by
  refine thn (h.run pins s σ H _ I q) fun v s1 ⟨x, H1, I1, r1, q1⟩ => ?_
  rcases q1 with q1 | ⟨d, u, hd, mu, q1⟩
  · exact ⟨x, H1, I1, r1, q1⟩
  · obtain ⟨od, I2⟩ := I1.lock hd mu
    exact ⟨x, _, I2, r1, q1 od⟩⟩
/-- what is new may be frozen -/
theorem GF.e {X : Cx} {c : Cc} {W : WX} {e : Expr} {m : EM D} (h : GF X c W e m) : GE X c W e m := pe_imp (pe_lock h) fun σ H Q ⟨l, s, θ, F, H0, r1, r2, p⟩ => ⟨l, s, θ, F, H0, r1, r2, by
  cases q : m l s with
  | ok d s' =>
    rw [q] at p
    intro v θ' F' H' t r h
    obtain ⟨o, a, e1, e2, ro, n, f, z'⟩ := h
    subst e1 e2
    obtain ⟨ho, e3, nt⟩ := ro.there
    have np := ro.plain
    have mu := ro.mut
    rw [e3] at ro np mu
    refine .inr ⟨a, ho, e3, mu, fun od => ?_⟩
    have st : Step θ F H θ' (upd F' a (.frz od ho)) (upd H' a (.frz od ho)) := t.lock f z'
    refine p (.ref a) θ' (upd F' a (.frz od ho)) (upd H' a (.frz od ho)) st (r.lock e3 n f ⟨fun ps z => np.1 ps (by rw [z]), fun φ z => np.2 φ (by rw [z])⟩ (c.mono _ _ _ _ _ _ st r1.more)) (RelO.relL (ho := ho) (od := od) ?_ upd_same)
    have := ro.mono (t := []) (Le.new (o := HO.frz od ho) f)
    rw [List.append_nil] at this
    exact this
  | exc x s' =>
    rw [q] at p
    exact p
  | bad =>
    rw [q] at p
    exact p⟩
end Wd
set_option Elab.async false
set_option linter.all false
set_option maxRecDepth 100000
set_option autoImplicit false
/-! Wd2: the rules for expressions. -/
namespace Wd
open PySem PySem.Spec PyProof.Rows L2
section
variable {X : Cx} {c : Cc} {W : WX} {pos : Pos} {a b e : Expr} {es : List Expr}

/-! ### names, constants -/
theorem g_var (i : Nat) {x : Str} (hN : X.N[i]? = some x := by rfl) (hv : Vis X.env.scope x := by first | exact Or.inl rfl | exact Or.inr (Or.inl rfl) | exact Or.inr (Or.inr rfl)) (hd : (x == ("__debug__" : Str)) = false := by decide)
    (hcd : (x == ("__classdict__" : Str)) = false := by decide) : GE X c W (.Name x pos) (eV i) := pe_imp (pe_var hN hv hd hcd) fun σ H Q ⟨l, s, θ, F, H0, r1, r2, p⟩ => by
  unfold eV at p
  split at p
  · rename_i d e
    obtain ⟨v, e1, q⟩ := r2.loc i d e
    exact ⟨v, e1, p v θ F H .refl r1 q⟩
  · exact p.elim
theorem g_view (i : Nat) {x : Str} (hN : X.N[i]? = some x := by rfl) (hv : Vis X.env.scope x := by first | exact Or.inl rfl | exact Or.inr (Or.inl rfl) | exact Or.inr (Or.inr rfl)) (hd : (x == ("__debug__" : Str)) = false := by decide)
    (hcd : (x == ("__classdict__" : Str)) = false := by decide) : GV X c W (.Name x pos) (eW i) := pe_imp (pe_var hN hv hd hcd) fun σ H Q ⟨l, s, θ, F, H0, r1, r2, p⟩ => by
  unfold eW at p
  split at p
  · rename_i d e
    obtain ⟨v, e1, q⟩ := r2.loc i d e
    exact ⟨v, e1, p v θ F H .refl r1 (.inl q)⟩
  · rename_i o e
    obtain ⟨a, e1, q, n, m, _⟩ := r2.own i o e
    exact ⟨.ref a, e1, p (.ref a) θ F H .refl r1 (.inr ⟨o, a, rfl, rfl, q, m⟩)⟩
  · exact p.elim
theorem rd_c {K : PySem.W.Frag} {d : D} {v : V} (h : ∀ θ F, Rel K θ F d v) : ∀ σ H Q, rd K c W rel (eC d) σ H Q → tC v σ H Q := fun σ H Q ⟨l, s, θ, F, H0, r1, r2, p⟩ => p v θ F H .refl r1 (h θ F)
theorem g_int {i : Int} {j : Nat} : GE X c W (.Constant (.int i) j pos) (eC (.int i)) := pe_imp pe_int (rd_c fun _ _ => .int i)
theorem g_bl {i : Bool} {j : Nat} : GE X c W (.Constant (.bool i) j pos) (eC (.bl i)) := pe_imp pe_bl (rd_c fun _ _ => .bl i)
theorem g_str {i : Str} {j : Nat} : GE X c W (.Constant (.str i) j pos) (eC (.str i)) := pe_imp pe_str (rd_c fun _ _ => .str i)
theorem g_non {j : Nat} : GE X c W (.Constant .none j pos) (eC .non) := pe_imp pe_non (rd_c fun _ _ => .non)
theorem g_gInt {x : Str} {i : Int} (hg : Gl X x) (hm : ∃ t, X.mg x = some (.int i t)) (hd : (x == ("__debug__" : Str)) = false := by decide) : GE X c W (.Name x pos) (eC (.int i)) := by
  obtain ⟨t, hm⟩ := hm
  exact pe_imp (pe_glob (v := .int i) hg hm ⟨t, rfl⟩ hd) (rd_c fun _ _ => .int i)
theorem g_gStr {x z : Str} (hg : Gl X x) (hm : ∃ t, X.mg x = some (.str z t)) (hd : (x == ("__debug__" : Str)) = false := by decide) : GE X c W (.Name x pos) (eC (.str z)) := by
  obtain ⟨t, hm⟩ := hm
  exact pe_imp (pe_glob (v := .str z) hg hm ⟨t, rfl⟩ hd) (rd_c fun _ _ => .str z)

/-! ### argument lists, displays -/
theorem g_nil : GA X c W [] (eAll []) := pa_imp pa_nil fun σ H Q ⟨l, s, θ, F, H0, r1, r2, p⟩ => p [] θ F H .refl r1 .nil
theorem g_cons {m : EM D} {ms : List (EM D)} (ha : GE X c W e m) (hr : GA X c W es (eAll ms)) (hs : starEach (e :: es) X.env = (false, eval e X.env) :: starEach es X.env := by rfl) : GA X c W (e :: es) (eAll (m :: ms)) :=
  pa_imp (pa_cons ha hr hs) fun σ H Q ⟨l, s, θ, F, H0, r1, r2, p⟩ => by
    refine rd_bind older_rels r1 r2 p fun d s1 v θ1 F1 H1 _ t1 q1 l1 h1 p1 => ?_
    refine rd_bind older_rels q1 l1 p1 fun ds s2 vs θ2 F2 H2 _ t2 q2 l2 h2 p2 => ?_
    exact p2 (v :: vs) θ2 F2 H2 .refl q2 (.cons (lasts_rel _ _ _ _ _ _ _ _ _ _ t2 h1) h2)
theorem eAll_len : ∀ {ms : List (EM D)} {l : Env} {s s' : S} {xs : List D}, eAll ms l s = .ok xs s' → xs.length = ms.length
  | [], l, s, s', xs, h => by
    cases h
    rfl
  | m :: ms, l, s, s', xs, h => by
    have h : ((m l s).bind fun d s1 => (eAll ms l s1).bind fun ds s2 => .ok (d :: ds) s2) = .ok xs s' := h
    cases e : m l s with
    | ok d s1 =>
      rw [e] at h
      have h : ((eAll ms l s1).bind fun ds s2 => .ok (d :: ds) s2) = .ok xs s' := h
      cases e2 : eAll ms l s1 with
      | ok ds s2 =>
        rw [e2] at h
        have h : Res.ok (d :: ds) s2 = .ok xs s' := h
        cases h
        rw [List.length_cons, List.length_cons, eAll_len e2]
      | exc x s2 =>
        rw [e2] at h
        cases h
      | bad =>
        rw [e2] at h
        cases h
    | exc x s1 =>
      rw [e] at h
      cases h
    | bad =>
      rw [e] at h
      cases h
theorem ge_size {n : Nat} (h : n ≤ 1000000) : n ≤ sizeLine := Nat.le_trans h (by rw [sizeLine_eq]; decide)
theorem g_tup {ms : List (EM D)} {k : Nat} (h : GA X c W es (eAll ms)) (hl : ms.length ≤ 1000000 := by exact Nat.le_of_ble_eq_true rfl) : GE X c W (.Tuple es k pos) (eTup (eAll ms)) := pe_imp (pe_tup h) fun σ H Q ⟨l, s, θ, F, H0, r1, r2, p⟩ => by
  refine rd_bind older_rel r1 r2 p fun xs s1 vs θ1 F1 H1 ex t1 q1 l1 h1 p1 => ?_
  refine ⟨ge_size (by rw [← Rels.length h1, eAll_len ex]; exact hl), fun a ha => ?_⟩
  have nt : ∀ ps, HO.tup vs ≠ .tbl ps := fun _ z => nomatch z
  refine p1 (.ref a) θ1 (upd F1 a (.tup vs)) (upd H1 a (.tup vs)) (.laid ha (q1.non ha)) (q1.laid ha nt) (.tup upd_same ?_)
  have := Rels.mono (t := []) (Le.new (o := .tup vs) (q1.non ha)) h1
  rw [List.append_nil] at this
  exact this
/-- a new list -/
theorem made_lst {K : PySem.W.Frag} {θ : List Addr} {F H H1 : Hp} {s : S} {xs : List D} {vs : List V} {a : Addr} (q : RS K c θ F H s) (h : H a = none) (r : Rels K θ F xs vs) : relF K θ F H (upd H a (.lst vs)) (.lst xs) (.ref a) :=
  ⟨.lst xs, a, rfl, rfl, ⟨vs, upd_same, r⟩, q.nth h, q.non h, h⟩
theorem g_lst {ms : List (EM D)} (h : GA X c W es (eAll ms)) (hl : ms.length ≤ 1000000 := by exact Nat.le_of_ble_eq_true rfl) : GF X c W (.List es pos) (eLst (eAll ms)) := pe_imp (pe_lst h) fun σ H Q ⟨l, s, θ, F, H0, r1, r2, p⟩ => by
  refine rd_bind older_relF r1 r2 p fun xs s1 vs θ1 F1 H1 ex t1 q1 l1 h1 p1 => ?_
  refine ⟨ge_size (by rw [← Rels.length h1, eAll_len ex]; exact hl), fun a ha => ?_⟩
  exact p1 (.ref a) θ1 F1 (upd H1 a (.lst vs)) (.made ha) (q1.made ha) (made_lst (H1 := H1) q1 ha h1)

/-! ### operators, by values -/
def OpS (K : PySem.W.Frag) (c : Cc) (q : RT D V) (r : R2) (f : S → D → D → Option D) : Prop := ∀ θ F H s x y v u d Q, RS K c θ F H s → relW K θ F H H x v → relW K θ F H H y u → f s x y = some d →
  (∀ v' F' H', Step θ F H θ F' H' → RS K c θ F' H' s → q K θ F' H H' d v' → Q v' H') → r v u H Q
theorem w_any {K : PySem.W.Frag} {θ : List Addr} {F Hs Hs' H : Hp} {x : D} {v : V} (h : relW K θ F Hs H x v) : relW K θ F Hs' H x v := h
theorem rd_op {K : PySem.W.Frag} {q : RT D V} {r : R2} {f : S → D → D → Option D} {ma mb : EM D} (hq : Older q) (hs : OpS K c q r f) : ∀ σ H Q, rd K c W q (e2 f ma mb) σ H Q → tOp r (rd K c W relW ma) (rd K c W relW mb) σ H Q :=
  fun σ H Q ⟨l, s, θ, F, H0, r1, r2, p⟩ => by
    refine rd_bind hq r1 r2 p fun x s1 v θ1 F1 H1 _ t1 q1 l1 h1 p1 => ?_
    refine rd_bind hq q1 l1 p1 fun y s2 u θ2 F2 H2 _ t2 q2 l2 h2 p2 => ?_
    cases ef : f s2 x y with
    | none =>
      rw [ef] at p2
      exact p2.elim
    | some d =>
      rw [ef] at p2
      exact hs θ2 F2 H2 s2 x y v u d Q q2 (w_any (lasts_relW _ _ _ _ _ _ _ _ _ _ t2 h1)) (w_any h2) ef fun v' F' H' t r h => p2 v' θ2 F' H' t r h
theorem g_op {q : RT D V} {op : Operator} {r : R2} {f : S → D → D → Option D} {ma mb : EM D} (hq : Older q) (ho : OpR X (binaryOp op) r) (hs : OpS X.K c q r f) (ha : GV X c W a ma) (hb : GV X c W b mb) : PE X (.BinOp a op b pos) (rd X.K c W q (e2 f ma mb)) :=
  pe_imp (pe_op ho ha hb) (rd_op hq hs)
theorem g_cmp {op : CmpOp} {r : R2} {f : S → D → D → Option D} {ma mb : EM D} (ho : OpR X (compareOp op) r) (hs : OpS X.K c rel r f) (ha : GV X c W a ma) (hb : GV X c W b mb) (hm : behindInMarks op b = false) : GE X c W (.Compare a [op] [b] pos) (e2 f ma mb) :=
  pe_imp (pe_cmpR ho ha hb hm) (rd_op older_rel hs)
/-- a value that is a truth, as a test -/
theorem rd_test {K : PySem.W.Frag} {m : EM D} : ∀ σ H Q, rd K c W relB (qB m) σ H Q → tTest (rd K c W rel m) σ H Q := fun σ H Q ⟨l, s, θ, F, H0, r1, r2, p⟩ => by
  refine rd_bind older_relB r1 r2 p fun d s1 v θ1 F1 H1 _ t1 q1 l1 h1 p1 => ?_
  cases d with
  | bl b =>
    cases h1
    exact ⟨b, rfl, p1 b θ1 F1 H1 .refl q1 rfl⟩
  | _ => exact p1.elim
theorem g_cmpT {op : CmpOp} {r : R2} {f : S → D → D → Option D} {ma mb : EM D} (ho : OpR X (compareOp op) r) (hs : OpS X.K c rel r f) (ha : GV X c W a ma) (hb : GV X c W b mb) (hm : behindInMarks op b = false) : GT X c W (.Compare a [op] [b] pos) (qB (e2 f ma mb)) :=
  pt_imp (pt_cmpR ho ha hb hm) fun σ H Q h => by
    obtain ⟨l, s, θ, F, H0, r1, r2, p⟩ := h
    refine rd_op (q := rel) older_rel hs σ H _ ?_
    exact rd_test σ H Q ⟨l, s, θ, F, H0, r1, r2, p⟩
theorem g_test {m : EM D} (h : GE X c W e m) (he : ∀ whole, isTrue e X.env whole = (do let v ← whole; standAt e.pos; holding [v] (truthy v)) := by intro _; rfl) : GT X c W e (qB m) := pt_imp (pt_val h he) rd_test

/-! ### and, or, not -/
theorem g_notT {m : EM Bool} (h : GT X c W e m) : GT X c W (.UnaryOp .Not e pos) (qNot m) := pt_imp (pt_not h) fun σ H Q ⟨l, s, θ, F, H0, r1, r2, p⟩ => by
  refine rd_bind older_relB r1 r2 p fun d s1 v θ1 F1 H1 _ t1 q1 l1 h1 p1 => ?_
  cases h1
  exact p1 (!d) θ1 F1 H1 .refl q1 rfl
abbrev GW (X : Cx) (c : Cc) (W : WX) (e : Expr) (m : EM Bool) : Prop := PW X e (rd X.K c W relB m)
theorem pw_imp {X : Cx} {e : Expr} {t t' : TT} (h : PW X e t) (i : ∀ σ H Q, t' σ H Q → t σ H Q) : PW X e t' := ⟨fun wh pins s σ H Q I q => h.run wh pins s σ H Q I (i σ H Q q)⟩
theorem g_andW1 {m : EM Bool} (h : GT X c W a m) : GW X c W (.BoolOp .And [a] pos) m := pw_and1 h
theorem g_orW1 {m : EM Bool} (h : GT X c W a m) : GW X c W (.BoolOp .Or [a] pos) m := pw_or1 h
theorem g_andW {m n : EM Bool} (h : GT X c W a m) (hb : GW X c W (.BoolOp .And (b :: es) pos) n) : GW X c W (.BoolOp .And (a :: b :: es) pos) (qAnd m n) := pw_imp (pw_and h hb) fun σ H Q ⟨l, s, θ, F, H0, r1, r2, p⟩ => by
  refine rd_bind older_relB r1 r2 p fun d s1 v θ1 F1 H1 _ t1 q1 l1 h1 p1 => ?_
  cases h1
  cases d with
  | true => exact ⟨l, s1, θ1, F1, H0, q1, l1, p1⟩
  | false => exact p1 false θ1 F1 H1 .refl q1 rfl
theorem g_orW {m n : EM Bool} (h : GT X c W a m) (hb : GW X c W (.BoolOp .Or (b :: es) pos) n) : GW X c W (.BoolOp .Or (a :: b :: es) pos) (qOr m n) := pw_imp (pw_or h hb) fun σ H Q ⟨l, s, θ, F, H0, r1, r2, p⟩ => by
  refine rd_bind older_relB r1 r2 p fun d s1 v θ1 F1 H1 _ t1 q1 l1 h1 p1 => ?_
  cases h1
  cases d with
  | true => exact p1 true θ1 F1 H1 .refl q1 rfl
  | false => exact ⟨l, s1, θ1, F1, H0, q1, l1, p1⟩
theorem GW.t {m : EM Bool} (h : GW X c W e m) : GT X c W e m := PW.pt h
theorem g_if {ce : Expr} {m : EM Bool} {ma mb : EM D} (h : GT X c W ce m) (ha : GE X c W a ma) (hb : GE X c W b mb) : GE X c W (.IfExp ce a b pos) (eIf m ma mb) := pe_imp (pe_ifExp h ha hb) fun σ H Q ⟨l, s, θ, F, H0, r1, r2, p⟩ => by
  refine rd_bind older_rel r1 r2 p fun d s1 v θ1 F1 H1 _ t1 q1 l1 h1 p1 => ?_
  cases h1
  cases d with
  | true => exact ⟨l, s1, θ1, F1, H0, q1, l1, p1⟩
  | false => exact ⟨l, s1, θ1, F1, H0, q1, l1, p1⟩
end
end Wd
set_option Elab.async false
set_option linter.all false
set_option maxRecDepth 100000
set_option autoImplicit false
/-! Wd3: the operators. -/
namespace Wd
open PySem PySem.Spec PyProof.Rows L2
section
variable {X : Cx} {c : Cc} {W : WX} {pos : Pos} {a b e : Expr} {es : List Expr} {K : PySem.W.Frag}
theorem ops_or {q : RT D V} {r r' : R2} {f : S → D → D → Option D} (h : OpS K c q r f) : OpS K c q (fun x y H Q => r x y H Q ∨ r' x y H Q) f := fun θ F H s x y v u d Q a1 a2 a3 a4 a5 => .inl (h θ F H s x y v u d Q a1 a2 a3 a4 a5)
theorem rels_same {θ : List Addr} {F F' : Hp} {xs : List D} {vs : List V} (e : Le F F') (r : Rels K θ F xs vs) : Rels K θ F' xs vs := by
  have := Rels.mono (t := []) e r
  rw [List.append_nil] at this
  exact this
theorem rel_same {θ : List Addr} {F F' : Hp} {x : D} {v : V} (e : Le F F') (r : Rel K θ F x v) : Rel K θ F' x v := by
  have := Rel.mono (t := []) e r
  rw [List.append_nil] at this
  exact this
/-- a new tuple, a new list that nobody changes -/
theorem lay_tup {θ : List Addr} {F H : Hp} {s : S} {xs : List D} {vs : List V} {p : Addr} {Q : VK} (r : RS K c θ F H s) (h : Rels K θ F xs vs) (hp : H p = none)
    (k : ∀ v' F' H', Step θ F H θ F' H' → RS K c θ F' H' s → rel K θ F' H H' (.tup xs) v' → Q v' H') : Q (.ref p) (upd H p (.tup vs)) :=
  k (.ref p) (upd F p (.tup vs)) (upd H p (.tup vs)) (.laid hp (r.non hp)) (r.laid hp fun _ z => nomatch z) (.tup upd_same (rels_same (Le.new (r.non hp)) h))
theorem lay_lst {θ : List Addr} {F H : Hp} {s : S} {xs : List D} {vs : List V} {p : Addr} {Q : VK} (r : RS K c θ F H s) (h : Rels K θ F xs vs) (hp : H p = none)
    (k : ∀ v' F' H', Step θ F H θ F' H' → RS K c θ F' H' s → rel K θ F' H H' (.lst xs) v' → Q v' H') : Q (.ref p) (upd H p (.lst vs)) :=
  k (.ref p) (upd F p (.lst vs)) (upd H p (.lst vs)) (.laid hp (r.non hp)) (r.laid hp fun _ z => nomatch z) (.lst (SqL.of upd_same) (rels_same (Le.new (r.non hp)) h))
theorem new_lst {θ : List Addr} {F H : Hp} {s : S} {xs : List D} {vs : List V} {p : Addr} {Q : VK} (r : RS K c θ F H s) (h : Rels K θ F xs vs) (hp : H p = none)
    (k : ∀ v' F' H', Step θ F H θ F' H' → RS K c θ F' H' s → relF K θ F' H H' (.lst xs) v' → Q v' H') : Q (.ref p) (upd H p (.lst vs)) :=
  k (.ref p) F (upd H p (.lst vs)) (.made hp) (r.made hp) (made_lst (H1 := H) r hp h)
/-! ### + -/
def rCatR (K : PySem.W.Frag) : R2 := fun x y H Q => ∃ l b xs zs, x = .ref l ∧ y = .ref b ∧ SqL K H l xs ∧ SqL K H b zs ∧ xs.length + zs.length ≤ sizeLine ∧ ∀ p, H p = none → Q (.ref p) (upd H p (.lst (xs ++ zs)))
theorem op_catR : OpR X (binaryOp .Add) (rCatR X.K) := by
  intro pins s σ H x y v u Q I rx ry h
  obtain ⟨l, b, xs, zs, rfl, rfl, hH, hB, hz, q⟩ := h
  cases rx
  cases ry
  obtain ⟨its, r, ⟨⟨cls, dd, dt, sl⟩, n, e, rfl, rfl, rfl⟩, z⟩ := I.list hH
  obtain ⟨its2, r2, ⟨⟨cls2, dd2, dt2, sl2⟩, n2, e2, rfl, rfl, rfl⟩, z2⟩ := I.list hB
  have hl := r.length
  have hl2 := r2.length
  refine concat_meets ⟨_, e, rfl⟩ ⟨_, e2, rfl⟩ noFill_list_add seq_list_add PySem.F.slot_list_add PySem.F.entry_list_add (PySem.F.args_list_add_2 _ _) (list_addW l b its.toArray its2.toArray n n2 none none sl sl2 (by rw [List.size_toArray, List.size_toArray]; omega)) ⟨e, e2, ?_⟩
  have ea : its.toArray ++ its2.toArray = (its ++ its2).toArray := by simp
  rw [ea]
  exact ⟨.ref _, _, I.lnew (t' := s.toks) (r.append r2) (by rw [List.length_append]; omega), rfl, q _ I.fresh⟩
def rAddA (K : PySem.W.Frag) : R2 := fun x y H Q => ((rI0 fun i j => .int (i + j)) x y H Q ∨ (∃ i j, x = .str i ∧ y = .str j ∧ i.length + j.length ≤ sizeLine ∧ Q (.str (i ++ j)) H)) ∨ (rCatA K x y H Q ∨ rCatR K x y H Q)
theorem op_addA : OpR X (binaryOp .Add) (rAddA X.K) := OpR.or (OpR.or op_add op_add_str) (OpR.or op_catA op_catR)
theorem big_size {n : Nat} (h : n ≤ big) : n ≤ sizeLine := ge_size h
theorem s_add : OpS K c rel (rAddA K) oAdd := by
  intro θ F H s x y v u d Q r hx hy e k
  unfold oAdd at e
  split at e
  · rename_i i j ex ey
    cases e
    rw [view_int r hx ex, view_int r hy ey]
    exact .inl (.inl ⟨i, j, rfl, rfl, k _ F H .refl r (.int _)⟩)
  · rename_i i j ex ey
    split at e
    · rename_i hl
      cases e
      rw [view_str r hx ex, view_str r hy ey]
      exact .inl (.inr ⟨i, j, rfl, rfl, big_size hl, k _ F H .refl r (.str _)⟩)
    · cases e
  · rename_i xs ys ex ey
    split at e
    · rename_i hl
      cases e
      obtain ⟨a, vs, rfl, h1, q1, f1⟩ := view_tup r hx ex
      obtain ⟨b, us, rfl, h2, q2, f2⟩ := view_tup r hy ey
      refine .inr (.inl ⟨a, b, vs, us, rfl, rfl, h1, h2, by rw [← q1.length, ← q2.length]; exact big_size hl, fun e1 => ?_, fun n1 e2 => ?_, fun n1 n2 p hp => ?_⟩)
      · subst e1
        cases q1
        exact k _ F H .refl r (.tup f2 q2)
      · subst e2
        cases q2
        rw [List.append_nil] at k
        exact k _ F H .refl r (.tup f1 q1)
      · exact lay_tup r (q1.append q2) hp k
    · cases e
  · rename_i xs ys ex ey
    split at e
    · rename_i hl
      cases e
      obtain ⟨a, vs, rfl, h1, q1⟩ := view_lst r hx ex
      obtain ⟨b, us, rfl, h2, q2⟩ := view_lst r hy ey
      exact .inr (.inr ⟨a, b, vs, us, rfl, rfl, h1, h2, by rw [← q1.length, ← q2.length]; exact big_size hl, fun p hp => lay_lst r (q1.append q2) hp k⟩)
    · cases e
  · cases e
theorem g_add {ma mb : EM D} (ha : GV X c W a ma) (hb : GV X c W b mb) : GE X c W (.BinOp a .Add b pos) (e2 oAdd ma mb) := g_op older_rel op_addA s_add ha hb
/-- two lists, the answer new -/
theorem s_addF : OpS K c relF (rCatR K) oAddL := by
  intro θ F H s x y v u d Q r hx hy e k
  unfold oAddL at e
  split at e
  · rename_i xs ys ex ey
    split at e
    · rename_i hl
      cases e
      obtain ⟨a, vs, rfl, h1, q1⟩ := view_lst r hx ex
      obtain ⟨b, us, rfl, h2, q2⟩ := view_lst r hy ey
      exact ⟨a, b, vs, us, rfl, rfl, h1, h2, by rw [← q1.length, ← q2.length]; exact big_size hl, fun p hp => new_lst r (q1.append q2) hp k⟩
    · cases e
  · cases e
theorem g_addF {ma mb : EM D} (ha : GV X c W a ma) (hb : GV X c W b mb) : GF X c W (.BinOp a .Add b pos) (e2 oAddL ma mb) := g_op older_relF op_catR s_addF ha hb
/-! ### ints -/
theorem s_int {C : Int → Int → Prop} {g : Int → Int → V} {h : Int → Int → D} {f : S → D → D → Option D} (hf : ∀ s x y d, f s x y = some d → ∃ i j, x = .int i ∧ y = .int j ∧ C i j ∧ d = h i j) (hg : ∀ i j θ F, Rel K θ F (h i j) (g i j)) : OpS K c rel (rI C g) f := by
  intro θ F H s x y v u d Q r hx hy e k
  obtain ⟨i, j, rfl, rfl, hc, rfl⟩ := hf s x y d e
  rw [relW_int hx, relW_int hy]
  exact ⟨i, j, rfl, rfl, hc, k _ F H .refl r (hg i j θ F)⟩
theorem s_int0 {g : Int → Int → V} {h : Int → Int → D} {f : S → D → D → Option D} (hf : ∀ s x y d, f s x y = some d → ∃ i j, x = .int i ∧ y = .int j ∧ d = h i j) (hg : ∀ i j θ F, Rel K θ F (h i j) (g i j)) : OpS K c rel (rI0 g) f := by
  intro θ F H s x y v u d Q r hx hy e k
  obtain ⟨i, j, rfl, rfl, rfl⟩ := hf s x y d e
  rw [relW_int hx, relW_int hy]
  exact ⟨i, j, rfl, rfl, k _ F H .refl r (hg i j θ F)⟩
theorem s_sub : OpS K c rel (rI0 fun i j => .int (i - j)) oSub := s_int0 (h := fun i j => .int (i - j)) (fun s x y d e => by
  unfold oSub at e
  split at e
  · cases e
    exact ⟨_, _, rfl, rfl, rfl⟩
  · cases e) fun _ _ _ _ => .int _
theorem g_sub {ma mb : EM D} (ha : GV X c W a ma) (hb : GV X c W b mb) : GE X c W (.BinOp a .Sub b pos) (e2 oSub ma mb) := g_op older_rel op_sub s_sub ha hb
theorem small_of {i : Int} (h : small i = true) : -(2 ^ 64) < i ∧ i < 2 ^ 64 := by
  unfold small at h
  rw [Bool.and_eq_true, decide_eq_true_eq, decide_eq_true_eq] at h
  exact h
theorem s_mul : OpS K c rel (rI CMul fun i j => .int (i * j)) oMul := s_int (h := fun i j => .int (i * j)) (fun s x y d e => by
  unfold oMul at e
  split at e
  · split at e
    · rename_i h
      cases e
      refine ⟨_, _, rfl, rfl, ?_, rfl⟩
      rcases Bool.or_eq_true_iff.mp h with h | h
      · exact .inl (small_of h)
      · exact .inr (small_of h)
    · cases e
  · cases e) fun _ _ _ _ => .int _
theorem g_mul {ma mb : EM D} (ha : GV X c W a ma) (hb : GV X c W b mb) : GE X c W (.BinOp a .Mult b pos) (e2 oMul ma mb) := g_op older_rel op_mul s_mul ha hb
theorem s_div : OpS K c rel (rI CDiv fun i j => .int (i / j)) oDiv := s_int (h := fun i j => .int (i / j)) (fun s x y d e => by
  unfold oDiv at e
  split at e
  · split at e
    · rename_i h
      cases e
      exact ⟨_, _, rfl, rfl, h, rfl⟩
    · cases e
  · cases e) fun _ _ _ _ => .int _
theorem g_div {ma mb : EM D} (ha : GV X c W a ma) (hb : GV X c W b mb) : GE X c W (.BinOp a .FloorDiv b pos) (e2 oDiv ma mb) := g_op older_rel op_fdiv s_div ha hb
theorem s_mod : OpS K c rel (rI (fun _ j => 0 < j) fun i j => .int (i % j)) oMod := s_int (h := fun i j => .int (i % j)) (fun s x y d e => by
  unfold oMod at e
  split at e
  · split at e
    · rename_i h
      cases e
      exact ⟨_, _, rfl, rfl, h, rfl⟩
    · cases e
  · cases e) fun _ _ _ _ => .int _
theorem g_mod {ma mb : EM D} (ha : GV X c W a ma) (hb : GV X c W b mb) : GE X c W (.BinOp a .Mod b pos) (e2 oMod ma mb) := g_op older_rel op_mod s_mod ha hb
theorem s_pow : OpS K c rel (rI CPow fun i j => .int (i ^ j.toNat)) oPow := s_int (h := fun i j => .int (i ^ j.toNat)) (fun s x y d e => by
  unfold oPow at e
  split at e
  · split at e
    · rename_i h
      cases e
      exact ⟨_, _, rfl, rfl, ⟨h.1, by omega, Nat.lt_trans h.2.2 (by decide)⟩, rfl⟩
    · cases e
  · cases e) fun _ _ _ _ => .int _
theorem g_pow {ma mb : EM D} (ha : GV X c W a ma) (hb : GV X c W b mb) : GE X c W (.BinOp a .Pow b pos) (e2 oPow ma mb) := g_op older_rel op_pow s_pow ha hb
theorem s_lt : OpS K c rel (rI0 fun i j => .bl (decide (i < j))) oLt := s_int0 (h := fun i j => .bl (decide (i < j))) (fun s x y d e => by
  unfold oLt at e
  split at e
  · cases e
    exact ⟨_, _, rfl, rfl, rfl⟩
  · cases e) fun _ _ _ _ => .bl _
theorem s_le : OpS K c rel (rI0 fun i j => .bl (decide (i ≤ j))) oLe := s_int0 (h := fun i j => .bl (decide (i ≤ j))) (fun s x y d e => by
  unfold oLe at e
  split at e
  · cases e
    exact ⟨_, _, rfl, rfl, rfl⟩
  · cases e) fun _ _ _ _ => .bl _
theorem s_gt : OpS K c rel (rI0 fun i j => .bl (decide (j < i))) oGt := s_int0 (h := fun i j => .bl (decide (j < i))) (fun s x y d e => by
  unfold oGt at e
  split at e
  · cases e
    exact ⟨_, _, rfl, rfl, rfl⟩
  · cases e) fun _ _ _ _ => .bl _
theorem s_ge : OpS K c rel (rI0 fun i j => .bl (decide (j ≤ i))) oGe := s_int0 (h := fun i j => .bl (decide (j ≤ i))) (fun s x y d e => by
  unfold oGe at e
  split at e
  · cases e
    exact ⟨_, _, rfl, rfl, rfl⟩
  · cases e) fun _ _ _ _ => .bl _
/-! ### == at any depth -/
theorem shaped_nd {p : PyData} (h : SeqAt.shaped p = true) : p.hasDict = false := PyData.hasDict_of_canLay p (SeqAt.canLay_of_shaped h)
theorem eqD_of {s : S} {x y : D} {b : Bool} (e : eqD s x y = some b) : ∃ p q, (look s x).py = some p ∧ (look s y).py = some q ∧ SeqAt.shaped p = true ∧ SeqAt.shaped q = true ∧ b = PyData.eqv p q := by
  unfold eqD at e
  split at e
  · rename_i p q h1 h2
    split at e
    · rename_i h
      cases e
      rw [Bool.and_eq_true] at h
      exact ⟨p, q, h1, h2, h.1, h.2, rfl⟩
    · cases e
  · cases e
theorem s_eq : OpS K c rel (rEqD K) oEq := by
  intro θ F H s x y v u d Q r hx hy e k
  unfold oEq at e
  obtain ⟨b, e1, rfl⟩ := Option.map_eq_some_iff.mp e
  obtain ⟨p, q, h1, h2, s1, s2, rfl⟩ := eqD_of e1
  exact ⟨p, q, view_dp r hx h1 (shaped_nd s1), view_dp r hy h2 (shaped_nd s2), s1, s2, k _ F H .refl r (.bl _)⟩
theorem s_ne : OpS K c rel (rNeD K) oNe := by
  intro θ F H s x y v u d Q r hx hy e k
  unfold oNe at e
  obtain ⟨b, e1, rfl⟩ := Option.map_eq_some_iff.mp e
  obtain ⟨p, q, h1, h2, s1, s2, rfl⟩ := eqD_of e1
  exact ⟨p, q, view_dp r hx h1 (shaped_nd s1), view_dp r hy h2 (shaped_nd s2), s1, s2, k _ F H .refl r (.bl _)⟩
/-! ### in -/
theorem flat_rel {θ : List Addr} {F : Hp} {d : D} {v : V} (r : Rel K θ F d v) (h : d.flat = true) : flatV v = true := by
  cases r with
  | non => rfl
  | bl b => rfl
  | int i => rfl
  | str x => rfl
  | tup _ _ => cases h
  | lst _ _ => cases h
  | dK _ _ => cases h
  | dT _ _ => cases h
  | ref _ => cases h
theorem feq_rel {θ : List Addr} {F : Hp} {d e : D} {v u : V} (r : Rel K θ F d v) (h : d.flat = true) (r2 : Rel K θ F e u) (h2 : e.flat = true) : eqV v u = d.feq e := by
  cases r with
  | non => cases r2 <;> first | rfl | cases h2
  | bl b => cases r2 <;> first | rfl | cases h2
  | int i => cases r2 <;> first | rfl | cases h2
  | str x => cases r2 <;> first | rfl | cases h2
  | tup _ _ => cases h
  | lst _ _ => cases h
  | dK _ _ => cases h
  | dT _ _ => cases h
  | ref _ => cases h
theorem relW_flat {θ : List Addr} {F Hs H : Hp} {d : D} {v : V} (r : relW K θ F Hs H d v) (h : d.flat = true) : Rel K θ F d v := by
  rcases r with r | ⟨o, a, e, _⟩
  · exact r
  · cases o <;> (subst e; cases h)
theorem flats {θ : List Addr} {F : Hp} : ∀ {xs : List D} {vs : List V}, Rels K θ F xs vs → xs.all D.flat = true → vs.all flatV = true
  | _, _, .nil, _ => rfl
  | _, _, .cons a b, h => by
    rw [List.all_cons, Bool.and_eq_true] at h ⊢
    exact ⟨flat_rel a h.1, flats b h.2⟩
theorem inV_rel {θ : List Addr} {F : Hp} {x : D} {v : V} (rx : Rel K θ F x v) (hx : x.flat = true) : ∀ {xs : List D} {vs : List V}, Rels K θ F xs vs → xs.all D.flat = true → inV v vs = xs.any fun z => z.feq x
  | _, _, .nil, _ => rfl
  | _, _, .cons a b, h => by
    rw [List.all_cons, Bool.and_eq_true] at h
    unfold inV
    rw [List.any_cons, List.any_cons, feq_rel a h.1 rx hx]
    exact congrArg _ (inV_rel rx hx b h.2)
theorem s_in : OpS K c rel (rIn K false) oIn := by
  intro θ F H s x y v u d Q r hx hy e k
  unfold oIn at e
  split at e
  · rename_i xs ey
    split at e
    · rename_i h
      rw [Bool.and_eq_true] at h
      cases e
      obtain ⟨a, vs, rfl, h1, q1, _⟩ := view_tup r hy ey
      have rx := relW_flat hx h.1
      refine ⟨a, vs, rfl, .inr h1, flat_rel rx h.1, flats q1 h.2, ?_⟩
      rw [if_neg Bool.false_ne_true, inV_rel rx h.1 q1 h.2]
      exact k _ F H .refl r (.bl _)
    · cases e
  · rename_i xs ey
    split at e
    · rename_i h
      rw [Bool.and_eq_true] at h
      cases e
      obtain ⟨a, vs, rfl, h1, q1⟩ := view_lst r hy ey
      have rx := relW_flat hx h.1
      refine ⟨a, vs, rfl, .inl h1, flat_rel rx h.1, flats q1 h.2, ?_⟩
      rw [if_neg Bool.false_ne_true, inV_rel rx h.1 q1 h.2]
      exact k _ F H .refl r (.bl _)
    · cases e
  · cases e
theorem s_notin : OpS K c rel (rIn K true) oNotIn := by
  intro θ F H s x y v u d Q r hx hy e k
  unfold oNotIn at e
  split at e
  · rename_i xs ey
    split at e
    · rename_i h
      rw [Bool.and_eq_true] at h
      cases e
      obtain ⟨a, vs, rfl, h1, q1, _⟩ := view_tup r hy ey
      have rx := relW_flat hx h.1
      refine ⟨a, vs, rfl, .inr h1, flat_rel rx h.1, flats q1 h.2, ?_⟩
      rw [if_pos rfl, inV_rel rx h.1 q1 h.2]
      exact k _ F H .refl r (.bl _)
    · cases e
  · rename_i xs ey
    split at e
    · rename_i h
      rw [Bool.and_eq_true] at h
      cases e
      obtain ⟨a, vs, rfl, h1, q1⟩ := view_lst r hy ey
      have rx := relW_flat hx h.1
      refine ⟨a, vs, rfl, .inl h1, flat_rel rx h.1, flats q1 h.2, ?_⟩
      rw [if_pos rfl, inV_rel rx h.1 q1 h.2]
      exact k _ F H .refl r (.bl _)
    · cases e
  · cases e
/-! ### is -/
theorem isNon_rel {θ : List Addr} {F Hs H : Hp} {d : D} {v : V} (r : relW K θ F Hs H d v) : decide (v = .non) = d.isNon := by
  rcases r with r | ⟨o, a, e, e2, _⟩
  · cases r <;> rfl
  · cases o <;> (subst e e2; rfl)
theorem g_isN {ma : EM D} {j : Nat} {p2 : Pos} (ha : GV X c W a ma) : GE X c W (.Compare a [.Is] [.Constant .none j p2] pos) (e1 oIsN ma) := pe_imp (pe_cmp (pc_isN ha)) fun σ H Q ⟨l, s, θ, F, H0, r1, r2, p⟩ => by
  refine rd_bind older_rel r1 r2 p fun x s1 v θ1 F1 H1 _ t1 q1 l1 h1 p1 => ?_
  rw [isNon_rel h1]
  exact p1 _ θ1 F1 H1 .refl q1 (.bl _)
theorem g_notN {ma : EM D} {j : Nat} {p2 : Pos} (ha : GV X c W a ma) : GE X c W (.Compare a [.IsNot] [.Constant .none j p2] pos) (e1 oNotN ma) := pe_imp (pe_cmp (pc_notN ha)) fun σ H Q ⟨l, s, θ, F, H0, r1, r2, p⟩ => by
  refine rd_bind older_rel r1 r2 p fun x s1 v θ1 F1 H1 _ t1 q1 l1 h1 p1 => ?_
  rw [isNon_rel h1]
  exact p1 _ θ1 F1 H1 .refl q1 (.bl _)
theorem g_isNT {ma : EM D} {j : Nat} {p2 : Pos} (ha : GV X c W a ma) : GT X c W (.Compare a [.Is] [.Constant .none j p2] pos) (qB (e1 oIsN ma)) := pt_imp (pt_cmp (pc_isN ha)) fun σ H Q ⟨l, s, θ, F, H0, r1, r2, p⟩ => by
  have p : Post X.K c θ F H relB ((ma l s).bind fun x s1 => .ok x.isNon s1) Q (fun cls d H' => W cls d σ H') := by
    unfold qB e1 at p
    cases q : ma l s with
    | ok d s1 =>
      rw [q] at p
      exact p
    | exc x s1 =>
      rw [q] at p
      exact p
    | bad =>
      rw [q] at p
      exact p
  refine rd_bind older_relB r1 r2 p fun x s1 v θ1 F1 H1 _ t1 q1 l1 h1 p1 => ?_
  exact ⟨_, by rw [isNon_rel h1], p1 _ θ1 F1 H1 .refl q1 rfl⟩
theorem g_notNT {ma : EM D} {j : Nat} {p2 : Pos} (ha : GV X c W a ma) : GT X c W (.Compare a [.IsNot] [.Constant .none j p2] pos) (qB (e1 oNotN ma)) := pt_imp (pt_cmp (pc_notN ha)) fun σ H Q ⟨l, s, θ, F, H0, r1, r2, p⟩ => by
  have p : Post X.K c θ F H relB ((ma l s).bind fun x s1 => .ok (!x.isNon) s1) Q (fun cls d H' => W cls d σ H') := by
    unfold qB e1 at p
    cases q : ma l s with
    | ok d s1 =>
      rw [q] at p
      exact p
    | exc x s1 =>
      rw [q] at p
      exact p
    | bad =>
      rw [q] at p
      exact p
  refine rd_bind older_relB r1 r2 p fun x s1 v θ1 F1 H1 _ t1 q1 l1 h1 p1 => ?_
  exact ⟨_, by rw [isNon_rel h1], p1 _ θ1 F1 H1 .refl q1 rfl⟩
theorem s_isB : OpS K c rel (fun x y H Q => ∃ a b, x = .bl a ∧ y = .bl b ∧ Q (.bl (decide (a = b))) H) oIsB := by
  intro θ F H s x y v u d Q r hx hy e k
  unfold oIsB at e
  split at e
  · cases e
    rw [relW_bl hx, relW_bl hy]
    exact ⟨_, _, rfl, rfl, k _ F H .refl r (.bl _)⟩
  · cases e
theorem s_notB : OpS K c rel (fun x y H Q => ∃ a b, x = .bl a ∧ y = .bl b ∧ Q (.bl (!decide (a = b))) H) oNotB := by
  intro θ F H s x y v u d Q r hx hy e k
  unfold oNotB at e
  split at e
  · cases e
    rw [relW_bl hx, relW_bl hy]
    exact ⟨_, _, rfl, rfl, k _ F H .refl r (.bl _)⟩
  · cases e
theorem g_neg {ma : EM D} (ha : GE X c W a ma) : GE X c W (.UnaryOp .USub a pos) (e1 oNeg ma) := pe_imp (pe_un un_neg ha) fun σ H Q ⟨l, s, θ, F, H0, r1, r2, p⟩ => by
  refine rd_bind older_rel r1 r2 p fun x s1 v θ1 F1 H1 _ t1 q1 l1 h1 p1 => ?_
  cases x with
  | int i =>
    cases h1
    exact ⟨i, rfl, p1 _ θ1 F1 H1 .refl q1 (.int _)⟩
  | _ => exact p1.elim
/-! ### two comparisons in a row -/
theorem rd_chain {r r' : R2} {f g : S → D → D → Option D} {ma mb mc : EM D} (hs : OpS K c rel r f) (hs' : OpS K c rel r' g) :
    ∀ σ H Q, rd K c W rel (eChain f g ma mb mc) σ H Q → tChain r r' (rd K c W relW ma) (rd K c W relW mb) (rd K c W relW mc) σ H Q := fun σ H Q ⟨l, s, θ, F, H0, r1, r2, p⟩ => by
  refine rd_bind older_rel r1 r2 p fun x s1 v θ1 F1 H1 _ t1 q1 l1 h1 p1 => ?_
  refine rd_bind older_rel q1 l1 p1 fun y s2 u θ2 F2 H2 _ t2 q2 l2 h2 p2 => ?_
  have h1' := w_any (Hs' := H2) (lasts_relW _ _ _ _ _ _ _ _ _ _ t2 h1)
  have h2' := w_any (Hs' := H2) h2
  split at p2
  · rename_i ef
    refine hs θ2 F2 H2 s2 x y v u _ _ q2 h1' h2' ef fun v' F' H' t rS' h => ?_
    cases h
    refine ⟨true, rfl, ?_⟩
    rw [if_pos rfl]
    have l3 := l2.step t
    refine rd_bind older_rel rS' l3 (Post.step older_rel p2 t) fun z s3 w θ3 F3 H3 _ t3 q3 l3 h3 p3 => ?_
    cases eg : g s3 y z with
    | none =>
      rw [eg] at p3
      exact p3.elim
    | some d =>
      rw [eg] at p3
      exact hs' θ3 F3 H3 s3 y z u w d Q q3 (w_any (lasts_relW _ _ _ _ _ _ _ _ _ _ t3 (lasts_relW _ _ _ _ _ _ _ _ _ _ t h2'))) (w_any h3) eg fun v' F' H' t r h => p3 v' θ3 F' H' t r h
  · rename_i ef
    refine hs θ2 F2 H2 s2 x y v u _ _ q2 h1' h2' ef fun v' F' H' t rS' h => ?_
    cases h
    refine ⟨false, rfl, ?_⟩
    rw [if_neg Bool.false_ne_true]
    exact p2 _ θ2 F' H' t rS' (.bl false)
  · exact p2.elim
theorem g_chain {ce : Expr} {op op' : CmpOp} {r r' : R2} {f g : S → D → D → Option D} {ma mb mc : EM D} (ho : OpR X (compareOp op) r) (hs : OpS X.K c rel r f) (ho' : OpR X (compareOp op') r') (hs' : OpS X.K c rel r' g) (ha : GV X c W a ma) (hb : GV X c W b mb) (hc : GV X c W ce mc)
    (hm : lastMarks [op, op'] [b, ce] = false := by with_unfolding_all rfl) : GE X c W (.Compare a [op, op'] [b, ce] pos) (eChain f g ma mb mc) := pe_imp (pe_chain ho ho' ha hb hc hm) (rd_chain hs hs')
theorem g_chainT {ce : Expr} {op op' : CmpOp} {r r' : R2} {f g : S → D → D → Option D} {ma mb mc : EM D} (ho : OpR X (compareOp op) r) (hs : OpS X.K c rel r f) (ho' : OpR X (compareOp op') r') (hs' : OpS X.K c rel r' g) (ha : GV X c W a ma) (hb : GV X c W b mb) (hc : GV X c W ce mc)
    (hm : lastMarks [op, op'] [b, ce] = false := by with_unfolding_all rfl) : GT X c W (.Compare a [op, op'] [b, ce] pos) (qB (eChain f g ma mb mc)) := pt_imp (pt_chain ho ho' ha hb hc hm) fun σ H Q h => rd_chain hs hs' σ H _ (rd_test σ H Q h)
end
end Wd
set_option Elab.async false
set_option linter.all false
set_option maxRecDepth 100000
set_option autoImplicit false
/-! Wd4: places, slices, built-ins. -/
namespace Wd
open PySem PySem.Spec PyProof.Rows L2
section
variable {X : Cx} {c : Cc} {W : WX} {pos : Pos} {a b e : Expr} {es : List Expr} {K : PySem.W.Frag}
/-! ### places -/
theorem atL_rel {θ : List Addr} {F : Hp} {xs : List D} {vs : List V} {i : Int} {d : D} (r : Rels K θ F xs vs) (h : atL xs i = some d) : ∃ v, atI vs i = some v ∧ Rel K θ F d v := by
  unfold atL at h
  obtain ⟨j, e1, e2⟩ := Option.bind_eq_some_iff.mp h
  obtain ⟨v, e3, q⟩ := r.get e2
  refine ⟨v, ?_, q⟩
  unfold atI
  rw [show ixN vs.length i = some j by rw [← r.length]; exact e1]
  exact e3
def rIxA (K : PySem.W.Frag) : R2 := fun x y H Q => rIxL K x y H Q ∨ rIxT K x y H Q
theorem ix_A : IxR X (rIxA X.K) := ix_list.or ix_tup
theorem s_ix : OpS K c rel (rIxA K) oIx := by
  intro θ F H s x y v u d Q r hx hy e k
  unfold oIx at e
  split at e
  · rename_i xs i ex
    obtain ⟨a, vs, rfl, h1, q1, _⟩ := view_tup r hx ex
    rw [relW_int hy]
    obtain ⟨v, e1, q⟩ := atL_rel q1 e
    exact .inr ⟨a, vs, i, v, rfl, rfl, h1, e1, k v F H .refl r q⟩
  · rename_i xs i ex
    obtain ⟨a, vs, rfl, h1, q1⟩ := view_lst r hx ex
    rw [relW_int hy]
    obtain ⟨v, e1, q⟩ := atL_rel q1 e
    exact .inl ⟨a, vs, i, v, rfl, rfl, h1, e1, k v F H .refl r q⟩
  · cases e
theorem g_ix {ma mb : EM D} (ha : GV X c W a ma) (hb : GV X c W b mb) (hs : PlainIx b := by intro _ _; rfl) : GE X c W (.Subscript a b pos) (e2 oIx ma mb) := pe_imp (pe_ix ix_A ha hb hs) (rd_op older_rel s_ix)

/-! ### tables -/
theorem kD_keq {k k' : Key} : (kD k).keq0 (kD k') = decide (k = k') := by
  cases k with
  | inl i => cases k' with
    | inl j =>
      show (i == j) = _
      by_cases h : i = j
      · subst h; simp
      · rw [decide_eq_false (fun z => h (Sum.inl.inj z))]
        exact beq_eq_false_iff_ne.mpr h
    | inr y => exact (decide_eq_false fun z => nomatch z).symm
  | inr x => cases k' with
    | inl j => exact (decide_eq_false fun z => nomatch z).symm
    | inr y =>
      show (x == y) = _
      by_cases h : x = y
      · subst h; simp
      · rw [decide_eq_false (fun z => h (Sum.inr.inj z))]
        exact beq_eq_false_iff_ne.mpr h
theorem keqs_tD : ∀ {k k' : List Key}, keqs (k.map kD) (k'.map kD) = decide (k = k')
  | [], [] => by simp [keqs]
  | [], _ :: _ => by simp [keqs]
  | _ :: _, [] => by simp [keqs]
  | x :: xs, y :: ys => by
    show (D.keq0 (kD x) (kD y) && keqs (xs.map kD) (ys.map kD)) = _
    rw [kD_keq, keqs_tD, ← Bool.decide_and]
    exact decide_eq_decide.mpr (by rw [List.cons.injEq])
theorem kD_keqF {k k' : Key} : (kD k).keq (kD k') = decide (k = k') := by
  have h := kD_keq (k := k) (k' := k')
  cases k <;> cases k' <;> exact h
theorem dget_K {θ : List Addr} {F : Hp} {k : Key} : ∀ {kvs : List (D × D)} {es : List (Key × V)}, RelKs K θ F kvs es →
    (dget kvs (kD k) = none ∧ valV es k = none) ∨ ∃ d v, dget kvs (kD k) = some d ∧ valV es k = some v ∧ Rel K θ F d v
  | _, _, .nil => .inl ⟨rfl, rfl⟩
  | _, _, @RelKs.cons _ _ _ k' d v ds vs a b => by
    unfold dget
    rw [kD_keqF]
    by_cases h : k' = k
    · subst h
      right
      exact ⟨d, v, by simp, valV_pos rfl, a⟩
    · rw [valV_neg h, decide_eq_false h, if_neg Bool.false_ne_true]
      exact dget_K b
theorem dget_T {θ : List Addr} {F : Hp} {k : List Key} : ∀ {kvs : List (D × D)} {es : List (List Key × V)}, RelTs K θ F kvs es →
    (dget kvs (tD k) = none ∧ valV es k = none) ∨ ∃ d v, dget kvs (tD k) = some d ∧ valV es k = some v ∧ Rel K θ F d v
  | _, _, .nil => .inl ⟨rfl, rfl⟩
  | _, _, @RelTs.cons _ _ _ k' d v ds vs a b => by
    unfold dget
    rw [show (tD k').keq (tD k) = decide (k' = k) from keqs_tD]
    by_cases h : k' = k
    · subst h
      right
      exact ⟨d, v, by simp, valV_pos rfl, a⟩
    · rw [valV_neg h, decide_eq_false h, if_neg Bool.false_ne_true]
      exact dget_T b
theorem key0_of {θ : List Addr} {F : Hp} {d : D} {v : V} (r : Rel K θ F d v) (h : d.isKey0 = true) : ∃ k, d = kD k ∧ v = kV k := by
  cases r with
  | int i => exact ⟨.inl i, rfl, rfl⟩
  | str x => exact ⟨.inr x, rfl, rfl⟩
  | _ => cases h
theorem keys_of {θ : List Addr} {F : Hp} : ∀ {ds : List D} {vs : List V}, Rels K θ F ds vs → ds.all D.isKey0 = true → ∃ ks : List Key, ds = ks.map kD ∧ vs = ks.map kV
  | _, _, .nil, _ => ⟨[], rfl, rfl⟩
  | _, _, .cons a b, h => by
    rw [List.all_cons, Bool.and_eq_true] at h
    obtain ⟨k, rfl, rfl⟩ := key0_of a h.1
    obtain ⟨ks, rfl, rfl⟩ := keys_of b h.2
    exact ⟨k :: ks, rfl, rfl⟩
theorem relW_key {θ : List Addr} {F Hs H : Hp} {t : Bool} {d : D} {v : V} (r : relW K θ F Hs H d v) (h : d.keyOf t = true) : Rel K θ F d v := by
  rcases r with r | ⟨o, a, e, _⟩
  · exact r
  · subst e
    cases o <;> cases t <;> cases h
/-- a key asked of a table -/
theorem dget_of {θ : List Addr} {F H : Hp} {s : S} {t : Bool} {kvs : List (D × D)} {a : Addr} {y : D} {u : V} {ud : HO} (r : RS K c θ F H s) (hr : Rd H a ud) (h : RelO K θ F (.dct t kvs) (some ud)) (hy : Rel K θ F y u) (hk : y.keyOf t = true) :
    (dget kvs y = none ∧ DGet H a u none) ∨ ∃ d v, dget kvs y = some d ∧ DGet H a u (some v) ∧ Rel K θ F d v := by
  cases t with
  | false =>
    obtain ⟨es, e1, q⟩ := h
    cases e1
    have hk0 : y.isKey0 = true := by cases y <;> first | exact hk | (simp [D.keyOf] at hk)
    obtain ⟨k, rfl, rfl⟩ := key0_of hy hk0
    rcases dget_K (k := k) q with ⟨e2, e3⟩ | ⟨d, v, e2, e3, q2⟩
    · exact .inl ⟨e2, by rw [← e3]; exact (show DGet _ _ _ _ from .inl ⟨es, k, hr, rfl, rfl⟩)⟩
    · exact .inr ⟨d, v, e2, by rw [← e3]; exact (show DGet _ _ _ _ from .inl ⟨es, k, hr, rfl, rfl⟩), q2⟩
  | true =>
    obtain ⟨es, e1, q⟩ := h
    cases e1
    cases hy with
    | @tup b xs vs hb hv =>
      have hk0 : xs.all D.isKey0 = true := by simpa [D.keyOf] using hk
      obtain ⟨ks, rfl, rfl⟩ := keys_of hv hk0
      rcases dget_T (k := ks) q with ⟨e2, e3⟩ | ⟨d, v, e2, e3, q2⟩
      · exact .inl ⟨e2, by rw [← e3]; exact (show DGet _ _ _ _ from .inr ⟨es, ks, b, hr, rfl, r.sub _ _ hb, rfl⟩)⟩
      · exact .inr ⟨d, v, e2, by rw [← e3]; exact (show DGet _ _ _ _ from .inr ⟨es, ks, b, hr, rfl, r.sub _ _ hb, rfl⟩), q2⟩
    | _ => simp [D.keyOf] at hk
theorem g_dix {ma mb : EM D} (hu : X.A.units + 1 < cLine) (ha : GV X c W a ma) (hb : GV X c W b mb) (hs : NoSl b := by intro _ _; rfl) : GE X c W (.Subscript a b pos) (e2 oDix ma mb) := pe_imp (pe_dget hu ha hb hs) fun σ H Q ⟨l, s, θ, F, H0, r1, r2, p⟩ => by
  refine rd_bind older_rel r1 r2 p fun x s1 v θ1 F1 H1 _ t1 q1 l1 h1 p1 => ?_
  refine rd_bind older_rel q1 l1 p1 fun y s2 u θ2 F2 H2 _ t2 q2 l2 h2 p2 => ?_
  have h1' := lasts_relW _ _ _ _ _ _ _ _ _ _ t2 h1
  unfold oDix at p2
  split at p2
  · rename_i t kvs ex
    split at p2
    · rename_i hk
      obtain ⟨ad, ud, rfl, hr, ro⟩ := view_dct q2 h1' ex
      rcases dget_of q2 hr ro (relW_key h2 hk) hk with ⟨e2, g⟩ | ⟨d, v, e2, g, q⟩
      · rw [e2] at p2
        exact p2.elim
      · rw [e2] at p2
        exact ⟨ad, v, rfl, g, p2 v θ2 F2 H2 .refl q2 q⟩
    · exact p2.elim
  · exact p2.elim
theorem rd_din {ma mb : EM D} : ∀ σ H Q, rd K c W rel (e2 oDin ma mb) σ H Q → tDIn (rd K c W relW ma) (rd K c W relW mb) σ H Q := fun σ H Q ⟨l, s, θ, F, H0, r1, r2, p⟩ => by
  refine rd_bind older_rel r1 r2 p fun y s1 u θ1 F1 H1 _ t1 q1 l1 h1 p1 => ?_
  refine rd_bind older_rel q1 l1 p1 fun x s2 v θ2 F2 H2 _ t2 q2 l2 h2 p2 => ?_
  have h1' := lasts_relW _ _ _ _ _ _ _ _ _ _ t2 h1
  unfold oDin at p2
  split at p2
  · rename_i t kvs ex
    split at p2
    · rename_i hk
      obtain ⟨ad, ud, rfl, hr, ro⟩ := view_dct q2 h2 ex
      rcases dget_of q2 hr ro (relW_key h1' hk) hk with ⟨e2, g⟩ | ⟨d, v, e2, g, q⟩
      · rw [e2] at p2
        exact ⟨ad, none, rfl, g, p2 _ θ2 F2 H2 .refl q2 (.bl _)⟩
      · rw [e2] at p2
        exact ⟨ad, some v, rfl, g, p2 _ θ2 F2 H2 .refl q2 (.bl _)⟩
    · exact p2.elim
  · exact p2.elim
theorem rd_dnotin {ma mb : EM D} : ∀ σ H Q, rd K c W rel (e2 oDnotin ma mb) σ H Q → tDNotIn (rd K c W relW ma) (rd K c W relW mb) σ H Q := fun σ H Q ⟨l, s, θ, F, H0, r1, r2, p⟩ => by
  refine rd_bind older_rel r1 r2 p fun y s1 u θ1 F1 H1 _ t1 q1 l1 h1 p1 => ?_
  refine rd_bind older_rel q1 l1 p1 fun x s2 v θ2 F2 H2 _ t2 q2 l2 h2 p2 => ?_
  have h1' := lasts_relW _ _ _ _ _ _ _ _ _ _ t2 h1
  unfold oDnotin at p2
  split at p2
  · rename_i t kvs ex
    split at p2
    · rename_i hk
      obtain ⟨ad, ud, rfl, hr, ro⟩ := view_dct q2 h2 ex
      rcases dget_of q2 hr ro (relW_key h1' hk) hk with ⟨e2, g⟩ | ⟨d, v, e2, g, q⟩
      · rw [e2] at p2
        exact ⟨ad, none, rfl, g, p2 _ θ2 F2 H2 .refl q2 (.bl _)⟩
      · rw [e2] at p2
        exact ⟨ad, some v, rfl, g, p2 _ θ2 F2 H2 .refl q2 (.bl _)⟩
    · exact p2.elim
  · exact p2.elim
theorem g_din {ma mb : EM D} (hu : X.A.units + 1 < cLine) (ha : GV X c W a ma) (hb : GV X c W b mb) (hm : behindInMarks .In b = false := by rfl) : GE X c W (.Compare a [.In] [b] pos) (e2 oDin ma mb) := pe_imp (pe_cmp (pc_din hu ha hb) hm) rd_din
theorem g_dnotin {ma mb : EM D} (hu : X.A.units + 1 < cLine) (ha : GV X c W a ma) (hb : GV X c W b mb) (hm : behindInMarks .NotIn b = false := by rfl) : GE X c W (.Compare a [.NotIn] [b] pos) (e2 oDnotin ma mb) := pe_imp (pe_cmp (pc_dnotin hu ha hb) hm) rd_dnotin
theorem g_dinT {ma mb : EM D} (hu : X.A.units + 1 < cLine) (ha : GV X c W a ma) (hb : GV X c W b mb) (hm : behindInMarks .In b = false := by rfl) : GT X c W (.Compare a [.In] [b] pos) (qB (e2 oDin ma mb)) := pt_imp (pt_cmp (pc_din hu ha hb) hm) fun σ H Q h => rd_din σ H _ (rd_test σ H Q h)
theorem g_dnotinT {ma mb : EM D} (hu : X.A.units + 1 < cLine) (ha : GV X c W a ma) (hb : GV X c W b mb) (hm : behindInMarks .NotIn b = false := by rfl) : GT X c W (.Compare a [.NotIn] [b] pos) (qB (e2 oDnotin ma mb)) := pt_imp (pt_cmp (pc_dnotin hu ha hb) hm) fun σ H Q h => rd_dnotin σ H _ (rd_test σ H Q h)

/-! ### slices -/
def relO : RT (Option Int) (Option Int) := fun _ _ _ _ _ a b => a = b
theorem older_relO : Older relO := fun _ _ _ _ _ _ _ _ _ h => h
abbrev GO (X : Cx) (c : Cc) (W : WX) (e : Option Expr) (m : EM (Option Int)) : Prop := PO X e (rd X.K c W relO m)
theorem po_imp {X : Cx} {e : Option Expr} {t t' : TO} (h : PO X e t) (i : ∀ σ H Q, t' σ H Q → t σ H Q) : PO X e t' := ⟨fun pins s σ H Q I q => h.run pins s σ H Q I (i σ H Q q)⟩
theorem g_no : GO X c W none eNo := po_imp po_none fun σ H Q ⟨l, s, θ, F, H0, r1, r2, p⟩ => p none θ F H .refl r1 rfl
theorem g_at {m : EM D} (h : GE X c W e m) : GO X c W (some e) (eAt m) := po_imp (po_some h) fun σ H Q ⟨l, s, θ, F, H0, r1, r2, p⟩ => by
  refine rd_bind older_relO r1 r2 p fun x s1 v θ1 F1 H1 _ t1 q1 l1 h1 p1 => ?_
  cases x with
  | int i =>
    cases h1
    exact ⟨i, rfl, p1 _ θ1 F1 H1 .refl q1 rfl⟩
  | _ => exact p1.elim
theorem cut_rel {θ : List Addr} {F : Hp} {xs : List D} {vs : List V} (r : Rels K θ F xs vs) (lo hi : Option Int) : Rels K θ F (cut xs lo hi) (cutV vs lo hi) := by
  have hl := r.length
  unfold cut cutV
  rw [hl]
  exact (r.drop _).take _
def rSlAll (K : PySem.W.Frag) : V → Option Int → Option Int → Hp → VK → Prop := fun x lo hi H Q => rSlA K x lo hi H Q ∨ rSlL K x lo hi H Q
theorem sl_All : SlR X (rSlAll X.K) := SlR.or sl_tupA sl_list
theorem g_sl {lo hi : Option Expr} {p2 : Pos} {ma : EM D} {ml mh : EM (Option Int)} (ha : GV X c W a ma) (hl : GO X c W lo ml) (hh : GO X c W hi mh) : GE X c W (.Subscript a (.Slice lo hi none p2) pos) (eSl ma ml mh) := pe_imp (pe_slice sl_All ha hl hh) fun σ H Q ⟨l, s, θ, F, H0, r1, r2, p⟩ => by
  refine rd_bind older_rel r1 r2 p fun x s1 v θ1 F1 H1 _ t1 q1 l1 h1 p1 => ?_
  refine rd_bind older_rel q1 l1 p1 fun i s2 i' θ2 F2 H2 _ t2 q2 l2 h2 p2 => ?_
  refine rd_bind older_rel q2 l2 p2 fun j s3 j' θ3 F3 H3 _ t3 q3 l3 h3 p3 => ?_
  cases h2
  cases h3
  have h1' := lasts_relW _ _ _ _ _ _ _ _ _ _ t3 (lasts_relW _ _ _ _ _ _ _ _ _ _ t2 h1)
  unfold oSl at p3
  split at p3
  · rename_i xs ex
    obtain ⟨ad, vs, rfl, g, q, f⟩ := view_tup q3 h1' ex
    refine .inl ⟨ad, vs, rfl, g, fun hw => ?_, fun _ ap hp => lay_tup q3 (cut_rel q i j) hp fun v' F' H' t r h => p3 v' θ3 F' H' t r h⟩
    have ec : cut xs i j = xs := by
      unfold cut
      rw [show cutAt xs.length 0 i = 0 by rw [q.length]; exact hw.1, show cutAt xs.length xs.length j = xs.length by rw [q.length]; exact hw.2]
      exact List.take_length
    rw [ec] at p3
    exact p3 _ θ3 F3 H3 .refl q3 (.tup f q)
  · rename_i xs ex
    obtain ⟨ad, vs, rfl, g, q⟩ := view_lst q3 h1' ex
    exact .inr ⟨ad, vs, rfl, g, fun ap hp => lay_lst q3 (cut_rel q i j) hp fun v' F' H' t r h => p3 v' θ3 F' H' t r h⟩
  · exact p3.elim

/-! ### built-ins by values -/
def relsW : RT (List D) (List V) := fun K θ F Hs H ds vs => Paired (fun d v => relW K θ F Hs H d v) ds vs
theorem older_relsW : Older relsW := fun _ _ _ _ _ _ _ _ _ h => h
theorem lasts_relsW : Lasts relsW := fun K θ F Hs H θ' F' H' ds vs t h => by
  induction h with
  | nil => exact .nil
  | cons a b ih => exact .cons (lasts_relW _ _ _ _ _ _ _ _ _ _ t a) ih
abbrev GAW (X : Cx) (c : Cc) (W : WX) (es : List Expr) (m : EM (List D)) : Prop := PA X es (rd X.K c W relsW m)
theorem gw_nil : GAW X c W [] (eAll []) := pa_imp pa_nil fun σ H Q ⟨l, s, θ, F, H0, r1, r2, p⟩ => p [] θ F H .refl r1 .nil
theorem gw_cons {m : EM D} {ms : List (EM D)} (ha : GV X c W e m) (hr : GAW X c W es (eAll ms)) (hs : starEach (e :: es) X.env = (false, eval e X.env) :: starEach es X.env := by rfl) : GAW X c W (e :: es) (eAll (m :: ms)) :=
  pa_imp (pa_cons ha hr hs) fun σ H Q ⟨l, s, θ, F, H0, r1, r2, p⟩ => by
    refine rd_bind older_relsW r1 r2 p fun d s1 v θ1 F1 H1 _ t1 q1 l1 h1 p1 => ?_
    refine rd_bind older_relsW q1 l1 p1 fun ds s2 vs θ2 F2 H2 _ t2 q2 l2 h2 p2 => ?_
    exact p2 (v :: vs) θ2 F2 H2 .refl q2 (.cons (lasts_relW _ _ _ _ _ _ _ _ _ _ t2 h1) h2)
def CallS (K : PySem.W.Frag) (c : Cc) (q : RT D V) (r : List V → Hp → VK → Prop) (f : S → List D → Option D) : Prop := ∀ θ F H s xs vs d Q, RS K c θ F H s → relsW K θ F H H xs vs → f s xs = some d →
  (∀ v' F' H', Step θ F H θ F' H' → RS K c θ F' H' s → q K θ F' H H' d v' → Q v' H') → r vs H Q
theorem rd_call {q : RT D V} {r : List V → Hp → VK → Prop} {f : S → List D → Option D} {m : EM (List D)} (hq : Older q) (hs : CallS K c q r f) : ∀ σ H Q, rd K c W q (eN f m) σ H Q → tCB r (rd K c W relsW m) σ H Q :=
  fun σ H Q ⟨l, s, θ, F, H0, r1, r2, p⟩ => by
    refine rd_bind hq r1 r2 p fun xs s1 vs θ1 F1 H1 _ t1 q1 l1 h1 p1 => ?_
    cases ef : f s1 xs with
    | none =>
      rw [ef] at p1
      exact p1.elim
    | some d =>
      rw [ef] at p1
      exact hs θ1 F1 H1 s1 xs vs d Q q1 h1 ef fun v' F' H' t r h => p1 v' θ1 F' H' t r h
theorem g_callB {q : RT D V} {r : List V → Hp → VK → Prop} {f : S → List D → Option D} {m : EM (List D)} {id : String} {x : Str} {p : Pos} (hq : Older q) (hc : CallR X (.builtin id) r) (hs : CallS X.K c q r f) (hg : Gl X x) (hm : X.mg x = none) (hv : bootBuiltins x = some (.builtin id)) (ha : GAW X c W (e :: es) m)
    (hn : x ≠ "__name__" := by decide) (hdb : (x == ("__debug__" : Str)) = false := by decide) (he : starEach (e :: es) X.env = (false, eval e X.env) :: starEach es X.env := by rfl) (hpl : (backTo pos (starEach es X.env)).any (·.1) = false := by rfl) :
    PE X (.Call (.Name x p) (e :: es) [] pos) (rd X.K c W q (eN f m)) := pe_imp (pe_callB hc hg hm hv ha hn hdb he hpl) (rd_call hq hs)
theorem g_callTy {q : RT D V} {r : List V → Hp → VK → Prop} {f : S → List D → Option D} {m : EM (List D)} {id : String} {x : Str} {p : Pos} (hq : Older q) (hc : CallR X (.type id) r) (hs : CallS X.K c q r f) (hg : Gl X x) (hm : X.mg x = none) (hv : bootBuiltins x = some (.type id)) (ha : GAW X c W (e :: es) m)
    (hn : x ≠ "__name__" := by decide) (hdb : (x == ("__debug__" : Str)) = false := by decide) (he : starEach (e :: es) X.env = (false, eval e X.env) :: starEach es X.env := by rfl) (hpl : (backTo pos (starEach es X.env)).any (·.1) = false := by rfl) :
    PE X (.Call (.Name x p) (e :: es) [] pos) (rd X.K c W q (eN f m)) := pe_imp (pe_callTy hc hg hm hv ha hn hdb he hpl) (rd_call hq hs)
theorem one_of {θ : List Addr} {F Hs H : Hp} {x : D} {vs : List V} (h : relsW K θ F Hs H [x] vs) : ∃ v, vs = [v] ∧ relW K θ F Hs H x v := by
  cases h with
  | cons a b =>
    cases b
    exact ⟨_, rfl, a⟩
theorem two_of {θ : List Addr} {F Hs H : Hp} {x y : D} {vs : List V} (h : relsW K θ F Hs H [x, y] vs) : ∃ v u, vs = [v, u] ∧ relW K θ F Hs H x v ∧ relW K θ F Hs H y u := by
  cases h with
  | cons a b =>
    cases b with
    | cons b c =>
      cases c
      exact ⟨_, _, rfl, a, b⟩
theorem relKs_len {θ : List Addr} {F : Hp} : ∀ {kvs : List (D × D)} {es : List (Key × V)}, RelKs K θ F kvs es → kvs.length = es.length
  | _, _, .nil => rfl
  | _, _, .cons a b => by rw [List.length_cons, List.length_cons, relKs_len b]
theorem relTs_len {θ : List Addr} {F : Hp} : ∀ {kvs : List (D × D)} {es : List (List Key × V)}, RelTs K θ F kvs es → kvs.length = es.length
  | _, _, .nil => rfl
  | _, _, .cons a b => by rw [List.length_cons, List.length_cons, relTs_len b]
theorem callr_or {f : Value} {r r' : List V → Hp → VK → Prop} (h : CallR X f r) (h' : CallR X f r') : CallR X f (fun xs H Q => r xs H Q ∨ r' xs H Q) := by
  intro pins s σ H xs us Q I rv q
  rcases q with q | q
  · exact h pins s σ H xs us Q I rv q
  · exact h' pins s σ H xs us Q I rv q
def rLenA (K : PySem.W.Frag) : List V → Hp → VK → Prop := fun xs H Q => (∃ x n, xs = [x] ∧ LenV K x H n ∧ Q (.int n) H) ∨ ((∃ a kvs, xs = [V.ref a] ∧ Rd H a (.dK kvs) ∧ Q (.int kvs.length) H) ∨ ∃ a kvs, xs = [V.ref a] ∧ Rd H a (.dT kvs) ∧ Q (.int kvs.length) H)
theorem call_lenK : CallR X (.builtin "len") (fun xs H Q => ∃ a kvs, xs = [V.ref a] ∧ Rd H a (.dK kvs) ∧ Q (.int kvs.length) H) := by
  intro pins s σ H xs us Q I r h
  obtain ⟨a, kvs, rfl, ha, q⟩ := h
  obtain ⟨u, rfl, ru⟩ := vals1 r
  cases ru
  exact d_len I ha fun t s' I' => ⟨.int kvs.length, H, I', ⟨t, rfl⟩, q⟩
theorem call_lenT : CallR X (.builtin "len") (fun xs H Q => ∃ a kvs, xs = [V.ref a] ∧ Rd H a (.dT kvs) ∧ Q (.int kvs.length) H) := by
  intro pins s σ H xs us Q I r h
  obtain ⟨p, kvs, rfl, hp, q⟩ := h
  obtain ⟨u, rfl, rx⟩ := vals1 r
  obtain rfl : u = .ref p := rx
  obtain ⟨z, hd, ys, rel, dd⟩ := dt_rd I.hok hp
  have hl : kvs.length = ys.length := Paired.length rel
  refine call_len_dictH hd dd (by rw [← hl]; rw [sizeLine_eq] at z; omega) ?_
  rw [← hl]
  exact ⟨.int ((kvs.length : Nat) : Int), H, I.tok _, ⟨_, rfl⟩, q⟩
theorem s_len : CallS K c rel (rLenA K) oLen := by
  intro θ F H s xs vs d Q r hx e k
  unfold oLen at e
  split at e
  · rename_i x
    obtain ⟨v, rfl, hv⟩ := one_of hx
    split at e
    · rename_i ys ex
      cases e
      obtain ⟨a, vs, rfl, h1, q1, f⟩ := view_tup r hv ex
      refine .inl ⟨_, vs.length, rfl, .inr ⟨vs, h1, rfl⟩, ?_⟩
      rw [← q1.length]
      exact k _ F H .refl r (.int _)
    · rename_i ys ex
      cases e
      obtain ⟨a, vs, rfl, h1, q1⟩ := view_lst r hv ex
      refine .inl ⟨_, vs.length, rfl, .inl ⟨vs, h1, rfl⟩, ?_⟩
      rw [← q1.length]
      exact k _ F H .refl r (.int _)
    · rename_i t kvs ex
      cases e
      obtain ⟨a, u, rfl, hr, ro⟩ := view_dct r hv ex
      cases t with
      | false =>
        obtain ⟨es, e1, q⟩ := ro
        cases e1
        refine .inr (.inl ⟨a, es, rfl, hr, ?_⟩)
        rw [← relKs_len q]
        exact k _ F H .refl r (.int _)
      | true =>
        obtain ⟨es, e1, q⟩ := ro
        cases e1
        refine .inr (.inr ⟨a, es, rfl, hr, ?_⟩)
        rw [← relTs_len q]
        exact k _ F H .refl r (.int _)
    · rename_i z ex
      split at e
      · rename_i hl
        cases e
        rw [view_str r hv ex]
        exact .inl ⟨_, z.length, rfl, ⟨big_size hl, rfl⟩, k _ F H .refl r (.int _)⟩
      · cases e
    · cases e
  · cases e
end
end Wd
set_option Elab.async false
set_option linter.all false
set_option maxRecDepth 100000
set_option autoImplicit false
/-! Wd5: built-ins. -/
namespace Wd
open PySem PySem.Spec PyProof.Rows L2
/-- the module keeps these names free -/
structure Blt (mg : Str → Option Value) : Prop where
  len : mg "len" = none
  isi : mg "isinstance" = none
  all_ : mg "all" = none
  any_ : mg "any" = none
  zip : mg "zip" = none
  enum : mg "enumerate" = none
  int_ : mg "int" = none
  range : mg "range" = none
  tuple : mg "tuple" = none
  list : mg "list" = none
  dict : mg "dict" = none
  min : mg "min" = none
  max : mg "max" = none
  repr : mg "repr" = none
  set : mg "set" = none
  sorted : mg "sorted" = none
  str_ : mg "str" = none
  bool_ : mg "bool" = none
  abs : mg "abs" = none
  sum : mg "sum" = none
section
variable {X : Cx} {c : Cc} {W : WX} {pos p1 : Pos} {a b e : Expr} {es : List Expr} {K : PySem.W.Frag}
theorem g_len {m : EM D} (B : Blt X.mg) (ha : GV X c W e m) (hg : Gl X "len" := by rfl) (he : starEach [e] X.env = (false, eval e X.env) :: starEach [] X.env := by rfl) : GE X c W (.Call (.Name "len" p1) [e] [] pos) (eN oLen (eAll [m])) :=
  g_callB older_rel (CallR.or call_len (CallR.or call_lenK call_lenT)) s_len hg B.len boot_len (gw_cons ha gw_nil he) (he := he)
theorem s_int1 : CallS K c rel (fun xs H Q => (∃ i, xs = [.int i] ∧ Q (.int i) H) ∨ ∃ k, xs = [.bl k] ∧ Q (.int (if k then 1 else 0)) H) oInt := by
  intro θ F H s xs vs d Q r hx e k
  unfold oInt at e
  split at e
  · cases e
    obtain ⟨v, rfl, hv⟩ := one_of hx
    rw [relW_int hv]
    exact .inl ⟨_, rfl, k _ F H .refl r (.int _)⟩
  · cases e
theorem g_intc {m : EM D} (B : Blt X.mg) (ha : GV X c W e m) (hg : Gl X "int" := by rfl) (he : starEach [e] X.env = (false, eval e X.env) :: starEach [] X.env := by rfl) : GE X c W (.Call (.Name "int" p1) [e] [] pos) (eN oInt (eAll [m])) :=
  g_callTy older_rel call_int1 s_int1 hg B.int_ PyProof.Rows.boot_int (gw_cons ha gw_nil he) (he := he)
theorem s_min : CallS K c rel (fun xs H Q => ∃ i j, xs = [.int i, .int j] ∧ Q (.int (if j < i then j else i)) H) oMin := by
  intro θ F H s xs vs d Q r hx e k
  unfold oMin at e
  split at e
  · cases e
    obtain ⟨v, u, rfl, hv, hu⟩ := two_of hx
    rw [relW_int hv, relW_int hu]
    exact ⟨_, _, rfl, k _ F H .refl r (.int _)⟩
  · cases e
theorem s_max : CallS K c rel (fun xs H Q => ∃ i j, xs = [.int i, .int j] ∧ Q (.int (if j > i then j else i)) H) oMax := by
  intro θ F H s xs vs d Q r hx e k
  unfold oMax at e
  split at e
  · cases e
    obtain ⟨v, u, rfl, hv, hu⟩ := two_of hx
    rw [relW_int hv, relW_int hu]
    exact ⟨_, _, rfl, k _ F H .refl r (.int _)⟩
  · cases e
theorem g_min {m n : EM D} (B : Blt X.mg) (ha : GV X c W a m) (hb : GV X c W b n) (hc : X.calm = true := by rfl) (hg : Gl X "min" := by rfl) (h1 : starEach [a, b] X.env = (false, eval a X.env) :: starEach [b] X.env := by rfl) (h2 : starEach [b] X.env = (false, eval b X.env) :: starEach [] X.env := by rfl)
    (hpl : (backTo pos (starEach [b] X.env)).any (·.1) = false := by rfl) : GE X c W (.Call (.Name "min" p1) [a, b] [] pos) (eN oMin (eAll [m, n])) :=
  g_callB older_rel (call_min2 hc) s_min hg B.min boot_min (gw_cons ha (gw_cons hb gw_nil h2) h1) (he := h1) (hpl := hpl)
theorem g_max {m n : EM D} (B : Blt X.mg) (ha : GV X c W a m) (hb : GV X c W b n) (hc : X.calm = true := by rfl) (hg : Gl X "max" := by rfl) (h1 : starEach [a, b] X.env = (false, eval a X.env) :: starEach [b] X.env := by rfl) (h2 : starEach [b] X.env = (false, eval b X.env) :: starEach [] X.env := by rfl)
    (hpl : (backTo pos (starEach [b] X.env)).any (·.1) = false := by rfl) : GE X c W (.Call (.Name "max" p1) [a, b] [] pos) (eN oMax (eAll [m, n])) :=
  g_callB older_rel (call_max2 hc) s_max hg B.max boot_max (gw_cons ha (gw_cons hb gw_nil h2) h1) (he := h1) (hpl := hpl)
theorem bools_rel {θ : List Addr} {F : Hp} : ∀ {xs : List D} {vs : List V} {bs : List Bool}, Rels K θ F xs vs → bools xs = some bs → vs = bs.map V.bl
  | _, _, _, .nil, h => by
    cases h
    rfl
  | _, _, bs, @Rels.cons _ _ _ d v ds vs a b, h => by
    cases a with
    | bl x =>
      unfold bools at h
      obtain ⟨bs', e1, rfl⟩ := Option.map_eq_some_iff.mp h
      rw [bools_rel b e1]
      rfl
    | _ => cases h
theorem s_all : CallS K c rel (rAll K) oAllB := by
  intro θ F H s xs vs d Q r hx e k
  unfold oAllB at e
  split at e
  · obtain ⟨v, rfl, hv⟩ := one_of hx
    split at e
    · rename_i ys ex
      obtain ⟨bs, e1, rfl⟩ := Option.map_eq_some_iff.mp e
      obtain ⟨a, vs, rfl, h1, q1⟩ := view_lst r hv ex
      have := bools_rel q1 e1
      subst this
      exact ⟨a, bs, rfl, h1, k _ F H .refl r (.bl _)⟩
    · cases e
  · cases e
theorem s_any : CallS K c rel (rAny K) oAnyB := by
  intro θ F H s xs vs d Q r hx e k
  unfold oAnyB at e
  split at e
  · obtain ⟨v, rfl, hv⟩ := one_of hx
    split at e
    · rename_i ys ex
      obtain ⟨bs, e1, rfl⟩ := Option.map_eq_some_iff.mp e
      obtain ⟨a, vs, rfl, h1, q1⟩ := view_lst r hv ex
      have := bools_rel q1 e1
      subst this
      exact ⟨a, bs, rfl, h1, k _ F H .refl r (.bl _)⟩
    · cases e
  · cases e
theorem g_all {m : EM D} (B : Blt X.mg) (ha : GV X c W e m) (hc : X.calm = true := by rfl) (hg : Gl X "all" := by rfl) (he : starEach [e] X.env = (false, eval e X.env) :: starEach [] X.env := by rfl) : GE X c W (.Call (.Name "all" p1) [e] [] pos) (eN oAllB (eAll [m])) :=
  g_callB older_rel (cr_all hc) s_all hg B.all_ PyProof.Rows.boot_all (gw_cons ha gw_nil he) (he := he)
theorem g_any {m : EM D} (B : Blt X.mg) (ha : GV X c W e m) (hc : X.calm = true := by rfl) (hg : Gl X "any" := by rfl) (he : starEach [e] X.env = (false, eval e X.env) :: starEach [] X.env := by rfl) : GE X c W (.Call (.Name "any" p1) [e] [] pos) (eN oAnyB (eAll [m])) :=
  g_callB older_rel (cr_any hc) s_any hg B.any_ PyProof.Rows.boot_any (gw_cons ha gw_nil he) (he := he)
theorem s_tupL : CallS K c rel (fun xs H Q => ∃ p ys, xs = [.ref p] ∧ ((SqL K H p ys ∧ ∀ l, H l = none → Q (.ref l) (upd H l (.tup ys))) ∨ (SqT K H p ys ∧ Q (.ref p) H))) oTupL := by
  intro θ F H s xs vs d Q r hx e k
  unfold oTupL at e
  split at e
  · obtain ⟨v, rfl, hv⟩ := one_of hx
    split at e
    · rename_i ys ex
      cases e
      obtain ⟨a, vs, rfl, h1, q1⟩ := view_lst r hv ex
      exact ⟨a, vs, rfl, .inl ⟨h1, fun p hp => lay_tup r q1 hp k⟩⟩
    · rename_i ys ex
      cases e
      obtain ⟨a, vs, rfl, h1, q1, f⟩ := view_tup r hv ex
      exact ⟨a, vs, rfl, .inr ⟨h1, k _ F H .refl r (.tup f q1)⟩⟩
    · cases e
  · cases e
theorem g_tupc {m : EM D} (B : Blt X.mg) (ha : GV X c W e m) (hg : Gl X "tuple" := by rfl) (he : starEach [e] X.env = (false, eval e X.env) :: starEach [] X.env := by rfl) : GE X c W (.Call (.Name "tuple" p1) [e] [] pos) (eN oTupL (eAll [m])) :=
  g_callTy older_rel call_tuple_of s_tupL hg B.tuple PyProof.Rows.boot_tuple (gw_cons ha gw_nil he) (he := he)
theorem s_lstL : CallS K c relF (fun xs H Q => ∃ p ys, xs = [.ref p] ∧ (SqL K H p ys ∨ SqT K H p ys) ∧ ∀ l, H l = none → Q (.ref l) (upd H l (.lst ys))) oLstL := by
  intro θ F H s xs vs d Q r hx e k
  unfold oLstL at e
  split at e
  · obtain ⟨v, rfl, hv⟩ := one_of hx
    split at e
    · rename_i ys ex
      cases e
      obtain ⟨a, vs, rfl, h1, q1⟩ := view_lst r hv ex
      exact ⟨a, vs, rfl, .inl h1, fun p hp => new_lst r q1 hp k⟩
    · rename_i ys ex
      cases e
      obtain ⟨a, vs, rfl, h1, q1, f⟩ := view_tup r hv ex
      exact ⟨a, vs, rfl, .inr h1, fun p hp => new_lst r q1 hp k⟩
    · cases e
  · cases e
theorem g_lstc {m : EM D} (B : Blt X.mg) (ha : GV X c W e m) (hg : Gl X "list" := by rfl) (he : starEach [e] X.env = (false, eval e X.env) :: starEach [] X.env := by rfl) : GF X c W (.Call (.Name "list" p1) [e] [] pos) (eN oLstL (eAll [m])) :=
  g_callTy older_relF call_list_of s_lstL hg B.list PyProof.Rows.boot_list (gw_cons ha gw_nil he) (he := he)

/-! ### isinstance -/
def Ty.nm : Ty → String
  | .int => "int" | .bool => "bool" | .str => "str" | .tuple => "tuple" | .list => "list"
theorem isa_kit {θ : List Addr} {F Hs H : Hp} {s : S} {d : D} {v : V} {t : Ty} {b : Bool} (r : RS K c θ F H s) (h : relW K θ F Hs H d v) (e : d.isa t = some b) : ∃ ty, TyX K H v (.type ty) ∧ kitB ty t.nm = some b := by
  rcases h with h | ⟨o, a, e1, e2, q, _⟩
  · cases h with
    | non => exact ⟨"NoneType", .base .non, by cases t <;> (cases e; decide +kernel)⟩
    | bl x => exact ⟨"bool", .base (.bl x), by cases t <;> (cases e; decide +kernel)⟩
    | int i => exact ⟨"int", .base (.int i), by cases t <;> (cases e; decide +kernel)⟩
    | str x => exact ⟨"str", .base (.str x), by cases t <;> (cases e; decide +kernel)⟩
    | tup g _ => exact ⟨"tuple", .base (.tup (r.sub _ _ g)), by cases t <;> (cases e; decide +kernel)⟩
    | lst g _ =>
      refine ⟨"list", ?_, by cases t <;> (cases e; decide +kernel)⟩
      rcases g with g | ⟨o, its, n, hk, hc, _⟩
      · rcases g with g | ⟨o, g⟩
        · exact .base (.lst (r.sub _ _ g))
        · exact .base (.frz (r.sub _ _ g))
      · exact .kList hk hc
    | dK g _ => exact ⟨"dict", .fDict (r.sub _ _ g), by cases t <;> (cases e; decide +kernel)⟩
    | dT g _ => cases t <;> cases e
    | ref _ => cases t <;> cases e
  · subst e1 e2
    cases o with
    | lst xs =>
      obtain ⟨vs, e3, _⟩ := q
      exact ⟨"list", .base (.lst e3), by cases t <;> (cases e; decide +kernel)⟩
    | dct k kvs =>
      cases k with
      | false =>
        obtain ⟨vs, e3, _⟩ := q
        exact ⟨"dict", .base (.dK e3), by cases t <;> (cases e; decide +kernel)⟩
      | true =>
        cases t <;> cases e
theorem g_isa {m : EM D} {x : Str} {p2 : Pos} (t : Ty) (B : Blt X.mg) (ha : GV X c W a m) (hm : X.mg x = none) (hv : bootBuiltins x = some (.type t.nm)) (hg : Gl X "isinstance" := by rfl) (hgx : Gl X x := by rfl) (hn : x ≠ "__name__" := by decide) (hd : (x == ("__debug__" : Str)) = false := by decide)
    (h1 : starEach [a, .Name x p2] X.env = (false, eval a X.env) :: starEach [.Name x p2] X.env := by rfl) (h2 : starEach [.Name x p2] X.env = (false, eval (.Name x p2) X.env) :: starEach [] X.env := by rfl) (hpl : (backTo pos (starEach [.Name x p2] X.env)).any (·.1) = false := by rfl) :
    GE X c W (.Call (.Name "isinstance" p1) [a, .Name x p2] [] pos) (e1 (oIsa t) m) :=
  pe_imp (pe_callB call_isi hg B.isi PyProof.Rows.boot_isinstance (pa_cons ha (pa_cons (pe_bltn (v := .ty t.nm) hgx hm hv rfl hn hd) pa_nil h2) h1) (he := h1) (hpl := hpl)) fun σ H Q ⟨l, s, θ, F, H0, r1, r2, p⟩ => by
    refine rd_bind older_rel r1 r2 p fun d s1 v θ1 F1 H1 _ t1 q1 l1 h1 p1 => ?_
    unfold oIsa at p1
    cases e : d.isa t with
    | none =>
      rw [e] at p1
      exact p1.elim
    | some b =>
      rw [e] at p1
      obtain ⟨ty, h3, h4⟩ := isa_kit q1 h1 e
      exact ⟨v, .ty t.nm, .type ty, .type t.nm, b, rfl, .ty t.nm, h3, kit_ty h4, p1 _ θ1 F1 H1 .refl q1 (.bl b)⟩
theorem boot_bool : bootBuiltins "bool" = some (.type "bool") := by decide +kernel
theorem g_isaInt {m : EM D} {p2 : Pos} (B : Blt X.mg) (ha : GV X c W a m) (hg : Gl X "isinstance" := by rfl) (hgx : Gl X "int" := by rfl)
    (h1 : starEach [a, .Name "int" p2] X.env = (false, eval a X.env) :: starEach [.Name "int" p2] X.env := by rfl) (h2 : starEach [.Name "int" p2] X.env = (false, eval (.Name "int" p2) X.env) :: starEach [] X.env := by rfl) (hpl : (backTo pos (starEach [.Name "int" p2] X.env)).any (·.1) = false := by rfl) :
    GE X c W (.Call (.Name "isinstance" p1) [a, .Name "int" p2] [] pos) (e1 (oIsa .int) m) := g_isa .int B ha B.int_ PyProof.Rows.boot_int hg hgx (by decide) (by decide) h1 h2 hpl
theorem g_isaBool {m : EM D} {p2 : Pos} (B : Blt X.mg) (ha : GV X c W a m) (hg : Gl X "isinstance" := by rfl) (hgx : Gl X "bool" := by rfl)
    (h1 : starEach [a, .Name "bool" p2] X.env = (false, eval a X.env) :: starEach [.Name "bool" p2] X.env := by rfl) (h2 : starEach [.Name "bool" p2] X.env = (false, eval (.Name "bool" p2) X.env) :: starEach [] X.env := by rfl) (hpl : (backTo pos (starEach [.Name "bool" p2] X.env)).any (·.1) = false := by rfl) :
    GE X c W (.Call (.Name "isinstance" p1) [a, .Name "bool" p2] [] pos) (e1 (oIsa .bool) m) := g_isa .bool B ha B.bool_ boot_bool hg hgx (by decide) (by decide) h1 h2 hpl
theorem g_isaStr {m : EM D} {p2 : Pos} (B : Blt X.mg) (ha : GV X c W a m) (hg : Gl X "isinstance" := by rfl) (hgx : Gl X "str" := by rfl)
    (h1 : starEach [a, .Name "str" p2] X.env = (false, eval a X.env) :: starEach [.Name "str" p2] X.env := by rfl) (h2 : starEach [.Name "str" p2] X.env = (false, eval (.Name "str" p2) X.env) :: starEach [] X.env := by rfl) (hpl : (backTo pos (starEach [.Name "str" p2] X.env)).any (·.1) = false := by rfl) :
    GE X c W (.Call (.Name "isinstance" p1) [a, .Name "str" p2] [] pos) (e1 (oIsa .str) m) := g_isa .str B ha B.str_ PyProof.Rows.boot_str hg hgx (by decide) (by decide) h1 h2 hpl
theorem g_isaTup {m : EM D} {p2 : Pos} (B : Blt X.mg) (ha : GV X c W a m) (hg : Gl X "isinstance" := by rfl) (hgx : Gl X "tuple" := by rfl)
    (h1 : starEach [a, .Name "tuple" p2] X.env = (false, eval a X.env) :: starEach [.Name "tuple" p2] X.env := by rfl) (h2 : starEach [.Name "tuple" p2] X.env = (false, eval (.Name "tuple" p2) X.env) :: starEach [] X.env := by rfl) (hpl : (backTo pos (starEach [.Name "tuple" p2] X.env)).any (·.1) = false := by rfl) :
    GE X c W (.Call (.Name "isinstance" p1) [a, .Name "tuple" p2] [] pos) (e1 (oIsa .tuple) m) := g_isa .tuple B ha B.tuple PyProof.Rows.boot_tuple hg hgx (by decide) (by decide) h1 h2 hpl

/-! ### repr -/
def rRepr (K : PySem.W.Frag) : List V → Hp → VK → Prop := fun xs H Q => ∃ x p, xs = [x] ∧ Dp K H x p ∧ p.showable = true ∧ p.hasDict = false ∧ p.depth ≤ 64 ∧ p.shown.length ≤ sizeLine ∧ Q (.str p.shown) H
theorem call_reprD (hu : X.A.units + 70 < cLine) (hg : X.A.guards = some []) : CallR X (.builtin "repr") (rRepr X.K) := by
  intro pins s σ H xs us Q I r h
  obtain ⟨x, p, rfl, hd, hs, hn, hp, hl, q⟩ := h
  obtain ⟨u, rfl, ru⟩ := vals1 r
  obtain ⟨as, rr⟩ := Dp.reads I p x u hd ru
  have fin : ∀ (h' : Heap) (tok : Tok) (tk : Nat), (∀ b o, s.heap.get? b = some o → h'.get? b = some o) → EP X pins σ Q (.str p.shown tok) { s with heap := h', toks := tk } := fun h' tok tk k => ⟨.str p.shown, H, I.kept k, ⟨tok, rfl⟩, q⟩
  cases hd with
  | non =>
    cases ru
    exact PySem.P.repr_of_none (fin s.heap s.toks _ fun _ _ e => e)
  | bl b =>
    cases ru
    refine PySem.P.repr_of_bool ?_
    have := fin s.heap s.toks (s.toks + 1) fun _ _ e => e
    simpa only [PyData.shown] using this
  | int i =>
    obtain ⟨t, rfl⟩ := ru
    refine PySem.P.repr_of_int (by simpa [PyData.showable] using hs) ?_
    have := fin s.heap s.toks (s.toks + 1) fun _ _ e => e
    simpa only [PyData.shown] using this
  | str z =>
    obtain ⟨t, rfl⟩ := ru
    refine PySem.P.repr_of_str ?_ (by simpa only [PyData.shown] using hl)
    have := fin s.heap s.toks (s.toks + 1) fun _ _ e => e
    simpa only [PyData.shown] using this
  | lst _ _ =>
    cases ru
    exact repr_of_reads' rr hs (PyData.noDict_hsm hn) hg (by omega) (fun _ _ e => e) (fun h' u tk k => fin h' u tk k) hl
  | tup _ _ =>
    cases ru
    exact repr_of_reads' rr hs (PyData.noDict_hsm hn) hg (by omega) (fun _ _ e => e) (fun h' u tk k => fin h' u tk k) hl
theorem s_repr : CallS K c rel (rRepr K) oRepr := by
  intro θ F H s xs vs d Q r hx e k
  unfold oRepr at e
  split at e
  · obtain ⟨v, rfl, hv⟩ := one_of hx
    split at e
    · rename_i p ex
      split at e
      · rename_i h
        cases e
        rw [Bool.and_eq_true, Bool.and_eq_true, Bool.and_eq_true, decide_eq_true_eq, decide_eq_true_eq] at h
        have hnd : p.hasDict = false := by
          have := h.1.1.2
          simpa using this
        exact ⟨v, p, rfl, view_dp r hv ex hnd, h.1.1.1, hnd, h.1.2, big_size h.2, k _ F H .refl r (.str _)⟩
      · cases e
    · cases e
  · cases e
theorem g_repr {m : EM D} (B : Blt X.mg) (hu : X.A.units + 70 < cLine) (hgu : X.A.guards = some []) (ha : GV X c W e m) (hg : Gl X "repr" := by rfl) (he : starEach [e] X.env = (false, eval e X.env) :: starEach [] X.env := by rfl) : GE X c W (.Call (.Name "repr" p1) [e] [] pos) (eN oRepr (eAll [m])) :=
  g_callB older_rel (call_reprD hu hgu) s_repr hg B.repr PyProof.Rows.boot_repr (gw_cons ha gw_nil he) (he := he)
end
end Wd
set_option Elab.async false
set_option linter.all false
set_option maxRecDepth 100000
set_option autoImplicit false
/-! Wd6: statements. -/
namespace Wd
open PySem PySem.Spec PyProof.Rows L2
section
variable {K : PySem.W.Frag} {c : Cc} {W : WX} {θ θ0 θ1 : List Addr} {F F0 F1 H H0 H1 : Hp} {s : S} {l : Env} {σ : L2.St} {α β : Type}
/-- a part of a statement, then what follows -/
theorem rs_bind {q : RT α β} {m : EM α} {f : α → S → R} {Q : β → Hp → Prop} {D : Ends} (t0 : Step θ0 F0 H0 θ F H) (rS : RS K c θ F H s) (rL : RL K c θ F H H0 l σ)
    (p : PostS K c θ0 F0 H0 θ F ((m l s).toR l f) D W)
    (h : ∀ a s1 v θ1 F1 H1, m l s = .ok a s1 → Step θ0 F0 H0 θ1 F1 H1 → Step θ F H θ1 F1 H1 → RS K c θ1 F1 H1 s1 → RL K c θ1 F1 H1 H0 l σ → q K θ1 F1 H H1 a v → PostS K c θ0 F0 H0 θ1 F1 (f a s1) D W → Q v H1) :
    rd K c W q m σ H Q := by
  refine ⟨l, s, θ, F, H0, rS, rL, ?_⟩
  cases e : m l s with
  | ok a s1 =>
    rw [e] at p
    exact fun v θ1 F1 H1 t r h1 => h a s1 v θ1 F1 H1 e (t0.trans t) t r (rL.step t) h1 (PostS.grow p t.grow)
  | exc x s1 =>
    rw [e] at p
    exact fun cls dx θ1 F1 H1 t r h1 => p cls dx σ θ1 F1 H1 (t0.trans t) t.grow r (rL.step t) h1
  | bad =>
    rw [e] at p
    exact p.elim
/-- a slot is set -/
theorem RL.set {i : Nat} {d : D} {v : V} (r : RL K c θ F H H0 l σ) (h : Rel K θ F d v) (hp : ∀ p ∈ c.pin, p.1 ≠ i) : RL K c θ F H H0 (l.set i (some (.val d))) (σ.set i (some v)) := by
  refine ⟨fun j d' e => ?_, fun j o e => ?_, fun p hp' => by rw [List.getElem?_set_ne (Ne.symm (hp p hp'))]; exact r.pin p hp', by rw [List.length_set, List.length_set]; exact r.len⟩
  · by_cases hj : i = j
    · subst hj
      by_cases hl : i < l.length
      · rw [List.getElem?_set_self hl] at e
        cases e
        exact ⟨v, by rw [List.getElem?_set_self (by rw [← r.len]; exact hl)], h⟩
      · rw [List.getElem?_eq_none (by rw [List.length_set]; omega)] at e
        cases e
    · rw [List.getElem?_set_ne hj] at e
      rw [List.getElem?_set_ne hj]
      exact r.loc j d' e
  · by_cases hj : i = j
    · subst hj
      by_cases hl : i < l.length
      · rw [List.getElem?_set_self hl] at e
        cases e
      · rw [List.getElem?_eq_none (by rw [List.length_set]; omega)] at e
        cases e
    · rw [List.getElem?_set_ne hj] at e
      obtain ⟨a, e1, q, n, m, z, u⟩ := r.own j o e
      refine ⟨a, by rw [List.getElem?_set_ne hj]; exact e1, q, n, m, z, fun k o' e2 e3 => ?_⟩
      by_cases hk : i = k
      · subst hk
        by_cases hl : i < l.length
        · rw [List.getElem?_set_self hl] at e2
          cases e2
        · rw [List.getElem?_eq_none (by rw [List.length_set]; omega)] at e2
          cases e2
      · rw [List.getElem?_set_ne hk] at e2 e3
        exact u k o' e2 e3
/-- a slot gets its own -/
theorem RL.setO {i : Nat} {o : O} {a : Addr} (r : RL K c θ F H H0 l σ) (h : RelO K θ F o (H a)) (hF : F a = none) (hm : a ∉ θ) (h0 : H0 a = none) (hu : ∀ (j : Nat) (o' : O), j ≠ i → l[j]? = some (some (Slot.own o')) → σ[j]? ≠ some (some (.ref a))) (hp : ∀ p ∈ c.pin, p.1 ≠ i) :
    RL K c θ F H H0 (l.set i (some (.own o))) (σ.set i (some (.ref a))) := by
  refine ⟨fun j d' e => ?_, fun j o1 e => ?_, fun p hp' => by rw [List.getElem?_set_ne (Ne.symm (hp p hp'))]; exact r.pin p hp', by rw [List.length_set, List.length_set]; exact r.len⟩
  · by_cases hj : i = j
    · subst hj
      by_cases hl : i < l.length
      · rw [List.getElem?_set_self hl] at e
        cases e
      · rw [List.getElem?_eq_none (by rw [List.length_set]; omega)] at e
        cases e
    · rw [List.getElem?_set_ne hj] at e
      rw [List.getElem?_set_ne hj]
      exact r.loc j d' e
  · by_cases hj : i = j
    · subst hj
      by_cases hl : i < l.length
      · rw [List.getElem?_set_self hl] at e
        cases e
        refine ⟨a, by rw [List.getElem?_set_self (by rw [← r.len]; exact hl)], h, hF, hm, h0, fun k o' e2 e3 => ?_⟩
        by_cases hk : i = k
        · exact hk.symm
        · rw [List.getElem?_set_ne hk] at e2 e3
          exact absurd e3 (hu k o' (Ne.symm hk) e2)
      · rw [List.getElem?_eq_none (by rw [List.length_set]; omega)] at e
        cases e
    · rw [List.getElem?_set_ne hj] at e
      obtain ⟨b, e1, q, n, m, z, u⟩ := r.own j o1 e
      refine ⟨b, by rw [List.getElem?_set_ne hj]; exact e1, q, n, m, z, fun k o' e2 e3 => ?_⟩
      by_cases hk : i = k
      · subst hk
        by_cases hl : i < l.length
        · rw [List.getElem?_set_self (by rw [← r.len]; exact hl)] at e3
          cases e3
          exact absurd e1 (hu j o1 (Ne.symm hj) e)
        · rw [List.getElem?_eq_none (by rw [List.length_set]; omega)] at e2
          cases e2
      · rw [List.getElem?_set_ne hk] at e2 e3
        exact u k o' e2 e3
/-- a new address is no slot's own -/
theorem RL.newO (r : RL K c θ F H H0 l σ) {a : Addr} (h : H a = none) : ∀ (j : Nat) (o' : O), l[j]? = some (some (Slot.own o')) → σ[j]? ≠ some (some (.ref a)) := fun j o' e e2 => by
  obtain ⟨b, e1, q, _⟩ := r.own j o' e
  rw [e2] at e1
  cases e1
  obtain ⟨ho, e3, _⟩ := q.there
  rw [h] at e3
  cases e3
end
section
variable {X : Cx} {c : Cc} {W : WX} {pos p1 : Pos} {a b e : Expr} {es : List Expr} {st : Stmt} {sts : List Stmt} {x : Str}
theorem g_nop : GB X c W [] sPass := pss_imp pss_nil fun D σ H ⟨l, s, θ, F, θ0, F0, H0, t0, r1, r2, p⟩ => p σ θ F H t0 .refl r1 r2
theorem g_seq {m n : SM} (h : GS X c W st m) (hr : GB X c W sts n) : GB X c W (st :: sts) (sSeq m n) := pss_imp (pss_cons h hr) fun D σ H ⟨l, s, θ, F, θ0, F0, H0, t0, r1, r2, p⟩ => by
  refine ⟨l, s, θ, F, θ0, F0, H0, t0, r1, r2, ?_⟩
  unfold sSeq at p
  cases e : m l s with
  | nx l' s' =>
    rw [e] at p
    exact fun σ' θ' F' H' t g rS rL => ⟨l', s', θ', F', θ0, F0, H0, t, rS, rL, PostS.grow p g⟩
  | rt d s' =>
    rw [e] at p
    exact p
  | bk l' s' =>
    rw [e] at p
    exact p
  | ct l' s' =>
    rw [e] at p
    exact p
  | ex x l' s' =>
    rw [e] at p
    exact p
  | bad =>
    rw [e] at p
    exact p
theorem g_one {m : SM} (h : GS X c W st m) : GB X c W [st] m := pss_one h
theorem g_pass : GS X c W (.Pass pos) sPass := ps_imp ps_pass fun D σ H ⟨l, s, θ, F, θ0, F0, H0, t0, r1, r2, p⟩ => p σ θ F H t0 .refl r1 r2
theorem g_break : GS X c W (.Break pos) sBreak := ps_imp ps_break fun D σ H ⟨l, s, θ, F, θ0, F0, H0, t0, r1, r2, p⟩ => p σ θ F H t0 .refl r1 r2
theorem g_cont : GS X c W (.Continue pos) sCont := ps_imp ps_continue fun D σ H ⟨l, s, θ, F, θ0, F0, H0, t0, r1, r2, p⟩ => p σ θ F H t0 .refl r1 r2
theorem g_asg (i : Nat) {m : EM D} (h : GE X c W e m) (hN : X.N.Nodup) (hi : X.N[i]? = some x := by rfl) (hx : Loc X.env.scope x := by first | exact Or.inl rfl | exact Or.inr rfl) (hp : ∀ p ∈ c.pin, p.1 ≠ i := by first | (intro p hp; exact nomatch hp) | decide)
    (hf : X.fn x = true ∨ X.env.scope.names.lookup x = some .local := by first | exact .inl rfl | exact .inr rfl) (hs : swapsWithSole [.Name x p1] e pos.line X.env = pure false := by rfl) (hw : swappedStores [.Name x p1] e X.env = pure none := by rfl)
    (h1 : (assignEach [.Name x p1] X.env).map (·.2) = [assign (.Name x p1) X.env] := by rfl) : GS X c W (.Assign [.Name x p1] e pos) (sAsg i m) :=
  ps_imp (ps_asg h (pg_name hN hi hx hf) hs hw h1) fun D σ H ⟨l, s, θ, F, θ0, F0, H0, t0, r1, r2, p⟩ => by
    refine rs_bind t0 r1 r2 p fun d s1 v θ1 F1 H1 _ t1 _ q1 l1 h1 p1 => ?_
    exact p1 _ θ1 F1 H1 t1 .refl q1 (l1.set h1 hp)
theorem own_d {d : D} {o o' : O} (e : d = o'.d) (h : d.own? = some o) : o = o' := by
  subst e
  cases o' <;> cases h <;> rfl
theorem g_own (i : Nat) {m : EM D} (h : GF X c W e m) (hN : X.N.Nodup) (hi : X.N[i]? = some x := by rfl) (hx : Loc X.env.scope x := by first | exact Or.inl rfl | exact Or.inr rfl) (hp : ∀ p ∈ c.pin, p.1 ≠ i := by first | (intro p hp; exact nomatch hp) | decide)
    (hf : X.fn x = true ∨ X.env.scope.names.lookup x = some .local := by first | exact .inl rfl | exact .inr rfl) (hs : swapsWithSole [.Name x p1] e pos.line X.env = pure false := by rfl) (hw : swappedStores [.Name x p1] e X.env = pure none := by rfl)
    (h1 : (assignEach [.Name x p1] X.env).map (·.2) = [assign (.Name x p1) X.env] := by rfl) : GS X c W (.Assign [.Name x p1] e pos) (sOwn i m) :=
  ps_imp (ps_asg h (pg_name hN hi hx hf) hs hw h1) fun D σ H ⟨l, s, θ, F, θ0, F0, H0, t0, r1, r2, p⟩ => by
    refine rs_bind t0 r1 r2 p fun d s1 v θ1 F1 H1 _ t1 tt q1 l1 h1 p1 => ?_
    obtain ⟨o, ad, e1, rfl, ro, n, f, z⟩ := h1
    cases eo : d.own? with
    | none =>
      rw [eo] at p1
      exact p1.elim
    | some o' =>
      rw [eo] at p1
      have := own_d e1 eo
      subst this
      exact p1 _ θ1 F1 H1 t1 .refl q1 (l1.setO ro f n (t0.fresh z) (fun j o' _ e2 => fun e3 => r2.newO z j o' e2 e3) hp)
theorem g_ret {m : EM D} (h : GE X c W e m) : GS X c W (.Return (some e) pos) (sRet m) := ps_imp (ps_ret h) fun D σ H ⟨l, s, θ, F, θ0, F0, H0, t0, r1, r2, p⟩ => by
  refine rs_bind t0 r1 r2 p fun d s1 v θ1 F1 H1 _ t1 _ q1 l1 h1 p1 => ?_
  exact p1 v θ1 F1 H1 t1 .refl q1 h1
theorem g_retN : GS X c W (.Return none pos) (sRet (eC .non)) := ps_imp ps_retN fun D σ H ⟨l, s, θ, F, θ0, F0, H0, t0, r1, r2, p⟩ => p .non θ F H t0 .refl r1 .non
/-- frozen behind the entry: a slot's own -/
theorem frz_step {K : PySem.W.Frag} {θ θ0 : List Addr} {F F0 H H0 : Hp} {s : S} {a : Addr} {ho : HO} (t0 : Step θ0 F0 H0 θ F H) (h : H a = some ho) (hF : F a = none) (h0 : H0 a = none) : Step θ0 F0 H0 θ (upd F a ho) H :=
  ⟨t0.pre, t0.frz.trans (Le.new hF), fun b u e n nt nu => by rw [upd_ne (ne_of_none e h0)]; exact t0.new b u e n nt nu, t0.keep, t0.dom⟩
theorem g_retO (i : Nat) (hf : c.Free := by exact fun _ _ _ => trivial) (hN : X.N[i]? = some x := by rfl) (hv : Vis X.env.scope x := by first | exact Or.inl rfl | exact Or.inr (Or.inl rfl) | exact Or.inr (Or.inr rfl)) (hd : (x == ("__debug__" : Str)) = false := by decide)
    (hcd : (x == ("__classdict__" : Str)) = false := by decide) : GS X c W (.Return (some (.Name x p1)) pos) (sRetO i) := ps_imp (ps_ret (pe_lock (pe_var hN hv hd hcd))) fun D σ H ⟨l, s, θ, F, θ0, F0, H0, t0, r1, r2, p⟩ => by
  unfold sRetO at p
  split at p
  · rename_i o e
    obtain ⟨ad, e1, q, n, m, z, _⟩ := r2.own i o e
    obtain ⟨ho, e2, nt⟩ := q.there
    have np := q.plain
    have mu := q.mut
    rw [e2] at q np mu
    refine ⟨.ref ad, e1, .inr ⟨ad, ho, e2, mu, fun od => p _ θ (upd F ad (.frz od ho)) (upd H ad (.frz od ho)) (t0.lock n z) ⟨⟨[], by simp⟩, Le.new n⟩ (r1.lock e2 m n ⟨fun ps z => np.1 ps (by rw [z]), fun φ z => np.2 φ (by rw [z])⟩ (hf _ _ _)) (RelO.relL (ho := ho) (od := od) ?_ upd_same)⟩⟩
    have := q.mono (t := []) (Le.new (o := HO.frz od ho) n)
    rw [List.append_nil] at this
    exact this
  · rename_i d e
    obtain ⟨v, e1, q⟩ := r2.loc i d e
    exact ⟨v, e1, .inl (p v θ F H t0 .refl r1 q)⟩
  · exact p.elim
theorem g_ifS {ce : Expr} {bs cs : List Stmt} {m : EM Bool} {n1 n2 : SM} (h : GT X c W ce m) (h1 : GB X c W bs n1) (h2 : GB X c W cs n2) : GS X c W (.If ce bs cs pos) (sIf m n1 n2) := ps_imp (ps_if h h1 h2) fun D σ H ⟨l, s, θ, F, θ0, F0, H0, t0, r1, r2, p⟩ => by
  refine rs_bind t0 r1 r2 p fun d s1 v θ1 F1 H1 _ t1 _ q1 l1 h1 p1 => ?_
  cases h1
  cases d with
  | true => exact ⟨l, s1, θ1, F1, θ0, F0, H0, t1, q1, l1, p1⟩
  | false => exact ⟨l, s1, θ1, F1, θ0, F0, H0, t1, q1, l1, p1⟩
theorem g_expr {m : EM D} (h : GE X c W e m) (hs : swapsWith e none pos.line X.env = pure false := by rfl) : GS X c W (.Expr e pos) (sExpr m) := ps_imp (ps_expr h hs) fun D σ H ⟨l, s, θ, F, θ0, F0, H0, t0, r1, r2, p⟩ => by
  refine rs_bind t0 r1 r2 p fun d s1 v θ1 F1 H1 _ t1 _ q1 l1 h1 p1 => ?_
  exact p1 _ θ1 F1 H1 t1 .refl q1 l1
/-- a slot's own is changed -/
theorem own_put (hf : c.Free) {K : PySem.W.Frag} {θ θ0 : List Addr} {F F0 H H0 : Hp} {s : S} {l : Env} {σ : L2.St} {i : Nat} {o o' : O} {a : Addr} {ho : HO} (t0 : Step θ0 F0 H0 θ F H) (r1 : RS K c θ F H s) (r2 : RL K c θ F H H0 l σ) (e : l[i]? = some (some (Slot.own o))) (ea : σ[i]? = some (some (.ref a)))
    (h : RelO K θ F o' (some ho)) : Step θ0 F0 H0 θ F (upd H a ho) ∧ RS K c θ F (upd H a ho) s ∧ RL K c θ F (upd H a ho) H0 (l.set i (some (.own o'))) σ := by
  obtain ⟨a', e1, q, n, m, z, u⟩ := r2.own i o e
  rw [ea] at e1
  cases e1
  obtain ⟨h1, e2, nt⟩ := q.there
  have hA : ∀ b, H b ≠ none → upd H a ho b ≠ none := fun b hb => by
    by_cases hba : b = a
    · subst hba
      rw [upd_same]
      exact fun z => nomatch z
    · rw [upd_ne hba]
      exact hb
  refine ⟨⟨t0.pre, t0.frz, t0.new, fun b u e n q => ?_, fun b hb => hA b (t0.dom b hb)⟩, ⟨fun b u e => ?_, r1.len, r1.inj, fun k ob e => ?_, fun p hp => ?_, r1.fz, r1.ntb, hf _ _ _⟩, fun j d ej => ?_, fun j o1 ej => ?_, r2.pin, by rw [List.length_set]; exact r2.len⟩
  · rw [upd_ne (ne_of_none e z)]
    exact t0.keep b u e n q
  · rw [upd_ne (ne_of_none e n)]
    exact r1.sub b u e
  · obtain ⟨b, e3, q3, n3⟩ := r1.st k ob e
    refine ⟨b, e3, ?_, n3⟩
    rw [upd_ne (fun z => m (by rw [← z]; exact List.mem_of_getElem? e3))]
    exact q3
  · obtain ⟨ps, h2, h3, h4⟩ := r1.tabs p hp
    have na : ∀ b u, H b = some u → (∀ vs, u ≠ .lst vs) → (∀ vs, u ≠ .dK vs) → (∀ vs, u ≠ .dT vs) → b ≠ a := fun b u e n1 n2 n3 z => by
      rw [z, e2] at e
      cases e
      cases o with
      | lst _ =>
        obtain ⟨vs, e5, _⟩ := q
        rw [e2] at e5
        cases e5
        exact n1 _ rfl
      | dct t _ =>
        cases t with
        | false =>
          obtain ⟨vs, e5, _⟩ := q
          rw [e2] at e5
          cases e5
          exact n2 _ rfl
        | true =>
          obtain ⟨vs, e5, _⟩ := q
          rw [e2] at e5
          cases e5
          exact n3 _ rfl
    refine ⟨ps, by rw [upd_ne (na _ _ h2 (fun _ z => nomatch z) (fun _ z => nomatch z) (fun _ z => nomatch z))]; exact h2, h3, fun pos cv hc => ?_⟩
    obtain ⟨cc, e5, e6⟩ := h4 pos cv hc
    refine ⟨cc, e5, ?_⟩
    rw [upd_ne (na _ _ e6 (fun _ z => by unfold LamX.CodeO at z; cases z) (fun _ z => by unfold LamX.CodeO at z; cases z) (fun _ z => by unfold LamX.CodeO at z; cases z))]
    exact e6
  · by_cases hj : i = j
    · subst hj
      by_cases hl : i < l.length
      · rw [List.getElem?_set_self hl] at ej
        cases ej
      · rw [List.getElem?_eq_none (by rw [List.length_set]; omega)] at ej
        cases ej
    · rw [List.getElem?_set_ne hj] at ej
      exact r2.loc j d ej
  · by_cases hj : i = j
    · subst hj
      by_cases hl : i < l.length
      · rw [List.getElem?_set_self hl] at ej
        cases ej
        refine ⟨a, ea, by rw [upd_same]; exact h, n, m, z, fun k o2 e3 e4 => ?_⟩
        by_cases hk : i = k
        · exact hk.symm
        · rw [List.getElem?_set_ne hk] at e3
          exact u k o2 e3 e4
      · rw [List.getElem?_eq_none (by rw [List.length_set]; omega)] at ej
        cases ej
    · rw [List.getElem?_set_ne hj] at ej
      obtain ⟨b, e3, q3, n3, m3, z3, u3⟩ := r2.own j o1 ej
      have hb : b ≠ a := fun zz => hj (by rw [zz] at e3; exact (u j o1 ej e3).symm)
      refine ⟨b, e3, by rw [upd_ne hb]; exact q3, n3, m3, z3, fun k o2 e4 e5 => ?_⟩
      by_cases hk : i = k
      · subst hk
        rw [ea] at e5
        cases e5
        exact absurd rfl hb
      · rw [List.getElem?_set_ne hk] at e4
        exact u3 k o2 e4 e5
theorem big_lt {n : Nat} (h : n < big) : n < sizeLine := Nat.lt_of_lt_of_le h (by rw [sizeLine_eq]; decide)
theorem g_app (i : Nat) {m : EM D} {apos cpos np : Pos} (h : GE X c W e m) (hf : c.Free := by exact fun _ _ _ => trivial) (hN : X.N[i]? = some x := by rfl) (hv : Vis X.env.scope x := by first | exact Or.inl rfl | exact Or.inr (Or.inl rfl) | exact Or.inr (Or.inr rfl)) (hd : (x == ("__debug__" : Str)) = false := by decide)
    (hcd : (x == ("__classdict__" : Str)) = false := by decide) (hbase : attributeBase (.Name x np) "append" X.env (eval (.Name x np) X.env) = eval (.Name x np) X.env := by rfl)
    (hfew : ((backTo cpos (starEach [e] X.env)).all (fun x => !x.1) && (backToKw cpos (keywordEach [] X.env)).all (fun x => x.1.isSome) && decide ([e].length + ([] : List Keyword).length + (if ([] : List Keyword).isEmpty then 0 else 1) < 30)) = true := by rfl)
    (hline : (apos.endLine == cpos.line) = true := by rfl) (hst : starEach [e] X.env = (false, eval e X.env) :: starEach [] X.env := by rfl) (hplain : (backTo cpos (starEach [] X.env)).any (·.1) = false := by rfl)
    (hs : swapsWith (.Call (.Attribute (.Name x np) "append" apos) [e] [] cpos) none pos.line X.env = pure false := by rfl) :
    GS X c W (.Expr (.Call (.Attribute (.Name x np) "append" apos) [e] [] cpos) pos) (sApp i m) :=
  ps_imp (ps_expr (pe_bm PySem.F.plainAttrs_list PySem.F.slot_list_append PySem.F.type_list_append mt_append (pe_var hN hv hd hcd) (pa_cons h pa_nil hst) hbase hfew hline hst hplain) hs) fun D σ H ⟨l, s, θ, F, θ0, F0, H0, t0, r1, r2, p⟩ => by
    unfold sApp at p
    split at p
    · rename_i xs el
      obtain ⟨ad, e1, ⟨vs, e2, q⟩, n, m', z, u⟩ := r2.own i _ el
      refine ⟨.ref ad, e1, .inl ⟨rfl, vs, SqL.of e2⟩, ?_⟩
      refine rs_bind t0 r1 r2 p fun d s1 v θ1 F1 H1 _ t1 tt q1 l1 h1 p1 => ?_
      split at p1
      · rename_i hl
        have e3 : H1 ad = some (.lst vs) := tt.keep ad _ e2 m' fun _ z => nomatch z
        have q' : Rels X.K θ1 F1 xs vs := by
          obtain ⟨tl, rfl, _⟩ := tt.pre
          exact q.mono tt.frz
        refine ⟨ad, vs, v, rfl, rfl, e3, by rw [← q.length]; exact big_lt hl, ?_⟩
        have := own_put hf (K := X.K) (o' := .lst (xs ++ [d])) (ho := .lst (vs ++ [v])) t1 q1 l1 el e1 ⟨_, rfl, q'.append (.cons h1 .nil)⟩
        exact p1 σ θ1 F1 _ this.1 .refl this.2.1 this.2.2
      · exact p1.elim
    · exact p.elim
/-- ahead of a statement something may be locked -/
def tLk (t : TS) : TS := fun D σ H => t D σ H ∨ ∃ d u, H d = some u ∧ Mut (some u) ∧ ∀ od, t D σ (upd H d (.frz od u))
theorem ps_lock {X : Cx} {st : Stmt} {t : TS} (h : PS X st t) : PS X st (tLk t) := ⟨fun pins s σ H D I q => by
  rcases q with q | ⟨d, u, hd, mu, q⟩
  · exact h.run pins s σ H D I q
  · obtain ⟨od, I2⟩ := I.lock hd mu
    exact h.run pins s σ _ D I2 (q od)⟩
theorem pss_lock {X : Cx} {st : List Stmt} {t : TS} (h : PSs X st t) : PSs X st (tLk t) := ⟨fun pins s σ H D I q => by
  rcases q with q | ⟨d, u, hd, mu, q⟩
  · exact h.run pins s σ H D I q
  · obtain ⟨od, I2⟩ := I.lock hd mu
    exact h.run pins s σ _ D I2 (q od)⟩
/-- nobody changes it any more, from this statement on -/
theorem frz_rs (hf : c.Free) {K : PySem.W.Frag} {m : SM} {i : Nat} : ∀ D σ H, rs K c W (sSeq (sFrz i) m) D σ H → tLk (rs K c W m) D σ H := fun D σ H ⟨l, s, θ, F, θ0, F0, H0, t0, r1, r2, p⟩ => by
  cases el : l[i]? with
  | none =>
    simp only [sSeq, sFrz, el] at p
    exact p.elim
  | some os =>
    cases os with
    | none =>
      simp only [sSeq, sFrz, el] at p
      exact p.elim
    | some sl =>
    cases sl with
    | val d =>
      simp only [sSeq, sFrz, el] at p
      exact .inl ⟨l, s, θ, F, θ0, F0, H0, t0, r1, r2, p⟩
    | own o =>
      simp only [sSeq, sFrz, el] at p
      obtain ⟨ad, e1, q, n, m', z, u⟩ := r2.own i o el
      obtain ⟨ho, e2, nt⟩ := q.there
      have np := q.plain
      have mu := q.mut
      rw [e2] at q np mu
      refine .inr ⟨ad, ho, e2, mu, fun od => ?_⟩
      have q' : Rel K θ (upd F ad (.frz od ho)) o.d (.ref ad) := RelO.relL (ho := ho) (od := od) (by
        have := q.mono (t := []) (Le.new (o := HO.frz od ho) n)
        rw [List.append_nil] at this
        exact this) upd_same
      refine ⟨_, s, θ, upd F ad (.frz od ho), θ0, F0, H0, t0.lock n z, r1.lock e2 m' n ⟨fun ps z => np.1 ps (by rw [z]), fun φ z => np.2 φ (by rw [z])⟩ (hf _ _ _), ⟨fun j d ej => ?_, fun j o1 ej => ?_, r2.pin, by rw [List.length_set]; exact r2.len⟩, PostS.grow p ⟨⟨[], by simp⟩, Le.new n⟩⟩
      · by_cases hj : i = j
        · subst hj
          by_cases hl : i < l.length
          · rw [List.getElem?_set_self hl] at ej
            cases ej
            exact ⟨.ref ad, e1, q'⟩
          · rw [List.getElem?_eq_none (by rw [List.length_set]; omega)] at ej
            cases ej
        · rw [List.getElem?_set_ne hj] at ej
          obtain ⟨v, e3, q3⟩ := r2.loc j d ej
          exact ⟨v, e3, rel_same (Le.new n) q3⟩
      · by_cases hj : i = j
        · subst hj
          by_cases hl : i < l.length
          · rw [List.getElem?_set_self hl] at ej
            cases ej
          · rw [List.getElem?_eq_none (by rw [List.length_set]; omega)] at ej
            cases ej
        · rw [List.getElem?_set_ne hj] at ej
          obtain ⟨b, e3, q3, n3, m3, z3, u3⟩ := r2.own j o1 ej
          have hb : b ≠ ad := fun zz => hj (by rw [zz] at e3; exact (u j o1 ej e3).symm)
          refine ⟨b, e3, ?_, by rw [upd_ne hb]; exact n3, m3, z3, fun k o2 e4 e5 => ?_⟩
          · rw [upd_ne hb]
            have := q3.mono (t := []) (Le.new (o := HO.frz od ho) n)
            rw [List.append_nil] at this
            exact this
          · by_cases hk : i = k
            · subst hk
              rw [e1] at e5
              cases e5
              exact absurd rfl hb
            · rw [List.getElem?_set_ne hk] at e4
              exact u3 k o2 e4 e5
theorem g_frz (i : Nat) {m : SM} (h : GS X c W st m) (hf : c.Free := by exact fun _ _ _ => trivial) : GS X c W st (sSeq (sFrz i) m) := ps_imp (ps_lock h) (frz_rs hf)
theorem g_frzB (i : Nat) {m : SM} (h : GB X c W sts m) (hf : c.Free := by exact fun _ _ _ => trivial) : GB X c W sts (sSeq (sFrz i) m) := pss_imp (pss_lock h) (frz_rs hf)
end
end Wd
set_option Elab.async false
set_option linter.all false
set_option maxRecDepth 100000
set_option autoImplicit false
/-! Wd7: loops, comprehensions. -/
namespace Wd
open PySem PySem.Spec PyProof.Rows L2
/-! ### what is walked -/
def Walk (K : PySem.W.Frag) (c : Cc) (θ : List Addr) (F : Hp) (J : It) (ds : List D) : Prop := ∀ θ2 F2 H2 s2, (∃ t, θ2 = θ ++ t) → Le F F2 → RS K c θ2 F2 H2 s2 →
  (∀ (i : Nat) (d : D), ds[i]? = some d → J.go i H2 ∧ ∀ x H', J.yld i H2 x H' → ∃ F', Step θ2 F2 H2 θ2 F' H' ∧ RS K c θ2 F' H' s2 ∧ Rel K θ2 F' d x) ∧ J.stop ds.length H2
def relI (c : Cc) : RT (List D) It := fun K θ F _ _ ds J => Walk K c θ F J ds
theorem older_relI {c : Cc} : Older (relI c) := fun _ _ _ _ _ _ _ _ _ h => h
abbrev GI (X : Cx) (c : Cc) (W : WX) (tg e : Expr) (m : EM (List D)) : Prop := PI X tg e (rd X.K c W (relI c) m)
theorem pi_imp {X : Cx} {tg e : Expr} {t t' : TI} (h : PI X tg e t) (i : ∀ σ H Q, t' σ H Q → t σ H Q) : PI X tg e t' := ⟨fun pins s σ H Q I q => h.run pins s σ H Q I (i σ H Q q)⟩
section
variable {X : Cx} {c : Cc} {W : WX} {pos p1 : Pos} {a b e tg : Expr} {es : List Expr} {K : PySem.W.Frag}
def iSeqA (K : PySem.W.Frag) (tl : TE) : TI := fun σ H R => tl σ H fun x H1 => ∃ a, x = .ref a ∧ (((∃ xs, SqL K H1 a xs) ∧ R (Itl K a) H1) ∨ ((∃ xs, SqT K H1 a xs) ∧ R (Itt K a) H1))
theorem pi_seqA {tl : TE} (hl : PE X e tl) : PI X tg e (iSeqA X.K tl) := by
  refine ⟨fun pins s σ H R I h => ?_⟩
  refine thn (hl.run pins s σ H _ I h) fun v s1 ⟨x, H1, I1, r1, q1⟩ => ?_
  obtain ⟨a, ex, q1⟩ := q1
  subst ex
  cases r1
  rcases q1 with ⟨⟨xs, hq⟩, q⟩ | ⟨⟨xs, hq⟩, q⟩
  · obtain ⟨its, rv, p, hz⟩ := I1.list hq
    refine wpAny_pyIter_list p.isList ?_
    refine ⟨s1.heap.objs.size, [s1.heap.objs.size], _, _, H1, rfl, I1.kept (t' := s1.toks) fun b o e => Heap.get?_push_of_some _ e, turn_list a _, ⟨_, Heap.get?_push_size _ rfl, rfl, rfl⟩, fun b hb => ?_, q⟩
    have e : b = s1.heap.objs.size := by simpa using hb
    subst e
    exact I1.fpOk (Nat.le_refl _) (I1.hok.fresh (Nat.le_refl _))
  · obtain ⟨its, rv, p, hz⟩ := I1.tuple hq
    refine wpAny_pyIter_tuple (show s1.heap.IsTuple a its.toArray from p) ?_
    refine ⟨s1.heap.objs.size, [s1.heap.objs.size], _, _, H1, rfl, I1.kept (t' := s1.toks) fun b o e => Heap.get?_push_of_some _ e, turn_tuple a _, ⟨_, Heap.get?_push_size _ rfl, rfl, rfl⟩, fun b hb => ?_, q⟩
    have e : b = s1.heap.objs.size := by simpa using hb
    subst e
    exact I1.fpOk (Nat.le_refl _) (I1.hok.fresh (Nat.le_refl _))
theorem walk_tup {θ : List Addr} {F : Hp} {ad : Addr} {xs : List D} {vs : List V} (h : F ad = some (.tup vs)) (r : Rels K θ F xs vs) : Walk K c θ F (Itt K ad) xs := fun θ2 F2 H2 s2 ht hF rS => by
  obtain ⟨t, rfl⟩ := ht
  have r2 : Rels K (θ ++ t) F2 xs vs := r.mono hF
  have hq : SqT K H2 ad vs := SqT.of (rS.sub _ _ (hF _ _ h))
  refine ⟨fun i d e => ?_, vs, hq, by rw [r.length]; exact Nat.le_refl _⟩
  obtain ⟨v, e1, q⟩ := r2.get e
  refine ⟨⟨vs, v, hq, e1⟩, fun x H' y => ?_⟩
  obtain ⟨rfl, y⟩ := y
  have : v = x := Option.some.inj (e1.symm.trans (y vs hq))
  subst this
  exact ⟨F2, .refl, rS, q⟩
theorem walk_lst {θ : List Addr} {F : Hp} {ad : Addr} {xs : List D} {vs : List V} (h : SqL K F ad vs) (r : Rels K θ F xs vs) : Walk K c θ F (Itl K ad) xs := fun θ2 F2 H2 s2 ht hF rS => by
  obtain ⟨t, rfl⟩ := ht
  have r2 : Rels K (θ ++ t) F2 xs vs := r.mono hF
  have hq : SqL K H2 ad vs := rS.sub.l (hF.l h)
  refine ⟨fun i d e => ?_, vs, hq, by rw [r.length]; exact Nat.le_refl _⟩
  obtain ⟨v, e1, q⟩ := r2.get e
  refine ⟨⟨vs, v, hq, e1⟩, fun x H' y => ?_⟩
  obtain ⟨rfl, y⟩ := y
  have : v = x := Option.some.inj (e1.symm.trans (y vs hq))
  subst this
  exact ⟨F2, .refl, rS, q⟩
theorem upto_at : ∀ {n : Nat} {lo : Int} {i : Nat} {d : D}, (upto lo n)[i]? = some d → i < n ∧ d = .int (lo + (i : Int))
  | 0, _, _, _, h => by simp [upto] at h
  | n + 1, lo, 0, d, h => by
    simp [upto] at h
    subst h
    exact ⟨by omega, by simp⟩
  | n + 1, lo, i + 1, d, h => by
    have h' : (upto (lo + 1) n)[i]? = some d := by simpa [upto] using h
    obtain ⟨h1, h2⟩ := upto_at h'
    refine ⟨by omega, ?_⟩
    rw [h2]
    congr 1
    omega
theorem upto_len : ∀ (n : Nat) (lo : Int), (upto lo n).length = n
  | 0, _ => rfl
  | n + 1, lo => by
    show (upto (lo + 1) n).length + 1 = n + 1
    rw [upto_len]
theorem walk_rng {θ : List Addr} {F : Hp} {lo : Int} {n : Nat} : Walk K c θ F (Itr lo n) (upto lo n) := fun θ2 F2 H2 s2 ht hF rS => by
  refine ⟨fun i d e => ?_, by show n ≤ (upto lo n).length; rw [upto_len]; exact Nat.le_refl _⟩
  obtain ⟨h1, rfl⟩ := upto_at e
  refine ⟨h1, fun x H' y => ?_⟩
  obtain ⟨rfl, rfl⟩ := y
  exact ⟨F2, .refl, rS, .int _⟩
theorem g_iter {m : EM D} (h : GE X c W e m) : GI X c W tg e (iSeq m) := pi_imp (pi_seqA h) fun σ H Q ⟨l, s, θ, F, H0, r1, r2, p⟩ => by
  refine rd_bind older_relI r1 r2 p fun x s1 v θ1 F1 H1 _ t1 q1 l1 h1 p1 => ?_
  cases x with
  | tup xs =>
    cases h1 with
    | tup g q => exact ⟨_, rfl, .inr ⟨⟨_, SqT.of (q1.sub _ _ g)⟩, p1 _ θ1 F1 H1 .refl q1 (walk_tup g q)⟩⟩
  | lst xs =>
    cases h1 with
    | lst g q => exact ⟨_, rfl, .inl ⟨⟨_, q1.sub.l g⟩, p1 _ θ1 F1 H1 .refl q1 (walk_lst g q)⟩⟩
  | _ => exact p1.elim
theorem g_range1 {m : EM D} (B : Blt X.mg) (h : GE X c W a m) (hg : Gl X "range" := by rfl) (hs : starEach [a] X.env = [(false, eval a X.env)] := by rfl) : GI X c W tg (.Call (.Name "range" p1) [a] [] pos) (iRange1 m) := pi_imp (pi_range1 hg B.range (pa_cons h pa_nil hs) hs) fun σ H Q ⟨l, s, θ, F, H0, r1, r2, p⟩ => by
  refine rd_bind older_relI r1 r2 p fun x s1 v θ1 F1 H1 _ t1 q1 l1 h1 p1 => ?_
  cases x with
  | int n =>
    cases h1
    dsimp only at p1
    split at p1
    · rename_i hn
      exact ⟨n, rfl, by omega, by omega, p1 _ θ1 F1 H1 .refl q1 walk_rng⟩
    · exact p1.elim
  | _ => exact p1.elim
theorem g_range2 {m n : EM D} (B : Blt X.mg) (h : GE X c W a m) (h' : GE X c W b n) (hg : Gl X "range" := by rfl) (hs : starEach [a, b] X.env = [(false, eval a X.env), (false, eval b X.env)] := by rfl) (hs2 : starEach [b] X.env = [(false, eval b X.env)] := by rfl) :
    GI X c W tg (.Call (.Name "range" p1) [a, b] [] pos) (iRange2 m n) := pi_imp (pi_range2 hg B.range (pa_cons h (pa_cons h' pa_nil hs2) (by rw [hs, hs2])) hs hs2) fun σ H Q ⟨l, s, θ, F, H0, r1, r2, p⟩ => by
  refine rd_bind older_relI r1 r2 p fun x s1 v θ1 F1 H1 _ t1 q1 l1 h1 p1 => ?_
  refine rd_bind older_relI q1 l1 p1 fun y s2 u θ2 F2 H2 _ t2 q2 l2 h2 p2 => ?_
  cases x with
  | int i =>
    cases h1
    cases y with
    | int j =>
      cases h2
      dsimp only at p2
      split at p2
      · rename_i hn
        exact ⟨i, j, rfl, ⟨by omega, by omega, by omega, by omega⟩, p2 _ θ2 F2 H2 .refl q2 walk_rng⟩
      · exact p2.elim
    | _ => exact p2.elim
  | _ => exact p2.elim

/-! ### targets -/
/-- a target does what Tg.put does -/
def tgR (K : PySem.W.Frag) (c : Cc) (t : Tg) : TG := fun v σ H Q => ∃ l s θ F H0 d l', RS K c θ F H s ∧ RL K c θ F H H0 l σ ∧ Rel K θ F d v ∧ t.put d l = some l' ∧ ∀ σ', RL K c θ F H H0 l' σ' → σ'.length = σ.length → (∀ j : Nat, j ∉ t.slots → σ'[j]? = σ[j]?) → Q σ' H
def tgsR (K : PySem.W.Frag) (c : Cc) (ts : List Tg) : TGs := fun vs σ H Q => ∃ l s θ F H0 ds l', RS K c θ F H s ∧ RL K c θ F H H0 l σ ∧ Rels K θ F ds vs ∧ Tg.puts ts ds l = some l' ∧ ∀ σ', RL K c θ F H H0 l' σ' → σ'.length = σ.length → (∀ j : Nat, j ∉ Tg.slotss ts → σ'[j]? = σ[j]?) → Q σ' H
abbrev GG (X : Cx) (c : Cc) (tg : Expr) (t : Tg) : Prop := PG X tg (tgR X.K c t)
abbrev GGs (X : Cx) (c : Cc) (tg : List Expr) (t : List Tg) : Prop := PGs X tg (tgsR X.K c t)
theorem pg_imp {X : Cx} {tg : Expr} {t t' : TG} (h : PG X tg t) (i : ∀ v σ H Q, t' v σ H Q → t v σ H Q) : PG X tg t' := ⟨fun pins s σ H v u Q I r q => h.run pins s σ H v u Q I r (i v σ H Q q)⟩
theorem pgs_imp {X : Cx} {tg : List Expr} {t t' : TGs} (h : PGs X tg t) (i : ∀ v σ H Q, t' v σ H Q → t v σ H Q) : PGs X tg t' := ⟨fun pins s σ H v u Q I r q => h.run pins s σ H v u Q I r (i v σ H Q q)⟩
theorem g_nm (i : Nat) {x : Str} (hN : X.N.Nodup) (hi : X.N[i]? = some x := by rfl) (hx : Loc X.env.scope x := by first | exact Or.inl rfl | exact Or.inr rfl) (hp : ∀ p ∈ c.pin, p.1 ≠ i := by first | (intro p hp; exact nomatch hp) | decide)
    (hf : X.fn x = true ∨ X.env.scope.names.lookup x = some .local := by first | exact .inl rfl | exact .inr rfl) : GG X c (.Name x pos) (.nm i) := pg_imp (pg_name hN hi hx hf) fun v σ H Q ⟨l, s, θ, F, H0, d, l', r1, r2, h, e, k⟩ => by
  cases e
  exact k _ (r2.set h hp) (by rw [List.length_set]) fun j hj => List.getElem?_set_ne (fun z => hj (by simp [Tg.slots, z]))
theorem g_tgs0 : GGs X c [] [] := pgs_imp pgs_nil fun vs σ H Q ⟨l, s, θ, F, H0, ds, l', r1, r2, h, e, k⟩ => by
  cases h with
  | nil =>
    cases e
    exact ⟨rfl, k σ r2 rfl fun _ _ => rfl⟩
  | cons _ _ => cases e
theorem g_tgs {t : Tg} {ts : List Tg} (h1 : GG X c e t) (h2 : GGs X c es ts) (hs : (assignEach (e :: es) X.env).map (·.2) = assign e X.env :: (assignEach es X.env).map (·.2) := by rfl) : GGs X c (e :: es) (t :: ts) := pgs_imp (pgs_cons h1 h2 hs) fun vs σ H Q ⟨l, s, θ, F, H0, ds, l', r1, r2, h, e, k⟩ => by
  cases h with
  | nil => cases e
  | @cons d v ds vs a b =>
    unfold Tg.puts at e
    cases e1 : t.put d l with
    | none =>
      rw [e1] at e
      cases e
    | some l1 =>
      rw [e1] at e
      exact ⟨v, vs, rfl, l, s, θ, F, H0, d, l1, r1, r2, a, e1, fun σ' r3 n1 o1 => ⟨l1, s, θ, F, H0, ds, l', r1, r3, b, e, fun σ2 r4 n2 o2 => k σ2 r4 (n2.trans n1) fun j hj => by
        have hj' : j ∉ t.slots ++ Tg.slotss ts := hj
        rw [List.mem_append, not_or] at hj'
        exact (o2 j hj'.2).trans (o1 j hj'.1)⟩⟩
theorem puts_len : ∀ {ts : List Tg} {ds : List D} {l l' : Env}, Tg.puts ts ds l = some l' → ds.length = ts.length
  | [], [], _, _, _ => rfl
  | [], _ :: _, _, _, e => by simp [Tg.puts] at e
  | _ :: _, [], _, _, e => by simp [Tg.puts] at e
  | t :: ts, d :: ds, l, l', e => by
    unfold Tg.puts at e
    cases e1 : t.put d l with
    | none =>
      rw [e1] at e
      cases e
    | some l1 =>
      rw [e1] at e
      rw [List.length_cons, List.length_cons, puts_len e]
theorem g_tp {ts : List Tg} {k : Nat} (h : GGs X c es ts) (hc : X.calm = true := by rfl) (hn : (assignEach es X.env).length = ts.length := by rfl) (hst : (assignEach es X.env).findIdx? (·.1) = none := by rfl) : GG X c (.Tuple es k pos) (.tp ts) := pg_imp (pg_tup hc h hn hst) fun v σ H Q ⟨l, s, θ, F, H0, d, l', r1, r2, h, e, k⟩ => by
  cases d with
  | tup ds =>
    cases h with
    | tup g q =>
      have e : Tg.puts ts ds l = some l' := e
      exact ⟨_, _, rfl, SqT.of (r1.sub _ _ g), by rw [← q.length, puts_len e], l, s, θ, F, H0, ds, l', r1, r2, q, e, k⟩
  | _ => simp [Tg.put] at e
theorem g_put {m : EM D} {t : Tg} (h : GE X c W e m) (ht : GG X c tg t) (hs : swapsWithSole [tg] e pos.line X.env = pure false := by rfl) (hw : swappedStores [tg] e X.env = pure none := by rfl)
    (h1 : (assignEach [tg] X.env).map (·.2) = [assign tg X.env] := by rfl) : GS X c W (.Assign [tg] e pos) (sPut t m) := ps_imp (ps_asg h ht hs hw h1) fun D σ H ⟨l, s, θ, F, θ0, F0, H0, t0, r1, r2, p⟩ => by
  refine rs_bind t0 r1 r2 p fun d s1 v θ1 F1 H1 _ t1 tt q1 l1 h1 p1 => ?_
  cases ep : t.put d l with
  | none =>
    rw [ep] at p1
    exact p1.elim
  | some l' =>
    rw [ep] at p1
    exact ⟨l, s1, θ1, F1, H0, d, l', q1, l1, h1, ep, fun σ' r3 _ _ => p1 σ' θ1 F1 H1 t1 .refl q1 r3⟩

/-! ### for -/
theorem g_for {t : Tg} {m : EM (List D)} {bs : List Stmt} {n : SM} (hi : GI X c W tg e m) (ht : GG X c tg t) (hb : GB X c W bs n) (hp : PassesOwn (model X.prog X.w) X.A X.env X.xe) (hc : X.calm = true := by rfl)
    (hs : ∀ x, foldedSetIterable e X.env x = pure x := by intro _; rfl) : GS X c W (.For tg e bs [] pos) (sFor t m n) := ps_imp (ps_for hp hc hi ht hb hs) fun D σ H ⟨l, s, θ, F, θ0, F0, H0, t0, r1, r2, p⟩ => by
  refine rs_bind t0 r1 r2 p fun ds s1 J θ1 F1 H1 _ t1 tt q1 l1 hJ p1 => ?_
  refine ⟨fun i k σ' H' => k = ds.length - i ∧ i ≤ ds.length ∧ ∃ l' s' θ' F', Grow θ1 F1 θ' F' ∧ Step θ0 F0 H0 θ' F' H' ∧ RS X.K c θ' F' H' s' ∧ RL X.K c θ' F' H' H0 l' σ' ∧ PostS X.K c θ0 F0 H0 θ' F' (forL t n (ds.drop i) l' s') D W,
    ⟨ds.length, by simp, Nat.zero_le _, l, s1, θ1, F1, .refl, t1, q1, l1, p1⟩, ?_⟩
  rintro i k σ' H' ⟨rfl, hi, l', s', θ', F', hu, t', q', l2, p'⟩
  obtain ⟨wi, wstop⟩ := hJ θ' F' H' s' hu.1 hu.2 q'
  by_cases hlt : i < ds.length
  · right
    have ed : ds[i]? = some ds[i] := List.getElem?_eq_getElem hlt
    obtain ⟨go, yl⟩ := wi i ds[i] ed
    rw [List.drop_eq_getElem_cons hlt] at p'
    refine ⟨go, fun σ3 H3 => ∃ l' s' θ' F', Grow θ1 F1 θ' F' ∧ Step θ0 F0 H0 θ' F' H3 ∧ RS X.K c θ' F' H3 s' ∧ RL X.K c θ' F' H3 H0 l' σ3 ∧ PostS X.K c θ0 F0 H0 θ' F' (forL t n (ds.drop (i + 1)) l' s') D W, fun σ3 H3 hN => ⟨ds.length - (i + 1), by omega, rfl, by omega, hN⟩, fun x Hx y => ?_⟩
    obtain ⟨Fx, tx, rx, qx⟩ := yl x Hx y
    have lx := l2.step tx
    have tx0 := t'.trans tx
    have gx := hu.trans tx.grow
    have p' := PostS.grow p' tx.grow
    unfold forL at p'
    cases ep : t.put ds[i] l' with
    | none =>
      rw [ep] at p'
      exact p'.elim
    | some l3 =>
      rw [ep] at p'
      refine ⟨l', s', θ', Fx, H0, ds[i], l3, rx, lx, qx, ep, fun σ4 l4 _ _ => ?_⟩
      refine ⟨l3, s', θ', Fx, θ0, F0, H0, tx0, rx, l4, ?_⟩
      dsimp only at p'
      cases en : n l3 s' with
      | nx l5 s5 =>
        rw [en] at p'
        exact fun σ5 θ5 F5 H5 t5 g5 r5 l6 => ⟨l5, s5, θ5, F5, gx.trans g5, t5, r5, l6, PostS.grow p' g5⟩
      | ct l5 s5 =>
        rw [en] at p'
        exact fun σ5 θ5 F5 H5 t5 g5 r5 l6 => ⟨l5, s5, θ5, F5, gx.trans g5, t5, r5, l6, PostS.grow p' g5⟩
      | bk l5 s5 =>
        rw [en] at p'
        exact p'
      | rt d s5 =>
        rw [en] at p'
        exact p'
      | ex x l5 s5 =>
        rw [en] at p'
        exact p'
      | bad =>
        rw [en] at p'
        exact p'
  · left
    have e : i = ds.length := by omega
    subst e
    rw [List.drop_length] at p'
    exact ⟨wstop, p' σ' θ' F' H' t' .refl q' l2⟩
theorem g_while {ce : Expr} {m : EM Bool} {bs : List Stmt} {n : SM} (k : Nat) (h : GT X c W ce m) (hb : GB X c W bs n) (hp : PassesOwn (model X.prog X.w) X.A X.env X.xe) : GS X c W (.While ce bs [] pos) (whileN m n k) := ps_imp (ps_while hp h hb) fun D σ H ⟨l, s, θ, F, θ0, F0, H0, t0, r1, r2, p⟩ => by
  refine ⟨fun j σ' H' => ∃ l' s' θ' F', Step θ0 F0 H0 θ' F' H' ∧ RS X.K c θ' F' H' s' ∧ RL X.K c θ' F' H' H0 l' σ' ∧ PostS X.K c θ0 F0 H0 θ' F' (whileN m n j l' s') D W, ⟨k, l, s, θ, F, t0, r1, r2, p⟩, ?_⟩
  rintro j σ' H' ⟨l', s', θ', F', t', q', l2, p'⟩
  cases j with
  | zero => exact p'.elim
  | succ j =>
    refine rs_bind t' q' l2 p' fun d s1 v θ1 F1 H1 _ t1 tt q1 l1 h1 p1 => ?_
    cases h1
    cases d with
    | false => exact p1 σ' θ1 F1 H1 t1 .refl q1 l1
    | true =>
      rw [if_pos rfl]
      refine ⟨fun σ3 H3 => ∃ l' s' θ' F', Step θ0 F0 H0 θ' F' H3 ∧ RS X.K c θ' F' H3 s' ∧ RL X.K c θ' F' H3 H0 l' σ3 ∧ PostS X.K c θ0 F0 H0 θ' F' (whileN m n j l' s') D W, fun σ3 H3 hN => ⟨j, by omega, hN⟩, ?_⟩
      refine ⟨l', s1, θ1, F1, θ0, F0, H0, t1, q1, l1, ?_⟩
      simp only [if_true] at p1
      cases en : n l' s1 with
      | nx l5 s5 =>
        rw [en] at p1
        exact fun σ5 θ5 F5 H5 t5 g5 r5 l6 => ⟨l5, s5, θ5, F5, t5, r5, l6, PostS.grow p1 g5⟩
      | ct l5 s5 =>
        rw [en] at p1
        exact fun σ5 θ5 F5 H5 t5 g5 r5 l6 => ⟨l5, s5, θ5, F5, t5, r5, l6, PostS.grow p1 g5⟩
      | bk l5 s5 =>
        rw [en] at p1
        exact p1
      | rt d s5 =>
        rw [en] at p1
        exact p1
      | ex x l5 s5 =>
        rw [en] at p1
        exact p1
      | bad =>
        rw [en] at p1
        exact p1
end
end Wd
set_option Elab.async false
set_option linter.all false
set_option maxRecDepth 100000
set_option autoImplicit false
/-! Wd8: list comprehensions; several targets; tables. -/
namespace Wd
open PySem PySem.Spec PyProof.Rows L2
/-- nothing is raised out of here -/
abbrev W0 : WX := fun _ _ _ _ => False
section
variable {K : PySem.W.Frag} {c : Cc} {θ : List Addr} {F H H0 : Hp} {l : Env} {σ : L2.St}
theorem wipeE_some {l : Env} {i : Nat} {x : Slot} : ∀ {vs : List Nat}, (wipeE l vs)[i]? = some (some x) → l[i]? = some (some x) ∧ i ∉ vs
  | [], h => ⟨h, by simp⟩
  | v :: vs, h => by
    unfold wipeE at h
    by_cases hi : v = i
    · subst hi
      by_cases hv : v < (wipeE l vs).length
      · rw [List.getElem?_set_self hv] at h; cases h
      · rw [List.getElem?_eq_none (by simpa using hv)] at h; cases h
    · rw [List.getElem?_set_ne hi] at h
      obtain ⟨h1, h2⟩ := wipeE_some h
      exact ⟨h1, by simp only [List.mem_cons, not_or]; exact ⟨fun e => hi e.symm, h2⟩⟩
theorem wipeE_length (l : Env) : ∀ vs : List Nat, (wipeE l vs).length = l.length
  | [] => rfl
  | v :: vs => by unfold wipeE; rw [List.length_set, wipeE_length l vs]
theorem wipe_at {σ : L2.St} {i : Nat} : ∀ {vs : List Nat}, i ∉ vs → (wipe σ vs)[i]? = σ[i]?
  | [], _ => rfl
  | v :: vs, h => by
    rw [List.mem_cons, not_or] at h
    unfold wipe
    rw [List.getElem?_set_ne (Ne.symm h.1)]
    exact wipe_at h.2
theorem wipe_in {σ : L2.St} {i : Nat} : ∀ {vs : List Nat}, i ∈ vs → i < σ.length → (wipe σ vs)[i]? = some none
  | [], h, _ => nomatch h
  | v :: vs, h, hl => by
    unfold wipe
    by_cases hv : v = i
    · subst hv
      rw [List.getElem?_set_self (by rw [wipe_length]; exact hl)]
    · rw [List.getElem?_set_ne hv]
      rcases List.mem_cons.mp h with e | h
      · exact absurd e.symm hv
      · exact wipe_in h hl
theorem wipe_same {σ σ' : L2.St} {vs ts : List Nat} (hl : σ'.length = (wipe σ vs).length) (h : ∀ j : Nat, j ∉ ts → σ'[j]? = (wipe σ vs)[j]?) (hs : ∀ j ∈ ts, j ∈ vs) : wipe σ' vs = wipe σ vs := by
  apply List.ext_getElem?
  intro j
  rw [wipe_length] at hl
  by_cases hj : j ∈ vs
  · by_cases hlt : j < σ.length
    · rw [wipe_in hj (by omega), wipe_in hj hlt]
    · rw [List.getElem?_eq_none (by rw [wipe_length]; omega), List.getElem?_eq_none (by rw [wipe_length]; omega)]
  · rw [wipe_at hj]
    exact h j fun z => hj (hs j z)
theorem RL.wipe (r : RL K c θ F H H0 l σ) {vs : List Nat} (hp : ∀ p ∈ c.pin, p.1 ∉ vs) : RL K c θ F H H0 (wipeE l vs) (L2.wipe σ vs) := by
  refine ⟨fun i d e => ?_, fun i o e => ?_, fun p h => by rw [wipe_at (hp p h)]; exact r.pin p h, by rw [wipeE_length, wipe_length]; exact r.len⟩
  · obtain ⟨e1, n⟩ := wipeE_some e
    rw [wipe_at n]
    exact r.loc i d e1
  · obtain ⟨e1, n⟩ := wipeE_some e
    obtain ⟨a, e2, q, h1, h2, h3, u⟩ := r.own i o e1
    refine ⟨a, by rw [wipe_at n]; exact e2, q, h1, h2, h3, fun j o' e3 e4 => ?_⟩
    obtain ⟨e5, n5⟩ := wipeE_some e3
    rw [wipe_at n5] at e4
    exact u j o' e5 e4
end
section
variable {X : Cx} {c : Cc} {W : WX} {pos p1 : Pos} {a b e tg : Expr} {es ifs : List Expr} {K : PySem.W.Frag}
abbrev GTs (X : Cx) (c : Cc) (W : WX) (es : List Expr) (m : EM Bool) : Prop := PTs X es (rd X.K c W relB m)
theorem pts_imp {X : Cx} {es : List Expr} {t t' : TT} (h : PTs X es t) (i : ∀ σ H Q, t' σ H Q → t σ H Q) : PTs X es t' := ⟨fun pins s σ H Q I q => h.run pins s σ H Q I (i σ H Q q)⟩
theorem g_ts0 : GTs X c W [] qT := pts_imp pts_nil fun σ H Q ⟨l, s, θ, F, H0, r1, r2, p⟩ => p true θ F H .refl r1 rfl
theorem g_ts1 {m : EM Bool} (h : GT X c W e m) : GTs X c W [e] m := pts_one h
theorem lc_rd {vs : List Nat} {t : Tg} {it : EM (List D)} {cd : EM Bool} {el : EM D} (hv : ∀ j ∈ t.slots, j ∈ vs) (hp : ∀ p ∈ c.pin, p.1 ∉ vs) : ∀ σ H Q, rd K c W relF (eLc vs t it cd el) σ H Q → tLc (rd K c W (relI c) it) (tgR K c t) (rd K c W0 relB cd) (rd K c W0 rel el) vs σ H Q :=
  fun σ H Q ⟨l, s, θ, F, H0, r1, r2, p⟩ => by
    refine rd_bind older_relF r1 r2 p fun ds s1 J θ1 F1 H1 _ t1 q1 l1 hJ p1 => ?_
    intro A hA
    refine ⟨fun i k H' => k = ds.length - i ∧ i ≤ ds.length ∧ ∃ xs s' θ' F' acc, Step θ1 F1 H1 θ' F' H' ∧ RS K c θ' F' H' s' ∧ H' A = some (.lst acc) ∧ Rels K θ' F' xs acc ∧ F' A = none ∧ A ∉ θ' ∧ xs.length ≤ i ∧
        Post K c θ1 F1 H1 relF ((lcL t cd el (ds.drop i) (wipeE l vs) s').bind fun ys s2 => if ds.length ≤ big then .ok (.lst (xs ++ ys)) s2 else .bad) Q (fun cls d H' => W cls d σ H'),
      ⟨ds.length, by simp, Nat.zero_le _, [], s1, θ1, F1, [], .made hA, q1.made hA, upd_same, .nil, q1.non hA, q1.nth hA, Nat.le_refl _, p1⟩, ?_⟩
    rintro i k H' ⟨rfl, hi, xs, s', θ', F', acc, t', q', eA, rA, fA, nA, hx, p'⟩
    obtain ⟨wi, wstop⟩ := hJ θ' F' H' s' t'.grow.1 t'.grow.2 q'
    have l' := (l1.step t').wipe hp
    by_cases hlt : i < ds.length
    · right
      have ed : ds[i]? = some ds[i] := List.getElem?_eq_getElem hlt
      obtain ⟨go, yl⟩ := wi i ds[i] ed
      rw [List.drop_eq_getElem_cons hlt] at p'
      refine ⟨go, fun H3 => ∃ xs s' θ' F' acc, Step θ1 F1 H1 θ' F' H3 ∧ RS K c θ' F' H3 s' ∧ H3 A = some (.lst acc) ∧ Rels K θ' F' xs acc ∧ F' A = none ∧ A ∉ θ' ∧ xs.length ≤ i + 1 ∧
        Post K c θ1 F1 H1 relF ((lcL t cd el (ds.drop (i + 1)) (wipeE l vs) s').bind fun ys s2 => if ds.length ≤ big then .ok (.lst (xs ++ ys)) s2 else .bad) Q (fun cls d H' => W cls d σ H'), fun H3 hN => ⟨ds.length - (i + 1), by omega, rfl, by omega, hN⟩, fun x Hx y => ?_⟩
      obtain ⟨Fx, tx, rx, qx⟩ := yl x Hx y
      have lx := l'.step tx
      have eAx : Hx A = some (.lst acc) := tx.keep A _ eA nA fun _ z => nomatch z
      have fAx : Fx A = none := (tx.new A _ eA nA (fun _ z => nomatch z) (fun _ z => nomatch z)).trans fA
      have rAx : Rels K θ' Fx xs acc := rels_same tx.frz rA
      have tx1 := t'.trans tx
      unfold lcL at p'
      cases ep : t.put ds[i] (wipeE l vs) with
      | none =>
        rw [ep] at p'
        exact p'.elim
      | some l3 =>
        rw [ep] at p'
        refine ⟨wipeE l vs, s', θ', Fx, H0, ds[i], l3, rx, lx, qx, ep, fun σ4 l4 n4 o4 => ⟨wipe_same n4 o4 hv, ?_⟩⟩
        refine ⟨l3, s', θ', Fx, H0, rx, l4, ?_⟩
        dsimp only at p'
        cases ec : cd l3 s' with
        | exc x2 s2 =>
          rw [ec] at p'
          exact p'.elim
        | bad =>
          rw [ec] at p'
          exact p'.elim
        | ok bb s2 =>
          rw [ec] at p'
          intro b' θ5 F5 H5 t5 r5 e5
          cases e5
          have eA5 : H5 A = some (.lst acc) := t5.keep A _ eAx nA fun _ z => nomatch z
          have nA5 : A ∉ θ5 := t5.notin (by rw [eAx]; exact fun z => nomatch z) nA
          have fA5 : F5 A = none := (t5.new A _ eAx nA (fun _ z => nomatch z) (fun _ z => nomatch z)).trans fAx
          have rA5 : Rels K θ5 F5 xs acc := lasts_rels _ _ _ H1 _ _ _ _ _ _ t5 rAx
          cases bb with
          | false =>
            rw [if_neg Bool.false_ne_true]
            exact ⟨xs, s2, θ5, F5, acc, tx1.trans t5, r5, eA5, rA5, fA5, nA5, by omega, p'⟩
          | true =>
            rw [if_pos rfl]
            refine ⟨l3, s2, θ5, F5, H0, r5, l4.step t5, ?_⟩
            dsimp only at p'
            cases ee : el l3 s2 with
            | exc x2 s3 =>
              rw [ee] at p'
              exact p'.elim
            | bad =>
              rw [ee] at p'
              exact p'.elim
            | ok dd s3 =>
              rw [ee] at p'
              intro v θ6 F6 H6 t6 r6 h6
              have eA6 : H6 A = some (.lst acc) := t6.keep A _ eA5 nA5 fun _ z => nomatch z
              have nA6 : A ∉ θ6 := t6.notin (by rw [eA5]; exact fun z => nomatch z) nA5
              have fA6 : F6 A = none := (t6.new A _ eA5 nA5 (fun _ z => nomatch z) (fun _ z => nomatch z)).trans fA5
              have rA6 : Rels K θ6 F6 xs acc := lasts_rels _ _ _ H1 _ _ _ _ _ _ t6 rA5
              have hbig : ds.length ≤ big := by
                refine Decidable.byContradiction fun hn => ?_
                dsimp only at p'
                cases el2 : lcL t cd el (ds.drop (i + 1)) (wipeE l vs) s3 with
                | ok ys s4 =>
                  rw [el2] at p'
                  have p'' : Post K c θ1 F1 H1 relF (if ds.length ≤ big then Res.ok (D.lst (xs ++ dd :: ys)) s4 else .bad) Q (fun cls d H' => W cls d σ H') := p'
                  rw [if_neg hn] at p''
                  exact p''
                | exc x2 s4 =>
                  rw [el2] at p'
                  exact p'
                | bad =>
                  rw [el2] at p'
                  exact p'
              refine ⟨acc, eA6, by rw [← rA6.length]; exact big_lt (by omega), ?_⟩
              have t61 := (tx1.trans t5).trans t6
              have tN : Step θ1 F1 H1 θ6 F6 (upd H6 A (.lst (acc ++ [v]))) := ⟨t61.pre, t61.frz, t61.new, fun b u e n nt => by
                rw [upd_ne (ne_of_none e hA)]
                exact t61.keep b u e n nt, fun b hb => by
                by_cases hba : b = A
                · subst hba
                  rw [upd_same]
                  exact fun z => nomatch z
                · rw [upd_ne hba]
                  exact t61.dom b hb⟩
              refine ⟨xs ++ [dd], s3, θ6, F6, acc ++ [v], tN, ?_, upd_same, rA6.append (.cons h6 .nil), fA6, nA6, by rw [List.length_append, List.length_singleton]; omega, ?_⟩
              · refine ⟨fun b u e => ?_, r6.len, r6.inj, fun k ob e => ?_, fun p hp => ?_, r6.fz, r6.ntb, c.mono _ _ _ _ _ _ tN q1.more⟩
                · rw [upd_ne (ne_of_none e fA6)]
                  exact r6.sub b u e
                · obtain ⟨b, e3, q3, n3⟩ := r6.st k ob e
                  refine ⟨b, e3, ?_, n3⟩
                  rw [upd_ne (fun z => nA6 (by rw [← z]; exact List.mem_of_getElem? e3))]
                  exact q3
                · obtain ⟨ps, h2, h3, h4⟩ := r6.tabs p hp
                  refine ⟨ps, by rw [upd_ne (fun z => by rw [z, eA6] at h2; cases h2)]; exact h2, h3, fun pos cv hc => ?_⟩
                  obtain ⟨cc, e5, e6⟩ := h4 pos cv hc
                  refine ⟨cc, e5, ?_⟩
                  rw [upd_ne (fun z => by rw [z, eA6] at e6; unfold LamX.CodeO at e6; cases e6)]
                  exact e6
              · dsimp only at p'
                cases el2 : lcL t cd el (ds.drop (i + 1)) (wipeE l vs) s3 with
                | ok ys s4 =>
                  rw [el2] at p'
                  show Post K c θ1 F1 H1 relF (if ds.length ≤ big then Res.ok (D.lst ((xs ++ [dd]) ++ ys)) s4 else .bad) Q (fun cls d H' => W cls d σ H')
                  rw [List.append_assoc]
                  exact p'
                | exc x2 s4 =>
                  rw [el2] at p'
                  exact p'.elim
                | bad =>
                  rw [el2] at p'
                  exact p'.elim
    · left
      have e : i = ds.length := by omega
      subst e
      rw [List.drop_length] at p'
      refine ⟨wstop, ?_⟩
      have p'' : Post K c θ1 F1 H1 relF (if ds.length ≤ big then Res.ok (D.lst (xs ++ [])) s' else .bad) Q (fun cls d H' => W cls d σ H') := p'
      by_cases hn : ds.length ≤ big
      · rw [if_pos hn, List.append_nil] at p''
        exact p'' (.ref A) θ' F' H' t' q' ⟨.lst xs, A, rfl, rfl, ⟨acc, eA, rA⟩, nA, fA, hA⟩
      · rw [if_neg hn] at p''
        exact p''.elim
theorem g_lc {elt iter : Expr} {scope : Scope} {own : List (Str × Nat)} {t : Tg} {it : EM (List D)} {cd : EM Bool} {el : EM D} (hN : X.N.Nodup) (hi : GI X c W tg iter it) (ok : BlkOk X.N X.env.scope scope own)
    (hg : ∀ (s : Shared) (H : Hp) (C : Addr) (cl : List (Str × Addr)) (fp : List Addr), GG (X.blk s H scope (compEnvC scope cl C X.env) fp) c tg t) (ht : ∀ (s : Shared) (H : Hp) (C : Addr) (cl : List (Str × Addr)) (fp : List Addr), GTs (X.blk s H scope (compEnvC scope cl C X.env) fp) c W0 ifs cd)
    (he : ∀ (s : Shared) (H : Hp) (C : Addr) (cl : List (Str × Addr)) (fp : List Addr), GE (X.blk s H scope (compEnvC scope cl C X.env) fp) c W0 elt el) (hv : ∀ j ∈ t.slots, j ∈ own.map (·.2) := by decide) (hp : ∀ p ∈ c.pin, p.1 ∉ own.map (·.2) := by first | (intro p hp; exact nomatch hp) | decide)
    (hc : X.calm = true := by rfl) (hs : ∀ x, foldedSetIterable iter X.env x = pure x := by intro _; rfl) : GF X c W (.ListComp elt [⟨tg, iter, ifs, 0⟩] scope pos) (eLc (own.map (·.2)) t it cd el) :=
  pe_imp (pe_lc hc hN hi ok hg ht he hs) (lc_rd hv hp)
/-- y = [..], y a local -/
theorem lcS {elt iter : Expr} {scope : Scope} {own : List (Str × Nat)} {t : Tg} {it : EM (List D)} {cd : EM Bool} {el : EM D} {i : Nat} {y : Str} {py spos : Pos} (hN : X.N.Nodup) (hy : X.N[i]? = some y) (hyl : X.env.scope.names.lookup y = some .local)
    (hsw : swapsWith (.ListComp elt [⟨tg, iter, ifs, 0⟩] scope pos) (some (.Name y py)) spos.line X.env = pure true) (hi : GI X c W tg iter it) (ok : BlkOk X.N X.env.scope scope own)
    (hg : ∀ (s : Shared) (H : Hp) (C : Addr) (cl : List (Str × Addr)) (fp : List Addr), GG (X.blk s H scope (compEnvC scope cl C X.env) fp) c tg t) (ht : ∀ (s : Shared) (H : Hp) (C : Addr) (cl : List (Str × Addr)) (fp : List Addr), GTs (X.blk s H scope (compEnvC scope cl C X.env) fp) c W0 ifs cd)
    (he : ∀ (s : Shared) (H : Hp) (C : Addr) (cl : List (Str × Addr)) (fp : List Addr), GE (X.blk s H scope (compEnvC scope cl C X.env) fp) c W0 elt el) (hv : ∀ j ∈ t.slots, j ∈ own.map (·.2)) (hp : ∀ p ∈ c.pin, p.1 ∉ own.map (·.2))
    (hc : X.calm = true) (hs : ∀ x, foldedSetIterable iter X.env x = pure x) :
    PS X (.Assign [.Name y py] (.ListComp elt [⟨tg, iter, ifs, 0⟩] scope pos) spos) (tAsg (rd X.K c W relF (eLc (own.map (·.2)) t it cd el)) (gName i)) :=
  ps_imp (ps_setLc hc hN hy hyl hsw hi ok hg ht he hs) fun D σ H h => lc_rd hv hp σ H _ h
theorem g_ownLc (i : Nat) {elt iter : Expr} {scope : Scope} {own : List (Str × Nat)} {t : Tg} {it : EM (List D)} {cd : EM Bool} {el : EM D} {y : Str} {py spos : Pos} (hN : X.N.Nodup) (hi : GI X c W tg iter it) (ok : BlkOk X.N X.env.scope scope own)
    (hg : ∀ (s : Shared) (H : Hp) (C : Addr) (cl : List (Str × Addr)) (fp : List Addr), GG (X.blk s H scope (compEnvC scope cl C X.env) fp) c tg t) (ht : ∀ (s : Shared) (H : Hp) (C : Addr) (cl : List (Str × Addr)) (fp : List Addr), GTs (X.blk s H scope (compEnvC scope cl C X.env) fp) c W0 ifs cd)
    (he : ∀ (s : Shared) (H : Hp) (C : Addr) (cl : List (Str × Addr)) (fp : List Addr), GE (X.blk s H scope (compEnvC scope cl C X.env) fp) c W0 elt el) (hsw : swapsWith (.ListComp elt [⟨tg, iter, ifs, 0⟩] scope pos) (some (.Name y py)) spos.line X.env = pure true)
    (hv : ∀ j ∈ t.slots, j ∈ own.map (·.2) := by decide) (hp : ∀ p ∈ c.pin, p.1 ∉ own.map (·.2) := by first | (intro p hp; exact nomatch hp) | decide) (hpi : ∀ p ∈ c.pin, p.1 ≠ i := by first | (intro p hp; exact nomatch hp) | decide)
    (hy : X.N[i]? = some y := by rfl) (hyl : X.env.scope.names.lookup y = some .local := by rfl) (hc : X.calm = true := by rfl) (hs : ∀ x, foldedSetIterable iter X.env x = pure x := by intro _; rfl) :
    GS X c W (.Assign [.Name y py] (.ListComp elt [⟨tg, iter, ifs, 0⟩] scope pos) spos) (sOwn i (eLc (own.map (·.2)) t it cd el)) :=
  ps_imp (lcS hN hy hyl hsw hi ok hg ht he hv hp hc hs) fun D σ H ⟨l, s, θ, F, θ0, F0, H0, t0, r1, r2, p⟩ => by
    refine rs_bind t0 r1 r2 p fun d s1 v θ1 F1 H1 _ t1 tt q1 l1 h1 p1 => ?_
    obtain ⟨o, ad, e1, rfl, ro, n, f, z⟩ := h1
    cases eo : d.own? with
    | none =>
      rw [eo] at p1
      exact p1.elim
    | some o' =>
      rw [eo] at p1
      have := own_d e1 eo
      subst this
      exact p1 _ θ1 F1 H1 t1 .refl q1 (l1.setO ro f n (t0.fresh z) (fun j o' _ e2 => fun e3 => r2.newO z j o' e2 e3) hpi)
/-- frozen at once -/
theorem f_rel (hf : c.Free) {θ θ0 : List Addr} {F F0 H H0 : Hp} {s : S} {d : D} {ds : List D} {v : V} {Hs : Hp} (hd : d = .lst ds) (t0 : Step θ0 F0 H0 θ F H) (r : RS K c θ F H s) (h : relF K θ F Hs H d v) (hs : ∀ a, H0 a ≠ none → Hs a ≠ none) : ∃ F', Step θ0 F0 H0 θ F' H ∧ Grow θ F θ F' ∧ RS K c θ F' H s ∧ Rel K θ F' d v ∧ ∀ l σ H0', RL K c θ F H H0' l σ → (∀ (j : Nat) (o' : O), l[j]? = some (some (Slot.own o')) → σ[j]? ≠ some (some v)) → RL K c θ F' H H0' l σ := by
  obtain ⟨o, a, rfl, rfl, ro, n, f, z⟩ := h
  obtain rfl : o = .lst ds := by
    cases o with
    | lst _ =>
      cases hd
      rfl
    | dct _ _ => cases hd
  obtain ⟨ho, e3, nt⟩ := ro.there
  have h0 : H0 a = none := by
    cases q : H0 a with
    | none => rfl
    | some u => exact absurd z (hs a (by rw [q]; exact fun z => nomatch z))
  refine ⟨upd F a ho, frz_step (K := K) (s := s) t0 e3 f h0, ⟨⟨[], by simp⟩, Le.new f⟩, r.freeze e3 n f nt (hf _ _ _), RelO.rel ?_, fun l σ H0' rl hu => ?_⟩
  · rw [upd_same, ← e3]
    have := ro.mono (t := []) (Le.new (o := ho) f)
    rw [List.append_nil] at this
    exact this
  · refine ⟨fun j d ej => ?_, fun j o1 ej => ?_, rl.pin, rl.len⟩
    · obtain ⟨v, e3, q3⟩ := rl.loc j d ej
      exact ⟨v, e3, rel_same (Le.new f) q3⟩
    · obtain ⟨b, e4, q3, n3, m3, z3, u3⟩ := rl.own j o1 ej
      have hb : b ≠ a := fun zz => hu j o1 ej (by rw [← zz]; exact e4)
      refine ⟨b, e4, ?_, by rw [upd_ne hb]; exact n3, m3, z3, u3⟩
      have := q3.mono (t := []) (Le.new (o := ho) f)
      rw [List.append_nil] at this
      exact this
theorem eLc_lst {vs : List Nat} {t : Tg} {it : EM (List D)} {cd : EM Bool} {el : EM D} {l : Env} {s s1 : S} {d : D} (h : eLc vs t it cd el l s = .ok d s1) : ∃ ds, d = .lst ds := by
  unfold eLc at h
  cases q : it l s with
  | ok xs s2 =>
    rw [q] at h
    simp only [Res.bind] at h
    cases q2 : lcL t cd el xs (wipeE l vs) s2 with
    | ok ys s3 =>
      rw [q2] at h
      simp only at h
      split at h
      · cases h
        exact ⟨_, rfl⟩
      · cases h
    | exc _ _ =>
      rw [q2] at h
      cases h
    | bad =>
      rw [q2] at h
      cases h
  | exc _ _ =>
    rw [q] at h
    cases h
  | bad =>
    rw [q] at h
    cases h
theorem g_asgLc (i : Nat) {elt iter : Expr} {scope : Scope} {own : List (Str × Nat)} {t : Tg} {it : EM (List D)} {cd : EM Bool} {el : EM D} {y : Str} {py spos : Pos} (hN : X.N.Nodup) (hi : GI X c W tg iter it) (ok : BlkOk X.N X.env.scope scope own)
    (hg : ∀ (s : Shared) (H : Hp) (C : Addr) (cl : List (Str × Addr)) (fp : List Addr), GG (X.blk s H scope (compEnvC scope cl C X.env) fp) c tg t) (ht : ∀ (s : Shared) (H : Hp) (C : Addr) (cl : List (Str × Addr)) (fp : List Addr), GTs (X.blk s H scope (compEnvC scope cl C X.env) fp) c W0 ifs cd)
    (he : ∀ (s : Shared) (H : Hp) (C : Addr) (cl : List (Str × Addr)) (fp : List Addr), GE (X.blk s H scope (compEnvC scope cl C X.env) fp) c W0 elt el) (hsw : swapsWith (.ListComp elt [⟨tg, iter, ifs, 0⟩] scope pos) (some (.Name y py)) spos.line X.env = pure true)
    (hf : c.Free := by exact fun _ _ _ => trivial) (hv : ∀ j ∈ t.slots, j ∈ own.map (·.2) := by decide) (hp : ∀ p ∈ c.pin, p.1 ∉ own.map (·.2) := by first | (intro p hp; exact nomatch hp) | decide) (hpi : ∀ p ∈ c.pin, p.1 ≠ i := by first | (intro p hp; exact nomatch hp) | decide)
    (hy : X.N[i]? = some y := by rfl) (hyl : X.env.scope.names.lookup y = some .local := by rfl) (hc : X.calm = true := by rfl) (hs : ∀ x, foldedSetIterable iter X.env x = pure x := by intro _; rfl) :
    GS X c W (.Assign [.Name y py] (.ListComp elt [⟨tg, iter, ifs, 0⟩] scope pos) spos) (sAsg i (eLc (own.map (·.2)) t it cd el)) :=
  ps_imp (lcS hN hy hyl hsw hi ok hg ht he hv hp hc hs) fun D σ H ⟨l, s, θ, F, θ0, F0, H0, t0, r1, r2, p⟩ => by
    refine rs_bind t0 r1 r2 p fun d s1 v θ1 F1 H1 em t1 tt q1 l1 h1 p1 => ?_
    obtain ⟨ds, hd⟩ := eLc_lst em
    have hz := h1
    obtain ⟨_, ad, _, rfl, _, _, _, z⟩ := hz
    obtain ⟨F', t', g', q', h', k⟩ := f_rel hf hd t1 q1 h1 t0.dom
    exact p1 _ θ1 F' H1 t' g' q' ((k l σ H0 l1 fun j o' e2 e3 => r2.newO z j o' e2 e3).set h' hpi)
end
end Wd
set_option Elab.async false
set_option linter.all false
set_option maxRecDepth 100000
set_option autoImplicit false
/-! Wd9: defs and calls. -/
namespace Wd
open PySem PySem.Spec PyProof.Rows L2

/-- a def's promise to callers of whom it is known that no repr runs -/
structure FnG (P : Program) (w : World) (K : PySem.W.Frag) (mg : Str → Option Value) (base : Heap) (k : Nat) (f : Addr) (fd : FuncData) (ps : List Str) (sp : Sp) : Prop where
  len : ∀ vs H Q E, sp vs H Q E → vs.length = ps.length
  run : ∀ (A : Around) (outer : List PySem.Env) (s : Shared) (H : Hp) (args : Args) (us : List Value) (vs : List V) (Q : VK) (E : XK), Room k A → A.guards = some [] → Env0 P w K mg base A outer s H → BindsTo s fd args (ps.zip us) → Vals vs us → sp vs H Q E →
    codeAny (model P w) A (.call (.ref f) args) (CR (L2.CX P w) outer P w H s Q E) s
/-- tables alone -/
def Cc.tab (c : Cc) : Cc := { T := c.T }
def spOf (K : PySem.W.Frag) (c : Cc) (n : Nat) (φ : Fn) : Sp := fun vs H Q E =>
  ∃ ds s θ F, ds.length = n ∧ RS K c θ F H s ∧ Rels K θ F ds vs ∧ Post K c θ F H rel (φ ds s) Q E

section
variable {K : PySem.W.Frag} {c : Cc} {θ : List Addr} {F H : Hp} {s : S}
theorem RS.tab (r : RS K c θ F H s) : RS K c.tab θ F H s := ⟨r.sub, r.len, r.inj, r.st, r.tabs, (fun p hp => absurd (show p ∈ ([] : List (Addr × HO)) from hp) (by simp)), r.ntb, trivial⟩
theorem RS.untab (r : RS K c.tab θ F H s) (h : ∀ p ∈ c.fz, F p.1 = some p.2) (hm : c.more θ F H) : RS K c θ F H s := ⟨r.sub, r.len, r.inj, r.st, r.tabs, h, r.ntb, hm⟩
theorem Post.tab {α β : Type} {q : RT α β} {r : Res α} {Q : β → Hp → Prop} {E : XK} (hf : ∀ p ∈ c.fz, F p.1 = some p.2) (hm : c.more θ F H) (p : Post K c θ F H q r Q E) : Post K c.tab θ F H q r Q E := by
  cases r with
  | ok d s' => exact fun v θ' F' H' t r h => p v θ' F' H' t (r.untab (fun z hz => t.frz _ _ (hf z hz)) (c.mono _ _ _ _ _ _ t hm)) h
  | exc x s' => exact fun cls dx θ' F' H' t r h => p cls dx θ' F' H' t (r.untab (fun z hz => t.frz _ _ (hf z hz)) (c.mono _ _ _ _ _ _ t hm)) h
  | bad => exact p
theorem start_val {N : List Str} {θ : List Addr} : ∀ {ds : List D} {vs : List V}, Rels K θ F ds vs → ∀ (i : Nat) (d : D) (n : Nat), (ds.map (fun d => some (Slot.val d)) ++ List.replicate n none)[i]? = some (some (Slot.val d)) → ∃ v, (vs.map some ++ List.replicate n none)[i]? = some (some v) ∧ Rel K θ F d v := by
  intro ds vs r i d n e
  by_cases hi : i < ds.length
  · rw [List.getElem?_append_left (by simpa using hi), List.getElem?_map] at e
    cases q : ds[i]? with
    | none =>
      rw [q] at e
      cases e
    | some d' =>
      rw [q] at e
      cases e
      obtain ⟨v, e1, h⟩ := r.get q
      refine ⟨v, ?_, h⟩
      rw [List.getElem?_append_left (by rw [List.length_map, ← r.length]; exact hi), List.getElem?_map, e1]
      rfl
  · rw [List.getElem?_append_right (by simpa using hi), List.getElem?_replicate] at e
    split at e <;> cases e
theorem start_rl {N : List Str} {ds : List D} {vs : List V} (r : Rels K θ F ds vs) : RL K c.tab θ F H H (ds.map (fun d => some (Slot.val d)) ++ List.replicate (N.length - ds.length) none) (L2.start N vs) := by
  refine ⟨fun i d e => ?_, fun i o e => ?_, (fun p hp => absurd (show p ∈ ([] : List (Nat × V)) from hp) (by simp)), ?_⟩
  · rw [r.length] at e
    exact start_val (N := N) r i d _ e
  · by_cases hi : i < ds.length
    · rw [List.getElem?_append_left (by simpa using hi), List.getElem?_map] at e
      cases q : ds[i]? with
      | none =>
        rw [q] at e
        cases e
      | some d' =>
        rw [q] at e
        cases e
    · rw [List.getElem?_append_right (by simpa using hi), List.getElem?_replicate] at e
      split at e <;> cases e
  · unfold L2.start
    rw [List.length_append, List.length_append, List.length_map, List.length_map, List.length_replicate, List.length_replicate, r.length]
end

/-- what is known in a def's body -/
structure Bx (X : Cx) (W : WX) (k : Nat) : Prop where
  tk : Takes X W
  po : PassesOwn (model X.prog X.w) X.A X.env X.xe
  rm : Room k X.A
  gd : X.A.guards = some []
theorem Bx.u1 {X : Cx} {W : WX} {k : Nat} (B : Bx X W k) : X.A.units + 1 < cLine := by have := B.rm.units; omega
theorem Bx.u64 {X : Cx} {W : WX} {k : Nat} (B : Bx X W k) : X.A.units + 64 < cLine := B.rm.units
theorem Bx.u70 {X : Cx} {W : WX} {k : Nat} (B : Bx X W k) : X.A.units + 70 < cLine := by have := B.rm.un; omega

/-- a def that may be called: its name, its promise -/
def Cal (P : Program) (w : World) (K : PySem.W.Frag) (mg : Str → Option Value) (base : Heap) (T : List (Addr × Str)) (k : Nat) (x : Str) (n : Nat) (φ : Fn) : Prop :=
  ∃ (f : Addr) (fd : FuncData) (ps : List Str), ps.length = n ∧ mg x = some (.ref f) ∧ PySem.W.keepIn K (.ref f) = true ∧ Binds K fd ps [] ∧ FnG P w K mg base k f fd ps (spOf K { T := T } n φ)

section
variable {X : Cx} {c : Cc} {W : WX} {x : Str} {p pos : Pos} {e : Expr} {es : List Expr} {j k n : Nat} {φ : Fn}
theorem run_G {pins : List (Addr × Obj)} {σ : L2.St} {H : Hp} {s : Shared} {Q : VK} {us : List Value} {vs : List V} {f : Addr} {fd : FuncData} {ps : List Str} {sp : Sp} (F : FnG X.prog X.w X.K X.mg X.base j f fd ps sp) (B : Bx X W k) (hk : j ≤ k) (hb : Binds X.K fd ps [])
    (I : Inv X pins σ H s) (r : Vals vs us) (h : sp vs H Q (WE W σ)) : wpAny (model X.prog X.w) X.A (call (.ref f) us) (EP X pins σ Q) X.xe s := by
  have hl : us.length = ps.length := by rw [← r.length]; exact F.len _ _ _ _ h
  have b := hb s us I.kIn (by rw [List.append_nil]; exact hl)
  rw [List.append_nil] at b
  refine wpAny_call (codeAny_mono (F.run X.A X.stack s H ⟨us, []⟩ us vs Q (WE W σ) (B.rm.mono hk) B.gd I.env0 b r h) fun r s' hq => ?_)
  cases r with
  | error e => exact passAt B.tk σ pins H s e s' I hq
  | ok fl =>
    cases fl with
    | ret u => exact I.after hq
    | next => exact False.elim hq
    | brk => exact False.elim hq
    | cont => exact False.elim hq
theorem sp_call {m : EM (List D)} {σ : L2.St} {H : Hp} {Q : VK} (hl : ∀ l s ds s', m l s = .ok ds s' → ds.length = n) (h : rd X.K c W rel (eCall φ m) σ H Q) : rd X.K c W rels m σ H fun vs H1 => spOf X.K { T := c.T } n φ vs H1 Q (WE W σ) := by
  obtain ⟨l, s, θ, F, H0, r1, r2, p⟩ := h
  refine rd_bind older_rel r1 r2 p fun ds s1 vs θ1 F1 H1 e1 t1 q1 l1 h1 p1 => ?_
  exact ⟨ds, s1, θ1, F1, hl _ _ _ _ e1, q1.tab, h1, p1.tab q1.fz q1.more⟩
/-- f(e, ..) -/
theorem g_call {m : EM (List D)} (C : Cal X.prog X.w X.K X.mg X.base c.T j x n φ) (B : Bx X W k) (hk : j ≤ k) (ha : GA X c W (e :: es) m) (hl : ∀ l s ds s', m l s = .ok ds s' → ds.length = n) (hg : Gl X x := by rfl)
    (hdb : (x == ("__debug__" : Str)) = false := by decide) (he : starEach (e :: es) X.env = (false, eval e X.env) :: starEach es X.env := by rfl) (hpl : (backTo pos (starEach es X.env)).any (·.1) = false := by rfl) :
    GE X c W (.Call (.Name x p) (e :: es) [] pos) (eCall φ m) := by
  obtain ⟨f, fd, ps, hn, hm, hkp, hb, F⟩ := C
  refine ⟨fun pins s σ H Q I h => ?_⟩
  refine wpAny_Call_Name_kw (ld_glob I hg hm ?_ hdb)
  refine PySem.W.callWith_K (h₀ := X.base) I.ok.mod.kin hkp (thn (ha.run pos pins s σ H _ I (sp_call hl h)) fun us s1 ⟨vs, H1, I1, r, q⟩ => ⟨I1.kIn, ?_⟩) he hpl
  exact run_G F B hk hb I1 r q
/-- f() -/
theorem g_call0 (C : Cal X.prog X.w X.K X.mg X.base c.T j x 0 φ) (B : Bx X W k) (hk : j ≤ k) (hg : Gl X x := by rfl) (hdb : (x == ("__debug__" : Str)) = false := by decide) :
    GE X c W (.Call (.Name x p) [] [] pos) (eCall φ eNil) := by
  obtain ⟨f, fd, ps, hn, hm, hkp, hb, F⟩ := C
  refine ⟨fun pins s σ H Q I h => ?_⟩
  refine wpAny_Call_Name_kw (ld_glob I hg hm ?_ hdb)
  obtain ⟨l, s', θ, F', H0, r1, r2, p⟩ := h
  have h : spOf X.K { T := c.T } 0 φ [] H Q (WE W σ) := ⟨[], s', θ, F', rfl, r1.tab, .nil, p.tab r1.fz r1.more⟩
  exact PySem.W.callWith_K0 I.kIn hkp (run_G (us := []) F B hk hb I .nil h)
end
theorem runB_bk {b : SM} {n : Nat} {ds : List D} {s : S} : runB b n ds s = match b (ds.map (fun d => some (.val d)) ++ List.replicate (n - ds.length) none) s with
  | .nx _ s' => .ok .non s'
  | .rt d s' => .ok d s'
  | .ex x _ s' => .exc x s'
  | _ => .bad := rfl
/-- the context of a def's body -/
abbrev bodyCx (P : Program) (w : World) (K : PySem.W.Frag) (mg : Str → Option Value) (base : Heap) (N : List Str) (qual : Str) (scope : Scope) (f : Addr) (cdv : Value) (A : Around) (outer : List PySem.Env) (s : Shared) (H : Hp) (E : XK) : Cx := cxOf (L2.CX P w) P w K mg base N qual scope f cdv A outer s H E
abbrev bodyW (E : XK) : WX := fun cls d _ H => E cls d H
theorem body_bx {P : Program} {w : World} {K : PySem.W.Frag} {mg : Str → Option Value} {base : Heap} {N : List Str} {qual : Str} {scope : Scope} {f : Addr} {cdv : Value} {A : Around} {outer : List PySem.Env} {s : Shared} {H : Hp} {E : XK} {k : Nat} (hr : Room k (A.deeper (envOfC qual scope s.heap.objs.size f cdv))) (hg : A.guards = some []) :
    Bx (bodyCx P w K mg base N qual scope f cdv A outer s H E) (bodyW E) k :=
  ⟨takes_of rfl rfl rfl rfl, passes_of rfl, hr, hg⟩
/-- THE RULE: a def by its body -/
theorem g_def {P : Program} {w : World} {K : PySem.W.Frag} {mg : Str → Option Value} {base : Heap} {T : List (Addr × Str)} {k : Nat} {f : Addr} {name qual : Str} {params : Arguments} {body : List Stmt} {scope : Scope} {dV kV doc pm cdv ct oc : Value} {an od : Option Addr}
    {osl : Array (Option Value)} {N ps : List Str} {m : SM} (lk : K.lookup f = some ⟨oc, od, .func (PySem.W.fnOf name qual params body scope dV kV doc pm an cdv ct), osl⟩) (hcd : PySem.W.codeIn K cdv qual = true) (S : FnScope N ps scope)
    (hbody : ∀ (A : Around) (outer : List PySem.Env) (s : Shared) (H : Hp) (E : XK), Bx (bodyCx P w K mg base N qual scope f cdv A outer s H E) (bodyW E) k → GB (bodyCx P w K mg base N qual scope f cdv A outer s H E) { T := T } (bodyW E) body m) :
    FnG P w K mg base (k + 1) f (PySem.W.fnOf name qual params body scope dV kV doc pm an cdv ct) ps (spOf K { T := T } ps.length (runB m N.length)) := by
  refine ⟨fun vs H Q E ⟨ds, s, θ, F, hl, _, r, _⟩ => by rw [← r.length]; exact hl, fun A outer s H args us vs Q E hr hg e0 hb r hsp => ?_⟩
  obtain ⟨ds, st, θ, F, hl, rS, rr, p⟩ := hsp
  refine LamX.run_ofS lk hcd S hr e0 hb r (by rw [← rr.length]; exact hl) fun hr' => ?_
  refine ⟨_, hbody A outer s H E (body_bx hr' hg), ?_⟩
  refine ⟨_, st, θ, F, θ, F, H, .refl, rS, start_rl (c := { T := T }) (N := N) rr, ?_⟩
  rw [runB_bk] at p
  cases q : m (ds.map (fun d => some (Slot.val d)) ++ List.replicate (N.length - ds.length) none) st with
  | nx l' s' =>
    rw [q] at p
    exact fun σ' θ' F' H' t _ rS _ => p .non θ' F' H' t rS .non
  | rt d s' =>
    rw [q] at p
    exact fun v θ' F' H' t _ rS h => p v θ' F' H' t rS h
  | ex x l' s' =>
    rw [q] at p
    exact fun cls dx σ' θ' F' H' t _ rS _ h => p cls dx θ' F' H' t rS h
  | bk l' s' =>
    rw [q] at p
    exact p.elim
  | ct l' s' =>
    rw [q] at p
    exact p.elim
  | bad =>
    rw [q] at p
    exact p.elim
end Wd
set_option Elab.async false
set_option linter.all false
set_option maxRecDepth 100000
set_option maxHeartbeats 1000000
set_option autoImplicit false
/-! Wd10: an own exception class whose __init__ says super().__init__(x), self.f = y. -/
namespace Wd
open PySem PySem.W PySem.Calls PyProof.Rows

/-- super().__init__(arg) -/
def supS (arg : Expr) (p0 p1 p2 p3 p4 : Pos) : Stmt := .Expr (.Call (.Attribute (.Call (.Name "super" p0) [] [] p1) "__init__" p2) [arg] [] p3) p4
section
variable {prog : Program} {w : World} {A : Around} {E : Value → Shared → Prop} {h : Heap} {g : Array GenState} {d : Drawn} {t : Nat} {os : OsState} {B newId initId : String} {bmB : List Value}
/-- the bound __init__ called -/
theorem call_mw {nm q : Str} {C N : Addr} {bs bm : List Value} {hdct : Bool} {sn : List Str} {sub : List Value} {ab : Bool} {col : Option Bool} {dd : Option Addr} {k0 k1 k2 k3 k5 : Option Value} {u e t0 : Addr} {rest : List Value} {Q : Value → Shared → Prop} (FB : ExcBaseFacts B newId initId bmB)
    (hC : h.get? C = some (excClassObj nm q C N bs bm hdct sn sub ab col dd k0 k1 k2 k3 k5 newId)) (he : h.get? e = some (HandSPX.excO C t0)) (hu : h.get? u = some (kxs_mw initId e)) (hrest : rest.length ≤ sizeLine)
    (hq : ∀ h' t1, (∀ b o, b ≠ e → h.get? b = some o → h'.get? b = some o) → h'.get? e = some (HandSPX.excO C t1) → Q .none ⟨h', g, d, t, os⟩) :
    wpAny (model prog w) A (call (.ref u) rest) Q E ⟨h, g, d, t, os⟩ := by
  refine wpAny_call (codeAny_of_tree ?_)
  show wpAny _ A.in1 (callAny (.ref u) ⟨rest, []⟩) _ _ _
  simp only [callAny]
  refine wpAny_bind (wpAny_load hu ?_)
  simp only [kxs_mw, show (Value.type "method-wrapper" == Value.type "method" || Value.type "method-wrapper" == Value.type "builtin_function_or_method" || Value.type "method-wrapper" == Value.type "method-wrapper") = true by decide, if_true]
  refine KFB.if_so (by decide) ?_
  refine wpAny_bind (check_bound_init FB.toExcCallFacts hC he rfl ?_)
  refine wpAny_bind (wpAny_pure (wpAny_pure ?_))
  refine ⟨plainId_quiet FB.init.plain _, codeAny_builtin FB.initEntry ?_⟩
  exact exc_init_tree (cls := .ref C) (t0 := t0) (dv := none) (c2 := .none) (c3 := .none) (b4 := .bool false) he hrest fun h' k e1 _ => hq h' _ k e1
/-- self.f = v of an exception without a dict -/
theorem osa1 {K : W.Frag} {R : Result → Shared → Prop} {name : Str} {tk : Tok} {v : Value} {x C : Addr} {fv : Array Value} {cd : ClassData}
    (X : K.In h) (hx : h.get? x = some { cls := .ref C, data := .fields fv }) (hcd : W.clsIn K C = some cd) (hob : W.mroIn K C (.type "object") = some true) (hpass : ∀ self : Value, PySem.refuseLoop self "__setattr__" cd.mro = pure ()) (hh : cd.hasDict = true) (ha : W.findIn K (.ref C) name = some none)
    (hq : ∀ h' tk' dx, (∀ b o, b ≠ x → h.get? b = some o → h'.get? b = some o) → h.objs.size ≤ dx → dx ≠ x → h'.get? x = some { cls := .ref C, dict := some dx, data := .fields fv } →
      h'.Ns1 dx (fun y => if y = name then some v else none) → R (.ok (.ret .none)) ⟨h', g, d, tk', os⟩) :
    codeAny (model prog w) A (.call (.builtin "object.__setattr__") ⟨[.ref x, .str name tk, v], []⟩) R ⟨h, g, d, t, os⟩ := by
  have I : W.InstAt h x { cls := .ref C, data := .fields fv } C none := ⟨hx, rfl, rfl, trivial⟩
  have SF := F.store_object
  have hxs : x ≠ h.objs.size := Nat.ne_of_lt (Heap.lt_size hx)
  have sub : W.Looks (model prog w) h (isInstance (.ref x) (.type "object")) true := I.type.andThen (W.looks_mroIn X hob)
  refine codeAny_call_builtin SF.slot.plain SF.entry (@W.check_slot (model prog w) _ _ ⟨h, g, d, t, os⟩ "object.__setattr__" "object" "__setattr__" (.ref x) [.str name tk, v] [] _ SF.kind SF.split sub (SF.args (.ref x) (.str name tk) v) ?_)
  have hmr : W.Looks (model prog w) h (mroOf (.ref C)) cd.mro := (W.looks_clsIn X hcd).andThen .now
  have L3 : W.Looks (model prog w) h (Builtin.ObjectAttr.storeTaker? none) none := .now
  rw [W.osa_eq, PySem.refuse_eq]
  refine wpAny_bind (wpAny_bind (I.type.at (wpAny_bind (hmr.at ?_))))
  rw [hpass]
  refine wpAny_pure (wpAny_bind (I.type.at (wpAny_bind ((W.looks_findIn X ha).at (wpAny_bind (L3.at ?_))))))
  have hcls : W.Looks (model prog w) h (classData C) cd := W.looks_clsIn X hcd
  obtain ⟨nm, bs, mro, ns, qn, hd, sn, sb, ab, col, del⟩ := cd
  dsimp only at hh
  subst hh
  show wpAny _ _ (Builtin.ObjectAttr.storeInOwnDict (.ref x) (.ref C) (.str name tk) name v false) _ _ _
  unfold Builtin.ObjectAttr.storeInOwnDict Builtin.ObjectAttr.ownDictForStores
  repeat (first | with_reducible refine HandSPX.store_in_new ?_ ?_ | with_reducible refine wpAny_loadPart_at hx ?_ | with_reducible refine hcls.at ?_ | wp_step)
  · exact ⟨_, #[], _, (Heap.get?_update_ne _ _ _ _ hxs.symm).trans (Heap.get?_push_at rfl rfl), rfl, fun e he => absurd he (by simp), fun _ => rfl⟩
  · intro h' tk' hn' hs
    have hx₁ : (h.push { cls := .type "dict", data := .dict #[] }).get? x = some { cls := .ref C, data := .fields fv } := Heap.get?_push_of_some _ hx
    refine hq h' tk' h.objs.size (fun b o hb ho => ?_) (Nat.le_refl _) hxs.symm ?_ hn'
    · exact (hs.2 b (Nat.ne_of_lt (Heap.lt_size ho))).trans ((Heap.get?_update_ne _ _ _ _ hb).trans (Heap.get?_push_of_some _ ho))
    · exact (hs.2 x hxs).trans (Heap.get?_update_self _ hx₁ rfl)

/-- what is known of the class at C: B its base, its __init__ at f -/
structure SupC (prog : Program) (K : W.Frag) (C f : Addr) (B newId initId : String) (bmB : List Value) : Prop where
  FB : ExcBaseFacts B newId initId bmB
  KF : KxsFacts B initId
  made : excInitIn K C bmB newId = true
  hd : hasDictIn K C = true
  kp : keepIn K (.ref C) = true
  sb : subIn K (.ref C) (.type "BaseException") = some true
  sB : subIn K (.ref C) (.type B) = some true
  so : mroIn K C (.type "object") = some true
  ty : typeIn K (.ref C) = some (.type "type")
  it : findIn K (.ref C) "__init__" = some (some (.ref f))
  sa : findIn K (.ref C) "__setattr__" = some (some (.builtin "object.__setattr__"))
  su : ks_superIn K C C "__init__" = some (some (.builtin initId))
  mr : mroIn K C (.ref C) = some true
  st : nsIn K cStatics "thirdparty.any" = some none
  fr : nsIn K mainGlobals "super" = some none
  tf : typeIn K (.ref f) = some (.type "function")
  rl : ∀ self : Value, PySem.refuseLoop self "__setattr__" bmB = pure ()
  top : (prog.main.scope.names.lookup ("super" : Str)).isSome = false
/-- .. of its __init__ -/
structure SupF (prog : Program) (K : W.Frag) (C f : Addr) (params : Arguments) (body : List Stmt) (scope : Scope) (oc dV kV doc pm ct : Value) (od an : Option Addr) (osl : Array (Option Value)) (nm qual : Str) (cda cc : Addr) : Prop where
  lk : K.lookup f = some ⟨oc, od, .func (ksFn nm qual params body scope dV kV doc pm an (.ref cda) ct cc), osl⟩
  cd : codeIn K (.ref cda) qual = true
  cell : ∃ cl cld csl, K.lookup cc = some ⟨cl, cld, .cell (some (.ref C)), csl⟩
  code : ∃ ccl cdd vs ccs file tf, K.lookup cda = some ⟨ccl, cdd, .fields vs, ccs⟩ ∧ vs[2]? = some (.str file tf) ∧ ((prog.main.file : Str) == file) = true
theorem cls_of {K : W.Frag} {C : Addr} {x : Value} {r : Bool} (e : mroIn K C x = some r) : ∃ cd, clsIn K C = some cd := by
  obtain ⟨cd, a, b⟩ := Option.bind_eq_some_iff.mp e
  exact ⟨cd, a⟩
theorem cls_at {K : W.Frag} {C : Addr} {cd : ClassData} (X : K.In h) (e : clsIn K C = some cd) : ∃ o, h.get? C = some o ∧ o.data = .cls cd := by
  unfold clsIn at e
  split at e
  · rename_i c d cd' sl ho
    cases e
    exact ⟨_, X _ _ ho, rfl⟩
  · cases e
theorem sup_run {K : W.Frag} {mg mb : Str → Option Value} {C f e t0 L cda cc : Addr} {params : Arguments} {body : List Stmt} {scope : Scope} {oc dV kV doc pm ct : Value} {od an : Option Addr} {osl : Array (Option Value)} {nm qual : Str} {ar : Arg} {arg : Expr} {p0 p1 p2 p3 p4 : Pos} {m : Str → Option Value} {pl : Sem Bool} {Q : Flow → Shared → Prop}
    (S : SupC prog K C f B newId initId bmB) (T : SupF prog K C f params body scope oc dV kV doc pm ct od an osl nm qual cda cc) (X : K.In h) (hg : h.Ns mainGlobals mg) (hb : h.Ns builtinsNs mb) (hbb : ∀ x : Str, x ≠ "__name__" → mb x = bootBuiltins x) (hm : h.Ns L m) (hv : m ar.arg = some (.ref e)) (he : h.get? e = some (HandSPX.excO C t0))
    (hp : (params.posonlyargs ++ params.args).head? = some ar) (hks : scope.names.lookup ("super" : Str) = some .globalImplicit) (hkc : scope.names.lookup ("__class__" : Str) = some .free) (hka : scope.names.lookup ar.arg = some .local) (hk : scope.kind = .function)
    (ha : ∀ (h1 : Heap) (t1 : Nat) (Q' : Value → Shared → Prop), (∀ b o, h.get? b = some o → h1.get? b = some o) → (∀ v t2, Q' v ⟨h1, g, d, t2, os⟩) → wpAny (model prog w) A (eval arg (ksEnv qual scope L f (.ref cda) cc)) Q' E ⟨h1, g, d, t1, os⟩)
    (hq : ∀ (h' : Heap) (t1 : Addr) (t' : Nat), (∀ b o, b ≠ e → h.get? b = some o → h'.get? b = some o) → h'.get? e = some (HandSPX.excO C t1) → Q .next ⟨h', g, d, t', os⟩)
    (hev : eval (.Call (.Attribute (.Call (.Name "super" p0) [] [] p1) "__init__" p2) [arg] [] p3) (ksEnv qual scope L f (.ref cda) cc) = (do
      let ov ← attributeBase (.Call (.Name "super" p0) [] [] p1) "__init__" (ksEnv qual scope L f (.ref cda) cc) (eval (.Call (.Name "super" p0) [] [] p1) (ksEnv qual scope L f (.ref cda) cc))
      standAt p2.atName
      let (f', first) ← holding [ov] (getMethod ov "__init__" pl)
      callWith p3 f' first (backTo p3 (starEach [arg] (ksEnv qual scope L f (.ref cda) cc))) []) := by rfl)
    (hi : interactive (ksEnv qual scope L f (.ref cda) cc) = false := by rfl) (h1 : starEach [arg] (ksEnv qual scope L f (.ref cda) cc) = [(false, eval arg (ksEnv qual scope L f (.ref cda) cc))] := by rfl) (hsw : swapsWith (.Call (.Attribute (.Call (.Name "super" p0) [] [] p1) "__init__" p2) [arg] [] p3) none p4.line (ksEnv qual scope L f (.ref cda) cc) = pure false := by rfl) :
    _root_.PySem.wpAt (model prog w) A (.func body (ksEnv qual scope L f (.ref cda) cc)) (exec (supS arg p0 p1 p2 p3 p4) (ksEnv qual scope L f (.ref cda) cc)) Q E ⟨h, g, d, t, os⟩ := by
  obtain ⟨cl, cld, csl, hcell⟩ := T.cell
  obtain ⟨ccl, cdd, vs, ccs, file, tf, hcode, hvs, hfile⟩ := T.code
  obtain ⟨cd, hcd⟩ := cls_of S.mr
  obtain ⟨oD, hD1, hD2⟩ := cls_at X hcd
  unfold supS
  refine ks_wpAt_Expr_any ?_ hi hsw
  refine ks_wpAt_MethodCall (pl := pl) ?_ hev
  refine ks_wpAt_super_base (env := ksEnv qual scope L f (.ref cda) cc) hks hkc (by decide) rfl (X _ _ T.lk) rfl hp rfl (X _ _ hcode) rfl hvs hfile S.top ?_
  refine ks_loadName_global hk hks (loadGlobal_builtin (env := ksEnv qual scope L f (.ref cda) cc) hg (mg_none_of X hg S.fr) hb ((hbb _ (by decide)).trans (show bootBuiltins "super" = some (.type "super") by decide +kernel)) ⟨rfl, ?_⟩)
  refine wpAny_loadName_free hk hkc rfl ⟨_, X _ _ hcell, rfl⟩ ?_
  refine wpAny_loadName_local hk hka hm hv ?_
  refine ks_wpAny_isType_cls hD1 hD2 ⟨rfl, ?_⟩
  refine ks_wpAny_call_super hD1 hD2 he rfl (fun c z => by cases z) (looks_mroIn X S.mr) (fun h' eS k => ?_)
  have X' : K.In h' := X.keeps k
  have he' := k _ _ he
  have I' : W.InstAt h' e (HandSPX.excO C t0) C none := ⟨he', rfl, rfl, trivial⟩
  have hsu : alongIn K "__init__" ((cd.mro.dropWhile (· != .ref C)).drop 1) = some (some (.builtin initId)) := by
    have z := S.su
    unfold ks_superIn at z
    rw [hcd] at z
    exact z
  refine kxs_getMethod S.KF eS (looks_opaque X' S.st) (l₀ := cd.mro) ((W.looks_clsIn X' hcd).andThen .now) rfl X' hsu (I'.type.andThen (looks_subIn X' S.sB)) (ks_ne X' I' hcd) (by decide) ?_
  have kp : ∀ b o, h.get? b = some o → (h'.push (kxs_mw initId e)).get? b = some o := fun b o z => Heap.get?_push_of_some _ (k b o z)
  have hu : (h'.push (kxs_mw initId e)).get? h'.objs.size = some (kxs_mw initId e) := Heap.get?_push_size _ rfl
  show wpAny _ _ (callWith p3 (.ref h'.objs.size) [] (backTo p3 (starEach [arg] _)) []) _ _ _
  rw [h1]
  refine kxs_callWith (i := initId) (x := e) (by rfl) ?_
  refine evalArgs_plain (spliced_cons (ha _ _ _ kp fun v t2 => spliced_nil ⟨hu, ?_⟩))
  obtain ⟨nm', N', qn, bs, bm, hdct, sn, sub, ab, col, dd, k0, k1, k2, k3, k5, hC, hT⟩ := excInit_of (X.keeps kp) S.made
  exact call_mw (rest := [v]) S.FB hC (kp _ _ he) hu (by rw [sizeLine_eq]; show 1 ≤ 16777216; decide) fun h2 t1 k2 e2 => hq h2 t1 t2 (fun b o hb z => k2 b o hb (kp b o z)) e2

theorem rl_of {K : W.Frag} {C : Addr} {cd : ClassData} (q : excInitIn K C bmB newId = true) (hcd : clsIn K C = some cd) (h : ∀ self : Value, PySem.refuseLoop self "__setattr__" bmB = pure ()) (self : Value) : PySem.refuseLoop self "__setattr__" cd.mro = pure () := by
  unfold excInitIn at q
  split at q
  · rename_i dd cd' sl ho
    have e : clsIn K C = some cd' := by
      unfold clsIn
      rw [ho]
    rw [hcd] at e
    cases e
    split at q
    · rename_i C' bm k0 k1 k2 k3 n k5 hm hs
      simp only [Bool.and_eq_true, beq_iff_eq, Bool.not_eq_true'] at q
      rw [hm, refuseLoop_ref]
      exact excTail_pass self (h self) bm q.2
    · cases q
  · cases q
theorem hd_of {K : W.Frag} {C : Addr} {cd : ClassData} (q : hasDictIn K C = true) (hcd : clsIn K C = some cd) : cd.hasDict = true := by
  unfold hasDictIn at q
  rw [hcd] at q
  exact q
/-- __init__ of a class with a field -/
theorem init_A {K : W.Frag} {mg mb : Str → Option Value} {C f e t0 cda cc : Addr} {params : Arguments} {scope : Scope} {oc dV kV doc pm ct : Value} {od an : Option Addr} {osl : Array (Option Value)} {nm qual x y fld : Str} {ar : Arg} {arg : Expr} {p0 p1 p2 p3 p4 p5 p6 p7 p8 : Pos} {pl : Addr → Sem Bool} {u : Value} {R : Result → Shared → Prop}
    (S : SupC prog K C f B newId initId bmB) (T : SupF prog K C f params [supS arg p0 p1 p2 p3 p4, .Assign [.Attribute (.Name x p5) fld p6] (.Name y p7) p8] scope oc dV kV doc pm ct od an osl nm qual cda cc) (X : K.In h) (hg : h.Ns mainGlobals mg) (hb : h.Ns builtinsNs mb) (hbb : ∀ x : Str, x ≠ "__name__" → mb x = bootBuiltins x) (hlim : h.NoLimit) (hr : A.depth < recursionLimit)
    (he : h.get? e = some (HandSPX.excO C t0)) (hKe : K.lookup e = none) (hno : findIn K (.ref C) fld = some none)
    (hbind : ∀ a b : Value, bindArgs (ksFn nm qual params [supS arg p0 p1 p2 p3 p4, .Assign [.Attribute (.Name x p5) fld p6] (.Name y p7) p8] scope dV kV doc pm an (.ref cda) ct cc) ⟨[a, b], []⟩ = pure [(x, a), (y, b)])
    (hxy : (y == x) = false) (hcell : ∀ z ∈ scope.names, z.2 ≠ .cell) (hx : scope.names.lookup x = some .local) (hy : scope.names.lookup y = some .local) (har : ar.arg = x)
    (hp : (params.posonlyargs ++ params.args).head? = some ar) (hks : scope.names.lookup ("super" : Str) = some .globalImplicit) (hkc : scope.names.lookup ("__class__" : Str) = some .free) (hk : scope.kind = .function) (hco : scope.isCoroutine = false) (hgen : scope.isGenerator = false) (hdx : (x == ("__debug__" : Str)) = false) (hdy : (y == ("__debug__" : Str)) = false)
    (ha : ∀ (L : Addr) (A : Around) (E : Value → Shared → Prop) (h1 : Heap) (t1 : Nat) (Q' : Value → Shared → Prop), h1.Ns L (fun z => [(x, Value.ref e), (y, u)].reverse.lookup z) → (∀ v t2, Q' v ⟨h1, g, d, t2, os⟩) → wpAny (model prog w) A (eval arg (ksEnv qual scope L f (.ref cda) cc)) Q' E ⟨h1, g, d, t1, os⟩)
    (hq : ∀ (h' : Heap) (t1 dx : Addr) (t' : Nat), (∀ b o, b ≠ e → h.get? b = some o → h'.get? b = some o) → h.objs.size ≤ dx → dx ≠ e → h'.get? e = some { cls := .ref C, dict := some dx, data := .fields #[.ref t1, .none, .none, .none, .bool false, .none] } →
      h'.Ns1 dx (fun z => if z = fld then some u else none) → R (.ok (.ret .none)) ⟨h', g, d, t', os⟩)
    (hev : ∀ L : Addr, eval (.Call (.Attribute (.Call (.Name "super" p0) [] [] p1) "__init__" p2) [arg] [] p3) (ksEnv qual scope L f (.ref cda) cc) = (do
      let ov ← attributeBase (.Call (.Name "super" p0) [] [] p1) "__init__" (ksEnv qual scope L f (.ref cda) cc) (eval (.Call (.Name "super" p0) [] [] p1) (ksEnv qual scope L f (.ref cda) cc))
      standAt p2.atName
      let (f', first) ← holding [ov] (getMethod ov "__init__" (pl L))
      callWith p3 f' first (backTo p3 (starEach [arg] (ksEnv qual scope L f (.ref cda) cc))) []) := by intro _; rfl)
    (hi : ∀ L : Addr, interactive (ksEnv qual scope L f (.ref cda) cc) = false := by intro _; rfl) (h1 : ∀ L : Addr, starEach [arg] (ksEnv qual scope L f (.ref cda) cc) = [(false, eval arg (ksEnv qual scope L f (.ref cda) cc))] := by intro _; rfl)
    (hsw : ∀ L : Addr, swapsWith (.Call (.Attribute (.Call (.Name "super" p0) [] [] p1) "__init__" p2) [arg] [] p3) none p4.line (ksEnv qual scope L f (.ref cda) cc) = pure false := by intro _; rfl) (hs2 : ∀ L : Addr, swapsWith (.Name y p7) (some (.Attribute (.Name x p5) fld p6)) p8.line (ksEnv qual scope L f (.ref cda) cc) = pure false := by intro _; rfl) :
    codeAny (model prog w) A (.call (.ref f) ⟨[.ref e, u], []⟩) R ⟨h, g, d, t, os⟩ := by
  refine ks_codeAny_call_defAt (s := ⟨h, g, d, t, os⟩) (fd := ksFn nm qual params [supS arg p0 p1 p2 p3 p4, .Assign [.Attribute (.Name x p5) fld p6] (.Name y p7) p8] scope dV kV doc pm an (.ref cda) ct cc) (body := [supS arg p0 p1 p2 p3 p4, .Assign [.Attribute (.Name x p5) fld p6] (.Name y p7) p8]) (binds := [(x, .ref e), (y, u)]) hr (X _ _ T.lk) rfl hlim (codeRec_of X T.cd) rfl (BindsTo.of_eq (hbind _ _)) hcell (fun z hz => ?_) (fun h0 hns k0 => ?_) hco hgen hk
  · rcases List.mem_cons.mp hz with rfl | hz
    · exact hx
    · rcases List.mem_cons.mp hz with rfl | hz
      · exact hy
      · cases hz
  have hvx : ([(x, Value.ref e), (y, u)].reverse.lookup x) = some (.ref e) := by
    have : (x == y) = false := by
      cases z : x == y with
      | false => rfl
      | true =>
        rw [eq_of_beq z] at hxy
        simp at hxy
    simp [List.lookup, this]
  have hvy : ([(x, Value.ref e), (y, u)].reverse.lookup y) = some u := by simp [List.lookup]
  have hne : h.objs.size ≠ e := Nat.ne_of_gt (Heap.lt_size he)
  show _root_.PySem.wpAt (model prog w) (A.deeper (ksEnv qual scope h.objs.size f (.ref cda) cc)) (.func _ (ksEnv qual scope h.objs.size f (.ref cda) cc)) (execs _ (ksEnv qual scope h.objs.size f (.ref cda) cc)) _ _ _
  refine ks_wpAt_execs_cons (sup_run (L := h.objs.size) (m := fun z => [(x, Value.ref e), (y, u)].reverse.lookup z) (ar := ar) (pl := pl h.objs.size) S T (X.keeps k0) (hg.keeps k0) (hb.keeps k0) hbb hns (by rw [har]; exact hvx) (k0 _ _ he) hp hks hkc (by rw [har]; exact hx) hk (fun h1 t1 Q' k1 hq' => ha _ _ _ h1 t1 Q' (hns.keeps k1) hq') (fun h2 t1 t2 k2 e2 => ?_) (hev _) (hi _) (h1 _) (hsw _))
  have X2 : K.In h2 := fun b o z => k2 b o (fun zz => by
    rw [zz, hKe] at z
    cases z) (k0 b o (X b o z))
  have ns2 : h2.Ns h.objs.size (fun z => [(x, Value.ref e), (y, u)].reverse.lookup z) := by
    obtain ⟨o, es, ep, ho, r⟩ := hns
    exact ⟨o, es, ep, k2 _ _ hne ho, r⟩
  obtain ⟨cd, hcd⟩ := cls_of S.mr
  refine ks_wpAt_execs_cons (wpAt_of_wpAny ?_)
  refine plainObj_wpAny_Assign_Attribute (wpAny_Name (wpAny_loadName_local hk hy ns2 hvy (wpAny_Name (wpAny_loadName_local hk hx ns2 hvx ?_) hdx)) hdy) (hs2 _)
  refine set_plain X2 (ox := HandSPX.excO C t1) (od := none) ⟨e2, rfl, rfl, trivial⟩ S.sa ?_
  refine osa1 X2 e2 hcd S.so (rl_of S.made hcd S.rl) (hd_of S.hd hcd) hno (fun h3 t3 dx k3 dn dne e3 n3 => ?_)
  refine wpAt_of_wpAny (wpAny_pure ?_)
  have sz : h.objs.size ≤ dx := Nat.le_trans (Nat.le_of_lt (Heap.lt_size (ns2.choose_spec.choose_spec.choose_spec.1))) dn
  exact hq h3 t1 dx t3 (fun b o hb z => k3 b o hb (k2 b o hb (k0 b o z))) sz dne e3 n3
/-- __init__ of a class without fields -/
theorem init_B {K : W.Frag} {mg mb : Str → Option Value} {C f e t0 cda cc : Addr} {params : Arguments} {scope : Scope} {oc dV kV doc pm ct : Value} {od an : Option Addr} {osl : Array (Option Value)} {nm qual x y : Str} {ar : Arg} {arg : Expr} {p0 p1 p2 p3 p4 : Pos} {pl : Addr → Sem Bool} {u : Value} {R : Result → Shared → Prop}
    (S : SupC prog K C f B newId initId bmB) (T : SupF prog K C f params [supS arg p0 p1 p2 p3 p4] scope oc dV kV doc pm ct od an osl nm qual cda cc) (X : K.In h) (hg : h.Ns mainGlobals mg) (hb : h.Ns builtinsNs mb) (hbb : ∀ x : Str, x ≠ "__name__" → mb x = bootBuiltins x) (hlim : h.NoLimit) (hr : A.depth < recursionLimit)
    (he : h.get? e = some (HandSPX.excO C t0))
    (hbind : ∀ a b : Value, bindArgs (ksFn nm qual params [supS arg p0 p1 p2 p3 p4] scope dV kV doc pm an (.ref cda) ct cc) ⟨[a, b], []⟩ = pure [(x, a), (y, b)])
    (hxy : (y == x) = false) (hcell : ∀ z ∈ scope.names, z.2 ≠ .cell) (hx : scope.names.lookup x = some .local) (hy : scope.names.lookup y = some .local) (har : ar.arg = x)
    (hp : (params.posonlyargs ++ params.args).head? = some ar) (hks : scope.names.lookup ("super" : Str) = some .globalImplicit) (hkc : scope.names.lookup ("__class__" : Str) = some .free) (hk : scope.kind = .function) (hco : scope.isCoroutine = false) (hgen : scope.isGenerator = false)
    (ha : ∀ (L : Addr) (A : Around) (E : Value → Shared → Prop) (h1 : Heap) (t1 : Nat) (Q' : Value → Shared → Prop), h1.Ns L (fun z => [(x, Value.ref e), (y, u)].reverse.lookup z) → (∀ v t2, Q' v ⟨h1, g, d, t2, os⟩) → wpAny (model prog w) A (eval arg (ksEnv qual scope L f (.ref cda) cc)) Q' E ⟨h1, g, d, t1, os⟩)
    (hq : ∀ (h' : Heap) (t1 : Addr) (t' : Nat), (∀ b o, b ≠ e → h.get? b = some o → h'.get? b = some o) → h'.get? e = some (HandSPX.excO C t1) → R (.ok (.ret .none)) ⟨h', g, d, t', os⟩)
    (hev : ∀ L : Addr, eval (.Call (.Attribute (.Call (.Name "super" p0) [] [] p1) "__init__" p2) [arg] [] p3) (ksEnv qual scope L f (.ref cda) cc) = (do
      let ov ← attributeBase (.Call (.Name "super" p0) [] [] p1) "__init__" (ksEnv qual scope L f (.ref cda) cc) (eval (.Call (.Name "super" p0) [] [] p1) (ksEnv qual scope L f (.ref cda) cc))
      standAt p2.atName
      let (f', first) ← holding [ov] (getMethod ov "__init__" (pl L))
      callWith p3 f' first (backTo p3 (starEach [arg] (ksEnv qual scope L f (.ref cda) cc))) []) := by intro _; rfl)
    (hi : ∀ L : Addr, interactive (ksEnv qual scope L f (.ref cda) cc) = false := by intro _; rfl) (h1 : ∀ L : Addr, starEach [arg] (ksEnv qual scope L f (.ref cda) cc) = [(false, eval arg (ksEnv qual scope L f (.ref cda) cc))] := by intro _; rfl)
    (hsw : ∀ L : Addr, swapsWith (.Call (.Attribute (.Call (.Name "super" p0) [] [] p1) "__init__" p2) [arg] [] p3) none p4.line (ksEnv qual scope L f (.ref cda) cc) = pure false := by intro _; rfl) :
    codeAny (model prog w) A (.call (.ref f) ⟨[.ref e, u], []⟩) R ⟨h, g, d, t, os⟩ := by
  refine ks_codeAny_call_defAt (s := ⟨h, g, d, t, os⟩) (fd := ksFn nm qual params [supS arg p0 p1 p2 p3 p4] scope dV kV doc pm an (.ref cda) ct cc) (body := [supS arg p0 p1 p2 p3 p4]) (binds := [(x, .ref e), (y, u)]) hr (X _ _ T.lk) rfl hlim (codeRec_of X T.cd) rfl (BindsTo.of_eq (hbind _ _)) hcell (fun z hz => ?_) (fun h0 hns k0 => ?_) hco hgen hk
  · rcases List.mem_cons.mp hz with rfl | hz
    · exact hx
    · rcases List.mem_cons.mp hz with rfl | hz
      · exact hy
      · cases hz
  have hvx : ([(x, Value.ref e), (y, u)].reverse.lookup x) = some (.ref e) := by
    have : (x == y) = false := by
      cases z : x == y with
      | false => rfl
      | true =>
        rw [eq_of_beq z] at hxy
        simp at hxy
    simp [List.lookup, this]
  show _root_.PySem.wpAt (model prog w) (A.deeper (ksEnv qual scope h.objs.size f (.ref cda) cc)) (.func _ (ksEnv qual scope h.objs.size f (.ref cda) cc)) (execs _ (ksEnv qual scope h.objs.size f (.ref cda) cc)) _ _ _
  refine ks_wpAt_execs_cons (sup_run (L := h.objs.size) (m := fun z => [(x, Value.ref e), (y, u)].reverse.lookup z) (ar := ar) (pl := pl h.objs.size) S T (X.keeps k0) (hg.keeps k0) (hb.keeps k0) hbb hns (by rw [har]; exact hvx) (k0 _ _ he) hp hks hkc (by rw [har]; exact hx) hk (fun h1 t1 Q' k1 hq' => ha _ _ _ h1 t1 Q' (hns.keeps k1) hq') (fun h2 t1 t2 k2 e2 => ?_) (hev _) (hi _) (h1 _) (hsw _))
  refine wpAt_of_wpAny (wpAny_pure ?_)
  exact hq h2 t1 t2 (fun b o hb z => k2 b o hb (k0 b o z)) e2
end
end Wd
set_option Elab.async false
set_option linter.all false
set_option maxRecDepth 100000
set_option autoImplicit false
/-! Wd11: raise. -/
namespace Wd
open PySem PySem.Spec PyProof.Rows L2

/-- raise X(e): the class's name, its field -/
def sRaise (x : Str) (fld : Option Str) (m : EM D) : SM := fun l s => (m l s).toR l fun d s' => .ex ⟨x, match fld with
  | some f => [(f, d)]
  | none => []⟩ l s'

/-- __init__ of a class, as a call -/
def MkA (prog : Program) (w : World) (K : PySem.W.Frag) (C f : Addr) (fld : Str) : Prop := ∀ (A : Around) (mg mb : Str → Option Value) (h : Heap) (g : Array GenState) (d : Drawn) (t : Nat) (os : OsState) (e t0 : Addr) (u : Value) (R : Result → Shared → Prop),
  K.In h → h.Ns mainGlobals mg → h.Ns builtinsNs mb → (∀ x : Str, x ≠ "__name__" → mb x = bootBuiltins x) → h.NoLimit → A.depth < recursionLimit → h.get? e = some (HandSPX.excO C t0) → K.lookup e = none →
  (∀ (h' : Heap) (t1 dx : Addr) (t' : Nat), (∀ b o, b ≠ e → h.get? b = some o → h'.get? b = some o) → h.objs.size ≤ dx → dx ≠ e → h'.get? e = some { cls := .ref C, dict := some dx, data := .fields #[.ref t1, .none, .none, .none, .bool false, .none] } →
    h'.Ns1 dx (fun z => if z = fld then some u else none) → R (.ok (.ret .none)) ⟨h', g, d, t', os⟩) → codeAny (model prog w) A (.call (.ref f) ⟨[.ref e, u], []⟩) R ⟨h, g, d, t, os⟩
def MkB (prog : Program) (w : World) (K : PySem.W.Frag) (C f : Addr) : Prop := ∀ (A : Around) (mg mb : Str → Option Value) (h : Heap) (g : Array GenState) (d : Drawn) (t : Nat) (os : OsState) (e t0 : Addr) (u : Value) (R : Result → Shared → Prop),
  K.In h → h.Ns mainGlobals mg → h.Ns builtinsNs mb → (∀ x : Str, x ≠ "__name__" → mb x = bootBuiltins x) → h.NoLimit → A.depth < recursionLimit → h.get? e = some (HandSPX.excO C t0) →
  (∀ (h' : Heap) (t1 : Addr) (t' : Nat), (∀ b o, b ≠ e → h.get? b = some o → h'.get? b = some o) → h'.get? e = some (HandSPX.excO C t1) → R (.ok (.ret .none)) ⟨h', g, d, t', os⟩) → codeAny (model prog w) A (.call (.ref f) ⟨[.ref e, u], []⟩) R ⟨h, g, d, t, os⟩
/-- what a raise of the class x asks -/
def RaA (prog : Program) (w : World) (K : PySem.W.Frag) (mg : Str → Option Value) (x : Str) (fld : Option Str) : Prop :=
  mg x = some (.ref (He.ga K x)) ∧ ∃ (f : Addr) (B newId initId : String) (bmB : List Value), SupC prog K (He.ga K x) f B newId initId bmB ∧ match fld with
    | some g => MkA prog w K (He.ga K x) f g
    | none => MkB prog w K (He.ga K x) f

section
variable {X : Cx} {C f : Addr} {B newId initId : String} {bmB : List Value} {x fld : Str} {e : Expr} {t : TA} {p pos : Pos}
theorem pmk_A (S : SupC X.prog X.K C f B newId initId bmB) (M : MkA X.prog X.w X.K C f fld) (hg : Gl X x) (hm : X.mg x = some (.ref C)) (hr : X.A.depth + 3 < recursionLimit) (ha : PA X [e] t)
    (hdb : (x == ("__debug__" : Str)) = false := by decide) (he : starEach [e] X.env = (false, eval e X.env) :: starEach [] X.env := by rfl) (hpl : (backTo pos (starEach [] X.env)).any (·.1) = false := by rfl) :
    PMk X (.Call (.Name x p) [e] [] pos) (fun σ H Q => t σ H fun vs H1 => ∃ v, vs = [v] ∧ ∀ dd, H1 dd = none → Q (.ref C) (some dd) (upd H1 dd (.xd [(fld, v)]))) := by
  intro pins s σ H Q I h
  refine wpAny_Call_Name_kw (ld_glob I hg hm ?_ hdb)
  refine PySem.W.callWith_K (h₀ := X.base) I.ok.mod.kin S.kp (thn (ha.run pos pins s σ H _ I h) fun us s1 ⟨vs, H1, I1, r1, v, ev, q1⟩ => ⟨I1.kIn, ?_⟩) he hpl
  show wpAny _ _ (call (.ref C) us) _ _ _
  subst ev
  cases r1 with
  | @cons _ u _ ur ru rn =>
    cases rn
    obtain ⟨hp, g, dr, tk, os⟩ := s1
    obtain ⟨nm', N', qn, bs, bm, hdct, sn, sub, ab, col, dd, k0, k1, k2, k3, k5, hC, hT⟩ := PySem.W.excInit_of I1.kIn S.made
    obtain ⟨mb, hb1, hb2⟩ := I1.mod.blt
    have kk : ∀ b o, hp.get? b = some o → ((hp.push (PySem.W.kdv_tup [u])).push (PySem.HandSPX.excO C hp.objs.size)).get? b = some o := fun b o z => Heap.get?_push_of_some _ (Heap.get?_push_of_some _ z)
    have hsz : ((hp.push (PySem.W.kdv_tup [u])).push (PySem.HandSPX.excO C hp.objs.size)).objs.size = hp.objs.size + 2 := by rw [Heap.size_push, Heap.size_push]
    have hget : ((hp.push (PySem.W.kdv_tup [u])).push (PySem.HandSPX.excO C hp.objs.size)).get? (hp.objs.size + 1) = some (PySem.HandSPX.excO C hp.objs.size) := by heap_get
    have hnew : hp.get? (hp.objs.size + 1) = none := by
      cases z : hp.get? (hp.objs.size + 1) with
      | none => rfl
      | some o => exact absurd (Heap.lt_size z) (Nat.not_lt.mpr (Nat.le_succ _))
    have hKe : X.K.lookup (hp.objs.size + 1) = none := by
      cases z : X.K.lookup (hp.objs.size + 1) with
      | none => rfl
      | some o =>
        have := I1.kIn _ _ z
        have this : hp.get? (hp.objs.size + 1) = some o := this
        rw [hnew] at this
        cases this
    refine wpAny_call (PySem.HandSPX.call_own S.FB hT hC (PySem.W.looks_findIn I1.kIn S.it) (fun self => PySem.W.bind_fn I1.kIn self S.tf) (by rw [sizeLine_eq]; show 1 ≤ 16777216; decide) ?_)
    refine M _ X.mg mb _ _ _ _ _ _ _ u _ (I1.kIn.keeps kk) ((I1.mod.glob.keeps I1.bk).keeps kk) ((hb1.keeps I1.bk).keeps kk) hb2 (I1.nolimit.keeps kk) (by rw [L2.make_depth]; omega) hget hKe fun h' t1 dx t' k dn dne e3 n3 => ?_
    rw [hsz] at dn
    refine ⟨rfl, ?_⟩
    obtain ⟨G, g1, g2⟩ := L2.restrict h' fun b => decide (b ≠ hp.objs.size + 1)
    have gk : ∀ b, b ≠ hp.objs.size + 1 → G.get? b = h'.get? b := fun b hb => g1 b (decide_eq_true hb)
    have ge : G.get? (hp.objs.size + 1) = none := g2 _ (by simp)
    have lt : ∀ b o, hp.get? b = some o → b ≠ hp.objs.size + 1 := fun b o z => Nat.ne_of_lt (Nat.lt_succ_of_lt (Heap.lt_size z))
    have hdx : hp.objs.size ≤ dx := Nat.le_trans (Nat.le_add_right _ 2) dn
    have J : Inv X pins σ (upd H1 dx (.xd [(fld, v)])) ⟨G, g, dr, t', os⟩ := I1.laid (t' := t') (a := dx) (o := .xd [(fld, v)]) (h' := G) (fun b o z => by
        rw [gk b (lt b o z)]
        exact k b o (lt b o z) (kk b o z)) hdx ⟨_, n3.at fun o y => (gk dx dne).trans y, relO_put (fs := []) (mA := fun _ => none) ru fun _ => True.intro⟩
    refine ⟨_, _, _, ⟨G, g, dr, t', os⟩, _, .ref C, some dx, rfl, J, fun b o z => ?_, ge, e3, ⟨rfl, rfl⟩, rfl, rfl, ?_, rfl, I1.bare, raises_own S.sb S.ty, q1 dx (I1.hok.fresh hdx)⟩
    · by_cases hb : b = hp.objs.size + 1
      · have z' : G.get? b = some o := z
        rw [hb, ge] at z'
        cases z'
      · exact (gk b hb).symm.trans z
    · rw [upd_ne (Ne.symm dne)]
      exact I1.hok.fresh (Nat.le_succ _)
theorem pmk_B (S : SupC X.prog X.K C f B newId initId bmB) (M : MkB X.prog X.w X.K C f) (hg : Gl X x) (hm : X.mg x = some (.ref C)) (hr : X.A.depth + 3 < recursionLimit) (ha : PA X [e] t)
    (hdb : (x == ("__debug__" : Str)) = false := by decide) (he : starEach [e] X.env = (false, eval e X.env) :: starEach [] X.env := by rfl) (hpl : (backTo pos (starEach [] X.env)).any (·.1) = false := by rfl) :
    PMk X (.Call (.Name x p) [e] [] pos) (fun σ H Q => t σ H fun vs H1 => ∃ v, vs = [v] ∧ Q (.ref C) none H1) := by
  intro pins s σ H Q I h
  refine wpAny_Call_Name_kw (ld_glob I hg hm ?_ hdb)
  refine PySem.W.callWith_K (h₀ := X.base) I.ok.mod.kin S.kp (thn (ha.run pos pins s σ H _ I h) fun us s1 ⟨vs, H1, I1, r1, v, ev, q1⟩ => ⟨I1.kIn, ?_⟩) he hpl
  show wpAny _ _ (call (.ref C) us) _ _ _
  subst ev
  cases r1 with
  | @cons _ u _ ur ru rn =>
    cases rn
    obtain ⟨hp, g, dr, tk, os⟩ := s1
    obtain ⟨nm', N', qn, bs, bm, hdct, sn, sub, ab, col, dd, k0, k1, k2, k3, k5, hC, hT⟩ := PySem.W.excInit_of I1.kIn S.made
    obtain ⟨mb, hb1, hb2⟩ := I1.mod.blt
    have kk : ∀ b o, hp.get? b = some o → ((hp.push (PySem.W.kdv_tup [u])).push (PySem.HandSPX.excO C hp.objs.size)).get? b = some o := fun b o z => Heap.get?_push_of_some _ (Heap.get?_push_of_some _ z)
    have hget : ((hp.push (PySem.W.kdv_tup [u])).push (PySem.HandSPX.excO C hp.objs.size)).get? (hp.objs.size + 1) = some (PySem.HandSPX.excO C hp.objs.size) := by heap_get
    have hnew : hp.get? (hp.objs.size + 1) = none := by
      cases z : hp.get? (hp.objs.size + 1) with
      | none => rfl
      | some o => exact absurd (Heap.lt_size z) (Nat.not_lt.mpr (Nat.le_succ _))
    refine wpAny_call (PySem.HandSPX.call_own S.FB hT hC (PySem.W.looks_findIn I1.kIn S.it) (fun self => PySem.W.bind_fn I1.kIn self S.tf) (by rw [sizeLine_eq]; show 1 ≤ 16777216; decide) ?_)
    refine M _ X.mg mb _ _ _ _ _ _ _ u _ (I1.kIn.keeps kk) ((I1.mod.glob.keeps I1.bk).keeps kk) ((hb1.keeps I1.bk).keeps kk) hb2 (I1.nolimit.keeps kk) (by rw [L2.make_depth]; omega) hget fun h' t1 t' k e3 => ?_
    have lt : ∀ b o, hp.get? b = some o → b ≠ hp.objs.size + 1 := fun b o z => Nat.ne_of_lt (Nat.lt_succ_of_lt (Heap.lt_size z))
    refine ⟨rfl, _, _, _, ⟨hp, g, dr, tk, os⟩, _, .ref C, none, rfl, I1, fun b o z => k b o (lt b o z) (kk b o z), hnew, e3, ⟨rfl, rfl⟩, rfl, rfl, I1.hok.fresh (Nat.le_succ _), rfl, I1.bare, raises_own S.sb S.ty, q1⟩
end
section
variable {X : Cx} {c : Cc} {W : WX} {x : Str} {e : Expr} {p pos pos2 : Pos} {k : Nat}
/-- raise X(e), with a field -/
theorem g_raiseA {fld : Str} {m : EM D} (R : RaA X.prog X.w X.K X.mg x (some fld)) (B : Bx X W k) (ha : GE X c W e m) (hg : Gl X x := by rfl) (hc : X.calm = true := by rfl)
    (hdb : (x == ("__debug__" : Str)) = false := by decide) (he : starEach [e] X.env = (false, eval e X.env) :: starEach [] X.env := by rfl) (hpl : (backTo pos (starEach [] X.env)).any (·.1) = false := by rfl) :
    GS X c W (.Raise (some (.Call (.Name x p) [e] [] pos)) none pos2) (sRaise x (some fld) m) := by
  obtain ⟨hm, f, Bn, newId, initId, bmB, S, M⟩ := R
  refine ps_imp (ps_raise hc B.tk (pmk_A S M hg hm (by have := B.rm.dp; omega) (pa_cons ha pa_nil he) hdb he hpl)) fun D σ H ⟨l, s, θ, F, θ0, F0, H0, t0, r1, r2, p⟩ => ?_
  refine rs_bind t0 r1 r2 p fun d s1 v θ1 F1 H1 _ t1 tt q1 l1 h1 p1 => ?_
  refine ⟨v, rfl, fun dd hdd => ?_⟩
  have hF := q1.non hdd
  have st : Step θ1 F1 H1 θ1 (upd F1 dd (.xd [(fld, v)])) (upd H1 dd (.xd [(fld, v)])) := .laid hdd hF
  refine p1 _ _ σ θ1 (upd F1 dd (.xd [(fld, v)])) (upd H1 dd (.xd [(fld, v)])) (t1.trans st) st.grow (q1.laid hdd fun _ z => nomatch z) (l1.step st) ⟨rfl, dd, _, rfl, upd_same, fun f' y hy => ?_⟩
  have hy : ([(fld, d)] : List (Str × Wd.D)).lookup f' = some y := hy
  by_cases hf : f' = fld
  · subst hf
    simp [List.lookup] at hy
    subst hy
    exact ⟨v, by simp [List.lookup], by
      have := Rel.mono (t := []) (Le.new (o := .xd [(f', v)]) hF) h1
      rw [List.append_nil] at this
      exact this⟩
  · have : (f' == fld) = false := by simpa using hf
    simp [List.lookup, this] at hy
/-- raise X(e), without one -/
theorem g_raiseB {m : EM D} (R : RaA X.prog X.w X.K X.mg x none) (B : Bx X W k) (ha : GE X c W e m) (hg : Gl X x := by rfl) (hc : X.calm = true := by rfl)
    (hdb : (x == ("__debug__" : Str)) = false := by decide) (he : starEach [e] X.env = (false, eval e X.env) :: starEach [] X.env := by rfl) (hpl : (backTo pos (starEach [] X.env)).any (·.1) = false := by rfl) :
    GS X c W (.Raise (some (.Call (.Name x p) [e] [] pos)) none pos2) (sRaise x none m) := by
  obtain ⟨hm, f, Bn, newId, initId, bmB, S, M⟩ := R
  refine ps_imp (ps_raise hc B.tk (pmk_B S M hg hm (by have := B.rm.dp; omega) (pa_cons ha pa_nil he) hdb he hpl)) fun D σ H ⟨l, s, θ, F, θ0, F0, H0, t0, r1, r2, p⟩ => ?_
  refine rs_bind t0 r1 r2 p fun d s1 v θ1 F1 H1 _ t1 tt q1 l1 h1 p1 => ?_
  exact ⟨v, rfl, p1 _ _ σ θ1 F1 H1 t1 .refl q1 l1 ⟨rfl, True.intro⟩⟩
end
end Wd
set_option Elab.async false
set_option linter.all false
set_option maxRecDepth 100000
set_option maxHeartbeats 1000000
set_option autoImplicit false
/-! Wd12: try, several clauses, with and without a name. -/
namespace Wd
open PySem PySem.Spec PyProof.Rows L2

/-- a clause: the class, the name's slot, the suite's reading -/
abbrev Cl : Type := Value × Option Nat × (Addr → Value → Option Addr → TS)
def wMix (K : PySem.W.Frag) (Wout : WX) (D : Ends) : List Cl → WX
  | [] => Wout
  | (c, none, ts) :: r => fun cls d σ H => ∃ b, PySem.W.exmOne K cls c = some b ∧ (b = true → ∀ a, H a = none → ts a cls d D σ H) ∧ (b = false → wMix K Wout D r cls d σ H)
  | (c, some i, ts) :: r => fun cls d σ H => ∃ b, PySem.W.exmOne K cls c = some b ∧
      (b = true → ∀ a, H a = none → ts a cls d { nx := fun σ' H' => D.nx (σ'.set i none) H', rt := D.rt, bk := fun σ' H' => D.bk (σ'.set i none) H', ct := fun σ' H' => D.ct (σ'.set i none) H' } (σ.set i (some (.ref a))) H) ∧ (b = false → wMix K Wout D r cls d σ H)
inductive HdM (X : Cx) : List ExceptHandler → List Cl → Prop
  | nil : HdM X [] []
  | cons {x : Str} {c : Value} {ts : Addr → Value → Option Addr → TS} {b₀ : Stmt} {suite : List Stmt} {np pos' : Pos} {hds : List ExceptHandler} {l : List Cl} (hc : Names X x c)
      (hsu : ∀ (a : Addr) (oe : Obj) (cls : Value) (d : Option Addr) (pn : List (Addr × Obj)), Zc cls d oe → (∃ vs, oe.data = .fields vs) → PSs (X.suite a ((a, oe) :: pn)) (b₀ :: suite) (ts a cls d)) (r : HdM X hds l) :
      HdM X (.ExceptHandler (some (.Name x np)) none (b₀ :: suite) pos' :: hds) ((c, none, ts) :: l)
  | consAs {x n : Str} {c : Value} {i : Nat} {ts : Addr → Value → Option Addr → TS} {b₀ : Stmt} {suite : List Stmt} {np pos' : Pos} {hds : List ExceptHandler} {l : List Cl} (hc : Names X x c) (hi : X.N[i]? = some n) (hln : X.env.kindOf n = some .local)
      (hsu : ∀ (a : Addr) (oe : Obj) (cls : Value) (d : Option Addr) (pn : List (Addr × Obj)), Zc cls d oe → (∃ vs, oe.data = .fields vs) → PSs (X.suite a ((a, oe) :: pn)) (b₀ :: suite) (ts a cls d)) (r : HdM X hds l) :
      HdM X (.ExceptHandler (some (.Name x np)) (some n) (b₀ :: suite) pos' :: hds) ((c, some i, ts) :: l)
section
variable {X : Cx} {body : List Stmt} {h₀ : ExceptHandler} {hds : List ExceptHandler} {l : List Cl} {pos : Pos} {tb : WX → TS} {Wout : WX}
theorem ps_try_mix (hs : X.stack = X.env :: X.outer) (hf : X.env.frame = some X.env.locals) (hN : X.N.Nodup) (tk : Takes X Wout)
    (hb : ∀ (W : WX) (pn : List (Addr × Obj)) (xe : Value → Shared → Prop), Takes (X.tr pn xe) W → PassesOwn (model X.prog X.w) X.A X.env xe → PSs (X.tr pn xe) body (tb W))
    (hh : HdM X (h₀ :: hds) l) : PS X (.Try body (h₀ :: hds) [] [] pos) (fun D σ H => tb (wMix X.K Wout D l) D σ H) := by
  refine ⟨fun pins s σ H D I h => ?_⟩
  have ok := I.ok
  have hfr : X.A.frames = some (X.env :: X.outer) := by rw [ok.frames, hs]
  refine wpAny_Try_except ?_
  refine wpAny_mono ((hb (wMix X.K Wout D l) (X.pn ++ pins) (fun e s₁ => wpAny (model X.prog X.w) X.A (noteFrame e X.env) (fun _ s₂ => wpAny (model X.prog X.w) X.A (setFlight e none) (fun _ s₃ =>
    wpAny (model X.prog X.w) X.A (handleBy e X.env (h₀ :: hds)) (SP X pins D) X.xe s₃) X.xe s₂) X.xe s₁) (fun u s' xx => ?_) PassesOwn.looking).run [] s σ H D (I.toTry _) h) (fun f s1 hsp => ?_) (fun e s1 he => he)
  · obtain ⟨a, B, sI, pins', σ', H', cls, d, rfl, J', nb, up, sky, na, os, ag, w⟩ := xx
    have J : Inv X pins σ' H' sI := J'.ofTry ok
    have sky' : Sky B (X.env :: X.outer) a (Zc cls d) X.env.locals s'.heap := by rw [← hs]; exact sky
    show wpAny (model X.prog X.w) X.A (noteFrame (.ref a) X.env) _ _ _
    refine Sky.land Zc.steady hfr hf sky' fun h3 fl3 up3 => ?_
    have J3 : Inv X pins σ' H' { s' with heap := h3 } := J.landed nb fl3.1 (up.trans up3) os ag
    obtain ⟨oe3, vs3, he3, hz3, hd3⟩ := fl3.there
    have notFr : ∀ {h : Heap} {o : Obj} {vs : Array Value}, h.FunFrames B (X.env :: X.outer) → h.get? a = some o → o.data = .fields vs → a ∉ frs (X.env :: X.outer) := fun {h o vs} ff e dd hm => by
      obtain ⟨_, o', e', hnf⟩ := ff.mem hm
      rw [e] at e'; cases e'
      exact hnf _ dd
    have nfr := notFr fl3.2.2.1 he3 hd3
    have nL : a ≠ X.env.locals := fun z => nfr (List.mem_filterMap.mpr ⟨X.env, List.mem_cons_self, by rw [hf, z]⟩)
    have nF : a ∉ X.fs := fun hm => by
      obtain ⟨e, he, q⟩ := List.mem_filterMap.mp hm
      exact nfr (List.mem_filterMap.mpr ⟨e, List.mem_cons_of_mem _ he, q⟩)
    have S3 := J3.suite he3 hd3 na nL nF
    have test : ∀ {x : Str} {c : Value} {np : Pos} {Q : Value → Shared → Prop} {E : Value → Shared → Prop}, Names X x c → Q c { s' with heap := h3 } → wpAny (model X.prog X.w) (X.A.mark (some (.ref a))) (eval (.Name x np) X.env) Q E { s' with heap := h3 } := fun {x c np Q E} hc q => by
      obtain ⟨hg, hdbg, hm | ⟨hm, hv, hnn⟩⟩ := hc
      · exact ld_glob (X := X.suite a ((a, oe3) :: (X.pn ++ pins))) S3 hg hm q hdbg
      · exact ld_blt (X := X.suite a ((a, oe3) :: (X.pn ++ pins))) S3 hg hm hv q hnn hdbg
    have LT : PySem.W.Looks (model X.prog X.w) h3 (typeOf (.ref a)) cls := fun A Q E s k q => wpAny_typeOf_ref (k _ _ he3) (by rw [hz3.1]; exact q)
    have go : ∀ {hds' : List ExceptHandler} {l' : List Cl}, HdM X hds' l' → wMix X.K Wout D l' cls d σ' H' →
        wpAny (model X.prog X.w) X.A (handleBy (.ref a) X.env hds') (SP X pins D) X.xe { s' with heap := h3 } := by
      intro hds' l' hk
      induction hk with
      | nil =>
        intro w
        refine wpAny_handleBy_nil ?_
        obtain ⟨k1, k2, k3, oe, vs, T, oT, ts', he, hz, hd, h1, hr⟩ := id fl3
        unfold PySem.passOn
        refine wpAny_bind (wpAny_field he hd h1 ?_)
        rw [if_neg (show ¬ ((Value.ref T == Value.none) = true) from by simp)]
        have fin : wpAny (model X.prog X.w) X.A (setFlight (.ref a) X.env.frame) (fun _ s4 => wpAny (model X.prog X.w) X.A (throw (.ref a) : Sem Flow) (SP X pins D) X.xe s4) X.xe { s' with heap := h3 } := by
          rw [hf]
          refine HandSPX.setFlight_upZ fl3 fun h4 hh4 up4 => wpAny_throw (tk _ _ ?_)
          exact ⟨a, B, sI, pins, σ', H', cls, d, rfl, J, nb, (up.trans up3).trans up4, .inr (.inr (by rw [hs]; exact hh4)), na, os, ag, w⟩
        first
          | exact wpAny_bind (wpAny_pure (wpAny_bind fin))
          | exact wpAny_bind fin
      | @cons x c ts b₀ suite np pos' hds2 l2 hc hsu r ih =>
        intro w
        obtain ⟨b, hb1, hyes, hno⟩ := w
        refine wpAny_handleBy_cons (codeAny_handlers_test ?_) (by intro q; cases q)
        have LM := PySem.W.exm_one (M := model X.prog X.w) (J3.kIn) LT hb1
        refine test hc (LM.here ?_)
        cases b with
        | true =>
          refine codeAny_handlers_suite ?_
          refine HandSPX.lands_againZ fl3 fun h4 fl4 up4 => ?_
          have J4 : Inv X pins σ' H' { s' with heap := h4 } := J.landed nb fl4.1 ((up.trans up3).trans up4) os ag
          obtain ⟨oe4, vs4, he4, hz4, hd4⟩ := fl4.there
          have S4 := J4.suite he4 hd4 na nL nF
          refine wpAny_mono ((hsu a oe4 cls d (X.pn ++ pins) hz4 ⟨_, hd4⟩).run [] _ _ H' _ S4 (hyes rfl a na)) (fun f s6 hsp => ?_) (fun _ _ z => False.elim z)
          cases f with
          | next =>
            obtain ⟨σ6, H6, S6, q6⟩ := hsp
            exact ⟨_, _, S6.unsuite ok, q6⟩
          | brk =>
            obtain ⟨σ6, H6, S6, q6⟩ := hsp
            exact ⟨_, _, S6.unsuite ok, q6⟩
          | cont =>
            obtain ⟨σ6, H6, S6, q6⟩ := hsp
            exact ⟨_, _, S6.unsuite ok, q6⟩
          | ret u =>
            obtain ⟨v6, σ6, H6, S6, r6, q6⟩ := hsp
            exact ⟨_, _, _, S6.unsuite ok, r6, q6⟩
        | false =>
          show wpAny _ X.A (handleBy (.ref a) X.env hds2) _ _ _
          exact ih (hno rfl)
      | @consAs x n c i ts b₀ suite np pos' hds2 l2 hc hi hln hsu r ih =>
        intro w
        obtain ⟨b, hb1, hyes, hno⟩ := w
        refine wpAny_handleBy_cons (codeAny_handlers_test ?_) (by intro q; cases q)
        have LM := PySem.W.exm_one (M := model X.prog X.w) (J3.kIn) LT hb1
        refine test hc (LM.here ?_)
        cases b with
        | true =>
          refine codeAny_handlers_suite_as ?_
          refine HandSPX.lands_againZ fl3 fun h4 fl4 up4 => ?_
          have J4 : Inv X pins σ' H' { s' with heap := h4 } := J.landed nb fl4.1 ((up.trans up3).trans up4) os ag
          obtain ⟨oe4, vs4, he4, hz4, hd4⟩ := fl4.there
          have S4 := J4.suite he4 hd4 na nL nF
          refine store_ok (X := X.suite a ((a, oe4) :: (X.pn ++ pins))) (v := .ref a) S4 hN hi (.inl hln) rfl (fun s5 S5 => ?_) (.inr hln)
          refine wpAny_mono ((hsu a oe4 cls d (X.pn ++ pins) hz4 ⟨_, hd4⟩).run [] s5 _ H' _ S5 (hyes rfl a na)) (fun f s6 hsp => ?_) (fun _ _ z => False.elim z)
          have end_ : ∀ {σ6 : L2.St} {H6 : Hp} {Q : Shared → Prop}, Inv (X.suite a ((a, oe4) :: (X.pn ++ pins))) [] σ6 H6 s6 → (∀ s7, Inv X pins (σ6.set i none) H6 s7 → Q s7) →
              wpAny (model X.prog X.w) X.A (do bindName X.env n .none; unbindBehindTheSuite X.env n pos') (fun _ s7 => Q s7) X.xe s6 := fun {σ6 H6 Q} S6 hq => gone_ok (S6.unsuite ok) hN hi hln hq
          cases f with
          | next =>
            obtain ⟨σ6, H6, S6, q6⟩ := hsp
            exact end_ S6 fun s7 J7 => ⟨_, _, J7, q6⟩
          | brk =>
            obtain ⟨σ6, H6, S6, q6⟩ := hsp
            exact end_ S6 fun s7 J7 => ⟨_, _, J7, q6⟩
          | cont =>
            obtain ⟨σ6, H6, S6, q6⟩ := hsp
            exact end_ S6 fun s7 J7 => ⟨_, _, J7, q6⟩
          | ret u =>
            obtain ⟨v6, σ6, H6, S6, r6, q6⟩ := hsp
            exact end_ S6 fun s7 J7 => ⟨_, _, _, J7, r6, q6⟩
        | false =>
          show wpAny _ X.A (handleBy (.ref a) X.env hds2) _ _ _
          exact ih (hno rfl)
    exact go hh w
  · cases f with
    | next =>
      obtain ⟨σ', H', J', q⟩ := hsp
      exact wpAny_execs_nil ⟨σ', H', J'.ofTry ok, q⟩
    | brk =>
      obtain ⟨σ', H', J', q⟩ := hsp
      exact ⟨σ', H', J'.ofTry ok, q⟩
    | cont =>
      obtain ⟨σ', H', J', q⟩ := hsp
      exact ⟨σ', H', J'.ofTry ok, q⟩
    | ret u =>
      obtain ⟨v, σ', H', J', r, q⟩ := hsp
      exact ⟨v, σ', H', J'.ofTry ok, r, q⟩
end

/-- a clause: the class's name, the slot, what its suite does -/
structure Hd where
  y : Str
  slot : Option Nat
  m : Exn → SM
def hPre : Option Nat → Env → Env
  | none, l => l
  | some i, l => l.set i none
def hPost (i : Option Nat) : R → R
  | .nx l s => .nx (hPre i l) s
  | .bk l s => .bk (hPre i l) s
  | .ct l s => .ct (hPre i l) s
  | .rt d s => .rt d s
  | .ex _ _ _ => .bad
  | .bad => .bad
def hFit : Option Nat → Env → Bool
  | none, _ => true
  | some i, l => decide (i < l.length)
def handle (x : Exn) : List Hd → SM
  | [] => fun l s => .ex x l s
  | h :: r => fun l s => if x.cls = h.y then (if hFit h.slot l = true then hPost h.slot (h.m x (hPre h.slot l) s) else .bad) else handle x r l s
def sTry (known : List Str) (b : SM) (hs : List Hd) : SM := fun l s => match b l s with
  | .ex x l' s' => if x.cls ∈ known then handle x hs l' s' else .bad
  | r => r
/-- e.f in a suite -/
def eFd (x : Exn) (f : Str) : EM D := fun _ s => opt (x.flds.lookup f) s

section
variable {K : PySem.W.Frag} {c c' : Cc} {θ θ' : List Addr} {F F' H H' H0 : Hp} {s : S} {l : Env} {σ : L2.St}
theorem RelX.mono {x : Exn} {cls : Value} {dx : Option Addr} (h : RelX K θ F x cls dx) (t : Step θ F H θ' F' H') : RelX K θ' F' x cls dx := by
  obtain ⟨u, rfl, _⟩ := t.pre
  obtain ⟨e1, h⟩ := h
  refine ⟨e1, ?_⟩
  cases hf : x.flds with
  | nil => exact True.intro
  | cons q r =>
    rw [hf] at h
    obtain ⟨d, fs, e2, e3, k⟩ := h
    refine ⟨d, fs, e2, t.frz _ _ e3, fun f y hy => ?_⟩
    obtain ⟨v, e4, h4⟩ := k f y hy
    exact ⟨v, e4, h4.mono t.frz⟩
theorem RL.drop (r : RL K c θ F H H0 l σ) (i : Nat) (u : Option V) (hp : ∀ p ∈ c'.pin, (σ.set i u)[p.1]? = some (some p.2)) : RL K c' θ F H H0 (l.set i none) (σ.set i u) := by
  have ne : ∀ {j : Nat} {z : Slot}, (l.set i none)[j]? = some (some z) → i ≠ j := fun {j z} e q => by
    subst q
    by_cases hl : i < l.length
    · rw [List.getElem?_set_self hl] at e
      cases e
    · rw [List.getElem?_eq_none (by rw [List.length_set]; omega)] at e
      cases e
  refine ⟨fun j d e => ?_, fun j o e => ?_, hp, by rw [List.length_set, List.length_set]; exact r.len⟩
  · have hj := ne e
    rw [List.getElem?_set_ne hj] at e
    rw [List.getElem?_set_ne hj]
    exact r.loc j d e
  · have hj := ne e
    rw [List.getElem?_set_ne hj] at e
    obtain ⟨a, e1, q, n, m, z, w⟩ := r.own j o e
    refine ⟨a, by rw [List.getElem?_set_ne hj]; exact e1, q, n, m, z, fun k o' e2 e3 => ?_⟩
    have hk := ne e2
    rw [List.getElem?_set_ne hk] at e2 e3
    exact w k o' e2 e3
theorem RL.pins (r : RL K c θ F H H0 l σ) (hp : ∀ p ∈ c'.pin, σ[p.1]? = some (some p.2)) : RL K c' θ F H H0 l σ := ⟨r.loc, r.own, hp, r.len⟩
/-- what is known in a suite -/
def Cc.suite (K : PySem.W.Frag) (c : Cc) (i : Option Nat) (a : Addr) (y : Str) (x : Exn) (cls : Value) (dx : Option Addr) : Cc where
  T := c.T
  pin := (match i with | some i => [(i, .ref a)] | none => []) ++ c.pin
  fz := c.fz
  more := fun θ F H => c.more θ F H ∧ x.cls = y ∧ RelX K θ F x cls dx
  mono := fun _ _ _ _ _ _ t h => ⟨c.mono _ _ _ _ _ _ t h.1, h.2.1, h.2.2.mono t⟩
theorem RS.toSuite {i : Option Nat} {a : Addr} {y : Str} {x : Exn} {cls : Value} {dx : Option Addr} (r : RS K c θ F H s) (e : x.cls = y) (h : RelX K θ F x cls dx) : RS K (c.suite K i a y x cls dx) θ F H s := ⟨r.sub, r.len, r.inj, r.st, r.tabs, r.fz, r.ntb, r.more, e, h⟩
theorem RS.ofSuite {i : Option Nat} {a : Addr} {y : Str} {x : Exn} {cls : Value} {dx : Option Addr} (r : RS K (c.suite K i a y x cls dx) θ F H s) : RS K c θ F H s := ⟨r.sub, r.len, r.inj, r.st, r.tabs, r.fz, r.ntb, r.more.1⟩
end
/-- the clauses of a try, one after the other -/
inductive Hds (X : Cx) (c : Cc) : List ExceptHandler → List Hd → Prop
  | nil : Hds X c [] []
  | cons {x : Str} {m : Exn → SM} {b₀ : Stmt} {suite : List Stmt} {np pos' : Pos} {hds : List ExceptHandler} {l : List Hd} (hc : Names X x (.ref (He.ga X.K x)))
      (hsu : ∀ (a : Addr) (oe : Obj) (cls : Value) (d : Option Addr) (pn : List (Addr × Obj)) (xn : Exn), Zc cls d oe → (∃ vs, oe.data = .fields vs) → GB (X.suite a ((a, oe) :: pn)) (c.suite X.K none a x xn cls d) W0 (b₀ :: suite) (m xn)) (r : Hds X c hds l) :
      Hds X c (.ExceptHandler (some (.Name x np)) none (b₀ :: suite) pos' :: hds) (⟨x, none, m⟩ :: l)
  | consAs {x n : Str} {i : Nat} {m : Exn → SM} {b₀ : Stmt} {suite : List Stmt} {np pos' : Pos} {hds : List ExceptHandler} {l : List Hd} (hc : Names X x (.ref (He.ga X.K x))) (hi : X.N[i]? = some n) (hln : X.env.kindOf n = some .local) (hpi : ∀ p ∈ c.pin, p.1 ≠ i)
      (hsu : ∀ (a : Addr) (oe : Obj) (cls : Value) (d : Option Addr) (pn : List (Addr × Obj)) (xn : Exn), Zc cls d oe → (∃ vs, oe.data = .fields vs) → GB (X.suite a ((a, oe) :: pn)) (c.suite X.K (some i) a x xn cls d) W0 (b₀ :: suite) (m xn)) (r : Hds X c hds l) :
      Hds X c (.ExceptHandler (some (.Name x np)) (some n) (b₀ :: suite) pos' :: hds) (⟨x, some i, m⟩ :: l)
/-- their readings -/
def clOf (K : PySem.W.Frag) (c : Cc) (h : Hd) : Cl := (.ref (He.ga K h.y), h.slot, fun a cls d D σ H => ∃ xn : Exn, rs K (c.suite K h.slot a h.y xn cls d) W0 (h.m xn) D σ H)
section
variable {X : Cx} {c : Cc} {W : WX} {k : Nat}
theorem hdM_of : ∀ {hds : List ExceptHandler} {hs : List Hd}, Hds X c hds hs → HdM X hds (hs.map (clOf X.K c))
  | _, _, .nil => .nil
  | _, _, .cons hc hsu r => .cons hc (fun a oe cls d pn h1 h2 => ⟨fun pins s σ H D I ⟨xn, h⟩ => (hsu a oe cls d pn xn h1 h2).run pins s σ H D I h⟩) (hdM_of r)
  | _, _, .consAs hc hi hln _ hsu r => .consAs hc hi hln (fun a oe cls d pn h1 h2 => ⟨fun pins s σ H D I ⟨xn, h⟩ => (hsu a oe cls d pn xn h1 h2).run pins s σ H D I h⟩) (hdM_of r)
theorem hds_pin : ∀ {hds : List ExceptHandler} {hs : List Hd}, Hds X c hds hs → ∀ h ∈ hs, ∀ i, h.slot = some i → ∀ p ∈ c.pin, p.1 ≠ i
  | _, _, .nil => fun h hh => nomatch hh
  | _, _, .cons hc hsu r => fun h hh i e => by
    rcases List.mem_cons.mp hh with rfl | hh
    · cases e
    · exact hds_pin r h hh i e
  | _, _, .consAs hc hi hln hpi hsu r => fun h hh i e => by
    rcases List.mem_cons.mp hh with rfl | hh
    · cases e
      exact hpi
    · exact hds_pin r h hh i e
end
section
variable {K : PySem.W.Frag} {c : Cc} {W : WX} {θ0 θs θ : List Addr} {F0 H0 Fs F H : Hp} {s : S} {l : Env} {σ : L2.St} {D : Ends}
theorem handle_w {x : Exn} {cls : Value} {dx : Option Addr} (t0 : Step θ0 F0 H0 θ F H) (g : Grow θs Fs θ F) (rS : RS K c θ F H s) (rL : RL K c θ F H H0 l σ) (hx : RelX K θ F x cls dx) :
    ∀ hs : List Hd, (∀ h ∈ hs, PySem.W.exmOne K (.ref (He.ga K x.cls)) (.ref (He.ga K h.y)) = some (decide (x.cls = h.y))) → (∀ h ∈ hs, ∀ i, h.slot = some i → ∀ p ∈ c.pin, p.1 ≠ i) →
      PostS K c θ0 F0 H0 θs Fs (handle x hs l s) D W → wMix K W D (hs.map (clOf K c)) cls dx σ H
  | [], _, _, p => p cls dx σ θ F H t0 g rS rL hx
  | h :: r, he, hp, p => by
    obtain ⟨y, slot, m⟩ := h
    have ecls : cls = .ref (He.ga K x.cls) := hx.1
    have e1 := he _ List.mem_cons_self
    rw [← ecls] at e1
    unfold handle at p
    by_cases hy : x.cls = y
    · rw [if_pos (show x.cls = (Hd.mk y slot m).y from hy)] at p
      rw [decide_eq_true (show x.cls = (Hd.mk y slot m).y from hy)] at e1
      cases slot with
      | none =>
        rw [if_pos (show hFit none l = true from rfl)] at p
        refine ⟨true, e1, fun _ a ha => ⟨x, l, s, θ, F, θ0, F0, H0, t0, rS.toSuite hy hx, rL.pins rL.pin, ?_⟩, fun z => by cases z⟩
        have p : PostS K c θ0 F0 H0 θs Fs (hPost none (m x l s)) D W := p
        show PostS _ _ _ _ _ _ _ (m x l s) _ _
        cases q : m x l s with
        | nx l2 s2 =>
          rw [q] at p
          exact fun σ2 θ2 F2 H2 t2 g2 r2 l2' => p σ2 θ2 F2 H2 t2 (g.trans g2) r2.ofSuite (l2'.pins l2'.pin)
        | rt d s2 =>
          rw [q] at p
          exact fun v θ2 F2 H2 t2 g2 r2 h2 => p v θ2 F2 H2 t2 (g.trans g2) r2.ofSuite h2
        | bk l2 s2 =>
          rw [q] at p
          exact fun σ2 θ2 F2 H2 t2 g2 r2 l2' => p σ2 θ2 F2 H2 t2 (g.trans g2) r2.ofSuite (l2'.pins l2'.pin)
        | ct l2 s2 =>
          rw [q] at p
          exact fun σ2 θ2 F2 H2 t2 g2 r2 l2' => p σ2 θ2 F2 H2 t2 (g.trans g2) r2.ofSuite (l2'.pins l2'.pin)
        | ex x2 l2 s2 =>
          rw [q] at p
          exact p.elim
        | bad =>
          rw [q] at p
          exact p.elim
      | some i =>
        have hpi := hp _ List.mem_cons_self i rfl
        have hil : i < l.length := by
          refine Decidable.byContradiction fun hn => ?_
          rw [if_neg (show ¬ hFit (some i) l = true from fun z => hn (of_decide_eq_true z))] at p
          exact p.elim
        rw [if_pos (show hFit (some i) l = true from decide_eq_true hil)] at p
        have hpin : ∀ (a : Addr) (p : Nat × V), p ∈ (c.suite K (some i) a y x cls dx).pin → (σ.set i (some (.ref a)))[p.1]? = some (some p.2) := fun a p hp => by
          rcases List.mem_append.mp (show p ∈ [(i, V.ref a)] ++ c.pin from hp) with hp | hp
          · rw [List.mem_singleton.mp hp, List.getElem?_set_self (by rw [← rL.len]; exact hil)]
          · rw [List.getElem?_set_ne (fun z => hpi p hp z.symm)]
            exact rL.pin p hp
        have back : ∀ {a : Addr} {l2 : Env} {σ2 : L2.St} {θ2 : List Addr} {F2 H2 : Hp}, RL K (c.suite K (some i) a y x cls dx) θ2 F2 H2 H0 l2 σ2 → RL K c θ2 F2 H2 H0 (l2.set i none) (σ2.set i none) := fun {a l2 σ2 θ2 F2 H2} r => r.drop i none fun p hp => by
          rw [List.getElem?_set_ne (fun z => hpi p hp z.symm)]
          exact r.pin p (List.mem_append_right _ hp)
        refine ⟨true, e1, fun _ a ha => ⟨x, l.set i none, s, θ, F, θ0, F0, H0, t0, rS.toSuite hy hx, rL.drop i (some (.ref a)) (hpin a), ?_⟩, fun z => by cases z⟩
        have p : PostS K c θ0 F0 H0 θs Fs (hPost (some i) (m x (l.set i none) s)) D W := p
        show PostS _ _ _ _ _ _ _ (m x (l.set i none) s) _ _
        cases q : m x (l.set i none) s with
        | nx l2 s2 =>
          rw [q] at p
          exact fun σ2 θ2 F2 H2 t2 g2 r2 l2' => p _ θ2 F2 H2 t2 (g.trans g2) r2.ofSuite (back l2')
        | rt d s2 =>
          rw [q] at p
          exact fun v θ2 F2 H2 t2 g2 r2 h2 => p v θ2 F2 H2 t2 (g.trans g2) r2.ofSuite h2
        | bk l2 s2 =>
          rw [q] at p
          exact fun σ2 θ2 F2 H2 t2 g2 r2 l2' => p _ θ2 F2 H2 t2 (g.trans g2) r2.ofSuite (back l2')
        | ct l2 s2 =>
          rw [q] at p
          exact fun σ2 θ2 F2 H2 t2 g2 r2 l2' => p _ θ2 F2 H2 t2 (g.trans g2) r2.ofSuite (back l2')
        | ex x2 l2 s2 =>
          rw [q] at p
          exact p.elim
        | bad =>
          rw [q] at p
          exact p.elim
    · rw [if_neg (show ¬ x.cls = (Hd.mk y slot m).y from hy)] at p
      rw [decide_eq_false (show ¬ x.cls = (Hd.mk y slot m).y from hy)] at e1
      have ih := handle_w t0 g rS rL hx r (fun h hh => he h (List.mem_cons_of_mem _ hh)) (fun h hh => hp h (List.mem_cons_of_mem _ hh)) p
      cases slot with
      | none => exact ⟨false, e1, (fun z => by cases z), fun _ => ih⟩
      | some i => exact ⟨false, e1, (fun z => by cases z), fun _ => ih⟩
end
section
variable {X : Cx} {c : Cc} {W : WX} {k : Nat} {body : List Stmt} {h₀ : ExceptHandler} {hds : List ExceptHandler} {pos : Pos}
/-- try: .., except x: .. -/
theorem g_try {known : List Str} {m : SM} {hs : List Hd} (B : Bx X W k) (hN : X.N.Nodup) (hb : ∀ (W' : WX) (pn : List (Addr × Obj)) (xe : Value → Shared → Prop), Bx (X.tr pn xe) W' k → GB (X.tr pn xe) c W' body m) (hh : Hds X c (h₀ :: hds) hs)
    (hk : ∀ z ∈ known, ∀ h ∈ hs, PySem.W.exmOne X.K (.ref (He.ga X.K z)) (.ref (He.ga X.K h.y)) = some (decide (z = h.y))) (hst : X.stack = X.env :: X.outer := by rfl) (hf : X.env.frame = some X.env.locals := by rfl) :
    GS X c W (.Try body (h₀ :: hds) [] [] pos) (sTry known m hs) :=
  ⟨fun pins s0 σ H D I hq => by
    refine (ps_try_mix (tb := fun W' => rs X.K c W' m) (pos := pos) hst hf hN B.tk (fun W' pn xe tk po => hb W' pn xe ⟨tk, po, B.rm, B.gd⟩) (hdM_of hh)).run pins s0 σ H D I ?_
    obtain ⟨l, s, θ, F, θ0, F0, H0, t0, r1, r2, p⟩ := hq
    refine ⟨l, s, θ, F, θ0, F0, H0, t0, r1, r2, ?_⟩
    unfold sTry at p
    cases q : m l s with
    | ex x l' s' =>
      rw [q] at p
      intro cls dx σ' θ' F' H' t' g' rS rL hx
      dsimp only at p
      split at p
      · rename_i hkn
        exact handle_w t' g' rS rL hx hs (fun h hh' => hk _ hkn h hh') (fun h hh' i e => hds_pin hh h hh' i e) p
      · exact p.elim
    | nx l' s' =>
      rw [q] at p
      exact p
    | rt d s' =>
      rw [q] at p
      exact p
    | bk l' s' =>
      rw [q] at p
      exact p
    | ct l' s' =>
      rw [q] at p
      exact p
    | bad =>
      rw [q] at p
      exact p⟩
/-- n.f in a suite -/
theorem g_fld {i : Nat} {a : Addr} {oe : Obj} {cls : Value} {d : Option Addr} {pn : List (Addr × Obj)} {xn : Exn} {y n f : Str} {p1 : Pos} (T : XfC X.K (He.ga X.K y)) (hno : PySem.W.findIn X.K (.ref (He.ga X.K y)) f = some none) (hz : Zc cls d oe) (hfd : ∃ vs, oe.data = .fields vs)
    (hN : X.N[i]? = some n := by rfl) (hv : Vis X.env.scope n := by first | exact Or.inl rfl | exact Or.inr (Or.inl rfl) | exact Or.inr (Or.inr rfl)) (hd : (n == ("__debug__" : Str)) = false := by decide) (hcd : (n == ("__classdict__" : Str)) = false := by decide)
    (hb : attributeBase (.Name n p1) f X.env (eval (.Name n p1) X.env) = eval (.Name n p1) X.env := by rfl) :
    GE (X.suite a ((a, oe) :: pn)) (c.suite X.K (some i) a y xn cls d) W0 (.Attribute (.Name n p1) f pos) (eFd xn f) := by
  refine pe_imp (pe_xf T hno hz hfd (pe_var (X := X.suite a ((a, oe) :: pn)) (i := i) hN hv hd hcd) hb) fun σ H Q ⟨l, s, θ, F, H0, r1, r2, p⟩ => ?_
  have e1 : σ[i]? = some (some (.ref a)) := r2.pin (i, .ref a) (List.mem_append_left _ List.mem_cons_self)
  obtain ⟨_, hy, hx⟩ := r1.more
  have ecls := hx.1
  refine ⟨.ref a, e1, rfl, by rw [ecls, hy], ?_⟩
  unfold eFd at p
  cases q : xn.flds.lookup f with
  | none =>
    rw [q] at p
    exact p.elim
  | some z =>
    rw [q] at p
    have h2 := hx.2
    cases hf : xn.flds with
    | nil =>
      rw [hf] at q
      cases q
    | cons u w =>
      rw [hf] at h2
      obtain ⟨dd, fs, e2, e3, k⟩ := h2
      rw [hf] at q
      obtain ⟨v, e4, h4⟩ := k f z q
      exact ⟨dd, fs, v, e2, r1.sub _ _ e3, e4, p v θ F H .refl r1 h4⟩
end
end Wd
set_option Elab.async false
set_option linter.all false
set_option maxRecDepth 100000
set_option maxHeartbeats 1000000
set_option autoImplicit false
/-! Wd13: x(lambda: e), x a def that calls what it gets. -/
namespace Wd
open PySem PySem.Spec PyProof.Rows L2 LamX

/-- what the def gets, called -/
def eCb (κ : S → Res D) : EM D := fun _ s => κ s
/-- a def of one parameter, which is called -/
def runL (b : (S → Res D) → SM) (n : Nat) (κ : S → Res D) : S → Res D := fun s => match b κ (List.replicate n none) s with
  | .nx _ s' => .ok .non s'
  | .rt d s' => .ok d s'
  | .ex x _ s' => .exc x s'
  | _ => .bad
def eLam (φ : (S → Res D) → S → Res D) (m : EM D) : EM D := fun l s => φ (fun s' => m l s') s

section
variable {X : Cx} {pins : List (Addr × Obj)} {σ : L2.St} {H HZ : Hp} {s s1 : Shared}
/-- LamX.lam_make2, told more of the heap -/
theorem lam_make3 {T : List (Addr × Str)} {c P : Addr} {params : Arguments} {body : Expr} {scope : Scope} {pos : Pos} {E : Value → Shared → Prop} {Q : Value → Shared → Prop} (I : Inv X pins σ H s) (TB : TabB X.base X.mg c P) (hcode : X.env.code = .ref c)
    (hm : (P, X.env.qual ++ "<lambda>") ∈ T) (hu : ∀ p ∈ T, p.1 = P → p.2 = X.env.qual ++ "<lambda>") (hT : Tabs T H) (hdef : defaultsOf params X.env = ([], [])) (hfree : ∀ y ∈ scope.names, y.2 = .free → ∃ c, X.env.cells.lookup y.1 = some c)
    (h : ∀ (f c' : Addr) (pm ctv : Value) (H1 : Hp) (s' : Shared), Inv X pins σ H1 s' → ExtN H H1 → (∀ a, H a ≠ none → H1 a ≠ none) → Tabs T H1 →
      s'.heap.get? f = some (PySem.W.kla_obj "<lambda>" (X.env.qual ++ "<lambda>") params body scope (cloFrom X.env.cells scope.names []) pm c' ctv) → H1 f = none → f ∉ frs X.stack → H1 c' = some (CodeO c' (X.env.qual ++ "<lambda>")) → Q (.ref f) s') :
    wpAny (model X.prog X.w) X.A (eval (.Lambda params body scope pos) X.env) Q E s := by
  obtain ⟨ps, hP, ht, ha⟩ := hT _ hm
  refine PySem.W.kla_eval hdef ?_
  have bP : s.heap.BuiltinsAt X.mg P := TB.bm.keeps I.bk
  have hP' : s.heap.get? P = some { cls := .none, data := .fields ps } := I.hok P _ hP
  have nofr : ∀ f, s.heap.objs.size ≤ f → f ∉ frs X.stack := fun f hf z => by
    rcases List.mem_cons.mp (I.stkSub _ z) with e | e
    · have h1 := I.lt
      rw [← e] at h1
      exact Nat.lt_irrefl _ (Nat.lt_of_lt_of_le h1 hf)
    · exact I.nofs hf e
  cases hc : codeAmong pos ps.toList with
  | none =>
    refine PySem.W.kla_makeFunction (mg := X.mg) (c := c) (P := P) (ps := ps) (closure_ok hfree) I.ok.glob (I.mod.glob.keeps I.bk) hcode (TB.code.keeps I.bk) hP' ht hc TB.gP bP fun c' ctv h' tk hx hge hlt hrec htb => ?_
    obtain ⟨c2, oc, vs, t, e2, hoc, hd, hv⟩ := hrec
    cases e2
    have hsz : s.heap.objs.size ≤ h'.objs.size := Nat.le_trans hge (Nat.le_of_lt hlt)
    have nC : H c' = none := I.hok.fresh hge
    have I1 := inv_table (t' := tk) (more := #[rawInt pos.line, rawInt pos.col, .ref c']) (h' := h'.push (PySem.W.kla_obj "<lambda>" (X.env.qual ++ "<lambda>") params body scope (cloFrom X.env.cells scope.names []) ((X.mg "__name__").getD .none) c' ctv)) I hP
      (fun b o hb e => Heap.get?_push_of_some _ (hx b o hb e)) (Heap.get?_push_of_some _ htb) hge ⟨oc, vs, t, Heap.get?_push_of_some _ hoc, hd, hv⟩
    have hE : ExtN H (upd (upd H P (.tbl (ps ++ #[rawInt pos.line, rawInt pos.col, .ref c']))) c' (CodeO c' (X.env.qual ++ "<lambda>"))) := fun b o e n => by
      rw [upd_ne (ne_of_none e nC), upd_ne (fun z => n ps (Option.some.inj (e.symm.trans (by rw [z]; exact hP))))]
      exact e
    have eL : (ps ++ #[rawInt pos.line, rawInt pos.col, .ref c']).toList = ps.toList ++ [rawInt pos.line, rawInt pos.col, .ref c'] := by simp
    refine h h'.objs.size c' ((X.mg "__name__").getD .none) ctv _ _ I1 hE (fun b hb => ?_) (fun p hp => ?_) (Heap.get?_push_size _ rfl) ?_ (nofr _ hsz) upd_same
    · by_cases h1 : b = c'
      · rw [h1, upd_same]
        exact fun z => nomatch z
      · rw [upd_ne h1]
        by_cases h2 : b = P
        · rw [h2, upd_same]
          exact fun z => nomatch z
        · rw [upd_ne h2]
          exact hb
    · by_cases hb : p.1 = P
      · rw [hu p hp hb, hb]
        refine ⟨_, by rw [upd_ne (ne_of_none hP nC), upd_same], by rw [eL]; exact PySem.TriplesOk_snoc _ _ _ _ ht, fun p' cv hcv => ?_⟩
        rw [eL] at hcv
        rcases among_app _ ht hcv with z | z
        · obtain ⟨c0, e1, e2⟩ := ha p' cv z
          exact ⟨c0, e1, hE _ _ e2 codeO_ne⟩
        · exact ⟨c', z, upd_same⟩
      · obtain ⟨ps', a1, a2, a3⟩ := hT p hp
        refine ⟨ps', by rw [upd_ne (ne_of_none a1 nC), upd_ne hb]; exact a1, a2, fun p' cv hcv => ?_⟩
        obtain ⟨c0, e1, e2⟩ := a3 p' cv hcv
        exact ⟨c0, e1, hE _ _ e2 codeO_ne⟩
    · have n1 : h'.objs.size ≠ c' := Nat.ne_of_gt hlt
      have n2 : h'.objs.size ≠ P := Nat.ne_of_gt (Nat.lt_of_lt_of_le (Heap.lt_size hP') hsz)
      rw [upd_ne n1, upd_ne n2]
      exact I.hok.fresh hsz
  | some cv =>
    obtain ⟨c', e, hco⟩ := ha pos cv hc
    subst e
    refine PySem.W.kla_makeFunctionHit (mg := X.mg) (c := c) (P := P) (ps := ps) (closure_ok hfree) I.ok.glob (I.mod.glob.keeps I.bk) hcode (TB.code.keeps I.bk) hP' ht hc bP fun ctv h' tk hx hsz => ?_
    have I1 : Inv X pins σ H { s with heap := h'.push (PySem.W.kla_obj "<lambda>" (X.env.qual ++ "<lambda>") params body scope (cloFrom X.env.cells scope.names []) ((X.mg "__name__").getD .none) c' ctv), toks := tk } := I.kept fun b o e => Heap.get?_push_of_some _ (hx b o e)
    exact h h'.objs.size c' ((X.mg "__name__").getD .none) ctv H _ I1 (ExtN.refl H) (fun _ z => z) hT (Heap.get?_push_size _ rfl) (I.hok.fresh hsz) (nofr _ hsz) hco
/-- x(), what leaves it wished for at the slots -/
theorem pe_actS {CXg : CXT} {Eg : XK} {Ng : List Str} {qg : Str} {sg : Scope} {g f c' : Addr} {cdg pm ctv : Value} {params : Arguments} {body : Expr} {scope : Scope} {k i : Nat} {a : Str} {pn : List (Addr × Obj)} {xe : Value → Shared → Prop} {W : WX} {tb : XK → TE} {p1 p2 : Pos}
    (I : Inv X pins σ H s) (L : LamS X.env.scope scope) (hf : s.heap.get? f = some (PySem.W.kla_obj "<lambda>" (X.env.qual ++ "<lambda>") params body scope (cloFrom X.env.cells scope.names []) pm c' ctv)) (hfn : H f = none) (hfr : f ∉ frs X.stack)
    (hbind : bindArgs (PySem.W.kla_fn "<lambda>" (X.env.qual ++ "<lambda>") params body scope (cloFrom X.env.cells scope.names []) pm (.ref c') ctv) ⟨[], []⟩ = pure [])
    (tk : Takes ((cxOf CXg X.prog X.w X.K X.mg X.base Ng qg sg g cdg X.A X.stack s H Eg).tr pn xe) W) (hr : Room (k + 1) (X.A.deeper (envOfC qg sg s.heap.objs.size g cdg)))
    (hbody : ∀ (A : Around) (outer : List PySem.Env) (s : Shared) (H : Hp) (E : XK), A.guards = X.A.guards → Room k (A.deeper (lamEnv X scope s.heap.objs.size f c')) → PE (lamCx X A outer s H E scope f c') body (tb E))
    (hN : Ng[i]? = some a) (hv : Vis sg a) (hd : (a == ("__debug__" : Str)) = false := by decide) (hcd : (a == ("__classdict__" : Str)) = false := by decide) :
    PE ((cxOf CXg X.prog X.w X.K X.mg X.base Ng qg sg g cdg X.A X.stack s H Eg).tr pn xe) (.Call (.Name a p1) [] [] p2)
      (fun σZ HZ Q => σZ[i]? = some (some (.ref f)) ∧ HZ c' = some (CodeO c' (X.env.qual ++ "<lambda>")) ∧ tb (WE W σZ) σ HZ Q) := by
  refine ⟨fun pinsZ sZ σZ HZ Q IZ h => ?_⟩
  obtain ⟨hs, hc, ht⟩ := h
  refine wpAny_Call_Name_kw (thn ((pe_var (pos := p1) (i := i) hN hv hd hcd).run pinsZ sZ σZ HZ (fun v H1 => v = .ref f ∧ H1 = HZ) IZ ⟨.ref f, hs, rfl, rfl⟩) fun u s1 ⟨v, H1, I1, r1, q1⟩ => ?_)
  obtain ⟨ev, eH⟩ := q1
  subst ev
  rw [eH] at I1
  obtain rfl : u = Value.ref f := r1
  have of1 : s1.heap.get? f = some (PySem.W.kla_obj "<lambda>" (X.env.qual ++ "<lambda>") params body scope (cloFrom X.env.cells scope.names []) pm c' ctv) := I1.base.keep f _ hf hfn hfr (fun z => nomatch (show f ∈ ([] : List Addr) from z))
  refine PySem.W.callWith_F0 ⟨_, _, _, _, of1⟩ ?_
  have un : Un (frs X.stack) [] H HZ s.heap s1.heap := I1.base
  obtain ⟨⟨oc, vs, t, hoc, hdc, hvc⟩, _, _⟩ := I1.hok c' _ hc
  have rc : codeAny (model X.prog X.w) (X.A.deeper (envOfC qg sg s.heap.objs.size g cdg)) (.call (.ref f) ⟨[], []⟩) (CR (L2.CX X.prog X.w) (envOfC qg sg s.heap.objs.size g cdg :: X.stack) X.prog X.w HZ s1 Q (WE W σZ)) s1 := by
    refine PySem.W.kla_callFunE hr.depth of1 rfl L.co L.gen rfl ⟨c', oc, vs, t, rfl, hoc, hdc, hvc⟩ ?_
    rw [hbind]
    refine wpAny_pure (wpAny_newFunctionEnv (fun y hy => (L.own y hy).2) (fun y hy => absurd hy (by simp)) (fun h₁ hns hsb => ⟨I1.nolimit.fresh _ hsb, ?_⟩) L.kind)
    show codeAny _ _ (.expr body (lamEnv X scope s1.heap.objs.size f c')) _ _
    have kp : ∀ b o, s1.heap.get? b = some o → h₁.get? b = some o := fun b o e => hsb.extBut b o (Nat.ne_of_lt (Heap.lt_size e)) (Heap.get?_push_of_some _ e)
    have J : Inv (lamCx X (X.A.deeper (envOfC qg sg s.heap.objs.size g cdg)) (envOfC qg sg s.heap.objs.size g cdg :: X.stack) s1 HZ (WE W σZ) scope f c') [] σ HZ { s1 with heap := h₁, toks := s1.toks + ([] : List (Str × Value)).length } :=
      lam_start2 I L I1.env0 hr.hd un hns kp
    refine PySem.W.kla_codeExpr (wpAny_mono ((hbody (X.A.deeper (envOfC qg sg s.heap.objs.size g cdg)) _ s1 HZ (WE W σZ) rfl (hr.deeper _)).run [] _ _ HZ Q J ht) (fun v s' hq => ?_) fun e s' hq => hq)
    obtain ⟨w', H', J', rv, q⟩ := hq
    exact ⟨w', H', J'.os, J'.bare, J'.base, J'.hok, rv, q⟩
  refine wpAny_call (codeAny_mono rc fun r s' hq => ?_)
  cases r with
  | error e => exact passAt tk σZ pinsZ HZ s1 e s' I1 hq
  | ok fl =>
    cases fl with
    | ret u => exact I1.after hq
    | next => exact False.elim hq
    | brk => exact False.elim hq
    | cont => exact False.elim hq
end
theorem lam_bx {X : Cx} {A : Around} {outer : List PySem.Env} {s : Shared} {H : Hp} {E : XK} {scope : Scope} {f c' : Addr} {k : Nat} (hr : Room k (A.deeper (lamEnv X scope s.heap.objs.size f c'))) (hg : A.guards = some []) : Bx (lamCx X A outer s H E scope f c') (bodyW E) k :=
  ⟨takes_of rfl rfl rfl rfl, passes_of rfl, hr, hg⟩
/-- what is known in the def that got the lambda -/
def Cc.lam (K : PySem.W.Frag) (c : Cc) (f c' : Addr) (q : Str) (H0 : Hp) (l : Env) (σ : L2.St) : Cc where
  T := c.T
  pin := [(0, .ref f)]
  fz := []
  more := fun θ F H => RL K c θ F H H0 l σ ∧ (∀ p ∈ c.fz, F p.1 = some p.2) ∧ c.more θ F H ∧ H c' = some (CodeO c' q) ∧ c' ∉ θ
  mono := fun θ F H θ' F' H' t ⟨h1, h2, h3, h4, h5⟩ => ⟨h1.step t, fun p hp => t.frz _ _ (h2 p hp), c.mono _ _ _ _ _ _ t h3, t.keep _ _ h4 h5 fun ps => codeO_ne ps, t.notin (by rw [h4]; exact fun z => nomatch z) h5⟩
section
variable {K : PySem.W.Frag} {c : Cc} {θ : List Addr} {F H H0 : Hp} {s : S} {l : Env} {σ : L2.St} {f c' : Addr} {q : Str}
theorem RS.toLam (r : RS K c θ F H s) (h : (c.lam K f c' q H0 l σ).more θ F H) : RS K (c.lam K f c' q H0 l σ) θ F H s := ⟨r.sub, r.len, r.inj, r.st, r.tabs, (fun p hp => absurd (show p ∈ ([] : List (Addr × HO)) from hp) (by simp)), r.ntb, h⟩
theorem RS.ofLam (r : RS K (c.lam K f c' q H0 l σ) θ F H s) : RS K c θ F H s := ⟨r.sub, r.len, r.inj, r.st, r.tabs, r.more.2.1, r.ntb, r.more.2.2.1⟩
theorem code_out (r : RS K c θ F H s) (h : H c' = some (CodeO c' q)) : c' ∉ θ := fun z => by
  obtain ⟨n, e⟩ := List.getElem?_of_mem z
  have hl : n < s.length := by
    rw [← r.len]
    exact (List.getElem?_eq_some_iff.mp e).1
  obtain ⟨b, e1, ro, _⟩ := r.st n s[n] (List.getElem?_eq_getElem hl)
  rw [e] at e1
  cases e1
  rw [h] at ro
  generalize s[n] = ob at ro
  cases ob with
  | lst xs =>
    obtain ⟨vs, e2, _⟩ := ro
    unfold CodeO at e2
    cases e2
  | dct t kvs =>
    cases t with
    | false =>
      obtain ⟨vs, e2, _⟩ := ro
      unfold CodeO at e2
      cases e2
    | true =>
      obtain ⟨vs, e2, _⟩ := ro
      unfold CodeO at e2
      cases e2
end
/-- a def that calls what it gets, by its body -/
def Hears (P : Program) (w : World) (K : PySem.W.Frag) (mg : Str → Option Value) (base : Heap) (T : List (Addr × Str)) (k : Nat) (x : Str) (φ : (S → Res D) → S → Res D) : Prop :=
  ∃ (g : Addr) (a : Str) (pg : Arguments) (bg : List Stmt) (sg : Scope) (dV kV doc pm cdv ct oc : Value) (an od : Option Addr) (osl : Array (Option Value)) (Ng : List Str) (mb : (S → Res D) → SM),
    mg x = some (.ref g) ∧ PySem.W.keepIn K (.ref g) = true ∧ K.lookup g = some ⟨oc, od, .func (PySem.W.fnOf x x pg bg sg dV kV doc pm an cdv ct), osl⟩ ∧ PySem.W.codeIn K cdv x = true ∧ L2.Binds K (PySem.W.fnOf x x pg bg sg dV kV doc pm an cdv ct) [a] [] ∧ FnScope Ng [a] sg ∧
    Ng[0]? = some a ∧ Vis sg a ∧ (a == ("__debug__" : Str)) = false ∧ (a == ("__classdict__" : Str)) = false ∧ φ = runL mb Ng.length ∧
    ∀ (A : Around) (outer : List PySem.Env) (s : Shared) (H : Hp) (E : XK) (c2 : Cc) (κ : S → Res D) (f : Addr), c2.T = T → c2.pin = [(0, .ref f)] →
      (∀ (W' : WX) (pn : List (Addr × Obj)) (xe : Value → Shared → Prop) (p1 p2 : Pos), Bx ((bodyCx P w K mg base Ng x sg g cdv A outer s H E).tr pn xe) W' (k + 1) → GE ((bodyCx P w K mg base Ng x sg g cdv A outer s H E).tr pn xe) c2 W' (.Call (.Name a p1) [] [] p2) (eCb κ)) →
      Bx (bodyCx P w K mg base Ng x sg g cdv A outer s H E) (bodyW E) (k + 1) → GB (bodyCx P w K mg base Ng x sg g cdv A outer s H E) c2 (bodyW E) bg (mb κ)
section
variable {X : Cx} {c : Cc} {W : WX} {k n : Nat} {x : Str} {φ : (S → Res D) → S → Res D} {params : Arguments} {body : Expr} {scope : Scope} {p lpos pos : Pos} {cd P : Addr}
/-- x(lambda: e) -/
theorem g_lam {m : EM D} (G : Hears X.prog X.w X.K X.mg X.base c.T k x φ) (B : Bx X W n) (hk : k + 2 ≤ n) (TB : TabB X.base X.mg cd P) (hcode : X.env.code = .ref cd) (hmT : (P, X.env.qual ++ "<lambda>") ∈ c.T) (hu : ∀ p ∈ c.T, p.1 = P → p.2 = X.env.qual ++ "<lambda>") (L : LamS X.env.scope scope)
    (hbody : ∀ (A : Around) (outer : List PySem.Env) (s : Shared) (H : Hp) (E : XK) (f c' : Addr), Bx (lamCx X A outer s H E scope f c') (bodyW E) k → GE (lamCx X A outer s H E scope f c') c (bodyW E) body m)
    (hbind : ∀ (q : Str) (cl : List (Str × Addr)) (pm cv ctv : Value), bindArgs (PySem.W.kla_fn "<lambda>" q params body scope cl pm cv ctv) ⟨[], []⟩ = pure [] := by intros; rfl)
    (hdef : defaultsOf params X.env = ([], []) := by rfl) (hg : Gl X x := by rfl) (hdb : (x == ("__debug__" : Str)) = false := by decide) :
    GE X c W (.Call (.Name x p) [.Lambda params body scope lpos] [] pos) (eLam φ m) := by
  obtain ⟨g, a, pg, bg, sg, dV, kV, doc, pm, cdv, ct, oc, an, od, osl, Ng, mb, hm, hkp, lk, hcg, hb, Sg, hN0, hva, hd, hcd, rfl, hG⟩ := G
  refine ⟨fun pins s σ H Q I h => ?_⟩
  obtain ⟨l, st, θ, F, H0, r1, r2, p⟩ := h
  refine wpAny_Call_Name_kw (ld_glob I hg hm ?_ hdb)
  refine PySem.W.callWith_K (h₀ := X.base) I.ok.mod.kin hkp ?_ (by rfl) (by rfl)
  show wpAny _ _ (spliced ((false, eval (.Lambda params body scope lpos) X.env) :: backTo pos (starEach [] X.env))) _ _ s
  refine Calls.spliced_cons (lam_make3 I TB hcode hmT hu r1.tabs hdef (L.has I.ok) fun f c' pm' ctv H1 s' I1 eN dm T1 hf hfn hfr hco => ?_)
  refine Calls.spliced_nil ⟨I1.kIn, ?_⟩
  have st1 : Step θ F H θ F H1 := ⟨⟨[], by simp, fun a h => nomatch h⟩, Le.refl F, fun _ _ _ _ _ _ => rfl, fun a o h _ nt => eN a o h nt, dm⟩
  have q1 : RS X.K c θ F H1 st := by
    refine ⟨fun b o e => eN b o (r1.sub b o e) fun ps z => r1.ntb b ps (by rw [e, z]), r1.len, r1.inj, fun n ob e => ?_, T1, r1.fz, r1.ntb, c.mono _ _ _ _ _ _ st1 r1.more⟩
    obtain ⟨b, e1, ro, nF⟩ := r1.st n ob e
    obtain ⟨u, e2, nt⟩ := ro.there
    refine ⟨b, e1, ?_, nF⟩
    rw [eN b u e2 nt, ← e2]
    exact ro
  have l1 := r2.step st1
  have mo : (c.lam X.K f c' (X.env.qual ++ "<lambda>") H0 l σ).more θ F H1 := ⟨l1, q1.fz, q1.more, hco, code_out q1 hco⟩
  have hr : Room (k + 2) X.A := B.rm.mono hk
  have rc : codeAny (model X.prog X.w) X.A (.call (.ref g) ⟨[.ref f], []⟩) (CR (L2.CX X.prog X.w) X.stack X.prog X.w H1 s' Q (WE W σ)) s' := by
    refine run_ofS (N := Ng) (ps := [a]) (us := [.ref f]) (vs := [.ref f]) lk hcg Sg hr I1.env0 (hb s' [.ref f] I1.kIn rfl) (.cons rfl .nil) rfl fun hr' => ?_
    have BZ := body_bx (P := X.prog) (w := X.w) (K := X.K) (mg := X.mg) (base := X.base) (N := Ng) (outer := X.stack) (H := H1) (E := WE W σ) hr' B.gd
    refine ⟨_, hG X.A X.stack s' H1 (WE W σ) (c.lam X.K f c' (X.env.qual ++ "<lambda>") H0 l σ) (fun s' => m l s') f rfl rfl (fun W' pn xe p1 p2 BW => ?_) BZ, ?_⟩
    · refine pe_imp (pe_actS (i := 0) (tb := fun E => rd X.K c (bodyW E) rel m) I1 L hf hfn hfr (hbind _ _ _ _ _) BW.tk hr' (fun A outer s H E hg' hr2 => hbody A outer s H E f c' (lam_bx hr2 (hg'.trans B.gd))) hN0 hva hd hcd) fun σZ HZ Q' ⟨lz, sz, θz, Fz, H0z, r1z, r2z, pz⟩ => ?_
      obtain ⟨m1, m2, m3, m4, m5⟩ := r1z.more
      refine ⟨r2z.pin (0, .ref f) List.mem_cons_self, m4, l, sz, θz, Fz, H0, r1z.ofLam, m1, ?_⟩
      have pz : Post X.K (c.lam X.K f c' (X.env.qual ++ "<lambda>") H0 l σ) θz Fz HZ rel (m l sz) Q' (fun cls d H' => W' cls d σZ H') := pz
      cases e : m l sz with
      | ok d s2 =>
        rw [e] at pz
        exact fun v θ2 F2 H2 t2 q2 h2 => pz v θ2 F2 H2 t2 (q2.toLam ((c.lam X.K f c' (X.env.qual ++ "<lambda>") H0 l σ).mono _ _ _ _ _ _ t2 r1z.more)) h2
      | exc x2 s2 =>
        rw [e] at pz
        exact fun cls dx θ2 F2 H2 t2 q2 h2 => pz cls dx θ2 F2 H2 t2 (q2.toLam ((c.lam X.K f c' (X.env.qual ++ "<lambda>") H0 l σ).mono _ _ _ _ _ _ t2 r1z.more)) h2
      | bad =>
        rw [e] at pz
        exact pz
    · have hNl : 0 < Ng.length := (List.getElem?_eq_some_iff.mp hN0).1
      refine ⟨List.replicate Ng.length none, st, θ, F, θ, F, H1, .refl, q1.toLam mo, ⟨fun i d e => ?_, fun i o e => ?_, fun p hp => ?_, ?_⟩, ?_⟩
      · rw [List.getElem?_replicate] at e
        split at e <;> cases e
      · rw [List.getElem?_replicate] at e
        split at e <;> cases e
      · rw [List.mem_singleton.mp hp]
        unfold L2.start
        rfl
      · unfold L2.start
        rw [List.length_append, List.length_map, List.length_replicate, List.length_replicate, List.length_singleton]
        omega
      · have p1 : Post X.K c θ F H1 rel (runL mb Ng.length (fun s' => m l s') st) Q (fun cls d H' => W cls d σ H') := Post.step older_rel p st1
        unfold runL at p1
        cases e : mb (fun s' => m l s') (List.replicate Ng.length none) st with
        | nx l' s' =>
          rw [e] at p1
          exact fun σ' θ' F' H' t _ rS _ => p1 .non θ' F' H' t rS.ofLam .non
        | rt d s' =>
          rw [e] at p1
          exact fun v θ' F' H' t _ rS h => p1 v θ' F' H' t rS.ofLam h
        | ex x l' s' =>
          rw [e] at p1
          exact fun cls dx σ' θ' F' H' t _ rS _ h => p1 cls dx θ' F' H' t rS.ofLam h
        | bk l' s' =>
          rw [e] at p1
          exact p1.elim
        | ct l' s' =>
          rw [e] at p1
          exact p1.elim
        | bad =>
          rw [e] at p1
          exact p1.elim
  refine wpAny_call (codeAny_mono rc fun r s2 hq => ?_)
  cases r with
  | error e => exact passAt B.tk σ pins H1 s' e s2 I1 hq
  | ok fl =>
    cases fl with
    | ret u => exact I1.after hq
    | next => exact False.elim hq
    | brk => exact False.elim hq
    | cont => exact False.elim hq
end
end Wd
set_option Elab.async false
set_option linter.all false
set_option maxRecDepth 100000
set_option maxHeartbeats 1000000
set_option autoImplicit false
/-! Wd14: and, or, not as values; the store: new objects, o[k] = v; dict displays. -/
namespace Wd
open PySem PySem.Spec PyProof.Rows L2

section
variable {X : Cx} {c : Cc} {W : WX} {a b : Expr} {rest : List Expr} {pos : Pos}
theorem g_andV {ma mb : EM D} (ha : GE X c W a ma) (hb : GE X c W (.BoolOp .And (b :: rest) pos) mb) : GE X c W (.BoolOp .And (a :: b :: rest) pos) (eAnd ma mb) := pe_imp (pe_and ha hb) fun σ H Q ⟨l, s, θ, F, H0, r1, r2, p⟩ => by
  refine rd_bind older_rel r1 r2 p fun d s1 v θ1 F1 H1 _ t1 q1 l1 h1 p1 => ?_
  cases d with
  | bl x =>
    cases h1
    cases x with
    | true => exact ⟨true, rfl, by rw [if_pos rfl]; exact ⟨l, s1, θ1, F1, H0, q1, l1, p1⟩⟩
    | false => exact ⟨false, rfl, by rw [if_neg Bool.false_ne_true]; exact p1 _ θ1 F1 H1 .refl q1 (.bl false)⟩
  | _ => exact p1.elim
theorem g_orV {ma mb : EM D} (ha : GE X c W a ma) (hb : GE X c W (.BoolOp .Or (b :: rest) pos) mb) : GE X c W (.BoolOp .Or (a :: b :: rest) pos) (eOr ma mb) := pe_imp (pe_or ha hb) fun σ H Q ⟨l, s, θ, F, H0, r1, r2, p⟩ => by
  refine rd_bind older_rel r1 r2 p fun d s1 v θ1 F1 H1 _ t1 q1 l1 h1 p1 => ?_
  cases d with
  | bl x =>
    cases h1
    cases x with
    | true => exact ⟨true, rfl, by rw [if_pos rfl]; exact p1 _ θ1 F1 H1 .refl q1 (.bl true)⟩
    | false => exact ⟨false, rfl, by rw [if_neg Bool.false_ne_true]; exact ⟨l, s1, θ1, F1, H0, q1, l1, p1⟩⟩
  | _ => exact p1.elim
theorem g_oneV {op : BoolOp} {m : EM D} (h : GE X c W a m) : GE X c W (.BoolOp op [a] pos) m := pe_one h
theorem g_notV {m : EM D} (h : GE X c W a m) : GE X c W (.UnaryOp .Not a pos) (eNot m) := pe_imp (pe_not h) fun σ H Q ⟨l, s, θ, F, H0, r1, r2, p⟩ => by
  refine rd_bind older_rel r1 r2 p fun d s1 v θ1 F1 H1 _ t1 q1 l1 h1 p1 => ?_
  cases d with
  | bl x =>
    cases h1
    exact ⟨x, rfl, p1 _ θ1 F1 H1 .refl q1 (.bl _)⟩
  | _ => exact p1.elim
end

/-! ### keys -/
section
variable {K : PySem.W.Frag} {c : Cc} {θ : List Addr} {F H : Hp} {s : S}
theorem anyK {k : Key} : ∀ {kvs : List (D × D)} {es : List (Key × V)}, RelKs K θ F kvs es → (kvs.any fun p => p.1.keq (kD k)) = es.any fun kv => decide (kv.1 = k)
  | _, _, .nil => rfl
  | _, _, .cons _ b => by rw [List.any_cons, List.any_cons, anyK b, kD_keqF]
theorem mapK {k : Key} {d : D} {v : V} (h : Rel K θ F d v) : ∀ {kvs : List (D × D)} {es : List (Key × V)}, RelKs K θ F kvs es → RelKs K θ F (kvs.map fun p => if p.1.keq (kD k) then (p.1, d) else p) (es.map fun kv => if kv.1 = k then (kv.1, v) else kv)
  | _, _, .nil => .nil
  | _, _, @RelKs.cons _ _ _ k' d' v' ds vs a b => by
    rw [List.map_cons, List.map_cons]
    rw [show (D.keq (kD k', d').1 (kD k)) = decide (k' = k) from kD_keqF]
    by_cases hk : k' = k
    · rw [decide_eq_true hk, if_pos rfl, if_pos hk]
      exact .cons h (mapK h b)
    · rw [decide_eq_false hk, if_neg Bool.false_ne_true, if_neg hk]
      exact .cons a (mapK h b)
theorem appK {k : Key} {d : D} {v : V} (h : Rel K θ F d v) : ∀ {kvs : List (D × D)} {es : List (Key × V)}, RelKs K θ F kvs es → RelKs K θ F (kvs ++ [(kD k, d)]) (es ++ [(k, v)])
  | _, _, .nil => .cons h .nil
  | _, _, .cons a b => .cons a (appK h b)
theorem dput_K {k : Key} {d : D} {v : V} {kvs : List (D × D)} {es : List (Key × V)} (r : RelKs K θ F kvs es) (h : Rel K θ F d v) : RelKs K θ F (dput kvs (kD k) d) (putK es k v) := by
  unfold dput putK
  rw [anyK r]
  split
  · exact mapK h r
  · exact appK h r
theorem anyT {k : List Key} : ∀ {kvs : List (D × D)} {es : List (List Key × V)}, RelTs K θ F kvs es → (kvs.any fun p => p.1.keq (tD k)) = es.any fun kv => decide (kv.1 = k)
  | _, _, .nil => rfl
  | _, _, @RelTs.cons _ _ _ k' d' v' ds vs _ b => by rw [List.any_cons, List.any_cons, anyT b, show (D.keq (tD k', d').1 (tD k)) = decide (k' = k) from keqs_tD]
theorem mapT {k : List Key} {d : D} {v : V} (h : Rel K θ F d v) : ∀ {kvs : List (D × D)} {es : List (List Key × V)}, RelTs K θ F kvs es → RelTs K θ F (kvs.map fun p => if p.1.keq (tD k) then (p.1, d) else p) (es.map fun kv => if kv.1 = k then (kv.1, v) else kv)
  | _, _, .nil => .nil
  | _, _, @RelTs.cons _ _ _ k' d' v' ds vs a b => by
    rw [List.map_cons, List.map_cons]
    rw [show (D.keq (tD k', d').1 (tD k)) = decide (k' = k) from keqs_tD]
    by_cases hk : k' = k
    · rw [decide_eq_true hk, if_pos rfl, if_pos hk]
      exact .cons h (mapT h b)
    · rw [decide_eq_false hk, if_neg Bool.false_ne_true, if_neg hk]
      exact .cons a (mapT h b)
theorem appT {k : List Key} {d : D} {v : V} (h : Rel K θ F d v) : ∀ {kvs : List (D × D)} {es : List (List Key × V)}, RelTs K θ F kvs es → RelTs K θ F (kvs ++ [(tD k, d)]) (es ++ [(k, v)])
  | _, _, .nil => .cons h .nil
  | _, _, .cons a b => .cons a (appT h b)
theorem dput_T {k : List Key} {d : D} {v : V} {kvs : List (D × D)} {es : List (List Key × V)} (r : RelTs K θ F kvs es) (h : Rel K θ F d v) : RelTs K θ F (dput kvs (tD k) d) (putK es k v) := by
  unfold dput putK
  rw [anyT r]
  split
  · exact mapT h r
  · exact appT h r
theorem lenK : ∀ {kvs : List (D × D)} {es : List (Key × V)}, RelKs K θ F kvs es → kvs.length = es.length
  | _, _, .nil => rfl
  | _, _, .cons _ b => by rw [List.length_cons, List.length_cons, lenK b]
theorem lenT : ∀ {kvs : List (D × D)} {es : List (List Key × V)}, RelTs K θ F kvs es → kvs.length = es.length
  | _, _, .nil => rfl
  | _, _, .cons _ b => by rw [List.length_cons, List.length_cons, lenT b]
/-- d[k] = v by values -/
theorem dput_of {t : Bool} {kvs : List (D × D)} {a : Addr} {y d : D} {u v : V} (r : RS K c θ F H s) (h : RelO K θ F (.dct t kvs) (H a)) (hy : Rel K θ F y u) (hk : y.keyOf t = true) (hd : Rel K θ F d v) (hl : kvs.length < big) :
    ∃ ho, DPut H a u v (upd H a ho) ∧ RelO K θ F (.dct t (dput kvs y d)) (some ho) := by
  cases t with
  | false =>
    obtain ⟨es, e1, q⟩ := h
    have hk0 : y.isKey0 = true := by cases y <;> first | exact hk | (simp [D.keyOf] at hk)
    obtain ⟨k, rfl, rfl⟩ := key0_of hy hk0
    exact ⟨_, DPut.k e1 (by rw [← lenK q]; exact big_lt hl), _, rfl, dput_K q hd⟩
  | true =>
    obtain ⟨es, e1, q⟩ := h
    cases hy with
    | @tup b xs vs hb hv =>
      have hk0 : xs.all D.isKey0 = true := by simpa [D.keyOf] using hk
      obtain ⟨ks, rfl, rfl⟩ := keys_of hv hk0
      exact ⟨_, DPut.t e1 (r.sub _ _ hb) (by rw [← lenT q]; exact big_lt hl), _, rfl, dput_T q hd⟩
    | _ => simp [D.keyOf] at hk
/-- what is told of an object is no table of code objects -/
theorem RelO.kind {o : O} {h : HO} (r : RelO K θ F o (some h)) : (∀ ps, h ≠ .tbl ps) ∧ ∀ cc q, h ≠ LamX.CodeO cc q := by
  cases o with
  | lst xs =>
    obtain ⟨vs, e, _⟩ := r
    cases e
    exact ⟨(fun _ z => nomatch z), fun _ _ z => by unfold LamX.CodeO at z; cases z⟩
  | dct t kvs =>
    cases t with
    | false =>
      obtain ⟨vs, e, _⟩ := r
      cases e
      exact ⟨(fun _ z => nomatch z), fun _ _ z => by unfold LamX.CodeO at z; cases z⟩
    | true =>
      obtain ⟨vs, e, _⟩ := r
      cases e
      exact ⟨(fun _ z => nomatch z), fun _ _ z => by unfold LamX.CodeO at z; cases z⟩
theorem tabs_put {T : List (Addr × Str)} {a : Addr} {h0 ho : HO} (t : LamX.Tabs T H) (e : H a = some h0) (n : (∀ ps, h0 ≠ .tbl ps) ∧ ∀ cc q, h0 ≠ LamX.CodeO cc q) : LamX.Tabs T (upd H a ho) := fun p hp => by
  obtain ⟨ps, h2, h3, h4⟩ := t p hp
  refine ⟨ps, by rw [upd_ne (fun z => n.1 ps (by rw [z, e] at h2; exact Option.some.inj h2))]; exact h2, h3, fun pos cv hc => ?_⟩
  obtain ⟨cc, e5, e6⟩ := h4 pos cv hc
  refine ⟨cc, e5, ?_⟩
  rw [upd_ne (fun z => n.2 cc p.2 (by rw [z, e] at e6; rw [z]; exact Option.some.inj e6))]
  exact e6
/-- an object of the store changed -/
theorem RS.store {n : Nat} {o o' : O} {a : Addr} {ho : HO} (r : RS K c θ F H s) (es : s[n]? = some o) (e : θ[n]? = some a) (h : RelO K θ F o' (some ho)) : Step θ F H θ F (upd H a ho) ∧ RS K c θ F (upd H a ho) (s.set n o') := by
  obtain ⟨a', e', ro, fa⟩ := r.st n o es
  rw [e] at e'
  cases e'
  obtain ⟨h0, e0, nt⟩ := ro.there
  have st : Step θ F H θ F (upd H a ho) := ⟨⟨[], by simp, fun a h => nomatch h⟩, Le.refl F, fun _ _ _ _ _ _ => rfl, fun b u eb nb _ => by
    rw [upd_ne (fun z => nb (by rw [z]; exact List.mem_of_getElem? e))]
    exact eb, fun b hb => by
    by_cases hba : b = a
    · subst hba
      rw [upd_same]
      exact fun z => nomatch z
    · rw [upd_ne hba]
      exact hb⟩
  refine ⟨st, fun b u eb => ?_, by rw [List.length_set]; exact r.len, r.inj, fun m ob em => ?_, tabs_put r.tabs e0 (RelO.kind (by rw [← e0]; exact ro)), r.fz, r.ntb, c.mono _ _ _ _ _ _ st r.more⟩
  · rw [upd_ne (ne_of_none eb fa)]
    exact r.sub b u eb
  · by_cases hm : n = m
    · subst hm
      rw [List.getElem?_set_self (List.getElem?_eq_some_iff.mp es).1] at em
      cases em
      exact ⟨a, e, by rw [upd_same]; exact h, fa⟩
    · rw [List.getElem?_set_ne hm] at em
      obtain ⟨b, e1, q, fb⟩ := r.st m ob em
      refine ⟨b, e1, ?_, fb⟩
      have hb : b ≠ a := fun z => hm (by
        rw [z] at e1
        exact (List.getElem?_inj (List.getElem?_eq_some_iff.mp e).1 r.inj).mp (e.trans e1.symm))
      rw [upd_ne hb]
      exact q
end
section
variable {X : Cx} {c : Cc} {W : WX} {o i e : Expr} {pos pos' : Pos}
/-- o[k] = v, o of the store -/
theorem g_dputR {mo mk mv : EM D} (hu : X.A.units + 1 < cLine) (ho : GE X c W o mo) (hk : GE X c W i mk) (hv : GE X c W e mv) (hs : swapsWith e (some (.Subscript o i pos')) pos.line X.env = pure false := by rfl) :
    GS X c W (.Assign [.Subscript o i pos'] e pos) (sDputR mo mk mv) := ps_imp (ps_dput hu ho hk hv hs) fun D σ H ⟨l, s, θ, F, θ0, F0, H0, t0, r1, r2, p⟩ => by
  refine rs_bind t0 r1 r2 p fun y s1 v θ1 F1 H1 _ t1 _ q1 l1 h1 p1 => ?_
  refine rs_bind t1 q1 l1 p1 fun r s2 w θ2 F2 H2 _ t2 tt2 q2 l2 h2 p2 => ?_
  refine rs_bind t2 q2 l2 p2 fun x s3 u θ3 F3 H3 _ t3 tt3 q3 l3 h3 p3 => ?_
  have h1' : Rel X.K θ3 F3 y v := lasts_rel _ _ _ H _ _ _ _ _ _ (tt2.trans tt3) h1
  have h2' : Rel X.K θ3 F3 r w := lasts_rel _ _ _ H _ _ _ _ _ _ tt3 h2
  cases h2' with
  | @ref n a en =>
    dsimp only at p3
    cases es : s3[n]? with
    | none =>
      rw [es] at p3
      exact p3.elim
    | some ob =>
      rw [es] at p3
      cases ob with
      | lst xs => exact p3.elim
      | dct t kvs =>
        dsimp only at p3
        split at p3
        · rename_i hc
          rw [Bool.and_eq_true] at hc
          obtain ⟨a', ea, ro, fa⟩ := q3.st n _ es
          rw [en] at ea
          cases ea
          obtain ⟨hob, dp, rp⟩ := dput_of q3 ro h3 hc.1 h1' (of_decide_eq_true hc.2)
          obtain ⟨st, q4⟩ := q3.store es en rp
          exact ⟨a, _, rfl, dp, p3 σ θ3 F3 _ (t3.trans st) st.grow q4 (l3.step st)⟩
        · exact p3.elim
  | _ => exact p3.elim
end
end Wd
set_option Elab.async false
set_option linter.all false
set_option maxRecDepth 100000
set_option maxHeartbeats 1000000
set_option autoImplicit false
/-! Wd15: new objects of the store, displays of dicts, xs[i] = v, o[k], x = a, b. -/
namespace Wd
open PySem PySem.Spec PyProof.Rows L2

section
variable {K : PySem.W.Frag} {c : Cc} {θ : List Addr} {F H : Hp} {s : S}
/-- an object that nobody else knows is changed -/
theorem RS.put {a : Addr} {h0 ho : HO} (r : RS K c θ F H s) (e : H a = some h0) (n : a ∉ θ) (f : F a = none) (k : (∀ ps, h0 ≠ .tbl ps) ∧ ∀ cc q, h0 ≠ LamX.CodeO cc q) (hm : c.more θ F (upd H a ho)) : RS K c θ F (upd H a ho) s := by
  refine ⟨fun b u eb => ?_, r.len, r.inj, fun m ob em => ?_, tabs_put r.tabs e k, r.fz, r.ntb, hm⟩
  · rw [upd_ne (ne_of_none eb f)]
    exact r.sub b u eb
  · obtain ⟨b, e1, q, fb⟩ := r.st m ob em
    refine ⟨b, e1, ?_, fb⟩
    rw [upd_ne (fun z => n (by rw [← z]; exact List.mem_of_getElem? e1))]
    exact q
/-- laid in the store -/
theorem RS.lay {a : Addr} {o : O} (r : RS K c θ F H s) (h : RelO K θ F o (H a)) (n : a ∉ θ) (f : F a = none) (hm : c.more (θ ++ [a]) F H) : RS K c (θ ++ [a]) F H (s ++ [o]) := by
  refine ⟨r.sub, by rw [List.length_append, List.length_append, r.len, List.length_singleton, List.length_singleton], ?_, fun m ob em => ?_, r.tabs, r.fz, r.ntb, hm⟩
  · rw [List.nodup_append]
    exact ⟨r.inj, by simp, fun x hx y hy z => n (by rw [← List.mem_singleton.mp hy, ← z]; exact hx)⟩
  · by_cases hm : m < s.length
    · rw [List.getElem?_append_left hm] at em
      obtain ⟨b, e1, q, fb⟩ := r.st m ob em
      exact ⟨b, pre_at e1, q.mono (Le.refl F), fb⟩
    · rw [List.getElem?_append_right (by omega)] at em
      have e0 : m - s.length = 0 := by
        rcases Nat.eq_zero_or_pos (m - s.length) with z | z
        · exact z
        · rw [List.getElem?_eq_none (by rw [List.length_singleton]; omega)] at em
          cases em
      rw [e0] at em
      cases em
      refine ⟨a, ?_, h.mono (Le.refl F), f⟩
      rw [List.getElem?_append_right (by rw [r.len]; omega), r.len, e0]
      rfl
end
section
variable {X : Cx} {c : Cc} {W : WX} {e : Expr}
/-- a new object, known to the store from now on -/
theorem own_of (o : O) : o.d.own? = some o := by cases o <;> rfl
theorem g_new {m : EM D} (h : GF X c W e m) : GE X c W e (eNew m) := pe_imp h fun σ H Q ⟨l, s, θ, F, H0, r1, r2, p⟩ => by
  refine ⟨l, s, θ, F, H0, r1, r2, ?_⟩
  unfold eNew at p
  cases q : m l s with
  | ok d s1 =>
    rw [q] at p
    intro v θ' F' H' t r hf
    obtain ⟨o, a, e1, e2, ro, n, f, z⟩ := hf
    subst e1 e2
    have p : Post X.K c θ F H rel (match o.d.own? with | some o => .ok (.ref s1.length) (s1 ++ [o]) | none => .bad) Q (fun cls d H' => W cls d σ H') := p
    rw [own_of] at p
    have st : Step θ F H (θ' ++ [a]) F' H' := by
      obtain ⟨t0, e0, h0⟩ := t.pre
      refine ⟨⟨t0 ++ [a], by rw [e0, List.append_assoc], fun b hb => ?_⟩, t.frz, t.new, t.keep, t.dom⟩
      rcases List.mem_append.mp hb with hb | hb
      · exact h0 b hb
      · rw [List.mem_singleton.mp hb]
        exact z
    refine p (.ref a) (θ' ++ [a]) F' H' st (r.lay ro n f (c.mono _ _ _ _ _ _ st r1.more)) (.ref ?_)
    rw [List.getElem?_append_right (by rw [r.len]; omega), r.len, Nat.sub_self]
    rfl
  | exc x s1 =>
    rw [q] at p
    exact p
  | bad =>
    rw [q] at p
    exact p
end

/-! ### displays of dicts -/
def ePairs : List (EM D × EM D) → EM (List (D × D))
  | [] => fun _ s => .ok [] s
  | (k, v) :: r => fun l s => (k l s).bind fun x s1 => (v l s1).bind fun y s2 => (ePairs r l s2).bind fun ps s3 => .ok ((x, y) :: ps) s3
/-- {k: v, ..} -/
def eDct (ms : List (EM D × EM D)) : EM D := fun l s => (ePairs ms l s).bind fun ps s1 => if (ps.all fun p => p.1.isKey0) = true ∧ ps.length ≤ 15 then .ok (.dct false (ps.foldl (fun acc p => dput acc p.1 p.2) [])) s1 else .bad
inductive RelPs (K : PySem.W.Frag) (θ : List Addr) (F : Hp) : List (D × D) → List (V × V) → Prop
  | nil : RelPs K θ F [] []
  | cons {x y : D} {u v : V} {ds : List (D × D)} {vs : List (V × V)} : Rel K θ F x u → Rel K θ F y v → RelPs K θ F ds vs → RelPs K θ F ((x, y) :: ds) ((u, v) :: vs)
def relP : RT (List (D × D)) (List (V × V)) := fun K θ F _ _ d v => RelPs K θ F d v
theorem older_relP : Older relP := fun _ _ _ _ _ _ _ _ _ h => h
theorem RelPs.mono {K : PySem.W.Frag} {θ t : List Addr} {F F' : Hp} (e : Le F F') : ∀ {ds : List (D × D)} {vs : List (V × V)}, RelPs K θ F ds vs → RelPs K (θ ++ t) F' ds vs
  | _, _, .nil => .nil
  | _, _, .cons a b r => .cons (a.mono e) (b.mono e) (RelPs.mono e r)
section
variable {K : PySem.W.Frag} {c : Cc} {W : WX}
theorem pairs_rd : ∀ (ms : List (EM D × EM D)) (σ : L2.St) (H : Hp) (Q : List (V × V) → Hp → Prop), rd K c W relP (ePairs ms) σ H Q → tPairs (ms.map fun p => (rd K c W rel p.1, rd K c W rel p.2)) σ H Q
  | [], σ, H, Q, ⟨l, s, θ, F, H0, r1, r2, p⟩ => p [] θ F H .refl r1 .nil
  | (k, v) :: r, σ, H, Q, ⟨l, s, θ, F, H0, r1, r2, p⟩ => by
    refine rd_bind older_relP r1 r2 p fun x s1 u θ1 F1 H1 _ t1 q1 l1 h1 p1 => ?_
    refine rd_bind older_relP q1 l1 p1 fun y s2 w θ2 F2 H2 _ t2 q2 l2 h2 p2 => ?_
    refine pairs_rd r σ H2 _ ?_
    refine rd_bind older_relP q2 l2 p2 fun ps s3 ws θ3 F3 H3 _ t3 q3 l3 h3 p3 => ?_
    exact p3 _ θ3 F3 H3 .refl q3 (.cons (lasts_rel _ _ _ H _ _ _ _ _ _ (t2.trans t3) h1) (lasts_rel _ _ _ H _ _ _ _ _ _ t3 h2) h3)
theorem keysP {θ : List Addr} {F : Hp} : ∀ {ds : List (D × D)} {vs : List (V × V)}, RelPs K θ F ds vs → (ds.all fun p => p.1.isKey0) = true → ∃ kvs : List (Key × V), vs = kvs.map (fun kv => (kV kv.1, kv.2)) ∧ ds.length = kvs.length ∧
      ∀ acc es, RelKs K θ F acc es → RelKs K θ F (ds.foldl (fun acc p => dput acc p.1 p.2) acc) (mergeK es kvs)
  | _, _, .nil, _ => ⟨[], rfl, rfl, fun acc es r => r⟩
  | _, _, @RelPs.cons _ _ _ x y u v ds vs a b r, h => by
    rw [List.all_cons, Bool.and_eq_true] at h
    obtain ⟨k, rfl, rfl⟩ := key0_of a h.1
    obtain ⟨kvs, rfl, hl, hk⟩ := keysP r h.2
    refine ⟨(k, v) :: kvs, rfl, by rw [List.length_cons, List.length_cons, hl], fun acc es ra => ?_⟩
    exact hk _ _ (dput_K ra b)
end
/-- the pairs of a display -/
inductive GPs (X : Cx) (c : Cc) (W : WX) : List (Option Expr) → List Expr → List (EM D × EM D) → Prop
  | nil : GPs X c W [] [] []
  | cons {k v : Expr} {ks : List (Option Expr)} {vs : List Expr} {mk mv : EM D} {ms : List (EM D × EM D)} : GE X c W k mk → GE X c W v mv → GPs X c W ks vs ms → GPs X c W (some k :: ks) (v :: vs) ((mk, mv) :: ms)
section
variable {X : Cx} {c : Cc} {W : WX} {pos : Pos}
theorem pps_of : ∀ {ks : List (Option Expr)} {vs : List Expr} {ms : List (EM D × EM D)}, GPs X c W ks vs ms → PPs X pos ks vs (ms.map fun p => (rd X.K c W rel p.1, rd X.K c W rel p.2))
  | _, _, _, .nil => pps_nil
  | _, _, _, .cons hk hv r => pps_cons hk hv (pps_of r)
theorem g_disp {keys : List (Option Expr)} {values : List Expr} {ms : List (EM D × EM D)} (h : GPs X c W keys values ms) (hall : keys.all (·.isSome) = true := by rfl) (hl : keys.length = values.length := by rfl) (h0 : keys ≠ [] := by exact fun z => nomatch z) (h15 : keys.length ≤ 15 := by decide) :
    GF X c W (.Dict keys values pos) (eDct ms) := pe_imp (pe_disp (pps_of h) hall hl h0 h15) fun σ H Q ⟨l, s, θ, F, H0, r1, r2, p⟩ => by
  intro a ha
  have hF := r1.non ha
  have na := r1.nth ha
  have st : Step θ F H θ F (upd H a (.dK [])) := .made ha
  have q0 : RS X.K c θ F (upd H a (.dK [])) s := r1.made ha
  refine pairs_rd ms σ _ _ ⟨l, s, θ, F, H0, q0, r2.step st, ?_⟩
  unfold eDct at p
  cases q : ePairs ms l s with
  | ok ps s1 =>
    rw [q] at p
    intro vs θ1 F1 H1 t1 q1 h1
    have p : Post X.K c θ F H relF (if (ps.all fun p => p.1.isKey0) = true ∧ ps.length ≤ 15 then .ok (.dct false (ps.foldl (fun acc p => dput acc p.1 p.2) [])) s1 else .bad) Q (fun cls d H' => W cls d σ H') := p
    split at p
    · rename_i hc
      obtain ⟨kvs, e1, e2, hk⟩ := keysP h1 hc.1
      have ea : H1 a = some (.dK []) := t1.keep a _ upd_same na fun _ z => nomatch z
      have n1 : a ∉ θ1 := t1.notin (by rw [upd_same]; exact fun z => nomatch z) na
      have f1 : F1 a = none := (t1.new a _ upd_same na (fun _ z => nomatch z) (fun _ z => nomatch z)).trans hF
      have tt := st.trans t1
      have t2 : Step θ F H θ1 F1 (upd H1 a (.dK (mergeK [] kvs))) := ⟨tt.pre, tt.frz, tt.new, fun b u eb nb nt => by
        rw [upd_ne (ne_of_none eb ha)]
        exact tt.keep b u eb nb nt, fun b hb => by
        by_cases hba : b = a
        · rw [hba, upd_same]
          exact fun z => nomatch z
        · rw [upd_ne hba]
          exact tt.dom b hb⟩
      refine ⟨ea, kvs, e1, by rw [← e2]; exact hc.2, ?_⟩
      refine p (.ref a) θ1 F1 _ t2 (q1.put ea n1 f1 ⟨(fun _ z => nomatch z), fun _ _ z => by unfold LamX.CodeO at z; cases z⟩ (c.mono _ _ _ _ _ _ t2 r1.more)) ⟨.dct false _, a, rfl, rfl, ⟨_, upd_same, hk [] [] .nil⟩, n1, f1, ha⟩
    · exact p.elim
  | exc x s1 =>
    rw [q] at p
    exact fun cls dx θ1 F1 H1 t1 q1 h1 => p cls dx θ1 F1 H1 (st.trans t1) q1 h1
  | bad =>
    rw [q] at p
    exact p.elim
/-- {} -/
theorem g_dict0 : GF X c W (.Dict [] [] pos) (eC (.dct false [])) := pe_imp pe_dnewK fun σ H Q ⟨l, s, θ, F, H0, r1, r2, p⟩ => by
  intro a ha
  exact p (.ref a) θ F _ (.made ha) (r1.made ha) ⟨.dct false [], a, rfl, rfl, ⟨_, upd_same, .nil⟩, r1.nth ha, r1.non ha, ha⟩
end

/-! ### xs[i] = v of the store -/
def sLputR (o k v : EM D) : SM := fun l s => (v l s).toR l fun y s1 => (o l s1).toR l fun r s2 => (k l s2).toR l fun x s3 => match r, x with
  | .ref n, .int i => (match s3[n]? with
    | some (.lst xs) => (match ixI xs.length i with
      | some j => .nx l (s3.set n (.lst (xs.set j y)))
      | none => .bad)
    | _ => .bad)
  | _, _ => .bad
theorem Rels.set {K : PySem.W.Frag} {θ : List Addr} {F : Hp} {d : D} {v : V} (h : Rel K θ F d v) : ∀ {ds : List D} {vs : List V} (j : Nat), Rels K θ F ds vs → Rels K θ F (ds.set j d) (vs.set j v)
  | _, _, _, .nil => .nil
  | _, _, 0, .cons _ b => .cons h b
  | _, _, j + 1, .cons a b => .cons a (Rels.set h j b)
section
variable {X : Cx} {c : Cc} {W : WX} {o i e e2 : Expr} {pos pos' : Pos}
theorem g_lputR {mo mk mv : EM D} (ho : GE X c W o mo) (hk : GE X c W i mk) (hv : GE X c W e mv)
    (ha : ∀ v, assign (.Subscript o i pos') X.env v = (do
      let ov ← holding [v] (eval o X.env)
      let iv ← holding [v, ov] (eval i X.env)
      standAt pos'
      holding [v, ov, iv] (setItem ov iv v)
      release [v, ov, iv] []) := by intro _; rfl)
    (hs : swapsWithSole [.Subscript o i pos'] e pos.line X.env = pure false := by rfl) (hw : swappedStores [.Subscript o i pos'] e X.env = pure none := by rfl) (h1 : (assignEach [.Subscript o i pos'] X.env).map (·.2) = [assign (.Subscript o i pos') X.env] := by rfl) :
    GS X c W (.Assign [.Subscript o i pos'] e pos) (sLputR mo mk mv) := ps_imp (ps_asg hv (pg_sub ho hk set_list ha) hs hw h1) fun D σ H ⟨l, s, θ, F, θ0, F0, H0, t0, r1, r2, p⟩ => by
  refine rs_bind t0 r1 r2 p fun y s1 v θ1 F1 H1 _ t1 _ q1 l1 h1 p1 => ?_
  refine rs_bind t1 q1 l1 p1 fun r s2 w θ2 F2 H2 _ t2 tt2 q2 l2 h2 p2 => ?_
  refine rs_bind t2 q2 l2 p2 fun x s3 u θ3 F3 H3 _ t3 tt3 q3 l3 h3 p3 => ?_
  have h1' : Rel X.K θ3 F3 y v := lasts_rel _ _ _ H _ _ _ _ _ _ (tt2.trans tt3) h1
  have h2' : Rel X.K θ3 F3 r w := lasts_rel _ _ _ H _ _ _ _ _ _ tt3 h2
  cases h2' with
  | @ref n a en =>
    cases h3 with
    | int k =>
      dsimp only at p3
      cases es : s3[n]? with
      | none =>
        rw [es] at p3
        exact p3.elim
      | some ob =>
        rw [es] at p3
        cases ob with
        | dct t kvs => exact p3.elim
        | lst xs =>
          dsimp only at p3
          cases ej : ixI xs.length k with
          | none =>
            rw [ej] at p3
            exact p3.elim
          | some j =>
            rw [ej] at p3
            obtain ⟨a', ea, ⟨vs, e1, rv⟩, fa⟩ := q3.st n _ es
            rw [en] at ea
            cases ea
            have rp : RelO X.K θ3 F3 (.lst (xs.set j y)) (some (.lst (vs.set j v))) := ⟨_, rfl, rv.set h1' j⟩
            obtain ⟨st, q4⟩ := q3.store es en rp
            exact ⟨a, vs, k, j, rfl, rfl, e1, by rw [← rv.length]; exact ej, p3 σ θ3 F3 _ (t3.trans st) st.grow q4 (l3.step st)⟩
    | _ => exact p3.elim
  | _ => exact p3.elim
end
end Wd
set_option Elab.async false
set_option linter.all false
set_option maxRecDepth 100000
set_option maxHeartbeats 1000000
set_option autoImplicit false
/-! Wd16: several names at once, o[k], x = a, b; t * n; enumerate, zip. -/
namespace Wd
open PySem PySem.Spec PyProof.Rows L2

def sPar2 (i j : Nat) (m1 m2 : EM D) : SM := fun l s => (eAll [m1, m2] l s).toR l fun ds s' => match ds with
  | [d1, d2] => .nx ((l.set i (some (.val d1))).set j (some (.val d2))) s'
  | _ => .bad
def sPar3 (i j k : Nat) (m1 m2 m3 : EM D) : SM := fun l s => (eAll [m1, m2, m3] l s).toR l fun ds s' => match ds with
  | [d1, d2, d3] => .nx (((l.set i (some (.val d1))).set j (some (.val d2))).set k (some (.val d3))) s'
  | _ => .bad
/-- o[k], x = a, b -/
def sParD (o k : EM D) (j : Nat) (m1 m2 : EM D) : SM := fun l s => (eTup (eAll [m1, m2]) l s).toR l fun t s1 => match t with
  | .tup [d1, d2] => (o l s1).toR l fun r s2 => (k l s2).toR l fun x s3 => (match r with
    | .ref n => (match s3[n]? with
      | some (.dct t kvs) => if x.keyOf t && decide (kvs.length < big) then .nx (l.set j (some (.val d2))) (s3.set n (.dct t (dput kvs x d1))) else .bad
      | _ => .bad)
    | _ => .bad)
  | _ => .bad
section
variable {X : Cx} {c : Cc} {W : WX} {o i e e1 e2 e3 : Expr} {x y z : Str} {px py pz pt pt2 pos pos' : Pos} {kt k2 : Nat}
theorem g_par2 (n m : Nat) {m1 m2 : EM D} (h1 : GE X c W e1 m1) (h2 : GE X c W e2 m2) (hN : X.N.Nodup) (hi : X.N[n]? = some x := by rfl) (hj : X.N[m]? = some y := by rfl) (hij : n ≠ m := by decide) (hx : X.env.scope.names.lookup x = some .local := by rfl) (hy : X.env.scope.names.lookup y = some .local := by rfl)
    (hp : ∀ p ∈ c.pin, p.1 ≠ n ∧ p.1 ≠ m := by first | (intro p hp; exact nomatch hp) | decide) (hc : X.calm = true := by rfl)
    (hw : swappedStores [.Tuple [.Name x px, .Name y py] kt pt] (.Tuple [e1, e2] k2 pt2) X.env = pure (some [x, y]) := by rfl)
    (hs : swapsWithSole [.Tuple [.Name x px, .Name y py] kt pt] (.Tuple [e1, e2] k2 pt2) pos.line X.env = pure false := by rfl)
    (ha : starEach [e1, e2] X.env = (false, eval e1 X.env) :: starEach [e2] X.env := by rfl) (hb : starEach [e2] X.env = (false, eval e2 X.env) :: starEach [] X.env := by rfl) :
    GS X c W (.Assign [.Tuple [.Name x px, .Name y py] kt pt] (.Tuple [e1, e2] k2 pt2) pos) (sPar2 n m m1 m2) := ps_imp (ps_par hc hN hi hj hij hx hy (g_cons h1 (g_cons h2 g_nil hb) ha) hw hs) fun D σ H ⟨l, s, θ, F, θ0, F0, H0, t0, r1, r2, p⟩ => by
  refine rs_bind t0 r1 r2 p fun ds s1 vs θ1 F1 H1 _ t1 tt q1 l1 h1 p1 => ?_
  split at p1
  · cases h1 with
    | cons a r =>
      cases r with
      | cons b r =>
        cases r
        exact ⟨_, _, rfl, p1 _ θ1 F1 H1 t1 .refl q1 ((l1.set a fun p hp' => (hp p hp').1).set b fun p hp' => (hp p hp').2)⟩
  · exact p1.elim
theorem g_par3 (n m k : Nat) {m1 m2 m3 : EM D} (h1 : GE X c W e1 m1) (h2 : GE X c W e2 m2) (h3 : GE X c W e3 m3) (hN : X.N.Nodup) (hi : X.N[n]? = some x := by rfl) (hj : X.N[m]? = some y := by rfl) (hk : X.N[k]? = some z := by rfl) (hij : n ≠ m := by decide) (hil : n ≠ k := by decide) (hjl : m ≠ k := by decide)
    (hx : X.env.scope.names.lookup x = some .local := by rfl) (hy : X.env.scope.names.lookup y = some .local := by rfl) (hz : X.env.scope.names.lookup z = some .local := by rfl)
    (hp : ∀ p ∈ c.pin, p.1 ≠ n ∧ p.1 ≠ m ∧ p.1 ≠ k := by first | (intro p hp; exact nomatch hp) | decide) (hc : X.calm = true := by rfl)
    (hw : swappedStores [.Tuple [.Name x px, .Name y py, .Name z pz] kt pt] (.Tuple [e1, e2, e3] k2 pt2) X.env = pure (some [x, y, z]) := by rfl)
    (hs : swapsWithSole [.Tuple [.Name x px, .Name y py, .Name z pz] kt pt] (.Tuple [e1, e2, e3] k2 pt2) pos.line X.env = pure false := by rfl)
    (ha : starEach [e1, e2, e3] X.env = (false, eval e1 X.env) :: starEach [e2, e3] X.env := by rfl) (hb : starEach [e2, e3] X.env = (false, eval e2 X.env) :: starEach [e3] X.env := by rfl) (hd : starEach [e3] X.env = (false, eval e3 X.env) :: starEach [] X.env := by rfl) :
    GS X c W (.Assign [.Tuple [.Name x px, .Name y py, .Name z pz] kt pt] (.Tuple [e1, e2, e3] k2 pt2) pos) (sPar3 n m k m1 m2 m3) := ps_imp (ps_par3 hc hN hi hj hk hij hil hjl hx hy hz (g_cons h1 (g_cons h2 (g_cons h3 g_nil hd) hb) ha) hw hs) fun D σ H ⟨l, s, θ, F, θ0, F0, H0, t0, r1, r2, p⟩ => by
  refine rs_bind t0 r1 r2 p fun ds s1 vs θ1 F1 H1 _ t1 tt q1 l1 h1 p1 => ?_
  split at p1
  · cases h1 with
    | cons a r =>
      cases r with
      | cons b r =>
        cases r with
        | cons d r =>
          cases r
          exact ⟨_, _, _, rfl, p1 _ θ1 F1 H1 t1 .refl q1 (((l1.set a fun p hp' => (hp p hp').1).set b fun p hp' => (hp p hp').2.1).set d fun p hp' => (hp p hp').2.2)⟩
  · exact p1.elim
theorem g_parD (j : Nat) {mo mk m1 m2 : EM D} (hu : X.A.units + 1 < cLine) (ho : GE X c W o mo) (hk : GE X c W i mk) (h1 : GE X c W e1 m1) (h2 : GE X c W e2 m2) (hN : X.N.Nodup) (hj : X.N[j]? = some x := by rfl) (hx : Loc X.env.scope x := by first | exact Or.inl rfl | exact Or.inr rfl)
    (hf : X.fn x = true ∨ X.env.scope.names.lookup x = some .local := by first | exact .inl rfl | exact .inr rfl) (hp : ∀ p ∈ c.pin, p.1 ≠ j := by first | (intro p hp; exact nomatch hp) | decide) (hc : X.calm = true := by rfl)
    (hs : swapsWithSole [.Tuple [.Subscript o i pos', .Name x px] kt pt] (.Tuple [e1, e2] k2 pt2) pos.line X.env = pure false := by rfl) (hw : swappedStores [.Tuple [.Subscript o i pos', .Name x px] kt pt] (.Tuple [e1, e2] k2 pt2) X.env = pure none := by rfl)
    (h0 : (assignEach [.Tuple [.Subscript o i pos', .Name x px] kt pt] X.env).map (·.2) = [assign (.Tuple [.Subscript o i pos', .Name x px] kt pt) X.env] := by rfl)
    (hn : (assignEach [.Subscript o i pos', .Name x px] X.env).length = 2 := by rfl) (hst : (assignEach [.Subscript o i pos', .Name x px] X.env).findIdx? (·.1) = none := by rfl)
    (hd1 : (assignEach [.Subscript o i pos', .Name x px] X.env).map (·.2) = assign (.Subscript o i pos') X.env :: (assignEach [.Name x px] X.env).map (·.2) := by rfl) (hd2 : (assignEach [.Name x px] X.env).map (·.2) = assign (.Name x px) X.env :: (assignEach [] X.env).map (·.2) := by rfl)
    (has : ∀ v, assign (.Subscript o i pos') X.env v = (do
      let ov ← holding [v] (eval o X.env)
      let iv ← holding [v, ov] (eval i X.env)
      standAt pos'
      holding [v, ov, iv] (setItem ov iv v)
      release [v, ov, iv] []) := by intro _; rfl)
    (ha : starEach [e1, e2] X.env = (false, eval e1 X.env) :: starEach [e2] X.env := by rfl) (hb : starEach [e2] X.env = (false, eval e2 X.env) :: starEach [] X.env := by rfl) :
    GS X c W (.Assign [.Tuple [.Subscript o i pos', .Name x px] kt pt] (.Tuple [e1, e2] k2 pt2) pos) (sParD mo mk j m1 m2) :=
  ps_imp (ps_asg (g_tup (ms := [m1, m2]) (g_cons h1 (g_cons h2 g_nil hb) ha)) (pg_tup hc (pgs_cons (pg_sub ho hk (set_dict hu) has) (pgs_cons (pg_name hN hj hx hf) pgs_nil hd2) hd1) hn hst) hs hw h0) fun D σ H ⟨l, s, θ, F, θ0, F0, H0, t0, r1, r2, p⟩ => by
    refine rs_bind t0 r1 r2 p fun t s1 v θ1 F1 H1 _ t1 _ q1 l1 h1 p1 => ?_
    split at p1
    · rename_i d1 d2 ex
      cases h1 with
      | @tup a xs vs g q =>
        cases q with
        | @cons _ v1 _ _ ra r =>
          cases r with
          | @cons _ v2 _ _ rb r =>
            cases r
            refine ⟨a, _, rfl, SqT.of (q1.sub _ _ g), rfl, v1, [v2], rfl, ?_⟩
            refine rs_bind t1 q1 l1 p1 fun r s2 w θ2 F2 H2 _ t2 tt2 q2 l2 h2 p2 => ?_
            refine rs_bind t2 q2 l2 p2 fun y s3 u θ3 F3 H3 _ t3 tt3 q3 l3 h3 p3 => ?_
            have h1' : Rel X.K θ3 F3 d1 v1 := lasts_rel _ _ _ H _ _ _ _ _ _ (tt2.trans tt3) ra
            have h1'' : Rel X.K θ3 F3 d2 v2 := lasts_rel _ _ _ H _ _ _ _ _ _ (tt2.trans tt3) rb
            have h2' : Rel X.K θ3 F3 r w := lasts_rel _ _ _ H _ _ _ _ _ _ tt3 h2
            cases h2' with
            | @ref n a' en =>
              dsimp only at p3
              cases es : s3[n]? with
              | none =>
                rw [es] at p3
                exact p3.elim
              | some ob =>
                rw [es] at p3
                cases ob with
                | lst xs => exact p3.elim
                | dct t kvs =>
                  dsimp only at p3
                  split at p3
                  · rename_i hc
                    rw [Bool.and_eq_true] at hc
                    obtain ⟨a'', ea, ro, fa⟩ := q3.st n _ es
                    rw [en] at ea
                    cases ea
                    obtain ⟨hob, dp, rp⟩ := dput_of q3 ro h3 hc.1 h1' (of_decide_eq_true hc.2)
                    obtain ⟨st, q4⟩ := q3.store es en rp
                    exact ⟨a', _, rfl, dp, v2, [], rfl, rfl, p3 _ θ3 F3 _ (t3.trans st) st.grow q4 ((l3.step st).set (lasts_rel _ _ _ H _ _ _ _ _ _ st h1'') hp)⟩
                  · exact p3.elim
            | _ => exact p3.elim
    · exact p1.elim
end
end Wd
set_option Elab.async false
set_option linter.all false
set_option maxRecDepth 100000
set_option maxHeartbeats 1000000
set_option autoImplicit false
/-! Wd17: t * n, xs * n, t[::-1], enumerate, zip, sorted(set(t)), repr with {}. -/
namespace Wd
open PySem PySem.Spec PyProof.Rows L2

/-! ### * -/
def oRepT (s : S) (x y : D) : Option D := match look s x, y with
  | .tup xs, .int k => if xs ≠ [] ∧ xs.length ≤ 1000 ∧ 2 ≤ k ∧ k ≤ 1000 then some (.tup (List.replicate k.toNat xs).flatten) else none
  | _, _ => none
theorem Rels.rep {K : PySem.W.Frag} {θ : List Addr} {F : Hp} {ds : List D} {vs : List V} (h : Rels K θ F ds vs) : ∀ n : Nat, Rels K θ F (List.replicate n ds).flatten (List.replicate n vs).flatten
  | 0 => .nil
  | n + 1 => by
    rw [List.replicate_succ, List.replicate_succ, List.flatten_cons, List.flatten_cons]
    exact h.append (Rels.rep h n)
section
variable {X : Cx} {c : Cc} {W : WX} {a b e : Expr} {pos p1 : Pos} {K : PySem.W.Frag}
theorem s_repT : OpS K c rel (rRepT K) oRepT := by
  intro θ F H s x y v u d Q r hx hy e k
  unfold oRepT at e
  split at e
  · rename_i xs i ex
    split at e
    · rename_i h
      cases e
      obtain ⟨ad, vs, rfl, h1, q1, f1⟩ := view_tup r hx ex
      rw [relW_int hy]
      have hv : vs ≠ [] := fun z => h.1 (by
        have := q1.length
        rw [z] at this
        exact List.eq_nil_of_length_eq_zero this)
      exact ⟨ad, i, vs, rfl, rfl, h1, hv, h.2.2.1, h.2.2.2, by rw [← q1.length]; exact h.2.1, fun p hp => lay_tup r (q1.rep _) hp k⟩
    · cases e
  · cases e
theorem g_repT {ma mb : EM D} (ha : GV X c W a ma) (hb : GV X c W b mb) : GE X c W (.BinOp a .Mult b pos) (e2 oRepT ma mb) := g_op older_rel op_repT s_repT ha hb
/-- a list, tracked, times a number -/
def oRepL (s : S) (x y : D) : Option D := match look s x, y with
  | .lst xs, .int k => if xs.length ≤ 1000 ∧ 0 ≤ k ∧ k ≤ 1000 then some (.lst (List.replicate k.toNat xs).flatten) else none
  | _, _ => none
def rRepF (xs : R2) : R2 := xs
theorem g_repL {ma mb : EM D} (ha : GF X c W a ma) (hb : GE X c W b mb) : GE X c W (.BinOp a .Mult b pos) (e2 oRepL ma mb) := pe_imp (pe_op op_rep ha hb) fun σ H Q ⟨l, s, θ, F, H0, r1, r2, p⟩ => by
  refine rd_bind older_rel r1 r2 p fun x s1 v θ1 F1 H1 _ t1 q1 l1 h1 p1 => ?_
  refine rd_bind older_rel q1 l1 p1 fun y s2 u θ2 F2 H2 _ t2 q2 l2 h2 p2 => ?_
  obtain ⟨o, ad, rfl, rfl, ro, n, f, z⟩ := h1
  unfold oRepL at p2
  rw [look_d] at p2
  cases o with
  | dct t kvs => exact p2.elim
  | lst xs =>
    obtain ⟨vs, e1, rv⟩ := ro
    have e2 : H2 ad = some (.lst vs) := t2.keep ad _ e1 n fun _ z => nomatch z
    have rv2 : Rels X.K θ2 F2 xs vs := lasts_rels _ _ _ H _ _ _ _ _ _ t2 rv
    cases y with
    | int k =>
      cases h2
      have p2 : Post X.K c θ2 F2 H2 rel (opt (if xs.length ≤ 1000 ∧ 0 ≤ k ∧ k ≤ 1000 then some (.lst (List.replicate k.toNat xs).flatten) else none) s2) Q (fun cls d H' => W cls d σ H') := p2
      split at p2
      · rename_i h
        refine ⟨ad, k, vs, rfl, rfl, e2, by omega, by omega, ?_, fun q hq => lay_lst q2 (rv2.rep _) hq fun v' F' H' t r h => p2 v' θ2 F' H' t r h⟩
        rw [← rv.length, sizeLine_eq]
        have : xs.length * k.toNat ≤ 1000 * 1000 := Nat.mul_le_mul h.1 (by omega)
        omega
      · exact p2.elim
    | _ => exact p2.elim

/-! ### enumerate(list), zip(tuple, tuple) -/
def iEnumL (m : EM D) : EM (List D) := fun l s => (m l s).bind fun x s1 => match x with
  | .lst xs => .ok (enumL 0 xs) s1
  | _ => .bad
theorem enum_at : ∀ {xs : List D} {lo : Int} {i : Nat} {d : D}, (enumL lo xs)[i]? = some d → ∃ x, xs[i]? = some x ∧ d = .tup [.int (lo + (i : Int)), x]
  | [], _, _, _, h => by simp [enumL] at h
  | x :: xs, lo, 0, d, h => by
    simp [enumL] at h
    exact ⟨x, rfl, by rw [← h]; simp⟩
  | x :: xs, lo, i + 1, d, h => by
    have h' : (enumL (lo + 1) xs)[i]? = some d := by simpa [enumL] using h
    obtain ⟨y, h1, h2⟩ := enum_at h'
    refine ⟨y, by simpa using h1, ?_⟩
    rw [h2]
    have : lo + 1 + (i : Int) = lo + ((i + 1 : Nat) : Int) := by omega
    rw [this]
theorem enum_len : ∀ (xs : List D) (lo : Int), (enumL lo xs).length = xs.length
  | [], _ => rfl
  | x :: xs, lo => by
    show (enumL (lo + 1) xs).length + 1 = xs.length + 1
    rw [enum_len]
theorem pair_laid {θ : List Addr} {F H : Hp} {s : S} {x y : D} {u v : V} {T : Addr} (rS : RS K c θ F H s) (hT : H T = none) (hx : Rel K θ F x u) (hy : Rel K θ F y v) :
    ∃ F', Step θ F H θ F' (upd H T (.tup [u, v])) ∧ RS K c θ F' (upd H T (.tup [u, v])) s ∧ Rel K θ F' (.tup [x, y]) (.ref T) :=
  ⟨upd F T (.tup [u, v]), .laid hT (rS.non hT), rS.laid hT (fun _ z => nomatch z), .tup upd_same (rels_same (Le.new (rS.non hT)) (.cons hx (.cons hy .nil)))⟩
theorem walk_enum {θ : List Addr} {F : Hp} {ad : Addr} {xs : List D} {vs : List V} (h : SqL K F ad vs) (r : Rels K θ F xs vs) : Walk K c θ F (Ite K ad) (enumL 0 xs) := fun θ2 F2 H2 s2 ht hF rS => by
  obtain ⟨t, rfl⟩ := ht
  have r2 : Rels K (θ ++ t) F2 xs vs := r.mono hF
  have hq : SqL K H2 ad vs := rS.sub.l (hF.l h)
  refine ⟨fun i d e => ?_, vs, hq, by rw [enum_len, r.length]; exact Nat.le_refl _⟩
  obtain ⟨x, ex, rfl⟩ := enum_at e
  obtain ⟨v, e1, q⟩ := r2.get ex
  refine ⟨⟨vs, v, hq, e1⟩, fun w H' y => ?_⟩
  obtain ⟨T, z, rfl, hT, rfl, y⟩ := y
  have : v = z := Option.some.inj (e1.symm.trans (y vs hq))
  subst this
  have e0 : (0 : Int) + (i : Int) = ((i : Nat) : Int) := by omega
  rw [e0]
  exact pair_laid rS hT (.int _) q
theorem g_enum {m : EM D} {elts : List Expr} {kk : Nat} {tpos : Pos} (B : Blt X.mg) (h : GE X c W a m) (hg : Gl X "enumerate" := by rfl) (hs : starEach [a] X.env = [(false, eval a X.env)] := by rfl) :
    GI X c W (.Tuple elts kk tpos) (.Call (.Name "enumerate" p1) [a] [] pos) (iEnumL m) := pi_imp (pi_enum hg B.enum (pa_cons h pa_nil hs) hs) fun σ H Q ⟨l, s, θ, F, H0, r1, r2, p⟩ => by
  refine rd_bind older_relI r1 r2 p fun x s1 v θ1 F1 H1 _ t1 q1 l1 h1 p1 => ?_
  cases x with
  | lst xs =>
    cases h1 with
    | lst g q => exact ⟨_, _, rfl, q1.sub.l g, p1 _ θ1 F1 H1 .refl q1 (walk_enum g q)⟩
  | _ => exact p1.elim
def iZipT (m n : EM D) : EM (List D) := fun l s => (m l s).bind fun x s1 => (n l s1).bind fun y s2 => match x, y with
  | .tup xs, .tup ys => .ok (zipL xs ys) s2
  | _, _ => .bad
theorem zip_at : ∀ {xs ys : List D} {i : Nat} {d : D}, (zipL xs ys)[i]? = some d → ∃ x y, xs[i]? = some x ∧ ys[i]? = some y ∧ d = .tup [x, y]
  | [], _, _, _, h => by simp [zipL] at h
  | _ :: _, [], _, _, h => by simp [zipL] at h
  | x :: xs, y :: ys, 0, d, h => by
    simp [zipL] at h
    exact ⟨x, y, rfl, rfl, h.symm⟩
  | x :: xs, y :: ys, i + 1, d, h => by
    have h' : (zipL xs ys)[i]? = some d := by simpa [zipL] using h
    obtain ⟨u, v, h1, h2, h3⟩ := zip_at h'
    exact ⟨u, v, by simpa using h1, by simpa using h2, h3⟩
theorem zip_len : ∀ (xs ys : List D), xs.length ≤ (zipL xs ys).length ∨ ys.length ≤ (zipL xs ys).length
  | [], _ => .inl (Nat.zero_le _)
  | _ :: _, [] => .inr (Nat.zero_le _)
  | x :: xs, y :: ys => by
    rcases zip_len xs ys with h | h
    · exact .inl (Nat.succ_le_succ h)
    · exact .inr (Nat.succ_le_succ h)
theorem walk_zip {θ : List Addr} {F : Hp} {ad bd : Addr} {xs ys : List D} {vs us : List V} (h : F ad = some (.tup vs)) (r : Rels K θ F xs vs) (h' : F bd = some (.tup us)) (r' : Rels K θ F ys us) : Walk K c θ F (RZ.ItzT K ad bd) (zipL xs ys) := fun θ2 F2 H2 s2 ht hF rS => by
  obtain ⟨t, rfl⟩ := ht
  have r2 : Rels K (θ ++ t) F2 xs vs := r.mono hF
  have r2' : Rels K (θ ++ t) F2 ys us := r'.mono hF
  have hq : SqT K H2 ad vs := SqT.of (rS.sub _ _ (hF _ _ h))
  have hq' : SqT K H2 bd us := SqT.of (rS.sub _ _ (hF _ _ h'))
  refine ⟨fun i d e => ?_, vs, us, hq, hq', by rw [← r.length, ← r'.length]; exact zip_len xs ys⟩
  obtain ⟨x, y, ex, ey, rfl⟩ := zip_at e
  obtain ⟨v, e1, q⟩ := r2.get ex
  obtain ⟨u, e2, q'⟩ := r2'.get ey
  refine ⟨⟨vs, us, v, u, hq, hq', e1, e2⟩, fun w H' yy => ?_⟩
  obtain ⟨T, z, z', rfl, hT, rfl, y1, y2⟩ := yy
  have : v = z := Option.some.inj (e1.symm.trans (y1 vs hq))
  subst this
  have : u = z' := Option.some.inj (e2.symm.trans (y2 us hq'))
  subst this
  exact pair_laid rS hT q q'
theorem g_zip {m n : EM D} {elts : List Expr} {kk : Nat} {tpos : Pos} (B : Blt X.mg) (h : GE X c W a m) (h' : GE X c W b n) (hg : Gl X "zip" := by rfl)
    (hs : starEach [a, b] X.env = (false, eval a X.env) :: starEach [b] X.env := by rfl) (hs2 : starEach [b] X.env = (false, eval b X.env) :: starEach [] X.env := by rfl) (hpl : (backTo pos (starEach [b] X.env)).any (·.1) = false := by rfl) :
    GI X c W (.Tuple elts kk tpos) (.Call (.Name "zip" p1) [a, b] [] pos) (iZipT m n) := pi_imp (RZ.pi_zipA hg B.zip (pa_cons h (pa_cons h' pa_nil hs2) hs) hs hpl) fun σ H Q ⟨l, s, θ, F, H0, r1, r2, p⟩ => by
  refine rd_bind older_relI r1 r2 p fun x s1 v θ1 F1 H1 _ t1 q1 l1 h1 p1 => ?_
  refine rd_bind older_relI q1 l1 p1 fun y s2 u θ2 F2 H2 _ t2 q2 l2 h2 p2 => ?_
  have h1 : Rel X.K θ2 F2 x v := lasts_rel _ _ _ H _ _ _ _ _ _ t2 h1
  cases x with
  | tup xs =>
    cases y with
    | tup ys =>
      cases h1 with
      | tup g q =>
        cases h2 with
        | tup g' q' => exact ⟨_, _, _, _, rfl, .inr ⟨SqT.of (q2.sub _ _ g), SqT.of (q2.sub _ _ g'), p2 _ θ2 F2 H2 .refl q2 (walk_zip g q g' q')⟩⟩
    | _ => exact p2.elim
  | _ => exact p2.elim

/-! ### t[::-1] -/
def oRevT (s : S) (x : D) : Option D := match look s x with
  | .tup xs => some (.tup xs.reverse)
  | _ => none
def tRevT (K : PySem.W.Frag) (te : TE) : TE := fun σ H Q => te σ H fun x H1 => ∃ a xs, x = .ref a ∧ SqT K H1 a xs ∧ ∀ p, H1 p = none → Q (.ref p) (upd H1 p (.tup xs.reverse))
theorem adjust_rev (n : Nat) : Builtin.Slice.sliceAdjust none none (-1) (n : Int) = ((n : Int) - 1, -1) := by
  unfold Builtin.Slice.sliceAdjust
  simp
theorem places_rev (n : Nat) : Builtin.Slice.slicePlaces ((n : Int) - 1) (-1) (-1) = n := by
  unfold Builtin.Slice.slicePlaces
  simp
  omega
theorem fm_map {α β : Type} {f : α → Option β} {g : α → β} : ∀ (l : List α), (∀ m ∈ l, f m = some (g m)) → l.filterMap f = l.map g
  | [], _ => rfl
  | a :: l, h => by rw [List.filterMap_cons, h a List.mem_cons_self, List.map_cons, fm_map l fun m hm => h m (List.mem_cons_of_mem _ hm)]
theorem pick_rev (xs : Array Value) : ((List.range xs.size).filterMap fun (m : Nat) => xs[(((xs.size : Nat) : Int) - 1 + (m : Int) * -1).toNat]?).toArray = xs.toList.reverse.toArray := by
  congr 1
  have hf : ∀ m ∈ List.range xs.size, xs[(((xs.size : Nat) : Int) - 1 + (m : Int) * -1).toNat]? = some (xs.toList.reverse.getD m .none) := fun m hm => by
    have hm := List.mem_range.mp hm
    have e : (((xs.size : Nat) : Int) - 1 + (m : Int) * -1).toNat = xs.size - 1 - m := by omega
    rw [e, ← Array.getElem?_toList, List.getD_eq_getElem?_getD, List.getElem?_reverse (by simpa using hm), Array.length_toList, List.getElem?_eq_getElem (by simp; omega)]
    rfl
  rw [fm_map _ hf]
  apply List.ext_getElem?
  intro i
  rw [List.getElem?_map]
  by_cases hi : i < xs.size
  · rw [List.getElem?_range hi]
    show some (xs.toList.reverse.getD i .none) = _
    rw [List.getD_eq_getElem?_getD, List.getElem?_eq_getElem (by simpa using hi)]
    rfl
  · rw [List.getElem?_eq_none (by simpa using hi), List.getElem?_eq_none (by simpa using hi)]
    rfl
section
variable {prog : Program} {w : World} {A : Around} {E : Value → Shared → Prop} {s : Shared}
theorem getItem_tuple_rev {t sl : Addr} {items : Array Value} {vl vu vs : Value} {Q : Value → Shared → Prop} (ht : IsTup s.heap t items) (hs : s.heap.IsSliceOf sl vl vu vs) (pl : IsPart vl none) (pu : IsPart vu none) (ps : IsPart vs (some (-1)))
    (h : Q (.ref s.heap.objs.size) { s with heap := s.heap.push { cls := .type "tuple", data := .seq items.toList.reverse.toArray } }) (hsz : items.size ≤ sizeLine) : wpAny (model prog w) A (getItem (.ref t) (.ref sl)) Q E s := by
  have htake : sizeOk (.seq items.toList.reverse.toArray) := by
    show items.toList.reverse.toArray.size ≤ sizeLine
    rw [List.size_toArray, List.length_reverse, Array.length_toList]
    exact hsz
  obtain ⟨os, hos, hcs, hds⟩ := id hs
  have hTs : s.TypeIs (.ref sl) "slice" := ⟨os, hos, hcs⟩
  unfold getItem
  try with_reducible refine wpAny_holding ?_
  first | refine wpAny_bind (wpAny_pure ?_) | skip
  refine wpAny_bind (wpAny_sequenceKey ht.typeIs (by decide) ?_)
  refine wpAny_bind (wpAny_callSpecial?_slot (name := Str.ofString "__getitem__") ht.typeIs PyProof.Rows.slot_tuple_getitem
    (wpAny_call_entry PyProof.Rows.slot_tuple_getitem ht.typeIs entry_tuple_getitem ?_ (args_tuple_getitem _ _)))
  show wpAny _ _ (Builtin.Tuple.tupleItemsOf (.ref t) >>= _) _ _ s
  refine wpAny_bind (tupleItemsOf_ ht ?_)
  refine wpAny_bind (wpAny_typeOf hTs ?_)
  rw [if_pos (by decide)]
  have happ : ∀ {Q' : Int × Int × Nat → Shared → Prop} {E' : Value → Shared → Prop} {A' : Around}, Q' ((items.size : Int) - 1, -1, items.size) s → wpAny (model prog w) A' (Builtin.Slice.sliceApplied (.ref sl) (pure (items.size : Int))) Q' E' s := fun {Q' E' A'} hq => by
    unfold Builtin.Slice.sliceApplied Builtin.Slice.sliceFields
    refine wpAny_bind (wpAny_bind (wpAny_field hos hds (x := vl) rfl (wpAny_bind (wpAny_field hos hds (x := vu) rfl (wpAny_bind (wpAny_field hos hds (x := vs) rfl (wpAny_pure ?_)))))))
    refine wpAny_bind (HT.slicePart_ ps ?_)
    show wpAny _ _ (if ((-1 : Int) == 0) = true then _ else _) _ _ s
    rw [if_neg (by decide)]
    refine wpAny_bind (HT.slicePart_ pl (wpAny_bind (HT.slicePart_ pu (wpAny_bind (wpAny_pure ?_)))))
    show wpAny _ _ (match Builtin.Slice.sliceAdjust none none (-1) (items.size : Int) with | (lo, hi) => pure (lo, (-1 : Int), Builtin.Slice.slicePlaces lo hi (-1))) _ _ s
    rw [adjust_rev]
    show wpAny _ _ (pure (((items.size : Int) - 1), (-1 : Int), Builtin.Slice.slicePlaces ((items.size : Int) - 1) (-1) (-1))) _ _ s
    rw [places_rev]
    exact wpAny_pure hq
  refine wpAny_bind (happ ?_)
  have hno : ¬ ((((items.size : Int) - 1) == 0 && (-1 : Int) == 1 && items.size == items.size) = true) := by simp
  show wpAny _ _ (if (((items.size : Int) - 1) == 0 && (-1 : Int) == 1 && items.size == items.size) = true then _ else _) _ _ s
  rw [if_neg hno, pick_rev]
  first
    | exact wpAny_bind (m := Builtin.Tuple.tupleExact _) (wpAny_newObj_type (wpAny_pure ⟨_, rfl, wpAny_pure h⟩) htake)
    | exact wpAny_bind (m := Builtin.Tuple.tupleExact _) (wpAny_newObj_type (wpAny_bind (wpAny_pure (wpAny_pure ⟨_, rfl, wpAny_pure h⟩))) htake)
    | exact wpAny_bind (wpAny_bind (m := Builtin.Tuple.tupleExact _) (wpAny_newObj_type (wpAny_pure (wpAny_pure ⟨_, rfl, wpAny_pure h⟩)) htake))
    | exact wpAny_bind (wpAny_bind (m := Builtin.Tuple.tupleExact _) (wpAny_newObj_type (wpAny_pure ⟨_, rfl, wpAny_pure h⟩) htake))
end
theorem pe_revT {te : TE} {k : Nat} {p1 p2 p3 pos : Pos} (he : PE X e te) : PE X (.Subscript e (.Slice none none (some (.UnaryOp .USub (.Constant (.int 1) k p1) p2)) p3) pos) (tRevT X.K te) := by
  refine ⟨fun pins s σ H Q I h => ?_⟩
  refine Subscript_ (thn (he.run pins s σ H _ I h) fun v s1 ⟨x, H1, I1, r1, q1⟩ => ?_)
  obtain ⟨a, xs, ex, hx, q⟩ := q1
  subst ex
  cases r1
  have hst : PO X (some (.UnaryOp .USub (.Constant (.int 1) k p1) p2)) (tPart (tUn (rU fun i => .int (-i)) (tC (.int 1)))) := po_some (pe_un un_neg pe_int)
  refine wpAny_Slice (thn (po_none.run pins s1 σ H1 (fun o H2 => o = none ∧ H2 = H1) I1 ⟨rfl, rfl⟩) fun vl s2 ⟨l, H2, I2, pl, el, e2⟩ => ?_)
  subst el e2
  refine thn (po_none.run pins s2 σ H2 (fun o H3 => o = none ∧ H3 = H2) I2 ⟨rfl, rfl⟩) fun vu s3 ⟨u, H3, I3, pu, eu, e3⟩ => ?_
  subst eu e3
  refine thn (hst.run pins s3 σ H3 (fun o H4 => o = some (-1) ∧ H4 = H3) I3 ⟨1, rfl, -1, rfl, rfl, rfl⟩) fun vs s4 ⟨o, H4, I4, ps, eo, e4⟩ => ?_
  subst eo e4
  have I5 : Inv X pins σ H4 { s4 with heap := s4.heap.push { cls := .type "slice", data := .fields #[vl, vu, vs] } } := I4.kept (t' := s4.toks) fun b ob q => Heap.get?_push_of_some _ q
  obtain ⟨its, r, ht, hz⟩ := I5.tuple hx
  have hlen := r.length
  show wpAny (model X.prog X.w) X.A (subscriptTail e (.Slice none none (some (.UnaryOp .USub (.Constant (.int 1) k p1) p2)) p3) (.ref a) (.ref s4.heap.objs.size)) (EP X pins σ Q) X.xe { s4 with heap := s4.heap.push { cls := .type "slice", data := .fields #[vl, vu, vs] } }
  refine tail_any (ops := [.ref a, .ref s4.heap.objs.size]) ht.typeIs (PyProof.Rows.slot_tuple_getitem.lookup) ?_ (by with_unfolding_all rfl)
  refine getItem_tuple_rev ht (Heap.IsSliceOf.new _ vl vu vs) pl pu ps ?_ (by rw [List.size_toArray]; omega)
  refine ⟨.ref _, _, I5.laid (t' := s4.toks) (o := .tup xs.reverse) (fun b ob q => Heap.get?_push_of_some _ q) (Nat.le_refl _) ?_, rfl, q _ (I5.hok.fresh (Nat.le_refl _))⟩
  exact ⟨by rw [List.length_reverse]; exact hz, _, by simpa using r.reverse, IsTup.new _ _⟩
theorem g_revT {m : EM D} {k : Nat} {p1 p2 p3 pos : Pos} (h : GV X c W e m) : GE X c W (.Subscript e (.Slice none none (some (.UnaryOp .USub (.Constant (.int 1) k p1) p2)) p3) pos) (e1 oRevT m) := pe_imp (pe_revT h) fun σ H Q ⟨l, s, θ, F, H0, r1, r2, p⟩ => by
  refine rd_bind older_rel r1 r2 p fun x s1 v θ1 F1 H1 _ t1 q1 l1 h1 p1 => ?_
  unfold oRevT at p1
  cases ex : look s1 x with
  | tup xs =>
    rw [ex] at p1
    obtain ⟨ad, vs, rfl, h2, q2, f2⟩ := view_tup q1 h1 ex
    exact ⟨ad, vs, rfl, h2, fun q hq => lay_tup q1 q2.reverse hq fun v' F' H' t r h => p1 v' θ1 F' H' t r h⟩
  | _ =>
    rw [ex] at p1
    exact p1.elim
end
end Wd
set_option Elab.async false
set_option linter.all false
set_option maxRecDepth 100000
set_option maxHeartbeats 1000000
set_option autoImplicit false
/-! Wd18: sorted(set(t)); repr with {}. -/
namespace Wd
open PySem PySem.Spec PyProof.Rows L2

/-! ### ints in order, each once -/
def insU (x : Int) : List Int → List Int
  | [] => [x]
  | y :: r => if x < y then x :: y :: r else if x = y then y :: r else y :: insU x r
def sortU : List Int → List Int
  | [] => []
  | x :: r => insU x (sortU r)
theorem mem_insU {k x : Int} : ∀ {l : List Int}, k ∈ insU x l ↔ k = x ∨ k ∈ l
  | [] => by simp [insU]
  | y :: r => by
    unfold insU
    split
    · simp
    · split
      · rename_i h
        subst h
        simp
      · rw [List.mem_cons, mem_insU, List.mem_cons]
        constructor
        · rintro (h | h | h)
          · exact .inr (.inl h)
          · exact .inl h
          · exact .inr (.inr h)
        · rintro (h | h | h)
          · exact .inr (.inl h)
          · exact .inl h
          · exact .inr (.inr h)
theorem ins_sorted {x : Int} : ∀ {l : List Int}, l.Pairwise (· < ·) → (insU x l).Pairwise (· < ·)
  | [], _ => by simp [insU]
  | y :: r, h => by
    obtain ⟨h1, h2⟩ := List.pairwise_cons.mp h
    unfold insU
    split
    · rename_i hx
      refine List.pairwise_cons.mpr ⟨fun z hz => ?_, h⟩
      rcases List.mem_cons.mp hz with rfl | hz
      · exact hx
      · have := h1 z hz
        omega
    · split
      · exact h
      · refine List.pairwise_cons.mpr ⟨fun z hz => ?_, ins_sorted h2⟩
        rcases mem_insU.mp hz with rfl | hz
        · omega
        · exact h1 z hz
theorem mem_sortU {k : Int} : ∀ {l : List Int}, k ∈ sortU l ↔ k ∈ l
  | [] => by simp [sortU]
  | y :: r => by
    unfold sortU
    rw [mem_insU, mem_sortU, List.mem_cons]
theorem sortU_sorted : ∀ l : List Int, (sortU l).Pairwise (· < ·)
  | [] => List.Pairwise.nil
  | x :: r => ins_sorted (sortU_sorted r)
theorem sorted_uniq : ∀ {l m : List Int}, l.Pairwise (· < ·) → m.Pairwise (· < ·) → (∀ k, k ∈ l ↔ k ∈ m) → l = m
  | [], [], _, _, _ => rfl
  | [], y :: m, _, _, h => absurd ((h y).mpr List.mem_cons_self) (by simp)
  | x :: l, [], _, _, h => absurd ((h x).mp List.mem_cons_self) (by simp)
  | x :: l, y :: m, hl, hm, h => by
    obtain ⟨a1, a2⟩ := List.pairwise_cons.mp hl
    obtain ⟨b1, b2⟩ := List.pairwise_cons.mp hm
    have exy : x = y := by
      rcases List.mem_cons.mp ((h x).mp List.mem_cons_self) with e | e
      · exact e
      · rcases List.mem_cons.mp ((h y).mpr List.mem_cons_self) with e' | e'
        · exact e'.symm
        · have := a1 y e'
          have := b1 x e
          omega
    subst exy
    congr 1
    refine sorted_uniq a2 b2 fun k => ⟨fun hk => ?_, fun hk => ?_⟩
    · rcases List.mem_cons.mp ((h k).mp (List.mem_cons_of_mem _ hk)) with e | e
      · have := a1 k hk
        omega
      · exact e
    · rcases List.mem_cons.mp ((h k).mpr (List.mem_cons_of_mem _ hk)) with e | e
      · have := b1 k hk
        omega
      · exact e
def intsD : List D → Option (List Int)
  | [] => some []
  | .int i :: r => (intsD r).map (i :: ·)
  | _ => none
theorem intsD_eq : ∀ {xs : List D} {ns : List Int}, intsD xs = some ns → xs = ns.map D.int
  | [], ns, h => by
    cases h
    rfl
  | d :: r, ns, h => by
    cases d with
    | int i =>
      have h : (intsD r).map (i :: ·) = some ns := h
      cases q : intsD r with
      | none =>
        rw [q] at h
        cases h
      | some ms =>
        rw [q] at h
        cases h
        rw [intsD_eq q]
        rfl
    | _ => cases h
theorem rels_ints {K : PySem.W.Frag} {θ : List Addr} {F : Hp} : ∀ {ns : List Int} {vs : List V}, Rels K θ F (ns.map D.int) vs → vs = ns.map V.int
  | [], _, h => by
    cases h
    rfl
  | n :: ns, _, h => by
    cases h with
    | cons a b =>
      cases a
      rw [rels_ints b]
      rfl
/-- sorted(set(t)) -/
def oSset (s : S) (x : D) : Option D := match look s x with
  | .tup xs => (match intsD xs with
    | some ns => if ns.length < 64 then some (.lst ((sortU ns).map D.int)) else none
    | none => none)
  | _ => none
section
variable {X : Cx} {c : Cc} {W : WX} {a b e : Expr} {pos p1 p2 pos2 : Pos} {K : PySem.W.Frag}
def rSetT (K : PySem.W.Frag) (w : World) : List V → Hp → VK → Prop := fun vs H Q => ∃ (a : Addr) (ns : List Int), vs = [V.ref a] ∧ SqT K H a (ns.map V.int) ∧ ns.length < 64 ∧ ∀ p n, H p = none → n ≤ ns.length → Q (.ref p) (upd H p (SetO w p (fun j => decide (j ∈ ns)) n))
theorem cr_setT (hc : X.calm = true) : CallR X (.type "set") (rSetT X.K X.w) := by
  intro pins s σ H vs us Q I r h
  obtain ⟨a, ns, rfl, hs, h64, q⟩ := h
  obtain ⟨its, rv, ht, hz⟩ := I.tuple hs
  rw [Vals.ref1 r]
  obtain ⟨o, ho, hcl, n, hd⟩ := ht
  refine call_set_tupI ns (I.ok.hd hc) ⟨o, ho, hcl, n, hd⟩ (by simpa using intsAre_of rv) (by unfold scanBound; omega) fun h' tk cc R hcc k => ?_
  exact ⟨.ref _, upd H s.heap.objs.size (SetO X.w s.heap.objs.size (fun j => decide (j ∈ ns)) cc), I.laid (t' := tk) k (Nat.le_refl _) (setO_new R), rfl, q _ _ (I.hok.fresh (Nat.le_refl _)) hcc⟩
theorem g_sset {m : EM D} (B : Blt X.mg) (h : GV X c W e m) (hc : X.calm = true := by rfl) (hg : Gl X "sorted" := by rfl) (hg2 : Gl X "set" := by rfl) (hs1 : starEach [.Call (.Name "set" p2) [e] [] pos2] X.env = (false, eval (.Call (.Name "set" p2) [e] [] pos2) X.env) :: starEach [] X.env := by rfl)
    (hs2 : starEach [e] X.env = (false, eval e X.env) :: starEach [] X.env := by rfl) : GF X c W (.Call (.Name "sorted" p1) [.Call (.Name "set" p2) [e] [] pos2] [] pos) (e1 oSset m) :=
  pe_imp (pe_callB (cr_sortedSet hc) hg B.sorted PyProof.Rows.boot_sorted (pa_cons (pe_callTy (cr_setT hc) hg2 B.set PyProof.Rows.boot_set (pa_cons h pa_nil hs2) (he := hs2)) pa_nil hs1) (he := hs1)) fun σ H Q ⟨l, s, θ, F, H0, r1, r2, p⟩ => by
    refine rd_bind older_relF r1 r2 p fun x s1 v θ1 F1 H1 _ t1 q1 l1 h1 p1 => ?_
    unfold oSset at p1
    cases ex : look s1 x with
    | tup xs =>
      rw [ex] at p1
      dsimp only at p1
      cases ei : intsD xs with
      | none =>
        rw [ei] at p1
        exact p1.elim
      | some ns =>
        rw [ei] at p1
        dsimp only at p1
        split at p1
        · rename_i h64
          obtain ⟨ad, vs, rfl, h2, q2, f2⟩ := view_tup q1 h1 ex
          rw [intsD_eq ei] at q2
          have ev := rels_ints q2
          subst ev
          refine ⟨ad, ns, rfl, h2, h64, fun q n hq hn => ⟨q, _, n, rfl, upd_same, by omega, fun ms p' hs hm hl hp' => ?_⟩⟩
          have em : ms = sortU ns := sorted_uniq hs (sortU_sorted ns) fun k => by rw [hm k, decide_eq_true_iff, mem_sortU]
          subst em
          have st1 : Step θ1 F1 H1 θ1 F1 (upd H1 q (SetO X.w q (fun j => decide (j ∈ ns)) n)) := .made hq
          have r1' : RS X.K c θ1 F1 (upd H1 q (SetO X.w q (fun j => decide (j ∈ ns)) n)) s1 := q1.made hq
          have st2 := st1.trans (Step.made (θ := θ1) (F := F1) (o := .lst ((sortU ns).map V.int)) hp')
          have hp1 : H1 p' = none := st1.fresh hp'
          exact p1 (.ref p') θ1 F1 _ st2 (r1'.made hp') ⟨.lst _, p', rfl, rfl, ⟨_, upd_same, Rels.ints _⟩, r1'.nth hp', r1'.non hp', hp1⟩
        · exact p1.elim
    | _ =>
      rw [ex] at p1
      exact p1.elim
end

/-! ### repr where a {} may stand -/
mutual
/-- no list within, but {} may be -/
def D.plain : D → Bool
  | .lst _ => false
  | .tup xs => D.plains xs
  | .ref _ => false
  | .dct _ kvs => kvs.isEmpty
  | _ => true
def D.plains : List D → Bool
  | [] => true
  | x :: xs => D.plain x && D.plains xs
end
section
variable {X : Cx} {pins : List (Addr × Obj)} {σ : L2.St} {θ : List Addr} {F H : Hp} {s : Shared}
theorem dict0_reads (I : Inv X pins σ H s) {a : Addr} (h : Rd H a (.dK []) ∨ Rd H a (.dT [])) : ∃ as, Reads s.heap (.ref a) (.dict []) as ∧ sysModules ∉ as := by
  have key : ∃ o es ep, s.heap.get? a = some o ∧ o.ExactDict ∧ o.data = .dict es ep ∧ es.toList = [] ∧ (a == sysModules) = false := by
    rcases h with h | h
    · obtain ⟨_, hd, vs, rel, o, es, ep, h1, h2, h3, _, h5, _⟩ := dk_rd I.hok h
      cases rel
      refine ⟨o, es, ep, h1, h2, h3, ?_, hd⟩
      cases q : es.toList with
      | nil => rfl
      | cons x xs =>
        rw [q] at h5
        cases h5
    · obtain ⟨_, hd, xs, rel, o, es, ep, h1, h2, h3, h4, _⟩ := dt_rd I.hok h
      cases rel
      exact ⟨o, es, ep, h1, h2, h3, by simpa using h4, hd⟩
  obtain ⟨o, es, ep, h1, h2, h3, h4, h5⟩ := key
  refine ⟨a :: [] ++ [], Reads.dict (kvs := []) h1 h2.1 h3 (by rw [h4]; exact ReadsAll.nil) (by rw [h4]; exact ReadsAll.nil), ?_⟩
  intro z
  have z : sysModules = a := by simpa using z
  rw [z] at h5
  simp at h5
mutual
theorem plain_reads (I : Inv X pins σ H s) (e : Le F H) : ∀ {d : D} {v : V} {u : Value} {p : PyData}, Rel X.K θ F d v → RelV v u → d.py = some p → d.plain = true → ∃ as, Reads s.heap u p as ∧ sysModules ∉ as
  | _, _, _, _, .non, r, h, _ => by
    cases h
    cases r
    exact ⟨_, .none, by simp⟩
  | _, _, _, _, .bl b, r, h, _ => by
    cases h
    cases r
    exact ⟨_, .bool b, by simp⟩
  | _, _, _, _, .int i, r, h, _ => by
    cases h
    obtain ⟨t, rfl⟩ := r
    exact ⟨_, .int i t, by simp⟩
  | _, _, _, _, .str x, r, h, _ => by
    cases h
    obtain ⟨t, rfl⟩ := r
    exact ⟨_, .str x t, by simp⟩
  | _, _, _, p, @Rel.tup _ _ _ a xs vs h1 q, r, h, hp => by
    unfold D.py at h
    cases q2 : D.pys xs with
    | none =>
      rw [q2] at h
      cases h
    | some ds =>
      rw [q2] at h
      cases h
      cases r
      obtain ⟨its, rv, ⟨o, ho, hc, n, hd⟩, _⟩ := I.tuple (SqT.of (e _ _ h1))
      obtain ⟨as, hr, hn⟩ := plains_reads I e q rv q2 (by simpa [D.plain] using hp)
      exact ⟨_, .tuple ho hc hd (by simpa using hr), hn⟩
  | _, _, _, _, .lst _ _, _, _, hp => by cases hp
  | _, _, _, p, @Rel.dK _ _ _ a ob kvs es h1 q, r, h, hp => by
    cases kvs with
    | nil =>
      cases h
      cases q
      cases r
      exact dict0_reads I (.inl (.inr ⟨_, e _ _ h1⟩))
    | cons _ _ => cases h
  | _, _, _, p, @Rel.dT _ _ _ a ob kvs es h1 q, r, h, hp => by
    cases kvs with
    | nil =>
      cases h
      cases q
      cases r
      exact dict0_reads I (.inr (.inr ⟨_, e _ _ h1⟩))
    | cons _ _ => cases h
  | _, _, _, _, .ref _, _, h, _ => by cases h
theorem plains_reads (I : Inv X pins σ H s) (e : Le F H) : ∀ {ds : List D} {vs : List V} {us : List Value} {ps : List PyData}, Rels X.K θ F ds vs → Vals vs us → D.pys ds = some ps → D.plains ds = true → ∃ as, ReadsAll s.heap us ps as ∧ sysModules ∉ as
  | _, _, _, _, .nil, r, h, _ => by
    cases h
    cases r
    exact ⟨_, .nil, by simp⟩
  | _, _, _, ps, @Rels.cons _ _ _ d v ds vs a b, r, h, hp => by
    unfold D.pys at h
    cases q1 : D.py d with
    | none =>
      rw [q1] at h
      cases h
    | some p =>
      cases q2 : D.pys ds with
      | none =>
        rw [q1, q2] at h
        cases h
      | some ps =>
        rw [q1, q2] at h
        cases h
        have hp' : d.plain = true ∧ D.plains ds = true := by simpa [D.plains] using hp
        cases r with
        | cons r1 r2 =>
          obtain ⟨as, h1, n1⟩ := plain_reads I e a r1 q1 hp'.1
          obtain ⟨bs, h2, n2⟩ := plains_reads I e b r2 q2 hp'.2
          exact ⟨_, .cons h1 h2, fun z => (List.mem_append.mp z).elim n1 n2⟩
end
end
/-- repr: no dict, or no list -/
def oReprP (s : S) (xs : List D) : Option D := match xs with
  | [x] => (match x.py with
    | some p => if x.plain && p.showable && decide (p.depth ≤ 64) && decide (p.shown.length ≤ big) then some (.str p.shown) else oRepr s xs
    | none => oRepr s xs)
  | _ => none

section
variable {X : Cx} {c : Cc} {W : WX} {e : Expr} {pos p1 : Pos} {K : PySem.W.Frag}
def rReprP (K : PySem.W.Frag) : List V → Hp → VK → Prop := fun xs H Q => ∃ x d θ F p, xs = [x] ∧ Le F H ∧ Rel K θ F d x ∧ d.py = some p ∧ d.plain = true ∧ p.showable = true ∧ p.depth ≤ 64 ∧ p.shown.length ≤ sizeLine ∧ Q (.str p.shown) H
theorem call_reprP (hu : X.A.units + 70 < cLine) (hg : X.A.guards = some []) : CallR X (.builtin "repr") (rReprP X.K) := by
  intro pins s σ H xs us Q I r h
  obtain ⟨x, d, θ, F, p, rfl, hle, hd, hpy, hpl, hs, hp, hl, q⟩ := h
  obtain ⟨u, rfl, ru⟩ := vals1 r
  obtain ⟨as, rr, hsm⟩ := plain_reads I hle hd ru hpy hpl
  have fin : ∀ (h' : Heap) (tok : Tok) (tk : Nat), (∀ b o, s.heap.get? b = some o → h'.get? b = some o) → EP X pins σ Q (.str p.shown tok) { s with heap := h', toks := tk } := fun h' tok tk k => ⟨.str p.shown, H, I.kept k, ⟨tok, rfl⟩, q⟩
  cases hd with
  | non =>
    cases hpy
    cases ru
    exact PySem.P.repr_of_none (fin s.heap s.toks _ fun _ _ e => e)
  | bl b =>
    cases hpy
    cases ru
    refine PySem.P.repr_of_bool ?_
    have := fin s.heap s.toks (s.toks + 1) fun _ _ e => e
    simpa only [PyData.shown] using this
  | int i =>
    cases hpy
    obtain ⟨t, rfl⟩ := ru
    refine PySem.P.repr_of_int (by simpa [PyData.showable] using hs) ?_
    have := fin s.heap s.toks (s.toks + 1) fun _ _ e => e
    simpa only [PyData.shown] using this
  | str z =>
    cases hpy
    obtain ⟨t, rfl⟩ := ru
    refine PySem.P.repr_of_str ?_ (by simpa only [PyData.shown] using hl)
    have := fin s.heap s.toks (s.toks + 1) fun _ _ e => e
    simpa only [PyData.shown] using this
  | tup _ _ =>
    cases ru
    exact repr_of_reads' rr hs (fun _ => hsm) hg (by omega) (fun _ _ e => e) (fun h' u tk k => fin h' u tk k) hl
  | dK _ _ =>
    cases ru
    exact repr_of_reads' rr hs (fun _ => hsm) hg (by omega) (fun _ _ e => e) (fun h' u tk k => fin h' u tk k) hl
  | dT _ _ =>
    cases ru
    exact repr_of_reads' rr hs (fun _ => hsm) hg (by omega) (fun _ _ e => e) (fun h' u tk k => fin h' u tk k) hl
  | lst _ _ => cases hpl
  | ref _ => cases hpl
def rRepr0 : List V → Hp → VK → Prop := fun xs H Q => ∃ a, xs = [.ref a] ∧ (Rd H a (.dK []) ∨ Rd H a (.dT [])) ∧ Q (.str (PyData.dict []).shown) H
theorem call_repr0 (hu : X.A.units + 70 < cLine) (hg : X.A.guards = some []) : CallR X (.builtin "repr") rRepr0 := by
  intro pins s σ H xs us Q I r h
  obtain ⟨a, rfl, ha, q⟩ := h
  obtain ⟨u, rfl, ru⟩ := vals1 r
  cases ru
  obtain ⟨as, rr, hsm⟩ := dict0_reads I ha
  have fin : ∀ (h' : Heap) (tok : Tok) (tk : Nat), (∀ b o, s.heap.get? b = some o → h'.get? b = some o) → EP X pins σ Q (.str (PyData.dict []).shown tok) { s with heap := h', toks := tk } := fun h' tok tk k => ⟨.str (PyData.dict []).shown, H, I.kept k, ⟨tok, rfl⟩, q⟩
  exact repr_of_reads' rr (by decide) (fun _ => hsm) hg (by have : (PyData.dict []).depth ≤ 64 := by decide
                                                            omega) (fun _ _ e => e) (fun h' u tk k => fin h' u tk k) (by decide)
theorem s_reprP : CallS K c rel (fun xs H Q => rReprP K xs H Q ∨ (rRepr K xs H Q ∨ rRepr0 xs H Q)) oReprP := by
  intro θ F H s xs vs d Q r hx e k
  unfold oReprP at e
  split at e
  · rename_i x
    split at e
    · rename_i p ep
      split at e
      · rename_i h
        cases e
        rw [Bool.and_eq_true, Bool.and_eq_true, Bool.and_eq_true, decide_eq_true_eq, decide_eq_true_eq] at h
        obtain ⟨v, rfl, hv⟩ := one_of hx
        rcases hv with hv | ⟨o, a, e1, e2, ro, na⟩
        · exact .inl ⟨v, x, θ, F, p, rfl, r.sub, hv, ep, h.1.1.1, h.1.1.2, h.1.2, big_size h.2, k _ F H .refl r (.str _)⟩
        · subst e1 e2
          cases o with
          | lst xs => cases h.1.1.1
          | dct t kvs =>
            cases kvs with
            | cons _ _ => cases ep
            | nil =>
              cases ep
              cases t with
              | false =>
                obtain ⟨es, e1, q⟩ := ro
                cases q
                exact .inr (.inr ⟨a, rfl, .inl (.inl e1), k _ F H .refl r (.str _)⟩)
              | true =>
                obtain ⟨es, e1, q⟩ := ro
                cases q
                exact .inr (.inr ⟨a, rfl, .inr (.inl e1), k _ F H .refl r (.str _)⟩)
      · exact .inr (.inl (s_repr θ F H s [x] vs d Q r hx e k))
    · exact .inr (.inl (s_repr θ F H s [x] vs d Q r hx e k))
  · cases e
theorem g_reprP {m : EM D} (B : Blt X.mg) (hu : X.A.units + 70 < cLine) (hgd : X.A.guards = some []) (ha : GV X c W e m) (hg : Gl X "repr" := by rfl) (he : starEach [e] X.env = (false, eval e X.env) :: starEach [] X.env := by rfl) : GE X c W (.Call (.Name "repr" p1) [e] [] pos) (eN oReprP (eAll [m])) :=
  g_callB older_rel (CallR.or (call_reprP hu hgd) (CallR.or (call_reprD hu hgd) (call_repr0 hu hgd))) s_reprP hg B.repr PyProof.Rows.boot_repr (gw_cons ha gw_nil he) (he := he)
end
end Wd
set_option Elab.async false
set_option linter.all false
set_option maxRecDepth 100000
set_option maxHeartbeats 1000000
set_option autoImplicit false
/-! Wd19: x(lambda y=0: e). The rules follow Wd13 (and LamX.lam_start2), with one default. -/
namespace Wd
open PySem PySem.Spec PyProof.Rows L2 LamX

/-- parameters that nobody else calls so, captured names, globals -/
structure LamD (N : List Str) (sc scope : Scope) : Prop where
  kind : scope.kind = .function
  co : scope.isCoroutine = false
  gen : scope.isGenerator = false
  own : ∀ y ∈ scope.names, y.2 = .local → y.1 ∉ N
  nocell : ∀ y ∈ scope.names, y.2 ≠ .cell
  free : ∀ y ∈ scope.names, y.2 = .free → sc.names.lookup y.1 = some .cell ∨ sc.names.lookup y.1 = some .free
def lamDB (N : List Str) (sc scope : Scope) : Bool :=
  decide (scope.kind = .function) && !scope.isCoroutine && !scope.isGenerator && scope.names.all fun y => (!decide (y.2 = .local) || !decide (y.1 ∈ N)) && !decide (y.2 = .cell) && (!decide (y.2 = .free) || decide (sc.names.lookup y.1 = some .cell) || decide (sc.names.lookup y.1 = some .free))
theorem lamD_by {N : List Str} {sc scope : Scope} (h : lamDB N sc scope = true) : LamD N sc scope := by
  unfold lamDB at h
  simp only [Bool.and_eq_true, Bool.or_eq_true, Bool.not_eq_true', decide_eq_true_eq, decide_eq_false_iff_not, List.all_eq_true] at h
  obtain ⟨⟨⟨h1, h2⟩, h3⟩, h4⟩ := h
  refine ⟨h1, h2, h3, fun y hy e => ?_, fun y hy => (h4 y hy).1.2, fun y hy e => ?_⟩
  · rcases (h4 y hy).1.1 with z | z
    · exact absurd e z
    · exact z
  · rcases (h4 y hy).2 with (z | z) | z
    · exact absurd e z
    · exact .inl z
    · exact .inr z
theorem LamD.has {X : Cx} {N : List Str} {scope : Scope} (L : LamD N X.env.scope scope) (ok : X.Ok) : ∀ y ∈ scope.names, y.2 = .free → ∃ c, X.env.cells.lookup y.1 = some c := fun y hy e => by
  rcases L.free y hy e with k | k
  · exact ok.has _ (.inl k)
  · exact ok.has _ (.inr k)
section
variable {X : Cx} {pins : List (Addr × Obj)} {σ : L2.St} {H HZ : Hp} {s s1 : Shared}
theorem lam_startD {A : Around} {outer : List PySem.Env} {E : XK} {scope : Scope} {f c' : Addr} {h₁ : Heap} {tk : Nat} (I : Inv X pins σ H s) (L : LamD X.N X.env.scope scope) (e0 : Env0 X.prog X.w X.K X.mg X.base A outer s1 HZ) (hd : A.handled = none)
    (un : Un (frs X.stack) [] H HZ s.heap s1.heap) {mm : Str → Option Value} (hns : h₁.Ns s1.heap.objs.size mm) (kp : ∀ b o, s1.heap.get? b = some o → h₁.get? b = some o) :
    Inv (lamCx X A outer s1 HZ E scope f c') [] σ HZ { s1 with heap := h₁, toks := tk } := by
  have hfree := L.has I.ok
  have cm : ∀ {y c}, (cloFrom X.env.cells scope.names []).lookup y = some c → X.env.cells.lookup y = some c := fun {y c} e => by
    rcases cloFrom_mem (PySem.mem_of_lookup e) with hm | ⟨h1, h2⟩
    · cases hm
    · obtain ⟨c1, hc⟩ := hfree _ h1 rfl
      have hc : X.env.cells.lookup y = some c1 := hc
      have e2 : c = c1 := by
        rw [h2, hc] <;> rfl
      rw [e2]
      exact hc
  have look : ∀ {y}, scope.names.lookup y = some .free → ∃ c, (cloFrom X.env.cells scope.names []).lookup y = some c := fun {y} hl => by
    have hy : (y, NameKind.free) ∈ scope.names := PySem.mem_of_lookup hl
    exact mem_lookup (cloFrom_has (cells := X.env.cells) (acc := []) hy)
  have cellK : ∀ {c : Addr} {v : Option Value}, H c = none → s.heap.IsCell c v → h₁.IsCell c v := fun {c v} n ⟨o, ho, hd⟩ => by
    obtain ⟨sl, q⟩ := un.any ho n (by simp)
    exact ⟨_, kp _ _ q, hd⟩
  have noA : ∀ b : Addr, b ∉ (lamCx X A outer s1 HZ E scope f c').ex := fun b z => absurd (show b ∈ ([] : List Addr) from z) (by simp)
  refine ⟨⟨e0.mod, L.kind, rfl, rfl, Nat.le_refl _, fun y z c e1 e2 => I.ok.inj y z c (cm e1) (cm e2), fun y hy => ?_, fun y c z _ => ?_, fun _ => hd, Around.frames_deeper e0.frames, .inr ⟨rfl, rfl⟩, fun b z => absurd z (noA b), e0.bs, e0.bsz, fun b _ _ => noA b,
      fun b z => absurd z (noA b), e0.funs, e0.frf⟩,
    rfl, e0.bare, Un.kept kp, ⟨_, hns, fun i y v e1 e2 e3 => ?_⟩, fun y c e => ?_, e0.hok.fresh (Nat.le_refl _), fun y c e => ?_, fun q hq => absurd (show q ∈ ([] : List (Addr × Obj)) ++ [] from hq) (by simp), e0.hok.kept kp, I.len⟩
  · have hy : scope.names.lookup y = some .cell ∨ scope.names.lookup y = some .free := hy
    rcases hy with hy | hy
    · exact absurd rfl (L.nocell _ (PySem.mem_of_lookup hy))
    · exact look hy
  · have z : false = true := z
    cases z
  · have e3 : Vis scope y := e3
    rcases e3 with k | k | k
    · exact absurd (List.mem_of_getElem? (show X.N[i]? = some y from e1)) (L.own _ (PySem.mem_of_lookup k) rfl)
    · exact absurd rfl (L.nocell _ (PySem.mem_of_lookup k))
    · obtain ⟨m, hn, hl⟩ := I.loc
      have hvis : Vis X.env.scope y := (L.free _ (PySem.mem_of_lookup k) rfl).elim (fun k => .inr (.inl k)) (fun k => .inr (.inr k))
      obtain ⟨w', r, q⟩ := hl i y v e1 e2 hvis
      obtain ⟨c2, h2⟩ := look k
      refine ⟨w', r, .inr ⟨.inr k, c2, h2, ?_⟩⟩
      have c1 := cm h2
      rcases q with ⟨k', _⟩ | ⟨_, c3, e', z⟩
      · have k' : X.env.scope.names.lookup y = some .local := k'
        rcases L.free _ (PySem.mem_of_lookup k) rfl with k2 | k2 <;> rw [show X.env.scope.names.lookup y = _ from k2] at k' <;> cases k'
      · rw [c1] at e'
        cases e'
        exact cellK (I.freeC y _ c1) z
  · obtain ⟨w', z⟩ := I.cell y c (cm e)
    exact ⟨w', cellK (I.freeC y c (cm e)) z⟩
  · obtain ⟨v, o, ho, hd⟩ := I.cell y c (cm e)
    exact un.free c o ho (I.freeC y c (cm e)) (by simp)
/-- the same with one parameter that has a number as default -/
theorem lam_makeD {T : List (Addr × Str)} {c P : Addr} {params : Arguments} {body : Expr} {scope : Scope} {pos : Pos} {E : Value → Shared → Prop} {Q : Value → Shared → Prop} (I : Inv X pins σ H s) (TB : TabB X.base X.mg c P) (hcode : X.env.code = .ref c)
    (hm : (P, X.env.qual ++ "<lambda>") ∈ T) (hu : ∀ p ∈ T, p.1 = P → p.2 = X.env.qual ++ "<lambda>") (hT : Tabs T H) {i0 : Int} {k0 : Nat} {p0 : Pos} (hdf : params.defaults = [.Constant (.int i0) k0 p0]) (hkd : params.kw_defaults = []) (hfree : ∀ y ∈ scope.names, y.2 = .free → ∃ c, X.env.cells.lookup y.1 = some c)
    (h : ∀ (f c' T0 : Addr) (doc pm ctv : Value) (t0 : Tok) (H1 : Hp) (s' : Shared), Inv X pins σ H1 s' → ExtN H H1 → (∀ a, H a ≠ none → H1 a ≠ none) → Tabs T H1 →
      s'.heap.get? f = some (PySem.W.kdv_obj "<lambda>" (X.env.qual ++ "<lambda>") params (.expr body) scope (cloFrom X.env.cells scope.names []) (.ref T0) doc pm c' ctv) → s'.heap.get? T0 = some (PySem.W.kdv_tup [.int i0 t0]) → H1 T0 = none → T0 ∉ frs X.stack → H1 f = none → f ∉ frs X.stack → H1 c' = some (CodeO c' (X.env.qual ++ "<lambda>")) → Q (.ref f) s') :
    wpAny (model X.prog X.w) X.A (eval (.Lambda params body scope pos) X.env) Q E s := by
  refine PySem.W.kdv_lam (by rw [hdf]; rfl) hkd ?_
  rw [hdf]
  refine PySem.W.kdv_all1 (wpAny_Constant_int (PySem.W.kdv_all0 ?_))
  obtain ⟨hp0, g0, d0, t00, os0⟩ := s
  have Ia : Inv X pins σ H ⟨hp0, g0, d0, t00 + 1, os0⟩ := I.tok _
  rw [makeFunction_eq]
  simp only [List.zip_nil_right, List.filterMap_nil, List.isEmpty_nil, if_true, pure_bind, List.isEmpty_cons, Bool.false_eq_true, if_false]
  refine wpAny_bind (wpAny_newTextTuple ?_)
  have I0 : Inv X pins σ H ⟨hp0.push (PySem.W.kdv_tup [.int i0 t00]), g0, d0, t00 + 1, os0⟩ := Ia.kept fun b o e => Heap.get?_push_of_some _ e
  have hT0 : (hp0.push (PySem.W.kdv_tup [.int i0 t00])).get? hp0.objs.size = some (PySem.W.kdv_tup [.int i0 t00]) := Heap.get?_push_size _ rfl
  have nT0 : H hp0.objs.size = none := I.hok.fresh (Nat.le_refl _)
  have nofr0 : hp0.objs.size ∉ frs X.stack := fun z => by
    rcases List.mem_cons.mp (I.stkSub _ z) with e | e
    · have h1 := I.lt
      rw [← e] at h1
      exact Nat.lt_irrefl _ h1
    · exact I.nofs (Nat.le_refl _) e
  clear Ia I
  generalize hp0.objs.size = T0 at hT0 nT0 nofr0
  generalize hss : (⟨hp0.push (PySem.W.kdv_tup [.int i0 t00]), g0, d0, t00 + 1, os0⟩ : Shared) = s at I0
  have hT1 : s.heap.get? T0 = some (PySem.W.kdv_tup [.int i0 t00]) := by rw [← hss]; exact hT0
  show wpAny _ _ (makeTail "<lambda>" (X.env.qual ++ "<lambda>") params (.expr body) scope X.env (.ref T0) .none none pos pos.line) Q E _
  have I := I0
  obtain ⟨ps, hP, ht, ha⟩ := hT _ hm
  have bP : s.heap.BuiltinsAt X.mg P := TB.bm.keeps I.bk
  have hP' : s.heap.get? P = some { cls := .none, data := .fields ps } := I.hok P _ hP
  have nofr : ∀ f, s.heap.objs.size ≤ f → f ∉ frs X.stack := fun f hf z => by
    rcases List.mem_cons.mp (I.stkSub _ z) with e | e
    · have h1 := I.lt
      rw [← e] at h1
      exact Nat.lt_irrefl _ (Nat.lt_of_lt_of_le h1 hf)
    · exact I.nofs hf e
  cases hc : codeAmong pos ps.toList with
  | none =>
    refine PySem.W.kdv_makeTail (mg := X.mg) (c := c) (P := P) (ps := ps) (closure_ok hfree) I.ok.glob (I.mod.glob.keeps I.bk) hcode (TB.code.keeps I.bk) hP' ht hc TB.gP bP fun c' ctv doc h' tk hx hge hlt hrec htb => ?_
    obtain ⟨c2, oc, vs, t, e2, hoc, hd, hv⟩ := hrec
    cases e2
    have hsz : s.heap.objs.size ≤ h'.objs.size := Nat.le_trans hge (Nat.le_of_lt hlt)
    have nC : H c' = none := I.hok.fresh hge
    have I1 := inv_table (t' := tk) (more := #[rawInt pos.line, rawInt pos.col, .ref c']) (h' := h'.push (PySem.W.kdv_obj "<lambda>" (X.env.qual ++ "<lambda>") params (.expr body) scope (cloFrom X.env.cells scope.names []) (.ref T0) doc ((X.mg "__name__").getD .none) c' ctv)) I hP
      (fun b o hb e => Heap.get?_push_of_some _ (hx b o hb e)) (Heap.get?_push_of_some _ htb) hge ⟨oc, vs, t, Heap.get?_push_of_some _ hoc, hd, hv⟩
    have hE : ExtN H (upd (upd H P (.tbl (ps ++ #[rawInt pos.line, rawInt pos.col, .ref c']))) c' (CodeO c' (X.env.qual ++ "<lambda>"))) := fun b o e n => by
      rw [upd_ne (ne_of_none e nC), upd_ne (fun z => n ps (Option.some.inj (e.symm.trans (by rw [z]; exact hP))))]
      exact e
    have eL : (ps ++ #[rawInt pos.line, rawInt pos.col, .ref c']).toList = ps.toList ++ [rawInt pos.line, rawInt pos.col, .ref c'] := by simp
    refine h h'.objs.size c' T0 doc ((X.mg "__name__").getD .none) ctv t00 _ _ I1 hE (fun b hb => ?_) (fun p hp => ?_) (Heap.get?_push_size _ rfl) (Heap.get?_push_of_some _ (hx _ _ (fun z => by rw [z] at hT1; rw [hP'] at hT1; cases hT1) hT1)) ?_ nofr0 ?_ (nofr _ hsz) upd_same
    · by_cases h1 : b = c'
      · rw [h1, upd_same]
        exact fun z => nomatch z
      · rw [upd_ne h1]
        by_cases h2 : b = P
        · rw [h2, upd_same]
          exact fun z => nomatch z
        · rw [upd_ne h2]
          exact hb
    · by_cases hb : p.1 = P
      · rw [hu p hp hb, hb]
        refine ⟨_, by rw [upd_ne (ne_of_none hP nC), upd_same], by rw [eL]; exact PySem.TriplesOk_snoc _ _ _ _ ht, fun p' cv hcv => ?_⟩
        rw [eL] at hcv
        rcases among_app _ ht hcv with z | z
        · obtain ⟨c0, e1, e2⟩ := ha p' cv z
          exact ⟨c0, e1, hE _ _ e2 codeO_ne⟩
        · exact ⟨c', z, upd_same⟩
      · obtain ⟨ps', a1, a2, a3⟩ := hT p hp
        refine ⟨ps', by rw [upd_ne (ne_of_none a1 nC), upd_ne hb]; exact a1, a2, fun p' cv hcv => ?_⟩
        obtain ⟨c0, e1, e2⟩ := a3 p' cv hcv
        exact ⟨c0, e1, hE _ _ e2 codeO_ne⟩
    · have n1 : T0 ≠ c' := Nat.ne_of_lt (Nat.lt_of_lt_of_le (Heap.lt_size hT1) hge)
      have n2 : T0 ≠ P := fun z => by
        rw [z] at hT1
        rw [hP'] at hT1
        cases hT1
      rw [upd_ne n1, upd_ne n2]
      exact nT0
    · have n1 : h'.objs.size ≠ c' := Nat.ne_of_gt hlt
      have n2 : h'.objs.size ≠ P := Nat.ne_of_gt (Nat.lt_of_lt_of_le (Heap.lt_size hP') hsz)
      rw [upd_ne n1, upd_ne n2]
      exact I.hok.fresh hsz
  | some cv =>
    obtain ⟨c', e, hco⟩ := ha pos cv hc
    subst e
    refine PySem.W.kdv_makeTailHit (mg := X.mg) (c := c) (P := P) (ps := ps) (closure_ok hfree) I.ok.glob (I.mod.glob.keeps I.bk) hcode (TB.code.keeps I.bk) hP' ht hc bP fun ctv doc h' tk hx hsz => ?_
    have I1 : Inv X pins σ H { s with heap := h'.push (PySem.W.kdv_obj "<lambda>" (X.env.qual ++ "<lambda>") params (.expr body) scope (cloFrom X.env.cells scope.names []) (.ref T0) doc ((X.mg "__name__").getD .none) c' ctv), toks := tk } := I.kept fun b o e => Heap.get?_push_of_some _ (hx b o e)
    exact h h'.objs.size c' T0 doc ((X.mg "__name__").getD .none) ctv t00 H _ I1 (ExtN.refl H) (fun _ z => z) hT (Heap.get?_push_size _ rfl) (Heap.get?_push_of_some _ (hx _ _ hT1)) nT0 nofr0 (I.hok.fresh hsz) (nofr _ hsz) hco
/-- x(), what leaves it wished for at the slots -/
theorem pe_actD {CXg : CXT} {Eg : XK} {Ng : List Str} {qg : Str} {sg : Scope} {g f c' : Addr} {cdg pm ctv : Value} {params : Arguments} {body : Expr} {scope : Scope} {k i : Nat} {a : Str} {pn : List (Addr × Obj)} {xe : Value → Shared → Prop} {W : WX} {tb : XK → TE} {p1 p2 : Pos}
    (I : Inv X pins σ H s) {T0 : Addr} {doc : Value} {v0 : Value} {x0 : Str} (L : LamD X.N X.env.scope scope) (hf : s.heap.get? f = some (PySem.W.kdv_obj "<lambda>" (X.env.qual ++ "<lambda>") params (.expr body) scope (cloFrom X.env.cells scope.names []) (.ref T0) doc pm c' ctv)) (hT0 : s.heap.get? T0 = some (PySem.W.kdv_tup [v0])) (hTn : H T0 = none) (hTr : T0 ∉ frs X.stack) (hfn : H f = none) (hfr : f ∉ frs X.stack)
    (hbind : ∃ k, bindArgs (PySem.W.kdv_fn "<lambda>" (X.env.qual ++ "<lambda>") params (.expr body) scope (cloFrom X.env.cells scope.names []) (.ref T0) doc pm (.ref c') ctv) ⟨[], []⟩ = seqItems? (.ref T0) >>= k ∧ k (some #[v0]) = pure [(x0, v0)]) (hx0 : scope.names.lookup x0 = some .local)
    (tk : Takes ((cxOf CXg X.prog X.w X.K X.mg X.base Ng qg sg g cdg X.A X.stack s H Eg).tr pn xe) W) (hr : Room (k + 1) (X.A.deeper (envOfC qg sg s.heap.objs.size g cdg)))
    (hbody : ∀ (A : Around) (outer : List PySem.Env) (s : Shared) (H : Hp) (E : XK), A.guards = X.A.guards → Room k (A.deeper (lamEnv X scope s.heap.objs.size f c')) → PE (lamCx X A outer s H E scope f c') body (tb E))
    (hN : Ng[i]? = some a) (hv : Vis sg a) (hd : (a == ("__debug__" : Str)) = false := by decide) (hcd : (a == ("__classdict__" : Str)) = false := by decide) :
    PE ((cxOf CXg X.prog X.w X.K X.mg X.base Ng qg sg g cdg X.A X.stack s H Eg).tr pn xe) (.Call (.Name a p1) [] [] p2)
      (fun σZ HZ Q => σZ[i]? = some (some (.ref f)) ∧ HZ c' = some (CodeO c' (X.env.qual ++ "<lambda>")) ∧ tb (WE W σZ) σ HZ Q) := by
  refine ⟨fun pinsZ sZ σZ HZ Q IZ h => ?_⟩
  obtain ⟨hs, hc, ht⟩ := h
  refine wpAny_Call_Name_kw (thn ((pe_var (pos := p1) (i := i) hN hv hd hcd).run pinsZ sZ σZ HZ (fun v H1 => v = .ref f ∧ H1 = HZ) IZ ⟨.ref f, hs, rfl, rfl⟩) fun u s1 ⟨v, H1, I1, r1, q1⟩ => ?_)
  obtain ⟨ev, eH⟩ := q1
  subst ev
  rw [eH] at I1
  obtain rfl : u = Value.ref f := r1
  have ot1 : s1.heap.get? T0 = some (PySem.W.kdv_tup [v0]) := I1.base.keep T0 _ hT0 hTn hTr (fun z => nomatch (show T0 ∈ ([] : List Addr) from z))
  obtain ⟨kb, hk1, hk2⟩ := hbind
  have of1 : s1.heap.get? f = some (PySem.W.kdv_obj "<lambda>" (X.env.qual ++ "<lambda>") params (.expr body) scope (cloFrom X.env.cells scope.names []) (.ref T0) doc pm c' ctv) := I1.base.keep f _ hf hfn hfr (fun z => nomatch (show f ∈ ([] : List Addr) from z))
  refine PySem.W.callWith_F0 ⟨_, _, _, _, of1⟩ ?_
  have un : Un (frs X.stack) [] H HZ s.heap s1.heap := I1.base
  obtain ⟨⟨oc, vs, t, hoc, hdc, hvc⟩, _, _⟩ := I1.hok c' _ hc
  have rc : codeAny (model X.prog X.w) (X.A.deeper (envOfC qg sg s.heap.objs.size g cdg)) (.call (.ref f) ⟨[], []⟩) (CR (L2.CX X.prog X.w) (envOfC qg sg s.heap.objs.size g cdg :: X.stack) X.prog X.w HZ s1 Q (WE W σZ)) s1 := by
    refine PySem.W.kla_callFunE hr.depth of1 rfl L.co L.gen rfl ⟨c', oc, vs, t, rfl, hoc, hdc, hvc⟩ ?_
    refine BindsTo.of_defaults (s := s1) (fd := PySem.W.kdv_fn "<lambda>" (X.env.qual ++ "<lambda>") params (.expr body) scope (cloFrom X.env.cells scope.names []) (.ref T0) doc pm (.ref c') ctv) (binds := [(x0, v0)]) rfl ot1 rfl hk1 hk2 _ _ _ _ ?_
    refine wpAny_newFunctionEnv (fun y hy => L.nocell y hy) (fun y hy => by rw [List.mem_singleton.mp hy]; exact hx0) (fun h₁ hns hsb => ⟨I1.nolimit.fresh _ hsb, ?_⟩) L.kind
    show codeAny _ _ (.expr body (lamEnv X scope s1.heap.objs.size f c')) _ _
    have kp : ∀ b o, s1.heap.get? b = some o → h₁.get? b = some o := fun b o e => hsb.extBut b o (Nat.ne_of_lt (Heap.lt_size e)) (Heap.get?_push_of_some _ e)
    have J : Inv (lamCx X (X.A.deeper (envOfC qg sg s.heap.objs.size g cdg)) (envOfC qg sg s.heap.objs.size g cdg :: X.stack) s1 HZ (WE W σZ) scope f c') [] σ HZ { s1 with heap := h₁, toks := s1.toks + ([(x0, v0)] : List (Str × Value)).length } :=
      lam_startD I L I1.env0 hr.hd un hns kp
    refine PySem.W.kla_codeExpr (wpAny_mono ((hbody (X.A.deeper (envOfC qg sg s.heap.objs.size g cdg)) _ s1 HZ (WE W σZ) rfl (hr.deeper _)).run [] _ _ HZ Q J ht) (fun v s' hq => ?_) fun e s' hq => hq)
    obtain ⟨w', H', J', rv, q⟩ := hq
    exact ⟨w', H', J'.os, J'.bare, J'.base, J'.hok, rv, q⟩
  refine wpAny_call (codeAny_mono rc fun r s' hq => ?_)
  cases r with
  | error e => exact passAt tk σZ pinsZ HZ s1 e s' I1 hq
  | ok fl =>
    cases fl with
    | ret u => exact I1.after hq
    | next => exact False.elim hq
    | brk => exact False.elim hq
    | cont => exact False.elim hq
end
section
variable {X : Cx} {c : Cc} {W : WX} {k n : Nat} {x : Str} {φ : (S → Res D) → S → Res D} {params : Arguments} {body : Expr} {scope : Scope} {p lpos pos : Pos} {cd P : Addr}
/-- x(lambda y=0: e) -/
theorem g_lamD {m : EM D} (G : Hears X.prog X.w X.K X.mg X.base c.T k x φ) (B : Bx X W n) (hk : k + 2 ≤ n) (TB : TabB X.base X.mg cd P) (hcode : X.env.code = .ref cd) (hmT : (P, X.env.qual ++ "<lambda>") ∈ c.T) (hu : ∀ p ∈ c.T, p.1 = P → p.2 = X.env.qual ++ "<lambda>") {x0 : Str} {i0 : Int} {k0 : Nat} {p0 : Pos} (L : LamD X.N X.env.scope scope)
    (hbody : ∀ (A : Around) (outer : List PySem.Env) (s : Shared) (H : Hp) (E : XK) (f c' : Addr), Bx (lamCx X A outer s H E scope f c') (bodyW E) k → GE (lamCx X A outer s H E scope f c') c (bodyW E) body m)
    (hbind : ∀ (q : Str) (cl : List (Str × Addr)) (T0 : Addr) (doc pm cv ctv v0 : Value), ∃ k, bindArgs (PySem.W.kdv_fn "<lambda>" q params (.expr body) scope cl (.ref T0) doc pm cv ctv) ⟨[], []⟩ = seqItems? (.ref T0) >>= k ∧ k (some #[v0]) = pure [(x0, v0)] := by intros; exact ⟨_, rfl, rfl⟩)
    (hdf : params.defaults = [.Constant (.int i0) k0 p0] := by rfl) (hkd : params.kw_defaults = [] := by rfl) (hx0 : scope.names.lookup x0 = some .local := by rfl) (hg : Gl X x := by rfl) (hdb : (x == ("__debug__" : Str)) = false := by decide) :
    GE X c W (.Call (.Name x p) [.Lambda params body scope lpos] [] pos) (eLam φ m) := by
  obtain ⟨g, a, pg, bg, sg, dV, kV, doc, pm, cdv, ct, oc, an, od, osl, Ng, mb, hm, hkp, lk, hcg, hb, Sg, hN0, hva, hd, hcd, rfl, hG⟩ := G
  refine ⟨fun pins s σ H Q I h => ?_⟩
  obtain ⟨l, st, θ, F, H0, r1, r2, p⟩ := h
  refine wpAny_Call_Name_kw (ld_glob I hg hm ?_ hdb)
  refine PySem.W.callWith_K (h₀ := X.base) I.ok.mod.kin hkp ?_ (by rfl) (by rfl)
  show wpAny _ _ (spliced ((false, eval (.Lambda params body scope lpos) X.env) :: backTo pos (starEach [] X.env))) _ _ s
  refine Calls.spliced_cons (lam_makeD I TB hcode hmT hu r1.tabs hdf hkd (L.has I.ok) fun f c' T0 doc pm' ctv t0 H1 s' I1 eN dm T1 hf hT0 hTn hTr hfn hfr hco => ?_)
  refine Calls.spliced_nil ⟨I1.kIn, ?_⟩
  have st1 : Step θ F H θ F H1 := ⟨⟨[], by simp, fun a h => nomatch h⟩, Le.refl F, fun _ _ _ _ _ _ => rfl, fun a o h _ nt => eN a o h nt, dm⟩
  have q1 : RS X.K c θ F H1 st := by
    refine ⟨fun b o e => eN b o (r1.sub b o e) fun ps z => r1.ntb b ps (by rw [e, z]), r1.len, r1.inj, fun n ob e => ?_, T1, r1.fz, r1.ntb, c.mono _ _ _ _ _ _ st1 r1.more⟩
    obtain ⟨b, e1, ro, nF⟩ := r1.st n ob e
    obtain ⟨u, e2, nt⟩ := ro.there
    refine ⟨b, e1, ?_, nF⟩
    rw [eN b u e2 nt, ← e2]
    exact ro
  have l1 := r2.step st1
  have mo : (c.lam X.K f c' (X.env.qual ++ "<lambda>") H0 l σ).more θ F H1 := ⟨l1, q1.fz, q1.more, hco, code_out q1 hco⟩
  have hr : Room (k + 2) X.A := B.rm.mono hk
  have rc : codeAny (model X.prog X.w) X.A (.call (.ref g) ⟨[.ref f], []⟩) (CR (L2.CX X.prog X.w) X.stack X.prog X.w H1 s' Q (WE W σ)) s' := by
    refine run_ofS (N := Ng) (ps := [a]) (us := [.ref f]) (vs := [.ref f]) lk hcg Sg hr I1.env0 (hb s' [.ref f] I1.kIn rfl) (.cons rfl .nil) rfl fun hr' => ?_
    have BZ := body_bx (P := X.prog) (w := X.w) (K := X.K) (mg := X.mg) (base := X.base) (N := Ng) (outer := X.stack) (H := H1) (E := WE W σ) hr' B.gd
    refine ⟨_, hG X.A X.stack s' H1 (WE W σ) (c.lam X.K f c' (X.env.qual ++ "<lambda>") H0 l σ) (fun s' => m l s') f rfl rfl (fun W' pn xe p1 p2 BW => ?_) BZ, ?_⟩
    · refine pe_imp (pe_actD (i := 0) (tb := fun E => rd X.K c (bodyW E) rel m) I1 L hf hT0 hTn hTr hfn hfr (hbind _ _ _ _ _ _ _ _) hx0 BW.tk hr' (fun A outer s H E hg' hr2 => hbody A outer s H E f c' (lam_bx hr2 (hg'.trans B.gd))) hN0 hva hd hcd) fun σZ HZ Q' ⟨lz, sz, θz, Fz, H0z, r1z, r2z, pz⟩ => ?_
      obtain ⟨m1, m2, m3, m4, m5⟩ := r1z.more
      refine ⟨r2z.pin (0, .ref f) List.mem_cons_self, m4, l, sz, θz, Fz, H0, r1z.ofLam, m1, ?_⟩
      have pz : Post X.K (c.lam X.K f c' (X.env.qual ++ "<lambda>") H0 l σ) θz Fz HZ rel (m l sz) Q' (fun cls d H' => W' cls d σZ H') := pz
      cases e : m l sz with
      | ok d s2 =>
        rw [e] at pz
        exact fun v θ2 F2 H2 t2 q2 h2 => pz v θ2 F2 H2 t2 (q2.toLam ((c.lam X.K f c' (X.env.qual ++ "<lambda>") H0 l σ).mono _ _ _ _ _ _ t2 r1z.more)) h2
      | exc x2 s2 =>
        rw [e] at pz
        exact fun cls dx θ2 F2 H2 t2 q2 h2 => pz cls dx θ2 F2 H2 t2 (q2.toLam ((c.lam X.K f c' (X.env.qual ++ "<lambda>") H0 l σ).mono _ _ _ _ _ _ t2 r1z.more)) h2
      | bad =>
        rw [e] at pz
        exact pz
    · have hNl : 0 < Ng.length := (List.getElem?_eq_some_iff.mp hN0).1
      refine ⟨List.replicate Ng.length none, st, θ, F, θ, F, H1, .refl, q1.toLam mo, ⟨fun i d e => ?_, fun i o e => ?_, fun p hp => ?_, ?_⟩, ?_⟩
      · rw [List.getElem?_replicate] at e
        split at e <;> cases e
      · rw [List.getElem?_replicate] at e
        split at e <;> cases e
      · rw [List.mem_singleton.mp hp]
        unfold L2.start
        rfl
      · unfold L2.start
        rw [List.length_append, List.length_map, List.length_replicate, List.length_replicate, List.length_singleton]
        omega
      · have p1 : Post X.K c θ F H1 rel (runL mb Ng.length (fun s' => m l s') st) Q (fun cls d H' => W cls d σ H') := Post.step older_rel p st1
        unfold runL at p1
        cases e : mb (fun s' => m l s') (List.replicate Ng.length none) st with
        | nx l' s' =>
          rw [e] at p1
          exact fun σ' θ' F' H' t _ rS _ => p1 .non θ' F' H' t rS.ofLam .non
        | rt d s' =>
          rw [e] at p1
          exact fun v θ' F' H' t _ rS h => p1 v θ' F' H' t rS.ofLam h
        | ex x l' s' =>
          rw [e] at p1
          exact fun cls dx σ' θ' F' H' t _ rS _ h => p1 cls dx θ' F' H' t rS.ofLam h
        | bk l' s' =>
          rw [e] at p1
          exact p1.elim
        | ct l' s' =>
          rw [e] at p1
          exact p1.elim
        | bad =>
          rw [e] at p1
          exact p1.elim
  refine wpAny_call (codeAny_mono rc fun r s2 hq => ?_)
  cases r with
  | error e => exact passAt B.tk σ pins H1 s' e s2 I1 hq
  | ok fl =>
    cases fl with
    | ret u => exact I1.after hq
    | next => exact False.elim hq
    | brk => exact False.elim hq
    | cont => exact False.elim hq
end
end Wd
set_option Elab.async false
set_option linter.all false
set_option maxRecDepth 100000
set_option maxHeartbeats 2000000
set_option autoImplicit false
/-! Wd20: the end of a law row: LamX.law_callTs turned to promises that know the guards. -/
namespace Wd
open PySem PySem.Spec PyProof.Rows L2 LamX
theorem law_callG {P : Program} {w : World} {K : PySem.W.Frag} {mg mb : Str → Option Value} {k : Nat} {fa a : Addr} {cs : List (Addr × Addr)} {fd : FuncData} {x : Str} {sp : Sp} {s₁ : Shared} {vs : List Value} {ns : List Int}
    (KX : K.In s₁.heap) (hns : s₁.heap.Ns mainGlobals mg) (hb : s₁.heap.Ns builtinsNs mb) (hbb : ∀ x : Str, x ≠ "__name__" → mb x = bootBuiltins x) (hlim : s₁.heap.NoLimit) (hg : s₁.gens = #[])
    (hT : ∀ p ∈ cs, s₁.heap.get? p.2 = some { cls := .none, data := .fields #[] }) (nT : ∀ p ∈ cs, K.lookup p.2 = none) (C : ∀ p ∈ cs, PySem.W.CodeHd s₁.heap p.1 p.2)
    (hbm : ∃ (bm : Addr) (ob : Obj), mg "__builtins__" = some (.ref bm) ∧ bm ≠ builtinsNs ∧ s₁.heap.get? bm = some ob ∧ ob.cls = .type "module" ∧ ob.dict = some builtinsNs ∧ ob.data = .plain)
    (ha : s₁.heap.get? a = some { cls := .type "list", data := .seq vs.toArray }) (hi : IntsAre vs ns) (hl : ns.length ≤ sizeLine) (hr : Room k callerA)
    (F : ∀ base : Heap, K.In base → base.Ns mainGlobals mg → (∀ p ∈ cs, TabB base mg p.1 p.2) → FnG P w K mg base k fa fd [x] sp) (hbind : ∀ (s : Shared) (u : Value), BindsTo s fd ⟨[u], []⟩ [(x, u)])
    (hsp : ∀ H : Hp, (∀ p ∈ cs, H p.2 = some (.tbl #[])) → (∀ b, H b = none ∨ b ∈ cs.map (·.2) ∨ ∃ o xs, H b = some (.frz o (.lst xs))) → SqL K H a (ns.map V.int) → sp [.ref a] H (fun v _ => v = .bl true) fun _ _ _ => False) :
    codeAny (model P w) callerA (.call (.ref fa) ⟨[.ref a], []⟩) (fun r s' => r = .ok (.ret (.bool true)) ∧ OldK s₁.heap s'.heap ∧ s'.os = s₁.os ∧ AllBare s'.gens) s₁ := by
  have rv := vals_ints hi
  have lenV := hi.length
  have isT : ∀ b : Addr, b ∈ cs.map (·.2) → s₁.heap.get? b = some { cls := .none, data := .fields #[] } := fun b hb => by
    obtain ⟨p, hp, e⟩ := List.mem_map.mp hb
    rw [← e]
    exact hT p hp
  have aT : a ∉ cs.map (·.2) := fun z => by
    have q := isT a z
    rw [ha] at q
    have z' : Data.seq vs.toArray _ = Data.fields #[] := congrArg Obj.data (Option.some.inj q)
    cases z'
  have memT : ∀ p ∈ cs, p.2 ∈ cs.map (·.2) := fun p hp => List.mem_map.mpr ⟨p, hp, rfl⟩
  -- from an abstract heap in which nothing but the script and the tables may be tracked
  have core : ∀ H : Hp, (∀ p ∈ cs, H p.2 = some (.tbl #[])) → (∀ b, H b = none ∨ b ∈ cs.map (·.2) ∨ ∃ o xs, H b = some (.frz o (.lst xs))) → SqL K H a (ns.map V.int) → HOk P w H s₁.heap → (∀ b, H b ≠ none → b = a ∨ b ∈ cs.map (·.2)) → (H a ≠ none → K.lookup a = none) →
      codeAny (model P w) callerA (.call (.ref fa) ⟨[.ref a], []⟩) (fun r s' => r = .ok (.ret (.bool true)) ∧ OldK s₁.heap s'.heap ∧ s'.os = s₁.os ∧ AllBare s'.gens) s₁ := by
    intro H hH hO hS hok hA hK
    have base_of : ∀ {b : Addr} {o : Obj}, s₁.heap.get? b = some o → H b = none → (hidT s₁.heap H).get? b = some o := fun e n => hidT_get e n
    have noD : ∀ {b : Addr} {o : Obj}, s₁.heap.get? b = some o → (∀ vs n, o.data ≠ .seq vs n) → o.data ≠ .fields #[] → H b = none := fun {b o} e h1 h2 => by
      cases q : H b with
      | none => rfl
      | some u =>
        rcases hA b (by rw [q]; simp) with e' | e'
        · rw [e', ha] at e
          cases e
          exact (h1 _ _ rfl).elim
        · rw [isT b e'] at e
          cases e
          exact (h2 rfl).elim
    have noA : ∀ {b : Addr} {o : Obj} {es : Array DictEntry} {ep : Nat}, s₁.heap.get? b = some o → o.data = .dict es ep → H b = none := fun {b o es ep} e d => by
      refine noD e (fun vs n z => ?_) fun z => ?_
      · rw [d] at z
        cases z
      · rw [d] at z
        cases z
    have nsK : ∀ {b : Addr} {m : Str → Option Value}, s₁.heap.Ns b m → (hidT s₁.heap H).Ns b m := fun {b m} ⟨o, es, ep, e, d, r⟩ => ⟨o, es, ep, base_of e (noA e d), d, r⟩
    have hKb : K.In (hidT s₁.heap H) := fun b o e => base_of (KX b o e) (by
      cases q : H b with
      | none => rfl
      | some u =>
        rcases hA b (by rw [q]; simp) with e' | e'
        · rw [e'] at e q
          rw [hK (by rw [q]; simp)] at e
          cases e
        · obtain ⟨p, hp, ep⟩ := List.mem_map.mp e'
          rw [← ep, nT p hp] at e
          cases e)
    have hM : L2.Mod K mg (hidT s₁.heap H) := ⟨hKb, nsK hns, ⟨mb, nsK hb, hbb⟩, let ⟨mc, h1, h2⟩ := hlim; ⟨mc, nsK h1, h2⟩⟩
    have TB : ∀ p ∈ cs, TabB (hidT s₁.heap H) mg p.1 p.2 := fun p hp => by
      have hTp := hT p hp
      refine ⟨?_, ?_, fun z => ?_⟩
      · obtain ⟨o, us, file, tf, flags, tg, inF, text, tt, e1, r1, r2, r3, r4, r5, r6, r7, r8, hne⟩ := C p hp
        refine ⟨o, us, file, tf, flags, tg, inF, text, tt, base_of e1 (noD e1 (fun vs n z => ?_) fun z => ?_), r1, r2, r3, r4, r5, r6, r7, r8, hne⟩
        · rw [r2] at z
          cases z
        · rw [r2] at z
          cases z
          simp at r3
      · obtain ⟨bm, ob, b1, b2, b3, b4, b5, b6⟩ := hbm
        have nG : bm ≠ mainGlobals := fun q => by
          obtain ⟨o, es, ep, e, hd, _⟩ := hns
          rw [q, e] at b3
          cases b3
          rw [hd] at b6
          cases b6
        have nP : bm ≠ p.2 := fun q => by
          rw [q, hTp] at b3
          cases b3
          cases b6
        refine ⟨bm, ob, b1, b2, nG, nP, base_of b3 (noD b3 (fun vs n z => ?_) fun z => ?_), b4, b5, b6⟩
        · rw [b6] at z
          cases z
        · rw [b6] at z
          cases z
      · obtain ⟨o, es, ep, e, hd, _⟩ := hns
        rw [z, hTp] at e
        cases e
        cases hd
    have e0 : Env0 P w K mg (hidT s₁.heap H) callerA [] s₁ H := ⟨rfl, hM, fun b o e => of_hidT e, Nat.le_of_eq (hidT_size _ _), trivial, fun b hb => absurd (show b ∈ ([] : List Addr) from hb) (by simp), hok, .of_eq hg⟩
    refine codeAny_mono ((F _ hKb (nsK hns) TB).run callerA [] s₁ H ⟨[.ref a], []⟩ [.ref a] [.ref a] _ _ hr rfl e0 (hbind s₁ (.ref a)) (.cons rfl .nil) (hsp H hH hO hS)) fun r s' h => ?_
    cases r with
    | error e =>
      obtain ⟨_, _, _, _, _, _, _, _, _, _, _, _, z⟩ := h
      exact z.elim
    | ok fl =>
      cases fl with
      | next => exact False.elim h
      | brk => exact False.elim h
      | cont => exact False.elim h
      | ret u =>
        obtain ⟨v, H', os, bare, un, hok', r', q⟩ := h
        have q' : v = .bl true := q
        subst q'
        obtain rfl : u = Value.bool true := r'
        have key : ∀ b o, b ∉ cs.map (·.2) → s₁.heap.get? b = some o → s'.heap.get? b = some o := fun b o nb e => by
          cases q : H b with
          | none => exact un.keep b o e q (by intro z; exact absurd (show b ∈ ([] : List Addr) from z) (by simp)) (by simp)
          | some u =>
            rcases hO b with z | z | ⟨ob, xs, z⟩
            · rw [q] at z; cases z
            · exact absurd z nb
            · have z2 := un.frzs b ob _ z
              obtain ⟨e1, _⟩ := hok b _ z
              obtain ⟨e2, _⟩ := hok' b _ z2
              rw [e] at e1; cases e1
              exact e2
        have grown : ∀ p ∈ cs, ∃ more : Array Value, s'.heap.get? p.2 = some { cls := .none, data := .fields more } := fun p hp => by
          obtain ⟨more, z⟩ := un.tbls p.2 #[] (hH p hp)
          exact ⟨_, hok' p.2 _ z⟩
        refine ⟨rfl, ⟨fun b o e => ?_, fun b o e => ?_⟩, os, bare⟩
        · by_cases hb : b ∈ cs.map (·.2)
          · obtain ⟨p, hp, ep⟩ := List.mem_map.mp hb
            obtain ⟨more, hm⟩ := grown p hp
            rw [← ep] at e ⊢
            rw [hT p hp] at e
            cases e
            exact .inr (.inl ⟨((C p hp).tab (hT p hp)).isCodeTable, rfl, #[], more, rfl, by rw [Array.empty_append]; exact hm⟩)
          · exact .inl (key b o hb e)
        · by_cases hb : b ∈ cs.map (·.2)
          · obtain ⟨p, hp, ep⟩ := List.mem_map.mp hb
            obtain ⟨more, hm⟩ := grown p hp
            rw [← ep]
            exact ⟨_, hm⟩
          · exact ⟨o, key b o hb e⟩
  cases hk : K.lookup a with
  | some o =>
    have e := KX a o hk
    rw [ha] at e
    cases e
    refine core (fun b => if b ∈ cs.map (·.2) then some (.tbl #[]) else none) (fun p hp => if_pos (memT p hp)) (fun b => ?_) (.inr ⟨_, vs.toArray, _, hk, rfl, rfl, rfl, by rw [List.size_toArray, lenV]; exact hl, by simpa using rv⟩) (fun b u z => ?_) (fun b z => ?_) fun z => absurd (show (if a ∈ cs.map (·.2) then some (HO.tbl #[]) else none) = none from if_neg aT) z
    · by_cases hb : b ∈ cs.map (·.2)
      · exact .inr (.inl hb)
      · exact .inl (if_neg hb)
    · by_cases hb : b ∈ cs.map (·.2)
      · have z' := (if_pos hb).symm.trans z
        cases z'
        exact isT b hb
      · have z' := (if_neg hb).symm.trans z
        cases z'
    · by_cases hb : b ∈ cs.map (·.2)
      · exact .inr hb
      · exact absurd (if_neg hb) z
  | none =>
    refine core (fun b => if b = a then some (.frz { cls := .type "list", data := .seq vs.toArray } (.lst (ns.map V.int))) else if b ∈ cs.map (·.2) then some (.tbl #[]) else none) (fun p hp => (if_neg (show ¬ p.2 = a from fun z => aT (by rw [← z]; exact memT p hp))).trans (if_pos (memT p hp))) (fun b => ?_)
      (.inl (.inr ⟨{ cls := .type "list", data := .seq vs.toArray }, if_pos rfl⟩)) (fun b u z => ?_) (fun b z => ?_) fun _ => hk
    · by_cases hb : b = a
      · exact .inr (.inr ⟨_, _, if_pos hb⟩)
      · by_cases hb2 : b ∈ cs.map (·.2)
        · exact .inr (.inl hb2)
        · exact .inl ((if_neg hb).trans (if_neg hb2))
    · by_cases hb : b = a
      · have z' := (if_pos hb).symm.trans z
        cases z'
        rw [hb]
        exact ⟨ha, by rw [List.length_map]; exact hl, vs, _, rv, ha⟩
      · have z1 := (if_neg hb).symm.trans z
        by_cases hb2 : b ∈ cs.map (·.2)
        · have z' := (if_pos hb2).symm.trans z1
          cases z'
          exact isT b hb2
        · have z' := (if_neg hb2).symm.trans z1
          cases z'
    · by_cases hb : b = a
      · exact .inl hb
      · by_cases hb2 : b ∈ cs.map (·.2)
        · exact .inr hb2
        · exact absurd ((if_neg hb).trans (if_neg hb2)) z


/-- what the end of a law asks -/
def LawG (l : PySem.W.OpenLaw) (w : World) (K : PySem.W.Frag) (k n : Nat) (x : Str) (mg : Str → Option Value) (fa : Addr) (h : Heap) : Prop :=
  ∃ (fd : FuncData) (cs : List (Addr × Addr)) (T : List (Addr × Str)) (φ : Fn), (∀ p ∈ cs, h.get? p.2 = some { cls := .none, data := .fields #[] }) ∧ (∀ p ∈ cs, K.lookup p.2 = none) ∧ (∀ p ∈ cs, PySem.W.CodeHd h p.1 p.2) ∧ (∀ p ∈ T, ∃ q ∈ cs, q.2 = p.1) ∧
    (∀ (s : Shared) (u : Value), BindsTo s fd ⟨[u], []⟩ [(x, u)]) ∧ (∀ ns : List Int, ns.length ≤ n → (∀ z ∈ ns, Builtin.Int.intBits z ≤ 1048576) → ∃ s', φ [.lst (ns.map D.int)] [] = .ok (.bl true) s') ∧
    ∀ base : Heap, K.In base → base.Ns mainGlobals mg → (∀ p ∈ cs, TabB base mg p.1 p.2) → FnG l.prog w K mg base k fa fd [x] (spOf K { T := T } 1 φ)
theorem walk_G {l : PySem.W.OpenLaw} {n k : Nat} {q : Program} {loose : List Str} {XP : (Str → Option Value) → Heap → Prop} {YP : World → Heap → Prop} {d : DefRec} {x : Str}
    (hn : l.most = some n) (hn2 : n ≤ sizeLine) (hdf : d.params.defaults = []) (hr : Room k callerA)
    (F : ∀ (w : World) (mg : Str → Option Value) (fa : Addr) (h : Heap), YP w h → h.Ns mainGlobals mg → mg d.name = some (.ref fa) → ∃ K : PySem.W.Frag, K.In h ∧ LawG l w K k n x mg fa h) :
    PySem.W.WalkO q loose XP YP l.row.toRowW d [] (fun f vs => PySem.call f vs) := by
  refine Att.attach_callB hn hdf fun w s₀ s₁ mg mb fa o pm cd doc a vs ns G Y ho hd hcd hmg hobj hints hlen hbits hg => ?_
  obtain ⟨K, KX, fd, cs, T, φ, hT, nT, C, hTc, hb, hφ, hF⟩ := F w mg fa _ Y G.T.g hmg
  refine law_callG KX G.T.g G.T.b G.T.builtins G.T.nolimit hg hT nT C G.T.bmain hobj hints (Nat.le_trans hlen hn2) hr hF hb fun H hH hO hS => ?_
  obtain ⟨s', e⟩ := hφ ns hlen hbits
  obtain ⟨Fr, hFr⟩ : ∃ Fr : Hp, Fr = fun b => match H b with | some (.frz o u) => some (.frz o u) | _ => none := ⟨_, rfl⟩
  have sub : Le Fr H := fun b u eb => by
    rw [hFr] at eb
    dsimp only at eb
    split at eb
    · rename_i q
      cases eb
      exact q
    · cases eb
  have ntb : ∀ b ps, Fr b ≠ some (.tbl ps) := fun b ps eb => by
    rw [hFr] at eb
    dsimp only at eb
    split at eb
    · cases eb
    · cases eb
  have hs : SqL K Fr a (ns.map V.int) := by
    rcases hS with hS | hS
    · left
      rcases hS with hS | ⟨ob, hS⟩
      · rcases hO a with z | z | ⟨o2, xs, z⟩
        · rw [hS] at z
          cases z
        · obtain ⟨p, hp, ep⟩ := List.mem_map.mp z
          have := hH p hp
          rw [ep, hS] at this
          cases this
        · rw [hS] at z
          cases z
      · right
        refine ⟨ob, ?_⟩
        rw [hFr]
        dsimp only
        rw [hS]
    · exact .inr hS
  refine ⟨[.lst (ns.map D.int)], [], [], Fr, rfl, ⟨sub, rfl, List.nodup_nil, fun n o e => by simp at e, fun p hp => ?_, (fun p hp => absurd (show p ∈ ([] : List (Addr × HO)) from hp) (by simp)), ntb, trivial⟩, .cons (.lst hs (Rels.ints ns)) .nil, ?_⟩
  · obtain ⟨z, hz, ez⟩ := hTc p hp
    refine TabS.nil ?_
    rw [← ez]
    exact hH z hz
  · rw [e]
    intro v θ' F' H' t r hv
    cases hv
    rfl
end Wd
set_option Elab.async false
set_option linter.all false
set_option maxRecDepth 100000
set_option maxHeartbeats 2000000
set_option autoImplicit false
/-! Wd21: the head's hook: defs, tables of lambdas, exception classes. -/
namespace Wd
open PySem PySem.Spec PyProof.Rows L2 He

/-- an exception class: its name, base, field, its __init__ -/
structure ExD where
  x : Str
  B : String
  newId : String
  initId : String
  bmB : List Value
  fld : Option Str
  params : Arguments
  body : List Stmt
  scope : Scope
abbrev FnC : Type := Option (Arguments × FuncBody × Scope × Addr × Addr)
def fnC (K : PySem.W.Frag) (f : Addr) : FnC := match K.lookup f with
  | some ⟨_, _, .func fd, _⟩ => some (fd.params, fd.body, fd.scope, fd.globals, fd.builtins)
  | _ => none
def ExD.at_ (K : PySem.W.Frag) (e : ExD) : Addr := ma K (ga K e.x) "__init__"
def ExD.val (e : ExD) : FnC := some (e.params, .stmts e.body, e.scope, mainGlobals, builtinsNs)
def cellOk (K : PySem.W.Frag) (C cc : Addr) : Bool := match K.lookup cc with
  | some ⟨_, _, .cell (some (.ref D)), _⟩ => decide (D = C)
  | _ => false
def fileOk (P : Program) (K : PySem.W.Frag) (cda : Addr) : Bool := match K.lookup cda with
  | some ⟨_, _, .fields vs, _⟩ => (match (vs[2]? : Option Value) with
    | some (.str file _) => ((P.main.file : Str) == file)
    | _ => false)
  | _ => false
def initOk (P : Program) (K : PySem.W.Frag) (C f : Addr) : Bool := match K.lookup f with
  | some ⟨_, _, .func fd, _⟩ => (match fd.closure, fd.code, fd.defaults with
    | [(nm, cc)], .ref cda, .none => decide (nm = "__class__") && (PySem.W.codeIn K (.ref cda) fd.qualname && (cellOk K C cc && fileOk P K cda))
    | _, _, _ => false)
  | _ => false
def fldOk (K : PySem.W.Frag) (C : Addr) : Option Str → Bool
  | some g => eqO (PySem.W.findIn K (.ref C) g) (some none) && xfB K C
  | none => true
def ExD.ok (P : Program) (K : PySem.W.Frag) (e : ExD) : Bool :=
  PySem.W.excInitIn K (ga K e.x) e.bmB e.newId && (PySem.W.hasDictIn K (ga K e.x) && (PySem.W.keepIn K (.ref (ga K e.x)) && (decide (PySem.W.subIn K (.ref (ga K e.x)) (.type "BaseException") = some true) && (decide (PySem.W.subIn K (.ref (ga K e.x)) (.type e.B) = some true) &&
    (decide (PySem.W.mroIn K (ga K e.x) (.type "object") = some true) && (decide (PySem.W.typeIn K (.ref (ga K e.x)) = some (.type "type")) && (eqO (PySem.W.findIn K (.ref (ga K e.x)) "__init__") (some (some (.ref (e.at_ K)))) &&
    (eqO (PySem.W.findIn K (.ref (ga K e.x)) "__setattr__") (some (some (.builtin "object.__setattr__"))) && (eqO (PySem.W.ks_superIn K (ga K e.x) (ga K e.x) "__init__") (some (some (.builtin e.initId))) && (decide (PySem.W.mroIn K (ga K e.x) (.ref (ga K e.x)) = some true) &&
    (eqO (PySem.W.nsIn K cStatics "thirdparty.any") (some none) && (eqO (PySem.W.nsIn K mainGlobals "super") (some none) && (decide (PySem.W.typeIn K (.ref (e.at_ K)) = some (.type "function")) && (initOk P K (ga K e.x) (e.at_ K) && fldOk K (ga K e.x) e.fld))))))))))))))
theorem refuse_VE (self : Value) : PySem.refuseLoop self "__setattr__" [.type "ValueError", .type "Exception", .type "BaseException", .type "object"] = pure () := F.store_ValueError.passes self
theorem refuse_OE (self : Value) : PySem.refuseLoop self "__setattr__" [.type "OverflowError", .type "ArithmeticError", .type "Exception", .type "BaseException", .type "object"] = pure () := F.store_OverflowError.passes self
theorem refuse_LE (self : Value) : PySem.refuseLoop self "__setattr__" [.type "LookupError", .type "Exception", .type "BaseException", .type "object"] = pure () := F.store_LookupError.passes self
section
variable {P : Program} {w : World} {K : PySem.W.Frag} {e : ExD}
theorem ExD.sup (FB : ExcBaseFacts e.B e.newId e.initId e.bmB) (KF : PySem.W.KxsFacts e.B e.initId) (rl : ∀ self : Value, PySem.refuseLoop self "__setattr__" e.bmB = pure ()) (top : (P.main.scope.names.lookup ("super" : Str)).isSome = false) (c : e.ok P K = true) :
    SupC P K (ga K e.x) (e.at_ K) e.B e.newId e.initId e.bmB := by
  obtain ⟨c1, c⟩ := ba c
  obtain ⟨c2, c⟩ := ba c
  obtain ⟨c3, c⟩ := ba c
  obtain ⟨c4, c⟩ := ba c
  obtain ⟨c5, c⟩ := ba c
  obtain ⟨c6, c⟩ := ba c
  obtain ⟨c7, c⟩ := ba c
  obtain ⟨c8, c⟩ := ba c
  obtain ⟨c9, c⟩ := ba c
  obtain ⟨c10, c⟩ := ba c
  obtain ⟨c11, c⟩ := ba c
  obtain ⟨c12, c⟩ := ba c
  obtain ⟨c13, c⟩ := ba c
  obtain ⟨c14, c⟩ := ba c
  exact ⟨FB, KF, c1, c2, c3, of_decide_eq_true c4, of_decide_eq_true c5, of_decide_eq_true c6, of_decide_eq_true c7, eqO_ok c8, eqO_ok c9, eqO_ok c10, of_decide_eq_true c11, eqO_ok c12, eqO_ok c13, of_decide_eq_true c14, rl, top⟩
theorem ExD.last (c : e.ok P K = true) : initOk P K (ga K e.x) (e.at_ K) = true ∧ fldOk K (ga K e.x) e.fld = true := by
  obtain ⟨c1, c⟩ := ba c
  obtain ⟨c2, c⟩ := ba c
  obtain ⟨c3, c⟩ := ba c
  obtain ⟨c4, c⟩ := ba c
  obtain ⟨c5, c⟩ := ba c
  obtain ⟨c6, c⟩ := ba c
  obtain ⟨c7, c⟩ := ba c
  obtain ⟨c8, c⟩ := ba c
  obtain ⟨c9, c⟩ := ba c
  obtain ⟨c10, c⟩ := ba c
  obtain ⟨c11, c⟩ := ba c
  obtain ⟨c12, c⟩ := ba c
  obtain ⟨c13, c⟩ := ba c
  obtain ⟨c14, c⟩ := ba c
  exact ba c
theorem ExD.supF (h : fnC K (e.at_ K) = e.val) (c : e.ok P K = true) : ∃ oc kV doc pm ct od an osl nm qual cda cc, SupF P K (ga K e.x) (e.at_ K) e.params e.body e.scope oc .none kV doc pm ct od an osl nm qual cda cc := by
  have c := (ExD.last c).1
  unfold initOk at c
  unfold fnC at h
  cases q : K.lookup (e.at_ K) with
  | none =>
    rw [q] at c
    cases c
  | some o =>
    obtain ⟨oc, od, dt, osl⟩ := o
    rw [q] at c h
    cases dt with
    | func fd =>
      obtain ⟨n1, n2, n3, n4, n5, n6, n7, n8, n9, n10, n11, n12, n13, n14, n15⟩ := fd
      have h2 : (some (n3, n4, n5, n6, n15) : FnC) = some (e.params, .stmts e.body, e.scope, mainGlobals, builtinsNs) := h
      simp only [Option.some.injEq, Prod.mk.injEq] at h2
      obtain ⟨h3, h4, h5, h6, h7⟩ := h2
      subst h4 h5 h6 h7 h3
      dsimp only at c
      split at c
      · rename_i x1 x2 x3 nm cc cda
        obtain ⟨d1, c⟩ := ba c
        obtain ⟨d2, c⟩ := ba c
        obtain ⟨d3, d4⟩ := ba c
        have en : nm = "__class__" := of_decide_eq_true d1
        subst en
        refine ⟨oc, n9, n10, n11, n14, od, n12, osl, n1, n2, cda, cc, q, d2, ?_, ?_⟩
        · unfold cellOk at d3
          cases z : K.lookup cc with
          | none =>
            rw [z] at d3
            cases d3
          | some ob =>
            obtain ⟨b1, b2, b3, b4⟩ := ob
            rw [z] at d3
            split at d3
            · rename_i zz
              cases zz
              exact ⟨b1, b2, b4, by rw [of_decide_eq_true d3]⟩
            · cases d3
        · unfold fileOk at d4
          cases z : K.lookup cda with
          | none =>
            rw [z] at d4
            cases d4
          | some ob =>
            obtain ⟨b1, b2, b3, b4⟩ := ob
            rw [z] at d4
            split at d4
            · rename_i vs zz
              cases zz
              split at d4
              · rename_i file tf zz
                exact ⟨_, _, _, _, file, tf, rfl, zz, d4⟩
              · cases d4
            · cases d4
      · cases c
    | _ => cases c
theorem fldOk_no {C : Addr} {g : Str} (h : fldOk K C (some g) = true) : PySem.W.findIn K (.ref C) g = some none ∧ XfC K C := by
  obtain ⟨h1, h2⟩ := ba h
  exact ⟨eqO_ok h1, xfB_ok h2⟩
end
/-! ### the Hook -/
def asW (g : Addr → Option Obj) (n : Nat) : List Addr := asD g n ++ [cStatics]
def KW (g : Addr → Option Obj) (n : Nat) : PySem.W.Frag := frT g (asW g n)
structure SaysW (P : Program) (fa : List Fa) (fn : List DefD) (tf : List Defn) (es : List ExD) (h : Heap) (K : PySem.W.Frag) : Prop where
  d : SaysD fa fn K
  ex : ∀ e ∈ es, e.ok P K = true ∧ fnC K (e.at_ K) = e.val
  hd : ∀ p ∈ tf, PySem.W.codeHdIn K (cT K p).1 (cT K p).2 = true
  out : ∀ p ∈ tf, K.lookup (cT K p).2 = none
  empty : ∀ p ∈ tf, h.get? (cT K p).2 = some { cls := .none, data := .fields #[] }
  nd : (tf.map fun p => (cT K p).2).Nodup
abbrev AlW : Type := AlD × Bool × List FnC
def obsW (P : Program) (n : Nat) (fa : List Fa) (fn : List DefD) (tf : List Defn) (es : List ExD) (g : Addr → Option Obj) : AlW := (obsD fa fn (KW g n), (es.all fun e => e.ok P (KW g n)) && (tabsB g tf (KW g n) && decide (tf.map fun p => (cT (KW g n) p).2).Nodup), es.map fun e => fnC (KW g n) (e.at_ (KW g n)))
def valW (fn : List DefD) (es : List ExD) : AlW := (valD fn, true, es.map ExD.val)
theorem saysW_of {P : Program} {n : Nat} {fa : List Fa} {fn : List DefD} {tf : List Defn} {es : List ExD} {h : Heap} (e : obsW P n fa fn tf es h.get? = valW fn es) : SaysW P fa fn tf es h (KW h.get? n) := by
  have e1 : obsD fa fn (KW h.get? n) = valD fn := congrArg (fun z : AlW => z.1) e
  have e2 : ((es.all fun e => e.ok P (KW h.get? n)) && (tabsB h.get? tf (KW h.get? n) && decide (tf.map fun p => (cT (KW h.get? n) p).2).Nodup)) = true := congrArg (fun z : AlW => z.2.1) e
  have e3 : (es.map fun e => fnC (KW h.get? n) (e.at_ (KW h.get? n))) = es.map ExD.val := congrArg (fun z : AlW => z.2.2) e
  obtain ⟨h1, h23⟩ := ba e2
  obtain ⟨h2, h3⟩ := ba h23
  have key : ∀ p ∈ tf, PySem.W.codeHdIn (KW h.get? n) (cT (KW h.get? n) p).1 (cT (KW h.get? n) p).2 = true ∧ ∃ o, h.get? (cT (KW h.get? n) p).2 = some o ∧ emptyTab o = true := fun p hp => by
    obtain ⟨h3, h4⟩ := ba (List.all_eq_true.mp h2 p hp)
    refine ⟨h3, ?_⟩
    cases q : h.get? (cT (KW h.get? n) p).2 with
    | none =>
      rw [q] at h4
      cases h4
    | some o =>
      rw [q] at h4
      exact ⟨o, rfl, h4⟩
  refine ⟨e1, fun x hx => ⟨List.all_eq_true.mp h1 x hx, ?_⟩, fun p hp => (key p hp).1, fun p hp => by
    obtain ⟨_, o, q, z⟩ := key p hp
    exact frT_none q z, fun p hp => by
    obtain ⟨_, o, q, z⟩ := key p hp
    rw [q, emptyTab_eq z], of_decide_eq_true h3⟩
  have := List.map_inj_left.mp e3 x hx
  exact this
def hookW (P : Program) (n : Nat) (fa : List Fa) (fn : List DefD) (tf : List Defn) (es : List ExD) : PySem.W.Hook where
  α := AlW
  obs := fun s => obsW P n fa fn tf es s.heap.get?
  val := fun _ => valW fn es
  says := fun _ h => ∃ K : PySem.W.Frag, K.In h ∧ SaysW P fa fn tf es h K
  of := fun _ _ e => ⟨_, frT_in, saysW_of e⟩
  keeps := fun _ _ _ ⟨K, hK, c⟩ k => ⟨K, PySem.W.Frag.In.keeps hK k, ⟨c.d, c.ex, c.hd, c.out, fun p hp => k _ _ (c.empty p hp), c.nd⟩⟩
theorem obsW_eq {P : Program} {n : Nat} {fa : List Fa} {fn : List DefD} {tf : List Defn} {es : List ExD} {g : Addr → Option Obj} {s : Shared} (h : ∀ a, g a = s.heap.get? a) : obsW P n fa fn tf es g = (hookW P n fa fn tf es).obs s := by
  have e : g = s.heap.get? := funext h
  rw [e] <;> rfl
/-- a def's facts, as g_def and Cal want them -/
theorem cal_of {P : Program} {w : World} {K : PySem.W.Frag} {mg : Str → Option Value} {base : Heap} {T : List (Addr × Str)} {k : Nat} {x : Str} {params : Arguments} {body : List Stmt} {scope : Scope} {N ps : List Str} {m : SM} {f : Addr} {fd : FuncData} (hm : mg x = some (.ref f))
    (D : FunD K x x params body scope [] [] f fd) (S : FnScope N ps scope) (hb : ∀ (kV doc pm : Value) (an : Option Addr) (cdv ct : Value) (us : List Value), us.length = ps.length → bindArgs (PySem.W.fnOf x x params body scope .none kV doc pm an cdv ct) ⟨us, []⟩ = pure (ps.zip us))
    (hbody : ∀ (cdv : Value) (A : Around) (outer : List PySem.Env) (s : Shared) (H : Hp) (E : XK), (∃ oc od osl kV doc pm an ct, K.lookup f = some ⟨oc, od, .func (PySem.W.fnOf x x params body scope .none kV doc pm an cdv ct), osl⟩) → Bx (bodyCx P w K mg base N x scope f cdv A outer s H E) (bodyW E) k →
      GB (bodyCx P w K mg base N x scope f cdv A outer s H E) { T := T } (bodyW E) body m) :
    Cal P w K mg base T (k + 1) x ps.length (runB m N.length) := by
  have bN := D.bindsN (ps := ps) hb
  have kp := D.kp
  obtain ⟨oc, od, dV, kV, doc, pm, an, cdv, ct, osl, rfl, lk, hcd, hD, hK⟩ := D.ex
  rcases hD with ⟨_, rfl⟩ | ⟨z, _⟩
  · exact ⟨f, _, ps, rfl, hm, kp, bN, g_def lk hcd S fun A outer s H E B => hbody cdv A outer s H E ⟨oc, od, osl, kV, doc, pm, an, ct, lk⟩ B⟩
  · exact absurd rfl z
end Wd
set_option Elab.async false
set_option linter.all false
set_option maxRecDepth 100000
set_option maxHeartbeats 1000000
set_option autoImplicit false
/-! Wd22: the rules as the printer names them. -/
namespace Wd
open PySem PySem.Spec PyProof.Rows L2

section
variable {X : Cx} {c : Cc} {W : WX} {k j : Nat} {a b e : Expr} {es : List Expr} {pos p1 : Pos}
theorem Bx.blk {s : Shared} {H : Hp} {scope : Scope} {cenv : PySem.Env} {fp : List Addr} (B : Bx X W k) : Bx (X.blk s H scope cenv fp) W0 k := ⟨LamX.takes0, PassesOwn.never, B.rm, B.gd⟩
theorem c_lt {ma mb : EM D} (ha : GV X c W a ma) (hb : GV X c W b mb) (hm : behindInMarks .Lt b = false := by rfl) : GE X c W (.Compare a [.Lt] [b] pos) (e2 oLt ma mb) := g_cmp op_lt s_lt ha hb hm
theorem t_lt {ma mb : EM D} (ha : GV X c W a ma) (hb : GV X c W b mb) (hm : behindInMarks .Lt b = false := by rfl) : GT X c W (.Compare a [.Lt] [b] pos) (qB (e2 oLt ma mb)) := g_cmpT op_lt s_lt ha hb hm
theorem c_le {ma mb : EM D} (ha : GV X c W a ma) (hb : GV X c W b mb) (hm : behindInMarks .LtE b = false := by rfl) : GE X c W (.Compare a [.LtE] [b] pos) (e2 oLe ma mb) := g_cmp op_le s_le ha hb hm
theorem t_le {ma mb : EM D} (ha : GV X c W a ma) (hb : GV X c W b mb) (hm : behindInMarks .LtE b = false := by rfl) : GT X c W (.Compare a [.LtE] [b] pos) (qB (e2 oLe ma mb)) := g_cmpT op_le s_le ha hb hm
theorem c_gt {ma mb : EM D} (ha : GV X c W a ma) (hb : GV X c W b mb) (hm : behindInMarks .Gt b = false := by rfl) : GE X c W (.Compare a [.Gt] [b] pos) (e2 oGt ma mb) := g_cmp op_gt s_gt ha hb hm
theorem t_gt {ma mb : EM D} (ha : GV X c W a ma) (hb : GV X c W b mb) (hm : behindInMarks .Gt b = false := by rfl) : GT X c W (.Compare a [.Gt] [b] pos) (qB (e2 oGt ma mb)) := g_cmpT op_gt s_gt ha hb hm
theorem c_ge {ma mb : EM D} (ha : GV X c W a ma) (hb : GV X c W b mb) (hm : behindInMarks .GtE b = false := by rfl) : GE X c W (.Compare a [.GtE] [b] pos) (e2 oGe ma mb) := g_cmp op_ge s_ge ha hb hm
theorem t_ge {ma mb : EM D} (ha : GV X c W a ma) (hb : GV X c W b mb) (hm : behindInMarks .GtE b = false := by rfl) : GT X c W (.Compare a [.GtE] [b] pos) (qB (e2 oGe ma mb)) := g_cmpT op_ge s_ge ha hb hm
theorem c_eq (B : Bx X W k) {ma mb : EM D} (ha : GV X c W a ma) (hb : GV X c W b mb) (hm : behindInMarks .Eq b = false := by rfl) : GE X c W (.Compare a [.Eq] [b] pos) (e2 oEq ma mb) := g_cmp (op_eqD B.u64) s_eq ha hb hm
theorem t_eq (B : Bx X W k) {ma mb : EM D} (ha : GV X c W a ma) (hb : GV X c W b mb) (hm : behindInMarks .Eq b = false := by rfl) : GT X c W (.Compare a [.Eq] [b] pos) (qB (e2 oEq ma mb)) := g_cmpT (op_eqD B.u64) s_eq ha hb hm
theorem c_ne (B : Bx X W k) {ma mb : EM D} (ha : GV X c W a ma) (hb : GV X c W b mb) (hm : behindInMarks .NotEq b = false := by rfl) : GE X c W (.Compare a [.NotEq] [b] pos) (e2 oNe ma mb) := g_cmp (op_neD B.u64) s_ne ha hb hm
theorem t_ne (B : Bx X W k) {ma mb : EM D} (ha : GV X c W a ma) (hb : GV X c W b mb) (hm : behindInMarks .NotEq b = false := by rfl) : GT X c W (.Compare a [.NotEq] [b] pos) (qB (e2 oNe ma mb)) := g_cmpT (op_neD B.u64) s_ne ha hb hm
theorem c_in {ma mb : EM D} (ha : GV X c W a ma) (hb : GV X c W b mb) (hm : behindInMarks .In b = false := by rfl) : GE X c W (.Compare a [.In] [b] pos) (e2 oIn ma mb) := g_cmp op_in_seq s_in ha hb hm
theorem t_in {ma mb : EM D} (ha : GV X c W a ma) (hb : GV X c W b mb) (hm : behindInMarks .In b = false := by rfl) : GT X c W (.Compare a [.In] [b] pos) (qB (e2 oIn ma mb)) := g_cmpT op_in_seq s_in ha hb hm
theorem c_ni {ma mb : EM D} (ha : GV X c W a ma) (hb : GV X c W b mb) (hm : behindInMarks .NotIn b = false := by rfl) : GE X c W (.Compare a [.NotIn] [b] pos) (e2 oNotIn ma mb) := g_cmp op_notIn_seq s_notin ha hb hm
theorem t_ni {ma mb : EM D} (ha : GV X c W a ma) (hb : GV X c W b mb) (hm : behindInMarks .NotIn b = false := by rfl) : GT X c W (.Compare a [.NotIn] [b] pos) (qB (e2 oNotIn ma mb)) := g_cmpT op_notIn_seq s_notin ha hb hm
theorem c_isB {ma mb : EM D} (ha : GV X c W a ma) (hb : GV X c W b mb) (hm : behindInMarks .Is b = false := by rfl) : GE X c W (.Compare a [.Is] [b] pos) (e2 oIsB ma mb) := g_cmp op_is_bl s_isB ha hb hm
theorem t_isB {ma mb : EM D} (ha : GV X c W a ma) (hb : GV X c W b mb) (hm : behindInMarks .Is b = false := by rfl) : GT X c W (.Compare a [.Is] [b] pos) (qB (e2 oIsB ma mb)) := g_cmpT op_is_bl s_isB ha hb hm
theorem c_notB {ma mb : EM D} (ha : GV X c W a ma) (hb : GV X c W b mb) (hm : behindInMarks .IsNot b = false := by rfl) : GE X c W (.Compare a [.IsNot] [b] pos) (e2 oNotB ma mb) := g_cmp op_isnot_bl s_notB ha hb hm
theorem t_notB {ma mb : EM D} (ha : GV X c W a ma) (hb : GV X c W b mb) (hm : behindInMarks .IsNot b = false := by rfl) : GT X c W (.Compare a [.IsNot] [b] pos) (qB (e2 oNotB ma mb)) := g_cmpT op_isnot_bl s_notB ha hb hm
theorem c_lt_lt {ce : Expr} {ma mb mc : EM D} (ha : GV X c W a ma) (hb : GV X c W b mb) (hc : GV X c W ce mc) (hm : lastMarks [.Lt, .Lt] [b, ce] = false := by with_unfolding_all rfl) : GE X c W (.Compare a [.Lt, .Lt] [b, ce] pos) (eChain oLt oLt ma mb mc) := g_chain op_lt s_lt op_lt s_lt ha hb hc hm
theorem t_lt_lt {ce : Expr} {ma mb mc : EM D} (ha : GV X c W a ma) (hb : GV X c W b mb) (hc : GV X c W ce mc) (hm : lastMarks [.Lt, .Lt] [b, ce] = false := by with_unfolding_all rfl) : GT X c W (.Compare a [.Lt, .Lt] [b, ce] pos) (qB (eChain oLt oLt ma mb mc)) := g_chainT op_lt s_lt op_lt s_lt ha hb hc hm
theorem c_lt_le {ce : Expr} {ma mb mc : EM D} (ha : GV X c W a ma) (hb : GV X c W b mb) (hc : GV X c W ce mc) (hm : lastMarks [.Lt, .LtE] [b, ce] = false := by with_unfolding_all rfl) : GE X c W (.Compare a [.Lt, .LtE] [b, ce] pos) (eChain oLt oLe ma mb mc) := g_chain op_lt s_lt op_le s_le ha hb hc hm
theorem t_lt_le {ce : Expr} {ma mb mc : EM D} (ha : GV X c W a ma) (hb : GV X c W b mb) (hc : GV X c W ce mc) (hm : lastMarks [.Lt, .LtE] [b, ce] = false := by with_unfolding_all rfl) : GT X c W (.Compare a [.Lt, .LtE] [b, ce] pos) (qB (eChain oLt oLe ma mb mc)) := g_chainT op_lt s_lt op_le s_le ha hb hc hm
theorem c_le_lt {ce : Expr} {ma mb mc : EM D} (ha : GV X c W a ma) (hb : GV X c W b mb) (hc : GV X c W ce mc) (hm : lastMarks [.LtE, .Lt] [b, ce] = false := by with_unfolding_all rfl) : GE X c W (.Compare a [.LtE, .Lt] [b, ce] pos) (eChain oLe oLt ma mb mc) := g_chain op_le s_le op_lt s_lt ha hb hc hm
theorem t_le_lt {ce : Expr} {ma mb mc : EM D} (ha : GV X c W a ma) (hb : GV X c W b mb) (hc : GV X c W ce mc) (hm : lastMarks [.LtE, .Lt] [b, ce] = false := by with_unfolding_all rfl) : GT X c W (.Compare a [.LtE, .Lt] [b, ce] pos) (qB (eChain oLe oLt ma mb mc)) := g_chainT op_le s_le op_lt s_lt ha hb hc hm
theorem c_le_le {ce : Expr} {ma mb mc : EM D} (ha : GV X c W a ma) (hb : GV X c W b mb) (hc : GV X c W ce mc) (hm : lastMarks [.LtE, .LtE] [b, ce] = false := by with_unfolding_all rfl) : GE X c W (.Compare a [.LtE, .LtE] [b, ce] pos) (eChain oLe oLe ma mb mc) := g_chain op_le s_le op_le s_le ha hb hc hm
theorem t_le_le {ce : Expr} {ma mb mc : EM D} (ha : GV X c W a ma) (hb : GV X c W b mb) (hc : GV X c W ce mc) (hm : lastMarks [.LtE, .LtE] [b, ce] = false := by with_unfolding_all rfl) : GT X c W (.Compare a [.LtE, .LtE] [b, ce] pos) (qB (eChain oLe oLe ma mb mc)) := g_chainT op_le s_le op_le s_le ha hb hc hm
/-- f(e, ..), a def -/
theorem k_call {x : Str} {φ : Fn} {p : Pos} {ms : List (EM D)} (C : Cal X.prog X.w X.K X.mg X.base c.T j x ms.length φ) (B : Bx X W k) (ha : GA X c W (e :: es) (eAll ms)) (hk : j ≤ k := by exact Nat.le_of_ble_eq_true rfl) (hg : Gl X x := by rfl)
    (hdb : (x == ("__debug__" : Str)) = false := by decide) (he : starEach (e :: es) X.env = (false, eval e X.env) :: starEach es X.env := by rfl) (hpl : (backTo pos (starEach es X.env)).any (·.1) = false := by rfl) :
    GE X c W (.Call (.Name x p) (e :: es) [] pos) (eCall φ (eAll ms)) := g_call C B hk ha (fun l s ds s' h => eAll_len h) hg hdb he hpl
end
end Wd
set_option Elab.async false
set_option linter.all false
set_option maxRecDepth 100000
set_option maxHeartbeats 0
set_option autoImplicit false
/-! Wd23: enumerate(tuple); the keys of a dict; list(range(n)). -/
namespace Wd
open PySem PySem.Spec PyProof.Rows L2

/-! ### enumerate(tuple) -/
theorem meets_enumT {v : Value} {o : Obj} {H : Heap → Prop} (B : Begins v o H) :
    Meets (Builtin.«enumerate.__new__» ⟨[.type "enumerate", v], []⟩) (fun _ R s => H s.heap ∧
      R (.ok (.ret (.ref (s.heap.push o).objs.size))) { s with heap := (s.heap.push o).push { cls := .type "enumerate", data := .fields #[.none, .bool false, .ref s.heap.objs.size, rawInt 0, .none, .none] } }) :=
  .of_wp fun prog w A R s h => by
    obtain ⟨hp, g, d, tk, os⟩ := s; obtain ⟨h1, h⟩ := h
    have hsub := sub_enumerate
    have q1 : ∀ {A' : Around} {E : Value → Shared → Prop} {Q : Value → Shared → Prop}, Q (.ref hp.objs.size) ⟨hp.push o, g, d, tk, os⟩ → wpAny (model prog w) A' (pyIter v) Q E ⟨hp, g, d, tk, os⟩ :=
      fun q => B.iter prog w _ _ ⟨hp, g, d, tk, os⟩ _ h1 q
    wp_walk using q1
    refine wpAny_stack_any fun st => wpAny_pure ?_
    split
    · rename_i c _ _ _ _ _
      cases (c == Value.type "enumerate")
      · wp_walk using q1
        exact ⟨_, rfl, h⟩
      · wp_walk using q1
        exact ⟨_, rfl, h⟩
    · wp_walk using q1
      exact ⟨_, rfl, h⟩
section
variable {prog : Program} {w : World} {A : Around} {E : Value → Shared → Prop} {s : Shared}
theorem call_enumB {v : Value} {o : Obj} {H : Heap → Prop} {Q : Value → Shared → Prop} (B : Begins v o H) (h1 : H s.heap)
    (h : ∀ h', IsEnum h' (s.heap.objs.size + 1) s.heap.objs.size 0 .none → h'.get? s.heap.objs.size = some o → h'.objs.size = s.heap.objs.size + 2 →
      (∀ b o, s.heap.get? b = some o → h'.get? b = some o) → Q (.ref (s.heap.objs.size + 1)) { s with heap := h' }) :
    wpAny (model prog w) A (call (.type "enumerate") [v]) Q E s := by
  refine callType_new F.called_enumerate (by decide) (F.typeCall_enumerate_1 _) (F.newCall_enumerate_1 _) (fun obj => F.args_object_init_2 obj _) F.entry_enumerate_new
    (meets_enumT B) ⟨h1, ?_⟩
  have hz : (s.heap.push o).objs.size = s.heap.objs.size + 1 := Heap.size_push ..
  show _ ∧ _
  rw [hz]
  have he : IsEnum ((s.heap.push o).push { cls := .type "enumerate", data := .fields #[.none, .bool false, .ref s.heap.objs.size, rawInt 0, .none, .none] }) (s.heap.objs.size + 1) s.heap.objs.size 0 .none := by
    have := Heap.get?_push_size (s.heap.push o) (o := { cls := .type "enumerate", data := .fields #[.none, .bool false, .ref s.heap.objs.size, rawInt 0, .none, .none] }) rfl
    rw [hz] at this; exact this
  refine ⟨⟨_, he, rfl⟩, h _ he (Heap.get?_push_of_some _ (Heap.get?_push_size _ B.free)) (by rw [Heap.size_push, hz]) fun b o x => Heap.get?_push_of_some _ (Heap.get?_push_of_some _ x)⟩
end
def IteT (K : PySem.W.Frag) (a : Addr) : It :=
  ⟨fun i H => ∃ (xs : List V) (x : V), SqT K H a xs ∧ xs[i]? = some x, fun i H v H' => ∃ T x, v = .ref T ∧ H T = none ∧ H' = upd H T (.tup [.int (i : Nat), x]) ∧ ∀ xs, SqT K H a xs → xs[i]? = some x, fun i H => ∃ xs : List V, SqT K H a xs ∧ xs.length ≤ i⟩
theorem turn_enumT {P : Program} {w : World} {K : PySem.W.Frag} {elts : List Expr} {kk : Nat} {tpos : Pos} (a e it : Addr) :
    Turn P w K (.Tuple elts kk tpos) (IteT K a) [e, it] e (fun i h => (∃ old, IsEnum h e it ((i : Nat) : Int) old) ∧ h.IsTupleIter it a i ∧ e ≠ it) where
  mem := by simp
  obj := fun i h st b hb => by
    obtain ⟨⟨old, he⟩, ⟨o, ho, hc, hd⟩, _⟩ := st
    have e' : b = e ∨ b = it := by simpa using hb
    rcases e' with z | z
    · rw [z]; exact ⟨_, he, fun v q => nomatch q⟩
    · rw [z]; exact ⟨o, ho, fun v q => by rw [hd] at q; cases q⟩
  keep := fun i h h' st k => let ⟨⟨old, he⟩, hi, hne⟩ := st; ⟨⟨old, k e (by simp) _ he⟩, hi.at fun o q => k it (by simp) o q, hne⟩
  item := by
    intro X hP hw hK hc i pins s σ H E I hf st hg
    subst hP hw hK
    obtain ⟨⟨old, he⟩, hit, hne⟩ := st
    obtain ⟨xs, x, hq, hx⟩ := hg
    obtain ⟨its, rv, p, hz⟩ := I.tuple hq
    obtain ⟨u, hu, ru⟩ := rv.get hx
    have hel : e < s.heap.objs.size := Heap.lt_size he
    have hil : it < s.heap.objs.size := by obtain ⟨_, q, _⟩ := hit; exact Heap.lt_size q
    have pt : s.heap.IsTuple a its.toArray := p
    have nai : a ≠ it := fun z => by
      obtain ⟨o1, e1, c1, _⟩ := hit
      obtain ⟨o2, e2, c2, _⟩ := pt
      rw [z, e1] at e2
      cases e2
      rw [c1] at c2
      exact absurd (Value.type.inj c2) (by decide)
    have nae : e ∉ [it, a] := fun z => by
      rcases List.mem_cons.mp z with z | z
      · exact hne z
      · have z := List.mem_singleton.mp z
        obtain ⟨o2, e2, c2, _⟩ := pt
        have he' := he
        unfold IsEnum at he'
        rw [z, e2] at he'
        cases he'
        exact absurd (Value.type.inj c2) (by decide)
    have hlt : i < its.toArray.size := by
      have := (List.getElem?_eq_some_iff.mp hu).1
      simpa using this
    refine wpAny_pyNext_enum_itemC (Draws.tuple (A := X.A.in1) (I.ok.hd hc) it a nai its.toArray) he ⟨hit, pt⟩ hlt hne nae fun x' h' tk hP ho st' hT hsz hk => ?_
    have hxu : x' = u := by
      have hP' : its[i]? = some x' := by simpa using hP
      rw [hu] at hP'
      exact (Option.some.inj hP').symm
    subst hxu
    obtain ⟨hit', _⟩ := st'
    refine ⟨_, rfl, wpAny_letOwnedTupleGo_enum (s := { s with heap := h', toks := tk + 1 }) ho fun h'' he' sb => ?_⟩
    have hT2 : h''.get? s.heap.objs.size = some { cls := .type "tuple", data := .seq #[.int i tk, x'] } := (sb.2 _ (Nat.ne_of_gt hel)).trans hT
    have new : ObjOk X.prog X.w (upd H s.heap.objs.size (.tup [.int (i : Nat), x])) h'' s.heap.objs.size (.tup [.int (i : Nat), x]) :=
      ⟨by show 2 ≤ sizeLine; decide, [.int i tk, x'], .cons ⟨_, rfl⟩ (.cons ru .nil), ⟨_, hT2, rfl, _, rfl⟩⟩
    have I1 : Inv X pins σ (upd H s.heap.objs.size (.tup [.int (i : Nat), x])) { s with heap := h'', toks := tk + 1 } :=
      I.turnedNew (ch := [e, it]) (fun b ob hb q => (sb.2 b (fun z => hb (by simp [z]))).trans (hk b ob (fun z => hb (by simp [z])) (fun z => hb (by simp [z])) q)) hf (Nat.le_refl _) new
    refine ⟨.ref s.heap.objs.size, _, I1, rfl, ⟨_, x, rfl, I.hok.fresh (Nat.le_refl _), rfl, fun ys hy => by rw [I.tuple_inj hy hq]; exact hx⟩, ⟨⟨x', ?_⟩, hit'.at fun o q => (sb.2 it (Ne.symm hne)).trans q, hne⟩, fun b hb => ?_⟩
    · have e1 : ((i + 1 : Nat) : Int) = (i : Int) + 1 := by omega
      rw [e1]; exact he'
    · have hb' : b < s.heap.objs.size := by
        have e' : b = e ∨ b = it := by simpa using hb
        rcases e' with z | z
        · rw [z]; exact hel
        · rw [z]; exact hil
      rw [upd_ne (Nat.ne_of_lt hb')]
      exact (hf b hb).1
  done := by
    intro X hP hw hK hc i pins s σ H E I hf st hg
    subst hP hw hK
    obtain ⟨⟨old, he⟩, hit, hne⟩ := st
    obtain ⟨xs, hq, hx⟩ := hg
    obtain ⟨its, rv, p, hz⟩ := I.tuple hq
    obtain ⟨f0, f1, f2, f3, f4, f5⟩ := hf it (by simp)
    have hl := rv.length
    have pt : s.heap.IsTuple a its.toArray := p
    unfold pyNext
    have hT : s.TypeIs (.ref e) "enumerate" := ⟨_, he, rfl⟩
    refine wpAny_bind (wpAny_attempt (wpAny_callSpecial?_slot (name := Str.ofString "__next__") hT F.slot_enumerate_next
      (wpAny_call_entry F.slot_enumerate_next hT F.entry_enumerate_next ?_ (F.args_enumerate_next_1 _))))
    show wpAny _ _ (field (.ref e) 2 >>= _) _ _ _
    refine wpAny_bind (wpAny_field he rfl (x := .ref it) rfl ?_)
    refine wpAny_bind (wpAny_nextOf_tuple_end (A := X.A.in1) (I.ok.hd hc) hit pt (by simp; omega) fun h' x he' hx' => ?_)
    obtain ⟨o, ho, hc'⟩ := hx'
    refine wpAny_bind (wpAny_isInstance (T := "StopIteration") (b := true) ⟨o, ho, hc'⟩ isSubtype_stop ?_)
    exact wpAny_pure ⟨rfl, I.turned (t' := s.toks) (fun b o hb q => he' b o hb q) f0 f1 f3 f4 f5⟩
  self := fun A i s Q E st h => let ⟨⟨_, he⟩, _⟩ := st; wpAny_pyIter_enum he h
def iEnumA (K : PySem.W.Frag) (ta : TA) : TI := fun σ H R => ta σ H fun vs H1 => ∃ a, vs = [.ref a] ∧ ((∃ xs, SqL K H1 a xs ∧ R (Ite K a) H1) ∨ ∃ xs, SqT K H1 a xs ∧ R (IteT K a) H1)
theorem pi_enumA {X : Cx} {e : Expr} {ta : TA} {p pos tpos : Pos} {elts : List Expr} {kk : Nat} (hg : Gl X "enumerate") (hm : X.mg "enumerate" = none) (ha : PA X [e] ta) (hs : starEach [e] X.env = [(false, eval e X.env)] := by rfl) :
    PI X (.Tuple elts kk tpos) (.Call (.Name "enumerate" p) [e] [] pos) (iEnumA X.K ta) := by
  refine ⟨fun pins s σ H R I h => ?_⟩
  refine Call_ (ld_blt I hg hm boot_enumerate (PyProof.Rows.callWith_type1 (thn (ha.run pos pins s σ H _ I h) fun us s1 ⟨vs, H1, I1, r1, q1⟩ => ?_) hs rfl))
  obtain ⟨a, ex, q⟩ := q1
  subst ex
  cases r1 with
  | cons r rr =>
    cases rr
    cases r
    have fp : ∀ b ∈ [s1.heap.objs.size + 1, s1.heap.objs.size], FpOk X pins H1 b := fun b hb => by
      have e' : b = s1.heap.objs.size + 1 ∨ b = s1.heap.objs.size := by simpa using hb
      have hle : s1.heap.objs.size ≤ b := by
        rcases e' with z | z
        · rw [z]; exact Nat.le_add_right _ _
        · rw [z]; exact Nat.le_refl _
      exact I1.fpOk hle (I1.hok.fresh hle)
    rcases q with ⟨xs, hq, q⟩ | ⟨xs, hq, q⟩
    · obtain ⟨its, rv, p', hz⟩ := I1.list hq
      refine call_enumerate_list p'.isList fun h' he hit hsz hk => wpAny_pyIter_enum he ?_
      have I2 : Inv X pins σ H1 { s1 with heap := h' } := I1.kept (t' := s1.toks) hk
      exact ⟨s1.heap.objs.size + 1, [s1.heap.objs.size + 1, s1.heap.objs.size], _, _, H1, rfl, I2, turn_enum a (s1.heap.objs.size + 1) s1.heap.objs.size, ⟨⟨.none, he⟩, hit, Nat.succ_ne_self _⟩, fp, q⟩
    · obtain ⟨its, rv, p', hz⟩ := I1.tuple hq
      refine call_enumB (begins_tuple a its.toArray) (show s1.heap.IsTuple a its.toArray from p') fun h' he hit hsz hk => wpAny_pyIter_enum he ?_
      have I2 : Inv X pins σ H1 { s1 with heap := h' } := I1.kept (t' := s1.toks) hk
      exact ⟨s1.heap.objs.size + 1, [s1.heap.objs.size + 1, s1.heap.objs.size], _, _, H1, rfl, I2, turn_enumT a (s1.heap.objs.size + 1) s1.heap.objs.size, ⟨⟨.none, he⟩, ⟨_, hit, rfl, rfl⟩, Nat.succ_ne_self _⟩, fp, q⟩
section
variable {X : Cx} {c : Cc} {W : WX} {pos p1 : Pos} {a b e tg : Expr} {es : List Expr} {K : PySem.W.Frag}
theorem walk_enumT {θ : List Addr} {F : Hp} {ad : Addr} {xs : List D} {vs : List V} (h : F ad = some (.tup vs)) (r : Rels K θ F xs vs) : Walk K c θ F (IteT K ad) (enumL 0 xs) := fun θ2 F2 H2 s2 ht hF rS => by
  obtain ⟨t, rfl⟩ := ht
  have r2 : Rels K (θ ++ t) F2 xs vs := r.mono hF
  have hq : SqT K H2 ad vs := SqT.of (rS.sub _ _ (hF _ _ h))
  refine ⟨fun i d e => ?_, vs, hq, by rw [enum_len, r.length]; exact Nat.le_refl _⟩
  obtain ⟨x, ex, rfl⟩ := enum_at e
  obtain ⟨v, e1, q⟩ := r2.get ex
  refine ⟨⟨vs, v, hq, e1⟩, fun w H' y => ?_⟩
  obtain ⟨T, z, rfl, hT, rfl, y⟩ := y
  have : v = z := Option.some.inj (e1.symm.trans (y vs hq))
  subst this
  have e0 : (0 : Int) + (i : Int) = ((i : Nat) : Int) := by omega
  rw [e0]
  exact pair_laid rS hT (.int _) q
/-- enumerate(x), x a list or a tuple -/
def iEnum2 (m : EM D) : EM (List D) := fun l s => (m l s).bind fun x s1 => match x with
  | .lst xs => .ok (enumL 0 xs) s1
  | .tup xs => .ok (enumL 0 xs) s1
  | _ => .bad
theorem g_enum2 {m : EM D} {elts : List Expr} {kk : Nat} {tpos : Pos} (B : Blt X.mg) (h : GE X c W a m) (hg : Gl X "enumerate" := by rfl) (hs : starEach [a] X.env = [(false, eval a X.env)] := by rfl) :
    GI X c W (.Tuple elts kk tpos) (.Call (.Name "enumerate" p1) [a] [] pos) (iEnum2 m) := pi_imp (pi_enumA hg B.enum (pa_cons h pa_nil hs) hs) fun σ H Q ⟨l, s, θ, F, H0, r1, r2, p⟩ => by
  refine rd_bind older_relI r1 r2 p fun x s1 v θ1 F1 H1 _ t1 q1 l1 h1 p1 => ?_
  cases x with
  | lst xs =>
    cases h1 with
    | lst g q => exact ⟨_, rfl, .inl ⟨_, q1.sub.l g, p1 _ θ1 F1 H1 .refl q1 (walk_enum g q)⟩⟩
  | tup xs =>
    cases h1 with
    | tup g q => exact ⟨_, rfl, .inr ⟨_, SqT.of (q1.sub _ _ g), p1 _ θ1 F1 H1 .refl q1 (walk_enumT g q)⟩⟩
  | _ => exact p1.elim

/-! ### the keys of a dict -/
/-- a tuple that was there, unknown so far -/
theorem tup_known {θ : List Addr} {F H : Hp} {s : S} {q : Addr} {vs : List V} (r : RS K c θ F H s) (h : H q = some (.tup vs)) : ∃ F', Step θ F H θ F' H ∧ RS K c θ F' H s ∧ F' q = some (.tup vs) := by
  cases e : F q with
  | some u =>
    have := r.sub q u e
    rw [h] at this
    cases this
    exact ⟨F, .refl, r, e⟩
  | none =>
    have n : q ∉ θ := fun z => by
      obtain ⟨n, e⟩ := List.getElem?_of_mem z
      have hl : n < s.length := by
        rw [← r.len]
        exact (List.getElem?_eq_some_iff.mp e).1
      obtain ⟨b, e1, qq, _⟩ := r.st n s[n] (List.getElem?_eq_getElem hl)
      rw [e] at e1
      cases e1
      exact qq.noTup h vs rfl
    have st : Step θ F H θ (upd F q (.tup vs)) H := ⟨⟨[], by simp, fun a h => nomatch h⟩, Le.new e, fun b u eb _ _ nu => by rw [upd_ne (fun z => by rw [z, h] at eb; cases eb; exact nu _ rfl)], fun _ _ h _ _ => h, fun _ h => h⟩
    exact ⟨_, st, r.freeze h n e (fun _ z => nomatch z) (c.mono _ _ _ _ _ _ st r.more), upd_same⟩
theorem rels_keys {θ : List Addr} {F : Hp} : ∀ ks : List Key, Rels K θ F (ks.map kD) (ks.map kV)
  | [] => .nil
  | .inl i :: ks => .cons (.int i) (rels_keys ks)
  | .inr x :: ks => .cons (.str x) (rels_keys ks)
theorem relTs_at {θ : List Addr} {F : Hp} : ∀ {kvs : List (D × D)} {es : List (List Key × V)} {i : Nat} {d : D}, RelTs K θ F kvs es → (kvs.map Prod.fst)[i]? = some d → ∃ ks v, es[i]? = some (ks, v) ∧ d = tD ks
  | _, _, _, _, .nil, h => by simp at h
  | _, _, 0, _, .cons a b, h => by
    cases h
    exact ⟨_, _, rfl, rfl⟩
  | _, _, i + 1, _, .cons a b, h => relTs_at (i := i) b h
theorem relKs_at {θ : List Addr} {F : Hp} : ∀ {kvs : List (D × D)} {es : List (Key × V)} {i : Nat} {d : D}, RelKs K θ F kvs es → (kvs.map Prod.fst)[i]? = some d → ∃ k v, es[i]? = some (k, v) ∧ d = kD k
  | _, _, _, _, .nil, h => by simp at h
  | _, _, 0, _, .cons a b, h => by
    cases h
    exact ⟨_, _, rfl, rfl⟩
  | _, _, i + 1, _, .cons a b, h => relKs_at (i := i) b h
theorem rel_key {θ : List Addr} {F : Hp} (k : Key) : Rel K θ F (kD k) (kV k) := by
  cases k with
  | inl i => exact .int i
  | inr x => exact .str x
theorem walk_keysT {θ : List Addr} {F : Hp} {ad : Addr} {o : Obj} {kvs : List (D × D)} {es : List (List Key × V)} (h : F ad = some (.frz o (.dT es))) (r : RelTs K θ F kvs es) : Walk K c θ F (Itkt ad o es) (kvs.map Prod.fst) := fun θ2 F2 H2 s2 ht hF rS => by
  obtain ⟨t, rfl⟩ := ht
  have hq : H2 ad = some (.frz o (.dT es)) := rS.sub _ _ (hF _ _ h)
  refine ⟨fun i d e => ?_, hq, by rw [List.length_map, relTs_len r]; exact Nat.le_refl _⟩
  obtain ⟨ks, v, e1, rfl⟩ := relTs_at r e
  refine ⟨⟨hq, (List.getElem?_eq_some_iff.mp e1).1⟩, fun x H' y => ?_⟩
  obtain ⟨rfl, k, v', q, e2, rfl, hk⟩ := y
  rw [e1] at e2
  cases e2
  obtain ⟨F', st, r', f'⟩ := tup_known rS hk
  exact ⟨F', st, r', .tup f' (rels_keys _)⟩
theorem walk_keysK {θ : List Addr} {F : Hp} {ad : Addr} {o : Obj} {kvs : List (D × D)} {es : List (Key × V)} (h : F ad = some (.frz o (.dK es))) (r : RelKs K θ F kvs es) : Walk K c θ F (Itk ad o es) (kvs.map Prod.fst) := fun θ2 F2 H2 s2 ht hF rS => by
  obtain ⟨t, rfl⟩ := ht
  have hq : H2 ad = some (.frz o (.dK es)) := rS.sub _ _ (hF _ _ h)
  refine ⟨fun i d e => ?_, hq, by rw [List.length_map, relKs_len r]; exact Nat.le_refl _⟩
  obtain ⟨ks, v, e1, rfl⟩ := relKs_at r e
  refine ⟨⟨hq, (List.getElem?_eq_some_iff.mp e1).1⟩, fun x H' y => ?_⟩
  obtain ⟨rfl, k, v', e2, rfl⟩ := y
  rw [e1] at e2
  cases e2
  exact ⟨F2, .refl, rS, rel_key _⟩
/-- for x in e: a tuple, a list, the keys of a dict -/
def iAny (a : EM D) : EM (List D) := fun l s => (a l s).bind fun x s1 => match x with
  | .tup xs => .ok xs s1
  | .lst xs => .ok xs s1
  | .dct _ kvs => .ok (kvs.map Prod.fst) s1
  | _ => .bad
def iAnyA (K : PySem.W.Frag) (tl : TE) : TI := fun σ H R => tl σ H fun x H1 => ∃ a, x = .ref a ∧ ((((∃ xs, SqL K H1 a xs) ∧ R (Itl K a) H1) ∨ ((∃ xs, SqT K H1 a xs) ∧ R (Itt K a) H1)) ∨ ∃ o, (∃ kvs, H1 a = some (.frz o (.dK kvs)) ∧ R (Itk a o kvs) H1) ∨ ∃ kvs, H1 a = some (.frz o (.dT kvs)) ∧ R (Itkt a o kvs) H1)
theorem pi_anyA {tl : TE} (hl : PE X e tl) : PI X tg e (iAnyA X.K tl) := by
  refine ⟨fun pins s σ H R I h => ?_⟩
  refine thn (hl.run pins s σ H _ I h) fun v s1 ⟨x, H1, I1, r1, q1⟩ => ?_
  obtain ⟨a, ex, q1⟩ := q1
  subst ex
  cases r1
  rcases q1 with (⟨⟨xs, hq⟩, q⟩ | ⟨⟨xs, hq⟩, q⟩) | ⟨o, ⟨kvs, hd, q⟩ | ⟨kvs, hd, q⟩⟩
  · obtain ⟨its, rv, p, hz⟩ := I1.list hq
    refine wpAny_pyIter_list p.isList ?_
    refine ⟨s1.heap.objs.size, [s1.heap.objs.size], _, _, H1, rfl, I1.kept (t' := s1.toks) fun b o e => Heap.get?_push_of_some _ e, turn_list a _, ⟨_, Heap.get?_push_size _ rfl, rfl, rfl⟩, fun b hb => ?_, q⟩
    have e : b = s1.heap.objs.size := by simpa using hb
    subst e
    exact I1.fpOk (Nat.le_refl _) (I1.hok.fresh (Nat.le_refl _))
  · obtain ⟨its, rv, p, hz⟩ := I1.tuple hq
    refine wpAny_pyIter_tuple (show s1.heap.IsTuple a its.toArray from p) ?_
    refine ⟨s1.heap.objs.size, [s1.heap.objs.size], _, _, H1, rfl, I1.kept (t' := s1.toks) fun b o e => Heap.get?_push_of_some _ e, turn_tuple a _, ⟨_, Heap.get?_push_size _ rfl, rfl, rfl⟩, fun b hb => ?_, q⟩
    have e : b = s1.heap.objs.size := by simpa using hb
    subst e
    exact I1.fpOk (Nat.le_refl _) (I1.hok.fresh (Nat.le_refl _))
  · obtain ⟨hs, hgd, hx, es, ep, vs, hdt, hsz, kv, hm⟩ := I1.frzK hd
    refine iter_keys hs hgd hx hdt (pi_one (tk := s1.toks) I1 _ (turn_keys _ hdt) ⟨_, Heap.get?_push_size _ rfl, rfl, ?_⟩ q)
    rw [hsz] <;> rfl
  · obtain ⟨hs, hgd, hx, es, ep, hdt, hsz, ent⟩ := I1.frzT hd
    refine iter_keys hs hgd hx hdt (pi_one (tk := s1.toks) I1 _ (turn_keysT _ hdt) ⟨_, Heap.get?_push_size _ rfl, rfl, ?_⟩ q)
    rw [hsz] <;> rfl
theorem g_any2 {m : EM D} (h : GE X c W e m) : GI X c W tg e (iAny m) := pi_imp (pi_anyA h) fun σ H Q ⟨l, s, θ, F, H0, r1, r2, p⟩ => by
  refine rd_bind older_relI r1 r2 p fun x s1 v θ1 F1 H1 _ t1 q1 l1 h1 p1 => ?_
  cases x with
  | tup xs =>
    cases h1 with
    | tup g q => exact ⟨_, rfl, .inl (.inr ⟨⟨_, SqT.of (q1.sub _ _ g)⟩, p1 _ θ1 F1 H1 .refl q1 (walk_tup g q)⟩)⟩
  | lst xs =>
    cases h1 with
    | lst g q => exact ⟨_, rfl, .inl (.inl ⟨⟨_, q1.sub.l g⟩, p1 _ θ1 F1 H1 .refl q1 (walk_lst g q)⟩)⟩
  | dct t kvs =>
    cases h1 with
    | dK g q => exact ⟨_, rfl, .inr ⟨_, .inl ⟨_, q1.sub _ _ g, p1 _ θ1 F1 H1 .refl q1 (walk_keysK g q)⟩⟩⟩
    | dT g q => exact ⟨_, rfl, .inr ⟨_, .inr ⟨_, q1.sub _ _ g, p1 _ θ1 F1 H1 .refl q1 (walk_keysT g q)⟩⟩⟩
  | _ => exact p1.elim
end
end Wd
set_option Elab.async false
set_option linter.all false
set_option maxRecDepth 100000
set_option maxHeartbeats 0
set_option autoImplicit false
/-! Wd24: a dict comprehension with two clauses, keys of any kind (turned from the two-clause list comprehension). -/
namespace L2
open PySem PySem.Spec PyProof.Rows
def emptyD : Bool → HO
  | false => .dK []
  | true => .dT []
/-- d[k] = v by a comprehension -/
theorem d_dictSetP {X : Cx} {pins : List (Addr × Obj)} {σ : St} {H H' : Hp} {s : Shared} {E : Value → Shared → Prop} {a : Addr} {y v : V} {u r : Value} {A : Around} {Q : Unit → Shared → Prop} (hu : A.units + 1 < cLine) (I : Inv X pins σ H s) (g : DPut H a y v H') (ry : RelV y u) (rv : RelV v r) (h : ∀ s', Inv X pins σ H' s' → Q () s') :
    wpAny (model X.prog X.w) A (dictSet a u r) Q E s := by
  rcases g with ⟨kvs, k, e, ey, l, eH⟩ | ⟨kvs, k, b, e, ey, eb, l, eH⟩
  · subst ey eH
    obtain ⟨z, hd, vs, rel, dd⟩ := dk_of I.hok e
    have hz : vs.length ≤ sizeLine := by rw [← rel.length]; exact z
    have hl : (putK kvs k v).length ≤ sizeLine := by have := length_putK kvs k v; omega
    refine wpAny_dictSet_pairs (hsz := hz) (kV_is ry) dd fun h' dd' hs => h _ ?_
    have he : ∃ q, h'.get? a = some q := let ⟨q, _, _, hq, _⟩ := dd'; ⟨q, hq⟩
    exact d_write I (by rw [e]; exact True.intro) hs he (dk_new hl hd (rel.put k rv) dd')
  · subst ey eH
    cases (show u = Value.ref b from ry)
    obtain ⟨z, hd, xs, rel, dd⟩ := dt_of I.hok e
    have hz : xs.length ≤ sizeLine := by rw [← Paired.length rel]; exact z
    have hl : (putK kvs k v).length ≤ sizeLine := by have := length_putK kvs k v; omega
    refine wpAny_dictSet_heap (hsz := hz) (show (tupleKind (mixKind X.prog X.w)).room A from Nat.lt_of_succ_lt hu) (key_of I.hok eb) dd fun h' dd' hs => h _ ?_
    obtain ⟨q, es, ep, hq, h2, h3, h4, _, h5⟩ := dd'
    refine d_write I (by rw [e]; exact True.intro) hs ⟨q, hq⟩ ⟨hl, hd, _, (rel.put k eb rv).keeps fun c ys ec => ?_, q, es, ep, hq, h2, h3, h4, h5⟩
    rw [upd_ne (ne_of ec e (fun z => nomatch z))]
    exact ec
theorem compTurn2_outD (kx vx t0 i0 t1 i1 : Expr) (ifs0 ifs1 : List Expr) (scope : Scope) (pos : Pos) (it : Value) (D : Addr) (env : Env) :
    compTurn (.DictComp kx vx [⟨t0, i0, ifs0, 0⟩, ⟨t1, i1, ifs1, 0⟩] scope pos) 0 it (.ref D) env = (do
      standAt i0.pos
      match ← pyNext it with
      | none => pure (.done .next)
      | some v =>
        letOwnedTupleGo t0 it v
        assign t0 env v
        let mut ok := true
        for c in ifs0 do
          if ok then ok ← isTrue c env (eval c env)
        if ok then
          let x ← eval i1 env
          standAt i1.pos
          let x ← foldedSetIterable i1 env x
          let _ ← runOwn (.compStart (.DictComp kx vx [⟨t0, i0, ifs0, 0⟩, ⟨t1, i1, ifs1, 0⟩] scope pos) 1 (← holding [x] (pyIter x)) (.ref D) env) env
        again (.compLoop (.DictComp kx vx [⟨t0, i0, ifs0, 0⟩, ⟨t1, i1, ifs1, 0⟩] scope pos) 0 it (.ref D) env)) := by rfl
theorem compTurn2_inD (kx vx t0 i0 t1 i1 : Expr) (ifs0 ifs1 : List Expr) (scope : Scope) (pos : Pos) (it : Value) (D : Addr) (env : Env) :
    compTurn (.DictComp kx vx [⟨t0, i0, ifs0, 0⟩, ⟨t1, i1, ifs1, 0⟩] scope pos) 1 it (.ref D) env = (do
      standAt i1.pos
      match ← pyNext it with
      | none => pure (.done .next)
      | some v =>
        letOwnedTupleGo t1 it v
        assign t1 env v
        let mut ok := true
        for c in ifs1 do
          if ok then ok ← isTrue c env (eval c env)
        if ok then
          (do
            let kv ← eval kx env
            let vv ← holding [kv] (eval vx env)
            standAt { kx.pos with endLine := vx.pos.endLine, endCol := vx.pos.endCol }
            holding [kv, vv] (dictSet D kv vv))
        again (.compLoop (.DictComp kx vx [⟨t0, i0, ifs0, 0⟩, ⟨t1, i1, ifs1, 0⟩] scope pos) 1 it (.ref D) env)) := by rfl

section
variable {prog : Program} {w : World} {A : Around} {R : Result → Shared → Prop} {s : Shared} {kx vx t0 i0 t1 i1 : Expr} {ifs0 ifs1 : List Expr} {scope : Scope} {pos : Pos} {it : Value} {D : Addr} {env : Env}
/-- the loop of the first clause -/
theorem compLoop2_outD (hs : ∀ x, foldedSetIterable i1 env x = pure x) (I : Nat → Shared → Prop)
    (turn : ∀ n s, I n s → wpAny (model prog w) A (pyNext it) (fun r s₁ => match r with
      | none => R (.ok .next) s₁
      | some v => wpAny (model prog w) A (letOwnedTupleGo t0 it v) (fun _ s₁' => wpAny (model prog w) A (assign t0 env v) (fun _ s₂ =>
          wpAny (model prog w) A (forIn ifs0 true fun c r => if r = true then do let ok ← isTrue c env (eval c env); pure (ForInStep.yield ok) else pure (ForInStep.yield r)) (fun ok s₃ =>
            if ok = true then wpAny (model prog w) A (eval i1 env) (fun x s₄ => wpAny (model prog w) A (pyIter x) (fun it1 s₅ =>
              codeAny (model prog w) A (.compStart (.DictComp kx vx [⟨t0, i0, ifs0, 0⟩, ⟨t1, i1, ifs1, 0⟩] scope pos) 1 it1 (.ref D) env) (fun r s' => match r with
                | .ok _ => ∃ m, m < n ∧ I m s'
                | .error _ => False) s₅) (notedBy (model prog w) A env fun e s' => R (.error e) s') s₄) (notedBy (model prog w) A env fun e s' => R (.error e) s') s₃
            else ∃ m, m < n ∧ I m s₃) (notedBy (model prog w) A env fun e s' => R (.error e) s') s₂) (notedBy (model prog w) A env fun e s' => R (.error e) s') s₁') (notedBy (model prog w) A env fun e s' => R (.error e) s') s₁) (notedBy (model prog w) A env fun e s' => R (.error e) s') s)
    (n : Nat) (h : I n s) :
    codeAny (model prog w) A (.compLoop (.DictComp kx vx [⟨t0, i0, ifs0, 0⟩, ⟨t1, i1, ifs1, 0⟩] scope pos) 0 it (.ref D) env) R s := by
  refine codeAny_loop rfl I (fun n s hI => ?_) n h
  show wpAny _ A ((compTurn (.DictComp kx vx [⟨t0, i0, ifs0, 0⟩, ⟨t1, i1, ifs1, 0⟩] scope pos) 0 it (.ref D) env).onRaise (fun x => do noteFrame x env; theTreesLotGoes x)) _ _ s
  refine wpAny_noted ?_
  rw [compTurn2_outD]
  refine wpAny_bind (wpAny_standAt (wpAny_bind (wpAny_mono (turn n s hI) (fun r s₁ h₁ => ?_) fun _ _ h' => h')))
  cases r with
  | none => exact wpAny_pure h₁
  | some v =>
    refine wpAny_bind (wpAny_mono h₁ (fun _ s₁' h₁' => ?_) fun _ _ h' => h')
    refine wpAny_bind (wpAny_mono h₁' (fun _ s₂ h₂ => wpAny_bind (wpAny_mono h₂ (fun ok s₃ h₃ => ?_) fun _ _ h' => h')) fun _ _ h' => h')
    cases ok with
    | false => exact wpAny_pure ⟨rfl, h₃⟩
    | true =>
      refine wpAny_bind (wpAny_mono h₃ (fun x s₄ h₄ => ?_) fun _ _ h' => h')
      refine wpAny_bind (wpAny_standAt (wpAny_bind (wpAny_of_eq (hs x) (wpAny_bind (wpAny_holding (wpAny_mono h₄ (fun it1 s₅ h₅ => ?_) fun _ _ h' => h'))))))
      refine wpAny_bind (wpAny_runOwn ?_)
      rw [Around.mark_none]
      refine codeAny_mono h₅ fun r s' hr => ?_
      cases r with
      | ok f =>
        first
          | exact wpAny_pure ⟨rfl, hr⟩
          | exact wpAny_bind (wpAny_pure (wpAny_pure ⟨rfl, hr⟩))
      | error e => exact hr.elim
/-- the loop of the second -/
theorem compLoop2_inD (I : Nat → Shared → Prop)
    (turn : ∀ n s, I n s → wpAny (model prog w) A (pyNext it) (fun r s₁ => match r with
      | none => R (.ok .next) s₁
      | some v => wpAny (model prog w) A (letOwnedTupleGo t1 it v) (fun _ s₁' => wpAny (model prog w) A (assign t1 env v) (fun _ s₂ =>
          wpAny (model prog w) A (forIn ifs1 true fun c r => if r = true then do let ok ← isTrue c env (eval c env); pure (ForInStep.yield ok) else pure (ForInStep.yield r)) (fun ok s₃ =>
            if ok = true then wpAny (model prog w) A (eval kx env) (fun kv s₄ => wpAny (model prog w) A (eval vx env) (fun vv s₅ =>
              wpAny (model prog w) A (dictSet D kv vv) (fun _ s₆ => ∃ m, m < n ∧ I m s₆) (notedBy (model prog w) A env fun e s' => R (.error e) s') s₅) (notedBy (model prog w) A env fun e s' => R (.error e) s') s₄) (notedBy (model prog w) A env fun e s' => R (.error e) s') s₃
            else ∃ m, m < n ∧ I m s₃) (notedBy (model prog w) A env fun e s' => R (.error e) s') s₂) (notedBy (model prog w) A env fun e s' => R (.error e) s') s₁') (notedBy (model prog w) A env fun e s' => R (.error e) s') s₁) (notedBy (model prog w) A env fun e s' => R (.error e) s') s)
    (n : Nat) (h : I n s) :
    codeAny (model prog w) A (.compLoop (.DictComp kx vx [⟨t0, i0, ifs0, 0⟩, ⟨t1, i1, ifs1, 0⟩] scope pos) 1 it (.ref D) env) R s := by
  refine codeAny_loop rfl I (fun n s hI => ?_) n h
  show wpAny _ A ((compTurn (.DictComp kx vx [⟨t0, i0, ifs0, 0⟩, ⟨t1, i1, ifs1, 0⟩] scope pos) 1 it (.ref D) env).onRaise (fun x => do noteFrame x env; theTreesLotGoes x)) _ _ s
  refine wpAny_noted ?_
  rw [compTurn2_inD]
  refine wpAny_bind (wpAny_standAt (wpAny_bind (wpAny_mono (turn n s hI) (fun r s₁ h₁ => ?_) fun _ _ h' => h')))
  cases r with
  | none => exact wpAny_pure h₁
  | some v =>
    refine wpAny_bind (wpAny_mono h₁ (fun _ s₁' h₁' => ?_) fun _ _ h' => h')
    refine wpAny_bind (wpAny_mono h₁' (fun _ s₂ h₂ => wpAny_bind (wpAny_mono h₂ (fun ok s₃ h₃ => ?_) fun _ _ h' => h')) fun _ _ h' => h')
    cases ok with
    | false => exact wpAny_pure ⟨rfl, h₃⟩
    | true =>
      exact wpAny_bind (wpAny_bind (wpAny_mono h₃ (fun kv s₄ h₄ => wpAny_bind (wpAny_holding (wpAny_mono h₄ (fun vv s₅ h₅ => wpAny_bind (wpAny_standAt (wpAny_holding (wpAny_mono h₅ (fun _ s₆ h₆ => wpAny_pure ⟨rfl, h₆⟩) fun _ _ h' => h')))) fun _ _ h' => h'))) fun _ _ h' => h'))
/-- the second clause's start -/
theorem compStart1_okD (h0 : codeAny (model prog w) A (.compLoop (.DictComp kx vx [⟨t0, i0, ifs0, 0⟩, ⟨t1, i1, ifs1, 0⟩] scope pos) 1 it (.ref D) env) R s)
    (h : wpAny (model prog w) A (pyIter it) (fun it' s' => codeAny (model prog w) A (.compLoop (.DictComp kx vx [⟨t0, i0, ifs0, 0⟩, ⟨t1, i1, ifs1, 0⟩] scope pos) 1 it' (.ref D) env) R s')
      (notedBy (model prog w) A env fun x s' => R (.error x) s') s) :
    codeAny (model prog w) A (.compStart (.DictComp kx vx [⟨t0, i0, ifs0, 0⟩, ⟨t1, i1, ifs1, 0⟩] scope pos) 1 it (.ref D) env) R s := by
  refine codeAny_of_tree ?_
  show wpAny _ _ ((compStart (.DictComp kx vx [⟨t0, i0, ifs0, 0⟩, ⟨t1, i1, ifs1, 0⟩] scope pos) 1 it (.ref D) env).onRaise (fun x => do noteFrame x env; standAt theWindowsPlace)) _ _ s
  refine wpAny_notedAt ?_
  unfold compStart
  show wpAny _ _ (ask >>= _) _ _ s
  refine wpAny_bind (wpAny_askSetting (wpAny_ite ?_))
  split
  · first
      | exact wpAny_bind (wpAny_pure (wpAny_pure (And.intro rfl h0)))
      | exact wpAny_pure (And.intro rfl h0)
  · first
      | exact wpAny_bind (wpAny_rule (wpAny_bind (wpAny_standAt (wpAny_bind (wpAny_mono h (fun it' s' h' => wpAny_pure (And.intro rfl h')) fun _ _ x => x)))))
      | (refine wpAny_bind (wpAny_rule ?_); show wpAny _ _ (standAt i1.pos >>= _) _ _ s; exact wpAny_bind (wpAny_standAt (wpAny_bind (wpAny_mono h (fun it' s' h' => wpAny_pure (And.intro rfl h')) fun _ _ x => x))))
end

section
variable {X : Cx}
/-- [elt for tg in iter if .. for tg1 in iter1 if ..]: behind the first clause's store and tests the second source's own loop, from which Nx is reached. vs: the block's names; vs1: those of the second target -/
def tLc2D (wi : TI) (g : TG) (tt : TT) (wi1 : TI) (g1 : TG) (tt1 : TT) (tk tv : TE) (vs vs1 : List Nat) : TE := fun σ H Q => wi σ H fun J H1 => ∀ D, H1 D = none → ∃ (t0 : Bool) (W : Nat → Nat → Hp → Prop), (∃ m, W 0 m (upd H1 D (emptyD t0))) ∧ ∀ i m H, W i m H →
  (J.stop i H ∧ Q (.ref D) H) ∨ (J.go i H ∧ ∃ Nx : Hp → Prop, (∀ H', Nx H' → ∃ m', m' < m ∧ W (i + 1) m' H') ∧ ∀ x H', J.yld i H x H' → g x (wipe σ vs) H' fun σ2 H2 => wipe σ2 vs = wipe σ vs ∧ tt σ2 H2 fun b H3 =>
    if b = true then wi1 σ2 H3 fun J1 H4 => ∃ W1 : Nat → Nat → Hp → Prop, (∃ m, W1 0 m H4) ∧ ∀ j k H, W1 j k H →
      (J1.stop j H ∧ Nx H) ∨ (J1.go j H ∧ ∃ Nx1 : Hp → Prop, (∀ H', Nx1 H' → ∃ k', k' < k ∧ W1 (j + 1) k' H') ∧ ∀ x H', J1.yld j H x H' → g1 x (wipe σ2 vs1) H' fun σ3 H5 => wipe σ3 vs1 = wipe σ2 vs1 ∧ tt1 σ3 H5 fun b H6 =>
        if b = true then tk σ3 H6 fun y H7 => tv σ3 H7 fun z H8 => ∃ H9, DPut H8 D y z H9 ∧ Nx1 H9 else Nx1 H6)
    else Nx H3)
theorem lc2_coreD {pins : List (Addr × Obj)} {s : Shared} {σ : St} {H : Hp} {Q : VK} {kx vx tg iter tg1 iter1 : Expr} {ifs ifs1 : List Expr} {scope : Scope} {own : List (Str × Nat)} {vs1 : List Nat} {pos pos' : Pos} {wi wi1 : TI} {g g1 : TG} {tt tt1 : TT} {tk tv : TE} {use : Option (Value → Sem Unit)} {Qf : Value → Shared → Prop}
    (hu : X.A.units + 1 < cLine) (hc : X.calm = true) (hN : X.N.Nodup) (I : Inv X pins σ H s) (hi : PI X tg iter wi) (ok : BlkOk X.N X.env.scope scope own) (hv : ∀ i ∈ vs1, i ∈ own.map (·.2))
    (hg : ∀ (s : Shared) (H : Hp) (C : Addr) (cl : List (Str × Addr)) (fp : List Addr), PG (X.blk s H scope (compEnvC scope cl C X.env) fp) tg g) (ht : ∀ (s : Shared) (H : Hp) (C : Addr) (cl : List (Str × Addr)) (fp : List Addr), PTs (X.blk s H scope (compEnvC scope cl C X.env) fp) ifs tt)
    (hk : ∀ (s : Shared) (H : Hp) (C : Addr) (cl : List (Str × Addr)) (fp : List Addr), PE (X.blk s H scope (compEnvC scope cl C X.env) fp) kx tk) (he : ∀ (s : Shared) (H : Hp) (C : Addr) (cl : List (Str × Addr)) (fp : List Addr), PE (X.blk s H scope (compEnvC scope cl C X.env) fp) vx tv) (hs : ∀ x, foldedSetIterable iter X.env x = pure x)
    (hi1 : ∀ (s : Shared) (H : Hp) (C : Addr) (cl : List (Str × Addr)) (fp : List Addr), PI (X.blk s H scope (compEnvC scope cl C X.env) fp) tg1 iter1 wi1)
    (hg1 : ∀ (s : Shared) (H : Hp) (C : Addr) (cl : List (Str × Addr)) (fp : List Addr), PG (X.blk s H scope (compEnvC scope cl C X.env) fp) tg1 g1)
    (ht1 : ∀ (s : Shared) (H : Hp) (C : Addr) (cl : List (Str × Addr)) (fp : List Addr), PTs (X.blk s H scope (compEnvC scope cl C X.env) fp) ifs1 tt1)
    (hs1 : ∀ env x, foldedSetIterable iter1 env x = pure x)
    (h : tLc2D wi g tt wi1 g1 tt1 tk tv (own.map (·.2)) vs1 σ H Q)
    (hRR : ∀ D C s' m H', Inv X pins σ H' s' → Q (.ref D) H' → s'.heap.Ns C m → FpOk X pins H' C → compPost (model X.prog X.w) X.A X.xe use Qf (.ref D) C (.ok .next) s') :
    wpAny (model X.prog X.w) X.A (comprehension (.DictComp kx vx [⟨tg, iter, ifs, 0⟩, ⟨tg1, iter1, ifs1, 0⟩] scope pos) scope X.env pos' newDict false (eval iter X.env) use) Qf X.xe s := by
  have hfree : ∀ y ∈ scope.names, y.2 = .free → ∃ c, X.env.cells.lookup y.1 = some c := fun y hy e => by
    rcases ok.free y hy e with k | k
    · exact I.ok.has _ (.inl k)
    · exact I.ok.has _ (.inr k)
  refine wpAny_comprehension_free (use := use) rfl hs (closure_ok hfree) ok.kind (fun y hy e => by rw [ok.uniq y hy, e])
    (thn (hi.run pins s σ H _ I h) fun xv s1 hx => thn hx fun itv s2 h2 => ?_)
  obtain ⟨it, fp, tn, J, H2, e, I2, T, st2, f2, q⟩ := h2
  subst e
  refine wpAny_newObj_type (newEnv_comp ?_)
  generalize hD : s2.heap.objs.size = D
  have hDn : H2 D = none := I2.hok.fresh (Nat.le_of_eq hD)
  obtain ⟨t0, W, ⟨m0, w0⟩, turn⟩ := q D hDn
  -- the new list
  generalize hs3 : ({ s2 with heap := s2.heap.push { cls := .type "dict", data := .dict #[] } } : Shared) = s3
  have I3 : Inv X pins σ (upd H2 D (emptyD t0)) s3 := by
    rw [← hs3]
    refine I2.laid (t' := s2.toks) (fun b o e => Heap.get?_push_of_some _ e) (Nat.le_of_eq hD) ?_
    rw [← hD]
    cases t0 with
    | false => exact dk_empty s2.heap I2.big
    | true => exact dt_empty s2.heap I2.big
  have h3 : s3.heap = s2.heap.push { cls := .type "dict", data := .dict #[] } := by rw [← hs3]
  have sz : ∀ b ∈ fp, b < s2.heap.objs.size := fun b hb => by
    obtain ⟨o, e, _⟩ := T.obj _ _ st2 b hb
    exact Heap.lt_size e
  have f3 : ∀ b ∈ fp, FpOk X pins (upd H2 D (emptyD t0)) b ∧ b < s3.heap.objs.size := fun b hb => by
    have hlt := sz b hb
    refine ⟨⟨?_, (f2 b hb).2⟩, by rw [h3, Heap.size_push]; exact Nat.lt_succ_of_lt hlt⟩
    rw [upd_ne (by rw [← hD]; exact Nat.ne_of_lt hlt)]
    exact (f2 b hb).1
  have st3 : tn 0 s3.heap := T.keep _ _ _ st2 fun b _ o e => by rw [h3]; exact Heap.get?_push_of_some _ e
  have I4 := block_start I3 ok hN f3
  have pg := hg s3 (upd H2 D (emptyD t0)) s3.heap.objs.size (cellsFrom (s3.heap.objs.size + 1) scope.names (cloFrom X.env.cells scope.names [])) fp
  have pt := ht s3 (upd H2 D (emptyD t0)) s3.heap.objs.size (cellsFrom (s3.heap.objs.size + 1) scope.names (cloFrom X.env.cells scope.names [])) fp
  have pk := hk s3 (upd H2 D (emptyD t0)) s3.heap.objs.size (cellsFrom (s3.heap.objs.size + 1) scope.names (cloFrom X.env.cells scope.names [])) fp
  have pe := he s3 (upd H2 D (emptyD t0)) s3.heap.objs.size (cellsFrom (s3.heap.objs.size + 1) scope.names (cloFrom X.env.cells scope.names [])) fp
  have pi1 := hi1 s3 (upd H2 D (emptyD t0)) s3.heap.objs.size (cellsFrom (s3.heap.objs.size + 1) scope.names (cloFrom X.env.cells scope.names [])) fp
  have pg1 := hg1 s3 (upd H2 D (emptyD t0)) s3.heap.objs.size (cellsFrom (s3.heap.objs.size + 1) scope.names (cloFrom X.env.cells scope.names [])) fp
  have pt1 := ht1 s3 (upd H2 D (emptyD t0)) s3.heap.objs.size (cellsFrom (s3.heap.objs.size + 1) scope.names (cloFrom X.env.cells scope.names [])) fp
  show codeAny _ _ (.compStart (.DictComp kx vx [⟨tg, iter, ifs, 0⟩, ⟨tg1, iter1, ifs1, 0⟩] scope pos) 0 (.ref it) (.ref D) (compEnvC scope (cellsFrom (s3.heap.objs.size + 1) scope.names (cloFrom X.env.cells scope.names [])) s3.heap.objs.size X.env)) (compPost (model X.prog X.w) X.A X.xe use Qf (.ref D) s3.heap.objs.size) { s3 with heap := pushCells (s3.heap.push { cls := .type "dict", data := .dict #[] }) scope.names }
  have nfp : ∀ b ∈ fp, (upd H2 D (emptyD t0)) b = none := fun b hb => (f3 b hb).1.1
  generalize hce : compEnvC scope (cellsFrom (s3.heap.objs.size + 1) scope.names (cloFrom X.env.cells scope.names [])) s3.heap.objs.size X.env = ce at I4 pg pt pk pe pi1 pg1 pt1 ⊢
  have cL : ce.locals = s3.heap.objs.size := by subst hce; rfl
  generalize hH3 : upd H2 D (emptyD t0) = H3 at I3 I4 pg pt pk pe pi1 pg1 pt1 w0 nfp f3
  generalize hs4 : ({ s3 with heap := pushCells (s3.heap.push { cls := .type "dict", data := .dict #[] }) scope.names } : Shared) = s4 at I4 ⊢
  have st4 : tn 0 s4.heap := T.keep _ _ _ st3 fun b _ o e => by rw [← hs4]; exact pushCells_keeps _ _ _ _ (Heap.get?_push_of_some _ e)
  have stat : ∀ {σ' : St} {H' : Hp} {s' : Shared}, Inv (X.blk s3 H3 scope ce fp) [] σ' H' s' → (∀ b ∈ fp, H' b = none) → ∀ b ∈ fp, FpOk (X.blk s3 H3 scope ce fp) [] H' b := fun {σ' H' s'} I' hn b hb =>
    ⟨hn b hb, (I'.ok.exf b hb).1, I'.ok.exfs b hb, .inl hb, fun x c e => (I'.ok.exf b hb).2 x c e, fun p hp => absurd (show p ∈ ([] : List (Addr × Obj)) ++ [] from hp) (by simp)⟩
  have loop : codeAny (model X.prog X.w) X.A (.compLoop (.DictComp kx vx [⟨tg, iter, ifs, 0⟩, ⟨tg1, iter1, ifs1, 0⟩] scope pos) 0 (.ref it) (.ref D) ce) (compPost (model X.prog X.w) X.A X.xe use Qf (.ref D) s3.heap.objs.size) s4 := by
    refine compLoop2_outD (hs1 ce) (fun n s' => ∃ i H', Inv (X.blk s3 H3 scope ce fp) [] (wipe σ (own.map (·.2))) H' s' ∧ tn i s'.heap ∧ (∀ b ∈ fp, H' b = none) ∧ W i n H') ?_ m0 ⟨0, H3, I4, st4, nfp, w0⟩
    rintro n s5 ⟨i, H5, I5, st5, n5, w5⟩
    rcases turn i n H5 w5 with ⟨stop, qq⟩ | ⟨go, Nx, hNx, step⟩
    · have td := T.done (X.blk s3 H3 scope ce fp) rfl rfl rfl hc i [] s5 _ H5 (fun _ _ => False) I5 (stat I5 n5) st5 stop
      refine thnF td fun r s6 ⟨hr, I6⟩ => ?_
      subst hr
      -- back in the def's context
      have I7 : Inv X pins σ H5 s6 := I3.call' (ch := fp) I6.os I6.base I6.hok I6.bare fun b hb => ⟨(f3 b hb).1.2.2.2.1, (f3 b hb).1.2.1, (f3 b hb).1.2.2.2.2.1, (f3 b hb).1.2.2.2.2.2⟩
      have nC : H5 s3.heap.objs.size = none := by
        have z : H5 ce.locals = none := I6.free
        rw [cL] at z
        exact z
      obtain ⟨m, hn, _⟩ := I6.loc
      have hn : s6.heap.Ns ce.locals m := hn
      rw [cL] at hn
      exact hRR D s3.heap.objs.size s6 m H5 I7 qq hn (I3.fpOk (Nat.le_refl _) nC)
    · have ti := T.item (X.blk s3 H3 scope ce fp) rfl rfl rfl hc i [] s5 _ H5 (fun _ _ => False) I5 (stat I5 n5) st5 go
      refine thnF ti fun r s6 ⟨u, hr, h6⟩ => ?_
      subst hr
      refine thnF h6 fun _ s7 ⟨x, H7, I7, r7, y7, st7, n7⟩ => ?_
      have I7' := I7.pinned (stat I7 n7) (T.obj _ _ st7)
      refine thnF (pg.run _ s7 _ H7 x u _ I7' r7 (step x H7 y7)) fun _ s8 ⟨σ8, H8, I8, hw8, q8⟩ => ?_
      refine thnF (pt.run _ s8 σ8 H8 _ I8 q8) fun b s9 ⟨H9, I9, q9⟩ => ?_
      -- the turn's end, from any slots that know what the block knew at its start
      have fin : ∀ {σ9 : St} {s' : Shared} {H' : Hp}, Inv (X.blk s3 H3 scope ce fp) ([] ++ pinsAt fp s7.heap) σ9 H' s' → (wipe σ (own.map (·.2))).length = σ9.length → (∀ (j : Nat) v, (wipe σ (own.map (·.2)))[j]? = some (some v) → σ9[j]? = some (some v)) → Nx H' →
          ∃ m, m < n ∧ ∃ i H', Inv (X.blk s3 H3 scope ce fp) [] (wipe σ (own.map (·.2))) H' s' ∧ tn i s'.heap ∧ (∀ b ∈ fp, H' b = none) ∧ W i m H' := fun {σ9 s' H'} I' hl hk nx => by
        obtain ⟨m', hm, w'⟩ := hNx H' nx
        have pin' : ∀ b ∈ fp, ∀ o, s7.heap.get? b = some o → s'.heap.get? b = some o ∧ H' b = none := fun b hb o e =>
          let z := I'.pin (b, o) (List.mem_append_right _ (List.mem_append_right _ (mem_pinsAt hb e)))
          ⟨z.1, z.2.1⟩
        refine ⟨m', hm, i + 1, H', (I'.unpinned (pins := [])).weak hl hk, T.keep _ _ _ st7 fun b hb o e => (pin' b hb o e).1, fun b hb => ?_, w'⟩
        obtain ⟨o, e, _⟩ := T.obj _ _ st7 b hb
        exact (pin' b hb o e).2
      have hl8 : (wipe σ (own.map (·.2))).length = σ8.length := by rw [← hw8, wipe_length]
      have hk8 : ∀ (j : Nat) v, (wipe σ (own.map (·.2)))[j]? = some (some v) → σ8[j]? = some (some v) := fun j v e => by
        rw [← hw8] at e
        exact (wipe_some e).1
      have hk9 : ∀ (j : Nat) v, (wipe σ (own.map (·.2)))[j]? = some (some v) → (wipe σ8 vs1)[j]? = some (some v) := fun j v e => by
        rw [← hw8] at e
        obtain ⟨e1, e2⟩ := wipe_some e
        rw [wipe_out fun z => e2 (hv j z)]
        exact e1
      cases b with
      | false =>
        simp only [Bool.false_eq_true, if_false] at q9 ⊢
        exact fin I9 hl8 hk8 q9
      | true =>
        simp only [if_true] at q9 ⊢
        refine thnF (pi1.run _ s9 σ8 H9 _ I9 q9) fun xv s10 hx => thnF hx fun itv s11 h11 => ?_
        obtain ⟨it1, fp1, tn1, J1, H11, e1, I11, T1, st11, f11, W1, ⟨m1, w1⟩, turn1⟩ := h11
        subst e1
        -- the inner loop
        have stat1 : ∀ {H' : Hp}, (∀ b ∈ fp1, H' b = none) → ∀ b ∈ fp1, FpOk (X.blk s3 H3 scope ce fp) ([] ++ pinsAt fp s7.heap) H' b := fun hn b hb => ⟨hn b hb, (f11 b hb).2⟩
        have loop1 : codeAny (model X.prog X.w) X.A (.compLoop (.DictComp kx vx [⟨tg, iter, ifs, 0⟩, ⟨tg1, iter1, ifs1, 0⟩] scope pos) 1 (.ref it1) (.ref D) ce)
            (fun r s' => match r with
              | .ok _ => ∃ m, m < n ∧ ∃ i H', Inv (X.blk s3 H3 scope ce fp) [] (wipe σ (own.map (·.2))) H' s' ∧ tn i s'.heap ∧ (∀ b ∈ fp, H' b = none) ∧ W i m H'
              | .error _ => False) s11 := by
          refine compLoop2_inD (fun k s' => ∃ j H', Inv (X.blk s3 H3 scope ce fp) ([] ++ pinsAt fp s7.heap) (wipe σ8 vs1) H' s' ∧ tn1 j s'.heap ∧ (∀ b ∈ fp1, H' b = none) ∧ W1 j k H') ?_ m1 ⟨0, H11, I11.weak (wipe_length _ _) (fun j v e => (wipe_some e).1), st11, fun b hb => (f11 b hb).1, w1⟩
          rintro k s12 ⟨j, H12, I12, st12, n12, w12⟩
          rcases turn1 j k H12 w12 with ⟨stop1, nx1⟩ | ⟨go1, Nx1, hNx1, step1⟩
          · refine thnF (T1.done (X.blk s3 H3 scope ce fp) rfl rfl rfl hc j _ s12 (wipe σ8 vs1) H12 (fun _ _ => False) I12 (stat1 n12) st12 stop1) fun r s13 ⟨hr, I13⟩ => ?_
            subst hr
            exact fin I13 (hl8.trans (wipe_length σ8 vs1).symm) hk9 nx1
          · refine thnF (T1.item (X.blk s3 H3 scope ce fp) rfl rfl rfl hc j _ s12 (wipe σ8 vs1) H12 (fun _ _ => False) I12 (stat1 n12) st12 go1) fun r s13 ⟨u1, hr, h13⟩ => ?_
            subst hr
            refine thnF h13 fun _ s14 ⟨x1, H14, I14, r14, y14, st14, n14⟩ => ?_
            have I14' := I14.pinned (stat1 n14) (T1.obj _ _ st14)
            refine thnF (pg1.run _ s14 (wipe σ8 vs1) H14 x1 u1 _ I14' r14 (step1 x1 H14 y14)) fun _ s15 ⟨σ15, H15, I15, hw15, q15⟩ => ?_
            refine thnF (pt1.run _ s15 σ15 H15 _ I15 q15) fun b1 s16 ⟨H16, I16, q16⟩ => ?_
            have fin1 : ∀ {s' : Shared} {H' : Hp}, Inv (X.blk s3 H3 scope ce fp) (([] ++ pinsAt fp s7.heap) ++ pinsAt fp1 s14.heap) σ15 H' s' → Nx1 H' → ∃ m, m < k ∧ ∃ j H', Inv (X.blk s3 H3 scope ce fp) ([] ++ pinsAt fp s7.heap) (wipe σ8 vs1) H' s' ∧ tn1 j s'.heap ∧ (∀ b ∈ fp1, H' b = none) ∧ W1 j m H' := fun {s' H'} I' nx => by
              obtain ⟨m', hm, w'⟩ := hNx1 H' nx
              have pin' : ∀ b ∈ fp1, ∀ o, s14.heap.get? b = some o → s'.heap.get? b = some o ∧ H' b = none := fun b hb o e =>
                let z := I'.pin (b, o) (List.mem_append_right _ (List.mem_append_right _ (mem_pinsAt hb e)))
                ⟨z.1, z.2.1⟩
              refine ⟨m', hm, j + 1, H', I'.unpinned.weak (by rw [← hw15, wipe_length]) (fun j v e => by rw [← hw15] at e; exact (wipe_some e).1), T1.keep _ _ _ st14 fun b hb o e => (pin' b hb o e).1, fun b hb => ?_, w'⟩
              obtain ⟨o, e, _⟩ := T1.obj _ _ st14 b hb
              exact (pin' b hb o e).2
            cases b1 with
            | false =>
              simp only [Bool.false_eq_true, if_false] at q16 ⊢
              exact fin1 I16 q16
            | true =>
              simp only [if_true] at q16 ⊢
              refine thnF (pk.run _ s16 σ15 H16 _ I16 q16) fun z s17 ⟨yk, H17, I17, r17, q17⟩ => ?_
              refine thnF (pe.run _ s17 σ15 H17 _ I17 q17) fun z2 s18 ⟨yv, H18, I18, r18, H19, dp, nx⟩ => ?_
              exact d_dictSetP (X := X.blk s3 H3 scope ce fp) hu I18 dp r17 r18 fun s19 I19 => fin1 I19 nx
        exact compStart1_okD loop1 (T1.self X.A 0 _ _ _ st11 loop1)
  exact codeAny_compStart_dict loop (T.self X.A 0 _ _ _ st4 loop)
/-- as a value -/
theorem pe_lc2D {kx vx tg iter tg1 iter1 : Expr} {ifs ifs1 : List Expr} {scope : Scope} {own : List (Str × Nat)} {vs1 : List Nat} {pos : Pos} {wi wi1 : TI} {g g1 : TG} {tt tt1 : TT} {tk tv : TE} (hu : X.A.units + 1 < cLine) (hc : X.calm = true) (hN : X.N.Nodup) (hi : PI X tg iter wi) (ok : BlkOk X.N X.env.scope scope own) (hv : ∀ i ∈ vs1, i ∈ own.map (·.2))
    (hg : ∀ (s : Shared) (H : Hp) (C : Addr) (cl : List (Str × Addr)) (fp : List Addr), PG (X.blk s H scope (compEnvC scope cl C X.env) fp) tg g) (ht : ∀ (s : Shared) (H : Hp) (C : Addr) (cl : List (Str × Addr)) (fp : List Addr), PTs (X.blk s H scope (compEnvC scope cl C X.env) fp) ifs tt)
    (hi1 : ∀ (s : Shared) (H : Hp) (C : Addr) (cl : List (Str × Addr)) (fp : List Addr), PI (X.blk s H scope (compEnvC scope cl C X.env) fp) tg1 iter1 wi1)
    (hg1 : ∀ (s : Shared) (H : Hp) (C : Addr) (cl : List (Str × Addr)) (fp : List Addr), PG (X.blk s H scope (compEnvC scope cl C X.env) fp) tg1 g1) (ht1 : ∀ (s : Shared) (H : Hp) (C : Addr) (cl : List (Str × Addr)) (fp : List Addr), PTs (X.blk s H scope (compEnvC scope cl C X.env) fp) ifs1 tt1)
    (hk : ∀ (s : Shared) (H : Hp) (C : Addr) (cl : List (Str × Addr)) (fp : List Addr), PE (X.blk s H scope (compEnvC scope cl C X.env) fp) kx tk) (he : ∀ (s : Shared) (H : Hp) (C : Addr) (cl : List (Str × Addr)) (fp : List Addr), PE (X.blk s H scope (compEnvC scope cl C X.env) fp) vx tv) (hs : ∀ x, foldedSetIterable iter X.env x = pure x := by intro _; rfl) (hs1 : ∀ env x, foldedSetIterable iter1 env x = pure x := by intro _ _; rfl) :
    PE X (.DictComp kx vx [⟨tg, iter, ifs, 0⟩, ⟨tg1, iter1, ifs1, 0⟩] scope pos) (tLc2D wi g tt wi1 g1 tt1 tk tv (own.map (·.2)) vs1) := by
  refine ⟨fun pins s σ H Q I h => ?_⟩
  rw [arm_eval_DictComp]
  refine lc2_coreD hu hc hN I hi ok hv hg ht hk he hs hi1 hg1 ht1 hs1 h fun D C s' m H' I' q hn f => ⟨m, hn, fun h'' sb => ?_⟩
  obtain ⟨f0, f1, f2, f3, f4, f5⟩ := f
  exact ⟨.ref D, H', I'.turned (t' := s'.toks) (fun b o hb e => (sb.2 b hb).trans e) f0 f1 f3 f4 f5, rfl, q⟩
end
end L2
set_option Elab.async false
set_option linter.all false
set_option maxRecDepth 100000
set_option maxHeartbeats 0
set_option autoImplicit false
/-! Wd25: {k: v for t in it if c for t1 in it1 if c1}. -/
namespace Wd
open PySem PySem.Spec PyProof.Rows L2
/-- the inner loop -/
def dcIn (t : Bool) (tg : Tg) (c : EM Bool) (k v : EM D) : List D → Env → List (D × D) → S → Res (List (D × D))
  | [], _, acc, s => .ok acc s
  | d :: ds, l, acc, s => match tg.put d l with
    | none => .bad
    | some l1 => match c l1 s with
      | .ok true s1 => (match k l1 s1 with
        | .ok x s2 => (match v l1 s2 with
          | .ok y s3 => if x.keyOf t && decide (acc.length < big) then dcIn t tg c k v ds l (dput acc x y) s3 else .bad
          | _ => .bad)
        | _ => .bad)
      | .ok false s1 => dcIn t tg c k v ds l acc s1
      | _ => .bad
/-- the outer loop -/
def dcOut (t : Bool) (vs1 : List Nat) (tg : Tg) (c : EM Bool) (tg1 : Tg) (it1 : EM (List D)) (c1 : EM Bool) (k v : EM D) : List D → Env → List (D × D) → S → Res (List (D × D))
  | [], _, acc, s => .ok acc s
  | d :: ds, l, acc, s => match tg.put d l with
    | none => .bad
    | some l1 => match c l1 s with
      | .ok true s1 => (match it1 l1 s1 with
        | .ok xs s2 => (match dcIn t tg1 c1 k v xs (wipeE l1 vs1) acc s2 with
          | .ok acc' s3 => dcOut t vs1 tg c tg1 it1 c1 k v ds l acc' s3
          | _ => .bad)
        | _ => .bad)
      | .ok false s1 => dcOut t vs1 tg c tg1 it1 c1 k v ds l acc s1
      | _ => .bad
def eDc2 (t : Bool) (vs vs1 : List Nat) (tg : Tg) (it : EM (List D)) (c : EM Bool) (tg1 : Tg) (it1 : EM (List D)) (c1 : EM Bool) (k v : EM D) : EM D := fun l s => (it l s).bind fun ds s1 => (dcOut t vs1 tg c tg1 it1 c1 k v ds (wipeE l vs) [] s1).bind fun acc s2 => .ok (.dct t acc) s2
section
variable {X : Cx} {c : Cc} {W : WX} {pos p1 : Pos} {a b e tg : Expr} {es ifs ifs1 : List Expr} {K : PySem.W.Frag}
theorem acc_put {θ θ1 : List Addr} {F F1 H H1 : Hp} {s s1 : S} {o : O} {D : Addr} (q1 : RS K c θ1 F1 H1 s1) (hD : H1 D = none) (t : Step θ1 F1 H1 θ F H) (r : RS K c θ F H s) (ro : RelO K θ F o (H D)) (nD : D ∉ θ) (fD : F D = none) (ho : HO) :
    Step θ1 F1 H1 θ F (upd H D ho) ∧ RS K c θ F (upd H D ho) s := by
  obtain ⟨h0, e0, nt⟩ := ro.there
  have st : Step θ1 F1 H1 θ F (upd H D ho) := ⟨t.pre, t.frz, t.new, fun b u e n nt => by
    rw [upd_ne (ne_of_none e hD)]
    exact t.keep b u e n nt, fun b hb => by
    by_cases hba : b = D
    · subst hba
      rw [upd_same]
      exact fun z => nomatch z
    · rw [upd_ne hba]
      exact t.dom b hb⟩
  exact ⟨st, r.put e0 nD fD (RelO.kind (by rw [← e0]; exact ro)) (c.mono _ _ _ _ _ _ st q1.more)⟩
/-- what is known of the new dict -/
structure AccD (K : PySem.W.Frag) (θ : List Addr) (F H : Hp) (ad : Addr) (t : Bool) (kvs : List (D × D)) : Prop where
  ro : RelO K θ F (.dct t kvs) (H ad)
  n : ad ∉ θ
  f : F ad = none
theorem AccD.step {θ θ' : List Addr} {F F' H H' : Hp} {ad : Addr} {t : Bool} {kvs : List (D × D)} (r : AccD K θ F H ad t kvs) (st : Step θ F H θ' F' H') : AccD K θ' F' H' ad t kvs := by
  obtain ⟨ro, n, f⟩ := r
  obtain ⟨ho, e, nt⟩ := ro.there
  obtain ⟨u, e4, _⟩ := id st.pre
  refine ⟨?_, st.notin (by rw [e]; exact fun z => nomatch z) n, (st.new ad ho e n nt (ro.noTup e)).trans f⟩
  rw [st.keep ad ho e n nt, ← e, e4]
  exact ro.mono st.frz
theorem RL.upd {θ : List Addr} {F H H0 : Hp} {l : Env} {σ : L2.St} {ad : Addr} {ho : HO} (r : RL K c θ F H H0 l σ) (h : ∀ (i : Nat) (o : O), l[i]? = some (some (.own o)) → σ[i]? ≠ some (some (.ref ad))) : RL K c θ F (upd H ad ho) H0 l σ := by
  refine ⟨r.loc, fun i o e => ?_, r.pin, r.len⟩
  obtain ⟨a, e1, q, n, m, z, u⟩ := r.own i o e
  have ha : a ≠ ad := fun z => h i o e (by rw [e1, z])
  exact ⟨a, e1, by rw [upd_ne ha]; exact q, n, m, z, u⟩
theorem dcIn_rd {t : Bool} {tg1 : Tg} {c1 : EM Bool} {k v : EM D} {vs1 : List Nat} {Nx : Hp → Prop} {G : Res (List (D × D)) → Prop} {f : List (D × D) → S → Res (List (D × D))} {θ1 θ4 : List Addr} {F1 F4 H1 H4 H0 : Hp} {s1 s4 : S} {l3 : Env} {σ2 : L2.St} {xs : List D} {kvs : List (D × D)} {J1 : It} {ad : Addr}
    (hbad : ¬ G .bad) (hv : ∀ j ∈ tg1.slots, j ∈ vs1) (hp : ∀ p ∈ c.pin, p.1 ∉ vs1) (q1 : RS K c θ1 F1 H1 s1) (hD : H1 ad = none) (t4 : Step θ1 F1 H1 θ4 F4 H4) (r4 : RS K c θ4 F4 H4 s4) (a4 : AccD K θ4 F4 H4 ad t kvs) (l4 : RL K c θ4 F4 H4 H0 l3 σ2)
    (ho : ∀ (i : Nat) (o : O), l3[i]? = some (some (.own o)) → σ2[i]? ≠ some (some (.ref ad))) (hJ : Walk K c θ4 F4 J1 xs)
    (hN : ∀ θ' F' H' s' kvs, Step θ1 F1 H1 θ' F' H' → RS K c θ' F' H' s' → AccD K θ' F' H' ad t kvs → G (f kvs s') → Nx H')
    (g : G (match dcIn t tg1 c1 k v xs (wipeE l3 vs1) kvs s4 with | .ok a s3 => f a s3 | _ => .bad)) :
    ∃ W1 : Nat → Nat → Hp → Prop, (∃ m, W1 0 m H4) ∧ ∀ j k1 H, W1 j k1 H → (J1.stop j H ∧ Nx H) ∨ (J1.go j H ∧ ∃ Nx1 : Hp → Prop, (∀ H', Nx1 H' → ∃ k', k' < k1 ∧ W1 (j + 1) k' H') ∧ ∀ x H', J1.yld j H x H' → tgR K c tg1 x (wipe σ2 vs1) H' fun σ3 H5 => wipe σ3 vs1 = wipe σ2 vs1 ∧ rd K c W0 relB c1 σ3 H5 fun b H6 =>
      if b = true then rd K c W0 rel k σ3 H6 fun y H7 => rd K c W0 rel v σ3 H7 fun z H8 => ∃ H9, DPut H8 ad y z H9 ∧ Nx1 H9 else Nx1 H6) := by
  refine ⟨fun j m H' => m = xs.length - j ∧ j ≤ xs.length ∧ ∃ s' θ' F' kvs, Step θ1 F1 H1 θ' F' H' ∧ Grow θ4 F4 θ' F' ∧ RS K c θ' F' H' s' ∧ AccD K θ' F' H' ad t kvs ∧ RL K c θ' F' H' H0 l3 σ2 ∧ G (match dcIn t tg1 c1 k v (xs.drop j) (wipeE l3 vs1) kvs s' with | .ok a s3 => f a s3 | _ => .bad),
    ⟨xs.length, by simp, Nat.zero_le _, s4, θ4, F4, kvs, t4, .refl, r4, a4, l4, g⟩, ?_⟩
  rintro i m H' ⟨rfl, hi, s', θ', F', kvs, t', gr', q', acc, rl, p'⟩
  obtain ⟨wi, wstop⟩ := hJ θ' F' H' s' gr'.1 gr'.2 q'
  by_cases hlt : i < xs.length
  · right
    have ed : xs[i]? = some xs[i] := List.getElem?_eq_getElem hlt
    obtain ⟨go, yl⟩ := wi i xs[i] ed
    rw [List.drop_eq_getElem_cons hlt] at p'
    refine ⟨go, fun H3 => ∃ s' θ' F' kvs, Step θ1 F1 H1 θ' F' H3 ∧ Grow θ4 F4 θ' F' ∧ RS K c θ' F' H3 s' ∧ AccD K θ' F' H3 ad t kvs ∧ RL K c θ' F' H3 H0 l3 σ2 ∧ G (match dcIn t tg1 c1 k v (xs.drop (i + 1)) (wipeE l3 vs1) kvs s' with | .ok a s3 => f a s3 | _ => .bad), fun H3 hN => ⟨xs.length - (i + 1), by omega, rfl, by omega, hN⟩, fun x Hx y => ?_⟩
    obtain ⟨Fx, tx, rx, qx⟩ := yl x Hx y
    have lx := (rl.step tx).wipe (vs := vs1) hp
    unfold dcIn at p'
    cases ep : tg1.put xs[i] (wipeE l3 vs1) with
    | none =>
      rw [ep] at p'
      exact (hbad p').elim
    | some l5 =>
      rw [ep] at p'
      refine ⟨wipeE l3 vs1, s', θ', Fx, H0, xs[i], l5, rx, lx, qx, ep, fun σ4 l4' n4 o4 => ⟨wipe_same n4 o4 hv, ?_⟩⟩
      refine ⟨l5, s', θ', Fx, H0, rx, l4', ?_⟩
      dsimp only at p'
      cases ec : c1 l5 s' with
      | exc x2 s2 =>
        rw [ec] at p'
        exact (hbad p').elim
      | bad =>
        rw [ec] at p'
        exact (hbad p').elim
      | ok bb s2 =>
        rw [ec] at p'
        intro b' θ5 F5 H5 t5 r5 e5
        cases e5
        have t15 := (t'.trans tx).trans t5
        have g5 : Grow θ4 F4 θ5 F5 := gr'.trans (tx.grow.trans t5.grow)
        have a5 := (acc.step tx).step t5
        have l5' := (rl.step tx).step t5
        cases bb with
        | false =>
          rw [if_neg Bool.false_ne_true]
          exact ⟨s2, θ5, F5, kvs, t15, g5, r5, a5, l5', p'⟩
        | true =>
          rw [if_pos rfl]
          refine ⟨l5, s2, θ5, F5, H0, r5, l4'.step t5, ?_⟩
          dsimp only at p'
          cases ek : k l5 s2 with
          | exc x2 s3 =>
            rw [ek] at p'
            exact (hbad p').elim
          | bad =>
            rw [ek] at p'
            exact (hbad p').elim
          | ok kk s3 =>
            rw [ek] at p'
            intro yv θ6 F6 H6 t6 r6 h6
            refine ⟨l5, s3, θ6, F6, H0, r6, (l4'.step t5).step t6, ?_⟩
            dsimp only at p'
            cases ev : v l5 s3 with
            | exc x2 s4 =>
              rw [ev] at p'
              exact (hbad p').elim
            | bad =>
              rw [ev] at p'
              exact (hbad p').elim
            | ok vv s4 =>
              rw [ev] at p'
              intro zv θ7 F7 H7 t7 r7 h7
              dsimp only at p'
              by_cases hc : (kk.keyOf t && decide (kvs.length < big)) = true
              · rw [if_pos hc] at p'
                rw [Bool.and_eq_true, decide_eq_true_eq] at hc
                have a7 := (a5.step t6).step t7
                obtain ⟨hob, dp, ro⟩ := dput_of r7 a7.ro (lasts_rel _ _ _ H6 _ _ _ _ _ _ t7 h6) hc.1 h7 hc.2
                obtain ⟨st8, r8⟩ := acc_put q1 hD ((t15.trans t6).trans t7) r7 a7.ro a7.n a7.f hob
                exact ⟨_, dp, s4, θ7, F7, dput kvs kk vv, st8, g5.trans (t6.grow.trans t7.grow), r8, ⟨by rw [upd_same]; exact ro, a7.n, a7.f⟩, ((l5'.step t6).step t7).upd ho, p'⟩
              · rw [if_neg hc] at p'
                exact (hbad p').elim
  · left
    have e : i = xs.length := by omega
    subst e
    rw [List.drop_length] at p'
    exact ⟨wstop, hN θ' F' H' s' kvs t' q' acc p'⟩
mutual
theorem put_own : ∀ {t : Tg} {d : D} {l l' : Env} {i : Nat} {o : O}, t.put d l = some l' → l'[i]? = some (some (.own o)) → l[i]? = some (some (.own o)) ∧ i ∉ t.slots
  | .nm j, d, l, l', i, o, h, e => by
    unfold Tg.put at h
    cases h
    by_cases hj : j = i
    · subst hj
      by_cases hl : j < l.length
      · rw [List.getElem?_set_self hl] at e
        cases e
      · rw [List.getElem?_eq_none (by rw [List.length_set]; omega)] at e
        cases e
    · rw [List.getElem?_set_ne hj] at e
      exact ⟨e, by unfold Tg.slots; simpa using Ne.symm hj⟩
  | .tp ts, d, l, l', i, o, h, e => by
    cases d with
    | tup ds =>
      unfold Tg.put at h
      have := puts_own h e
      unfold Tg.slots
      exact this
    | _ =>
      unfold Tg.put at h
      cases h
theorem puts_own : ∀ {ts : List Tg} {ds : List D} {l l' : Env} {i : Nat} {o : O}, Tg.puts ts ds l = some l' → l'[i]? = some (some (.own o)) → l[i]? = some (some (.own o)) ∧ i ∉ Tg.slotss ts
  | [], [], l, l', i, o, h, e => by
    unfold Tg.puts at h
    cases h
    exact ⟨e, by simp [Tg.slotss]⟩
  | [], _ :: _, l, l', i, o, h, e => by
    unfold Tg.puts at h
    cases h
  | _ :: _, [], l, l', i, o, h, e => by
    unfold Tg.puts at h
    cases h
  | t :: ts, d :: ds, l, l', i, o, h, e => by
    unfold Tg.puts at h
    cases q : t.put d l with
    | none =>
      rw [q] at h
      cases h
    | some l1 =>
      rw [q] at h
      obtain ⟨e1, n1⟩ := puts_own h e
      obtain ⟨e2, n2⟩ := put_own q e1
      refine ⟨e2, ?_⟩
      unfold Tg.slotss
      rw [List.mem_append, not_or]
      exact ⟨n2, n1⟩
end
theorem dc2_rd {t : Bool} {vs vs1 : List Nat} {tg tg1 : Tg} {it it1 : EM (List D)} {cd cd1 : EM Bool} {k v : EM D} (hv : ∀ j ∈ tg.slots, j ∈ vs) (hv1 : ∀ j ∈ tg1.slots, j ∈ vs1) (hp : ∀ p ∈ c.pin, p.1 ∉ vs) (hp1 : ∀ p ∈ c.pin, p.1 ∉ vs1) :
    ∀ σ H Q, rd K c W relF (eDc2 t vs vs1 tg it cd tg1 it1 cd1 k v) σ H Q → tLc2D (rd K c W (relI c) it) (tgR K c tg) (rd K c W0 relB cd) (rd K c W0 (relI c) it1) (tgR K c tg1) (rd K c W0 relB cd1) (rd K c W0 rel k) (rd K c W0 rel v) vs vs1 σ H Q :=
  fun σ H Q ⟨l, s, θ, F, H0, r1, r2, p⟩ => by
    refine rd_bind older_relF r1 r2 p fun ds s1 J θ1 F1 H1 _ t1 q1 l1 hJ p1 => ?_
    intro A hA
    have own1 : ∀ (i : Nat) (o : O), (wipeE l vs)[i]? = some (some (.own o)) → (wipe σ vs)[i]? ≠ some (some (.ref A)) := fun i o e e2 => by
      obtain ⟨e1, n⟩ := wipeE_some e
      obtain ⟨a, e3, q, _⟩ := l1.own i o e1
      rw [wipe_at n, e3] at e2
      cases e2
      obtain ⟨ho, e4, _⟩ := q.there
      rw [hA] at e4
      cases e4
    refine ⟨t, fun i k1 H' => k1 = ds.length - i ∧ i ≤ ds.length ∧ ∃ s' θ' F' kvs, Step θ1 F1 H1 θ' F' H' ∧ RS K c θ' F' H' s' ∧ AccD K θ' F' H' A t kvs ∧
        Post K c θ1 F1 H1 relF ((dcOut t vs1 tg cd tg1 it1 cd1 k v (ds.drop i) (wipeE l vs) kvs s').bind fun acc s2 => .ok (.dct t acc) s2) Q (fun cls d H' => W cls d σ H'),
      ⟨ds.length, by simp, Nat.zero_le _, s1, θ1, F1, [], .made hA, q1.made hA, ⟨?_, q1.nth hA, q1.non hA⟩, p1⟩, ?_⟩
    · rw [upd_same]
      cases t with
      | false => exact ⟨_, rfl, .nil⟩
      | true => exact ⟨_, rfl, .nil⟩
    rintro i k1 H' ⟨rfl, hi, s', θ', F', kvs, t', q', acc, p'⟩
    obtain ⟨wi, wstop⟩ := hJ θ' F' H' s' t'.grow.1 t'.grow.2 q'
    have l' := (l1.step t').wipe hp
    by_cases hlt : i < ds.length
    · right
      have ed : ds[i]? = some ds[i] := List.getElem?_eq_getElem hlt
      obtain ⟨go, yl⟩ := wi i ds[i] ed
      rw [List.drop_eq_getElem_cons hlt] at p'
      refine ⟨go, fun H3 => ∃ s' θ' F' kvs, Step θ1 F1 H1 θ' F' H3 ∧ RS K c θ' F' H3 s' ∧ AccD K θ' F' H3 A t kvs ∧
        Post K c θ1 F1 H1 relF ((dcOut t vs1 tg cd tg1 it1 cd1 k v (ds.drop (i + 1)) (wipeE l vs) kvs s').bind fun acc s2 => .ok (.dct t acc) s2) Q (fun cls d H' => W cls d σ H'), fun H3 hN => ⟨ds.length - (i + 1), by omega, rfl, by omega, hN⟩, fun x Hx y => ?_⟩
      obtain ⟨Fx, tx, rx, qx⟩ := yl x Hx y
      have lx := l'.step tx
      unfold dcOut at p'
      cases ep : tg.put ds[i] (wipeE l vs) with
      | none =>
        rw [ep] at p'
        exact p'.elim
      | some l3 =>
        rw [ep] at p'
        refine ⟨wipeE l vs, s', θ', Fx, H0, ds[i], l3, rx, lx, qx, ep, fun σ4 l4 n4 o4 => ⟨wipe_same n4 o4 hv, ?_⟩⟩
        have own3 : ∀ (i : Nat) (o : O), l3[i]? = some (some (.own o)) → σ4[i]? ≠ some (some (.ref A)) := fun i o e => by
          obtain ⟨e1, n⟩ := put_own ep e
          rw [o4 i n]
          exact own1 i o e1
        refine ⟨l3, s', θ', Fx, H0, rx, l4, ?_⟩
        dsimp only at p'
        cases ec : cd l3 s' with
        | exc x2 s2 =>
          rw [ec] at p'
          exact p'.elim
        | bad =>
          rw [ec] at p'
          exact p'.elim
        | ok bb s2 =>
          rw [ec] at p'
          intro b' θ5 F5 H5 t5 r5 e5
          cases e5
          have a5 := (acc.step tx).step t5
          cases bb with
          | false =>
            rw [if_neg Bool.false_ne_true]
            exact ⟨s2, θ5, F5, kvs, (t'.trans tx).trans t5, r5, a5, p'⟩
          | true =>
            rw [if_pos rfl]
            refine ⟨l3, s2, θ5, F5, H0, r5, l4.step t5, ?_⟩
            dsimp only at p'
            cases ei : it1 l3 s2 with
            | exc x2 s3 =>
              rw [ei] at p'
              exact p'.elim
            | bad =>
              rw [ei] at p'
              exact p'.elim
            | ok xs s3 =>
              rw [ei] at p'
              intro J1 θ6 F6 H6 t6 r6 h6
              dsimp only at p'
              refine dcIn_rd (G := fun r => Post K c θ1 F1 H1 relF (r.bind fun acc s2 => .ok (.dct t acc) s2) Q (fun cls d H' => W cls d σ H')) (f := fun acc' s3 => dcOut t vs1 tg cd tg1 it1 cd1 k v (ds.drop (i + 1)) (wipeE l vs) acc' s3) (fun z => z) hv1 hp1 q1 hA (((t'.trans tx).trans t5).trans t6) r6 (a5.step t6) ((l4.step t5).step t6) own3 h6 (fun θ8 F8 H8 s8 kvs8 t8 r8 a8 p8 => ⟨s8, θ8, F8, kvs8, t8, r8, a8, p8⟩) p'
    · left
      have e : i = ds.length := by omega
      subst e
      rw [List.drop_length] at p'
      refine ⟨wstop, ?_⟩
      have p'' : Post K c θ1 F1 H1 relF (Res.ok (D.dct t kvs) s') Q (fun cls d H' => W cls d σ H') := p'
      exact p'' (.ref A) θ' F' H' t' q' ⟨.dct t kvs, A, rfl, rfl, acc.ro, acc.n, acc.f, hA⟩
/-- {k: v for .. in .. for .. in ..} -/
theorem g_dc2 {kx vx iter iter1 : Expr} {ta ta1 : Expr} {scope : Scope} {own : List (Str × Nat)} {t : Bool} {vs1 : List Nat} {tg tg1 : Tg} {it it1 : EM (List D)} {cd cd1 : EM Bool} {k v : EM D} (hu : X.A.units + 1 < cLine) (hN : X.N.Nodup) (hi : GI X c W ta iter it) (ok : BlkOk X.N X.env.scope scope own)
    (hg : ∀ (s : Shared) (H : Hp) (C : Addr) (cl : List (Str × Addr)) (fp : List Addr), GG (X.blk s H scope (compEnvC scope cl C X.env) fp) c ta tg) (ht : ∀ (s : Shared) (H : Hp) (C : Addr) (cl : List (Str × Addr)) (fp : List Addr), GTs (X.blk s H scope (compEnvC scope cl C X.env) fp) c W0 ifs cd)
    (hi1 : ∀ (s : Shared) (H : Hp) (C : Addr) (cl : List (Str × Addr)) (fp : List Addr), GI (X.blk s H scope (compEnvC scope cl C X.env) fp) c W0 ta1 iter1 it1)
    (hg1 : ∀ (s : Shared) (H : Hp) (C : Addr) (cl : List (Str × Addr)) (fp : List Addr), GG (X.blk s H scope (compEnvC scope cl C X.env) fp) c ta1 tg1) (ht1 : ∀ (s : Shared) (H : Hp) (C : Addr) (cl : List (Str × Addr)) (fp : List Addr), GTs (X.blk s H scope (compEnvC scope cl C X.env) fp) c W0 ifs1 cd1)
    (hk : ∀ (s : Shared) (H : Hp) (C : Addr) (cl : List (Str × Addr)) (fp : List Addr), GE (X.blk s H scope (compEnvC scope cl C X.env) fp) c W0 kx k) (he : ∀ (s : Shared) (H : Hp) (C : Addr) (cl : List (Str × Addr)) (fp : List Addr), GE (X.blk s H scope (compEnvC scope cl C X.env) fp) c W0 vx v)
    (hv : ∀ j ∈ tg.slots, j ∈ own.map (·.2) := by decide) (hv1 : ∀ j ∈ tg1.slots, j ∈ vs1 := by decide) (hw : ∀ i ∈ vs1, i ∈ own.map (·.2) := by decide) (hp : ∀ p ∈ c.pin, p.1 ∉ own.map (·.2) := by first | (intro p hp; exact nomatch hp) | decide) (hp1 : ∀ p ∈ c.pin, p.1 ∉ vs1 := by first | (intro p hp; exact nomatch hp) | decide)
    (hc : X.calm = true := by rfl) (hs : ∀ x, foldedSetIterable iter X.env x = pure x := by intro _; rfl) (hs1 : ∀ env x, foldedSetIterable iter1 env x = pure x := by intro _ _; rfl) :
    GF X c W (.DictComp kx vx [⟨ta, iter, ifs, 0⟩, ⟨ta1, iter1, ifs1, 0⟩] scope pos) (eDc2 t (own.map (·.2)) vs1 tg it cd tg1 it1 cd1 k v) :=
  pe_imp (pe_lc2D hu hc hN hi ok hw hg ht hi1 hg1 ht1 hk he hs hs1) (dc2_rd hv hv1 hp hp1)
end
end Wd
set_option Elab.async false
set_option linter.all false
set_option maxRecDepth 100000
set_option maxHeartbeats 0
set_option autoImplicit false
/-! Wd26: list(range(n)). -/
namespace Wd
open PySem PySem.Spec PyProof.Rows L2
section
variable {X : Cx} {c : Cc} {W : WX} {pos p1 p2 pos2 : Pos} {a b e : Expr} {K : PySem.W.Frag}
theorem rels_upto {θ : List Addr} {F : Hp} : ∀ (n : Nat) (lo : Int), Rels K θ F (upto lo n) ((List.range n).map fun i => V.int (lo + (i : Nat)))
  | 0, _ => .nil
  | n + 1, lo => by
    rw [List.range_succ_eq_map, List.map_cons, List.map_map]
    have h := rels_upto (θ := θ) (F := F) n (lo + 1)
    refine .cons (by simpa using Rel.int lo) ?_
    have e : ((fun i => V.int (lo + ((i : Nat) : Int))) ∘ Nat.succ) = fun i => V.int (lo + 1 + ((i : Nat) : Int)) := by
      funext i
      show V.int (lo + ((i + 1 : Nat) : Int)) = V.int (lo + 1 + ((i : Nat) : Int))
      congr 1
      omega
    rw [e]
    exact h
def eLr (m : EM D) : EM D := fun l s => (m l s).bind fun x s1 => match x with
  | .int n => if 0 ≤ n ∧ n < 1000000 then .ok (.lst (upto 0 n.toNat)) s1 else .bad
  | _ => .bad
theorem g_lstRg {m : EM D} (B : Blt X.mg) (h : GE X c W a m) (hc : X.calm = true := by rfl) (hg : Gl X "list" := by rfl) (hg2 : Gl X "range" := by rfl) (hs : starEach [a] X.env = (false, eval a X.env) :: starEach [] X.env := by rfl)
    (na : starEach [.Call (.Name "range" p2) [a] [] pos2] X.env = (false, eval (.Call (.Name "range" p2) [a] [] pos2) X.env) :: starEach [] X.env := by rfl) :
    GF X c W (.Call (.Name "list" p1) [.Call (.Name "range" p2) [a] [] pos2] [] pos) (eLr m) := pe_imp (pe_listRg hc hg B.list (prg_1 hg2 B.range h hs) na) fun σ H Q ⟨l, s, θ, F, H0, r1, r2, p⟩ => by
  refine rd_bind older_relF r1 r2 p fun x s1 v θ1 F1 H1 _ t1 q1 l1 h1 p1 => ?_
  cases x with
  | int n =>
    cases h1
    dsimp only at p1
    split at p1
    · rename_i hn
      refine ⟨n, rfl, RgOk.of_le (by omega) (by omega) (by omega) (by omega), fun q hq => ?_⟩
      have e : rgV 0 n = (List.range n.toNat).map fun i => V.int (0 + (i : Nat)) := by
        unfold rgV
        rw [Int.sub_zero]
      have hr : Rels X.K θ1 F1 (upto 0 n.toNat) (rgV 0 n) := by
        rw [e]
        exact rels_upto _ _
      exact p1 (.ref q) θ1 F1 (upd H1 q (.lst (rgV 0 n))) (.made hq) (q1.made hq) (made_lst (H1 := H1) q1 hq hr)
    · exact p1.elim
  | _ => exact p1.elim
end
end Wd
set_option Elab.async false
set_option linter.all false
set_option maxRecDepth 100000
set_option maxHeartbeats 0
set_option autoImplicit false
/-! Wd27: {(..): v, ..}: a display with tuple keys. -/
namespace Wd
open PySem PySem.Spec PyProof.Rows L2
def mergeT (kvs : List (List Key × V)) (more : List (List Key × Addr × V)) : List (List Key × V) := more.foldl (fun acc kv => putK acc kv.1 kv.2.2) kvs
theorem length_mergeT : ∀ (more : List (List Key × Addr × V)) (kvs : List (List Key × V)), (mergeT kvs more).length ≤ kvs.length + more.length
  | [], kvs => by show kvs.length ≤ kvs.length + 0; omega
  | p :: r, kvs => by
    have h1 := length_mergeT r (putK kvs p.1 p.2.2)
    have h2 := length_putK kvs p.1 p.2.2
    show (mergeT (putK kvs p.1 p.2.2) r).length ≤ _
    rw [List.length_cons]; omega
def tDispT (trs : List (TE × TE)) : TE := fun σ H Q => ∀ p, H p = none → tPairs trs σ (upd H p (.dT [])) fun ps H2 => H2 p = some (.dT []) ∧ ∃ kvs : List (List Key × Addr × V), ps = kvs.map (fun kv => (V.ref kv.2.1, kv.2.2)) ∧ (∀ kv ∈ kvs, H2 kv.2.1 = some (.tup (kv.1.map kV))) ∧ kvs.length ≤ 15 ∧ Q (.ref p) (upd H2 p (.dT (mergeT [] kvs)))
theorem carriesT_of {P : Program} {w : World} {H : Hp} {h : Heap} (ok : HOk P w H h) : ∀ {kvs : List (List Key × Addr × V)} {ws : List (Value × Value)}, VV (kvs.map fun kv => (V.ref kv.2.1, kv.2.2)) ws → (∀ kv ∈ kvs, H kv.2.1 = some (.tup (kv.1.map kV))) →
    ∃ rs : List (List Key × Addr × Value), CarriesH (tupleKind (mixKind P w)) h ws rs ∧ ∀ acc xs, KT H acc xs → KT H (mergeT acc kvs) (storedAllH xs rs)
  | [], _, r, _ => by
    rw [List.map_nil] at r
    cases r
    exact ⟨[], True.intro, fun acc xs q => q⟩
  | p :: kvs, _, r, hk => by
    rw [List.map_cons] at r
    cases r with
    | @cons a b as bs h t =>
      obtain ⟨rs, c, q⟩ := carriesT_of ok t fun kv hm => hk kv (List.mem_cons_of_mem _ hm)
      obtain ⟨b1, b2⟩ := b
      have e := hk p List.mem_cons_self
      refine ⟨(p.1, p.2.1, b2) :: rs, ⟨h.1, rfl, key_of ok e, c⟩, fun acc xs ra => ?_⟩
      exact q _ _ (ra.put p.1 e h.2)
theorem pe_dispT {X : Cx} {pos : Pos} {keys : List (Option Expr)} {values : List Expr} {trs : List (TE × TE)} (hu : X.A.units + 1 < cLine) (h : PPs X pos keys values trs) (hall : keys.all (·.isSome) = true) (hl : keys.length = values.length) (h0 : keys ≠ [])
    (h15 : keys.length ≤ 15) : PE X (.Dict keys values pos) (tDispT trs) := by
  refine ⟨fun pins s σ H Q I q => ?_⟩
  have hn := I.hok.fresh (Nat.le_refl s.heap.objs.size)
  have I1 := I.laid (a := s.heap.objs.size) (o := .dT []) (h' := s.heap.push { cls := .type "dict", data := .dict #[] }) (t' := s.toks) (fun _ _ q => Heap.get?_push_of_some _ q) (Nat.le_refl _) (dt_empty s.heap I.big)
  have hlen := pairTrees_length keys values X.env pos hall hl
  have hne : pairTrees keys values X.env pos ≠ [] := fun he => by
    rw [he] at hlen
    exact h0 (List.length_eq_zero_iff.mp hlen.symm)
  rw [arm_eval_Dict, zip_pairTrees keys values X.env pos hall hl, dictDisplay_pairs (pairTrees keys values X.env pos) hne (by omega)]
  refine wpAny_bind (wpAny_standAt (wpAny_bind (wpAny_subDictH (knd := tupleKind (mixKind X.prog X.w)) (show (tupleKind (mixKind X.prog X.w)).room X.A from Nat.lt_of_succ_lt hu) (by omega)
    (thn (h.run pins _ σ _ _ I1 (q _ hn)) fun ws s2 ⟨ps, H2, I2, rel, e, kvs, ep, hk, lk, q2⟩ => ?_))))
  subst ep
  obtain ⟨rs, c, rk⟩ := carriesT_of I2.hok rel hk
  obtain ⟨z, hd, vs0, r0, dd⟩ := dt_of I2.hok e
  cases r0
  refine ⟨rs, c, dd, fun h' tk dd' hs => wpAny_pure ⟨.ref s.heap.objs.size, _, ?_, rfl, q2⟩⟩
  have hz : (mergeT [] kvs).length ≤ sizeLine := by
    have h1 := length_mergeT kvs []
    rw [List.length_nil] at h1
    rw [sizeLine_eq]; omega
  obtain ⟨qo, es, ep, hq, h2, h3, h4, _, h5⟩ := dd'
  refine d_write I2 (by rw [e]; exact True.intro) hs ⟨qo, hq⟩ ⟨hz, hd, _, (rk [] [] .nil).keeps fun c ys ec => ?_, qo, es, ep, hq, h2, h3, h4, h5⟩
  rw [upd_ne (ne_of ec e (fun z => nomatch z))]
  exact ec
/-- {(..): v, ..} -/
def eDctT (ms : List (EM D × EM D)) : EM D := fun l s => (ePairs ms l s).bind fun ps s1 => if (ps.all fun p => p.1.keyOf true) = true ∧ ps.length ≤ 15 then .ok (.dct true (ps.foldl (fun acc p => dput acc p.1 p.2) [])) s1 else .bad
theorem keysPT {K : PySem.W.Frag} {θ : List Addr} {F H : Hp} (hle : Le F H) : ∀ {ds : List (D × D)} {vs : List (V × V)}, RelPs K θ F ds vs → (ds.all fun p => p.1.keyOf true) = true → ∃ kvs : List (List Key × Addr × V), vs = kvs.map (fun kv => (V.ref kv.2.1, kv.2.2)) ∧ (∀ kv ∈ kvs, H kv.2.1 = some (.tup (kv.1.map kV))) ∧ ds.length = kvs.length ∧
      ∀ acc es, RelTs K θ F acc es → RelTs K θ F (ds.foldl (fun acc p => dput acc p.1 p.2) acc) (mergeT es kvs)
  | _, _, .nil, _ => ⟨[], rfl, (fun _ z => nomatch z), rfl, fun acc es r => r⟩
  | _, _, @RelPs.cons _ _ _ x y u v ds vs a b r, h => by
    rw [List.all_cons, Bool.and_eq_true] at h
    obtain ⟨kvs, rfl, ht, hl, hk⟩ := keysPT hle r h.2
    cases a with
    | @tup ad xs ws hb hv =>
      have hk0 : xs.all D.isKey0 = true := by simpa [D.keyOf] using h.1
      obtain ⟨ks, rfl, rfl⟩ := keys_of hv hk0
      refine ⟨(ks, ad, v) :: kvs, rfl, fun kv hm => ?_, by rw [List.length_cons, List.length_cons, hl], fun acc es ra => ?_⟩
      · rcases List.mem_cons.mp hm with z | z
        · rw [z]
          exact hle _ _ hb
        · exact ht kv z
      · exact hk _ _ (dput_T ra b)
    | _ => simp [D.keyOf] at h
theorem g_dispT {X : Cx} {c : Cc} {W : WX} {pos : Pos} {keys : List (Option Expr)} {values : List Expr} {ms : List (EM D × EM D)} (hu : X.A.units + 1 < cLine) (h : GPs X c W keys values ms) (hall : keys.all (·.isSome) = true := by rfl) (hl : keys.length = values.length := by rfl) (h0 : keys ≠ [] := by exact fun z => nomatch z) (h15 : keys.length ≤ 15 := by decide) :
    GF X c W (.Dict keys values pos) (eDctT ms) := pe_imp (pe_dispT hu (pps_of h) hall hl h0 h15) fun σ H Q ⟨l, s, θ, F, H0, r1, r2, p⟩ => by
  intro a ha
  have hF := r1.non ha
  have na := r1.nth ha
  have st : Step θ F H θ F (upd H a (.dT [])) := .made ha
  have q0 : RS X.K c θ F (upd H a (.dT [])) s := r1.made ha
  refine pairs_rd ms σ _ _ ⟨l, s, θ, F, H0, q0, r2.step st, ?_⟩
  unfold eDctT at p
  cases q : ePairs ms l s with
  | ok ps s1 =>
    rw [q] at p
    intro vs θ1 F1 H1 t1 q1 h1
    have p : Post X.K c θ F H relF (if (ps.all fun p => p.1.keyOf true) = true ∧ ps.length ≤ 15 then .ok (.dct true (ps.foldl (fun acc p => dput acc p.1 p.2) [])) s1 else .bad) Q (fun cls d H' => W cls d σ H') := p
    split at p
    · rename_i hc
      obtain ⟨kvs, e1, ht, e2, hk⟩ := keysPT q1.sub h1 hc.1
      have ea : H1 a = some (.dT []) := t1.keep a _ upd_same na fun _ z => nomatch z
      have n1 : a ∉ θ1 := t1.notin (by rw [upd_same]; exact fun z => nomatch z) na
      have f1 : F1 a = none := (t1.new a _ upd_same na (fun _ z => nomatch z) (fun _ z => nomatch z)).trans hF
      have tt := st.trans t1
      have t2 : Step θ F H θ1 F1 (upd H1 a (.dT (mergeT [] kvs))) := ⟨tt.pre, tt.frz, tt.new, fun b u eb nb nt => by
        rw [upd_ne (ne_of_none eb ha)]
        exact tt.keep b u eb nb nt, fun b hb => by
        by_cases hba : b = a
        · rw [hba, upd_same]
          exact fun z => nomatch z
        · rw [upd_ne hba]
          exact tt.dom b hb⟩
      refine ⟨ea, kvs, e1, ht, by rw [← e2]; exact hc.2, ?_⟩
      refine p (.ref a) θ1 F1 _ t2 (q1.put ea n1 f1 ⟨(fun _ z => nomatch z), fun _ _ z => by unfold LamX.CodeO at z; cases z⟩ (c.mono _ _ _ _ _ _ t2 r1.more)) ⟨.dct true _, a, rfl, rfl, ⟨_, upd_same, hk [] [] .nil⟩, n1, f1, ha⟩
    · exact p.elim
  | exc x s1 =>
    rw [q] at p
    exact fun cls dx θ1 F1 H1 t1 q1 h1 => p cls dx θ1 F1 H1 (st.trans t1) q1 h1
  | bad =>
    rw [q] at p
    exact p.elim
end Wd
set_option Elab.async false
set_option linter.all false
set_option maxRecDepth 100000
set_option maxHeartbeats 1000000
set_option autoImplicit false
/-! Wd28: operators by what they meet. -/
namespace Wd
open PySem PySem.Spec PyProof.Rows L2
def oOr (f g : S → D → D → Option D) (s : S) (x y : D) : Option D := match f s x y with
  | some d => some d
  | none => g s x y
section
variable {X : Cx} {c : Cc} {W : WX} {a b e : Expr} {pos p1 : Pos} {K : PySem.W.Frag}
theorem s_or {q : RT D V} {r r' : R2} {f g : S → D → D → Option D} (h : OpS K c q r f) (h' : OpS K c q r' g) : OpS K c q (fun x y H Q => r x y H Q ∨ r' x y H Q) (oOr f g) := by
  intro θ F H s x y v u d Q rs hx hy e k
  unfold oOr at e
  cases ef : f s x y with
  | some d' =>
    rw [ef] at e
    cases e
    exact .inl (h θ F H s x y v u _ Q rs hx hy ef k)
  | none =>
    rw [ef] at e
    exact .inr (h' θ F H s x y v u _ Q rs hx hy e k)
/-- i * j, t * n -/
def oMulP : S → D → D → Option D := oOr oMul oRepT
theorem g_mulP {ma mb : EM D} (ha : GV X c W a ma) (hb : GV X c W b mb) : GE X c W (.BinOp a .Mult b pos) (e2 oMulP ma mb) := g_op older_rel (OpR.or op_mul op_repT) (s_or s_mul s_repT) ha hb
/-- == of texts, then of all else -/
def oEqS (_ : S) (x y : D) : Option D := match x, y with
  | .str a, .str b => some (.bl (a == b))
  | _, _ => none
def oNeS (_ : S) (x y : D) : Option D := match x, y with
  | .str a, .str b => some (.bl (!(a == b)))
  | _, _ => none
theorem beq_dec (a b : Str) : (a == b) = decide (V.str a = V.str b) := by
  by_cases h : a = b
  · subst h
    simp
  · have : ¬ V.str a = V.str b := fun z => h (V.str.inj z)
    rw [decide_eq_false this]
    exact beq_eq_false_iff_ne.mpr h
theorem s_eqS : OpS K c rel rEq oEqS := by
  intro θ F H s x y v u d Q r hx hy e k
  unfold oEqS at e
  split at e
  · cases e
    rw [relW_str hx, relW_str hy]
    refine ⟨rfl, ?_⟩
    rw [← beq_dec]
    exact k _ F H .refl r (.bl _)
  · cases e
theorem s_neS : OpS K c rel rNe oNeS := by
  intro θ F H s x y v u d Q r hx hy e k
  unfold oNeS at e
  split at e
  · cases e
    rw [relW_str hx, relW_str hy]
    refine ⟨rfl, ?_⟩
    rw [← beq_dec]
    exact k _ F H .refl r (.bl _)
  · cases e
def oEqP : S → D → D → Option D := oOr oEqS oEq
def oNeP : S → D → D → Option D := oOr oNeS oNe
variable {k : Nat}
theorem c_eqP (B : Bx X W k) {ma mb : EM D} (ha : GV X c W a ma) (hb : GV X c W b mb) (hm : behindInMarks .Eq b = false := by rfl) : GE X c W (.Compare a [.Eq] [b] pos) (e2 oEqP ma mb) := g_cmp (OpR.or op_eq (op_eqD B.u64)) (s_or s_eqS s_eq) ha hb hm
theorem t_eqP (B : Bx X W k) {ma mb : EM D} (ha : GV X c W a ma) (hb : GV X c W b mb) (hm : behindInMarks .Eq b = false := by rfl) : GT X c W (.Compare a [.Eq] [b] pos) (qB (e2 oEqP ma mb)) := g_cmpT (OpR.or op_eq (op_eqD B.u64)) (s_or s_eqS s_eq) ha hb hm
theorem c_neP (B : Bx X W k) {ma mb : EM D} (ha : GV X c W a ma) (hb : GV X c W b mb) (hm : behindInMarks .NotEq b = false := by rfl) : GE X c W (.Compare a [.NotEq] [b] pos) (e2 oNeP ma mb) := g_cmp (OpR.or op_ne (op_neD B.u64)) (s_or s_neS s_ne) ha hb hm
theorem t_neP (B : Bx X W k) {ma mb : EM D} (ha : GV X c W a ma) (hb : GV X c W b mb) (hm : behindInMarks .NotEq b = false := by rfl) : GT X c W (.Compare a [.NotEq] [b] pos) (qB (e2 oNeP ma mb)) := g_cmpT (OpR.or op_ne (op_neD B.u64)) (s_or s_neS s_ne) ha hb hm
end
end Wd
set_option Elab.async false
set_option linter.all false
set_option maxRecDepth 100000
set_option maxHeartbeats 0
set_option autoImplicit false
/-! Wd29: y = {k: v for .. for ..}, y a local. -/
namespace Wd
open PySem PySem.Spec PyProof.Rows L2
/-- in the block of a comprehension -/
abbrev InB (X : Cx) (scope : Scope) (p : Cx → Prop) : Prop := ∀ (s : Shared) (H : Hp) (C : Addr) (cl : List (Str × Addr)) (fp : List Addr), p (X.blk s H scope (compEnvC scope cl C X.env) fp)
section
variable {X : Cx} {c : Cc} {W : WX} {pos p1 : Pos} {ifs ifs1 : List Expr} {K : PySem.W.Frag}
theorem ps_setDc2 {i : Nat} {y : Str} {py : Pos} {kx vx tg iter tg1 iter1 : Expr} {scope : Scope} {own : List (Str × Nat)} {vs1 : List Nat} {spos : Pos} {wi wi1 : TI} {g g1 : TG} {tt tt1 : TT} {tk tv : TE} (hu : X.A.units + 1 < cLine) (hc : X.calm = true) (hN : X.N.Nodup) (hy : X.N[i]? = some y) (hyl : X.env.scope.names.lookup y = some .local)
    (hsw : swapsWith (.DictComp kx vx [⟨tg, iter, ifs, 0⟩, ⟨tg1, iter1, ifs1, 0⟩] scope pos) (some (.Name y py)) spos.line X.env = pure true) (hi : PI X tg iter wi) (ok : BlkOk X.N X.env.scope scope own) (hv : ∀ i ∈ vs1, i ∈ own.map (·.2))
    (hg : InB X scope fun Y => PG Y tg g) (ht : InB X scope fun Y => PTs Y ifs tt) (hi1 : InB X scope fun Y => PI Y tg1 iter1 wi1) (hg1 : InB X scope fun Y => PG Y tg1 g1) (ht1 : InB X scope fun Y => PTs Y ifs1 tt1) (hk : InB X scope fun Y => PE Y kx tk) (he : InB X scope fun Y => PE Y vx tv)
    (hs : ∀ x, foldedSetIterable iter X.env x = pure x) (hs1 : ∀ env x, foldedSetIterable iter1 env x = pure x) :
    PS X (.Assign [.Name y py] (.DictComp kx vx [⟨tg, iter, ifs, 0⟩, ⟨tg1, iter1, ifs1, 0⟩] scope pos) spos) (tAsg (tLc2D wi g tt wi1 g1 tt1 tk tv (own.map (·.2)) vs1) (gName i)) := by
  refine ⟨fun pins s σ H D I h => ?_⟩
  rw [exec_Assign_Name_used _ _ _ _ hsw]
  refine wpAny_bind (wpAny_standAt (wpAny_bind ?_))
  show wpAny _ X.A (do let _ ← comprehension (.DictComp kx vx [⟨tg, iter, ifs, 0⟩, ⟨tg1, iter1, ifs1, 0⟩] scope pos) scope X.env (firstIterPos [⟨tg, iter, ifs, 0⟩, ⟨tg1, iter1, ifs1, 0⟩] pos) newDict false (eval iter X.env) (some (assign (.Name y py) X.env))) _ _ s
  have h : tLc2D wi g tt wi1 g1 tt1 tk tv (own.map (·.2)) vs1 σ H (fun x H1 => gName i x σ H1 D.nx) := h
  refine wpAny_bind (thn (lc2_coreD (Qf := fun _ s' => SP X pins D .next s') hu hc hN I hi ok hv hg ht hk he hs hi1 hg1 ht1 hs1 h fun L C s' m H' I' q hn f => ?_) fun _ s' hq => wpAny_pure (wpAny_pure hq))
  show wpAny _ _ (assign (.Name y py) X.env (.ref L)) _ _ _
  refine wpAny_assign_Name (store_ok2 (v := V.ref L) I' hN hy (.inl hyl) rfl (fun s2 I2 ⟨a, sb, ha⟩ => ?_) (.inr hyl))
  obtain ⟨f0, f1, f2, f3, f4, f5⟩ := f
  have haC : C ≠ a := ha.elim (fun z => by rw [z]; exact f1) fun z e => f4 y a z e.symm
  exact ⟨m, hn.sameBut sb haC, fun h3 sb3 => ⟨_, H', I2.turned (t' := s2.toks) (fun b o hb e => (sb3.2 b hb).trans e) f0 f1 f3 f4 f5, q⟩⟩
theorem sw_trueD {kx vx : Expr} {gs : List Comprehension} {scope : Scope} {py : Pos} {y : Str} {l : Nat} {env : PySem.Env} (hk : env.scope.kind = .function) (hy : env.scope.names.lookup y = some .local) (hl : (py.line == pos.line) = true)
    (ha : (scope.names.any fun (n, k) => n == y && (k == .local || k == .cell)) = false) : swapsWith (.DictComp kx vx gs scope pos) (some (.Name y py)) l env = pure true := by
  have hb : env.blockKind = .function := by
    unfold Env.blockKind
    rw [hk]
    rfl
  have ky : env.kindOf y = some .local := hy
  unfold swapsWith
  simp only [hb, ky, ha, Expr.pos, hl]
  rfl
theorem own_store {i : Nat} {e : Expr} {y : Str} {py : Pos} {m : EM D} (hpi : ∀ p ∈ c.pin, p.1 ≠ i) (h : PS X (.Assign [.Name y py] e pos) (tAsg (rd X.K c W relF m) (gName i))) : GS X c W (.Assign [.Name y py] e pos) (sOwn i m) :=
  ps_imp h fun D σ H ⟨l, s, θ, F, θ0, F0, H0, t0, r1, r2, p⟩ => by
    refine rs_bind t0 r1 r2 p fun d s1 v θ1 F1 H1 _ t1 tt q1 l1 h1 p1 => ?_
    obtain ⟨o, ad, e1, rfl, ro, n, f, z⟩ := h1
    cases eo : d.own? with
    | none =>
      rw [eo] at p1
      exact p1.elim
    | some o' =>
      rw [eo] at p1
      have := own_d e1 eo
      subst this
      exact p1 _ θ1 F1 H1 t1 .refl q1 (l1.setO ro f n (t0.fresh z) (fun j o' _ e2 => fun e3 => r2.newO z j o' e2 e3) hpi)
theorem g_ownDc2 (i : Nat) {kx vx iter iter1 ta ta1 : Expr} {scope : Scope} {own : List (Str × Nat)} {t : Bool} {vs1 : List Nat} {tg tg1 : Tg} {it it1 : EM (List D)} {cd cd1 : EM Bool} {k v : EM D} {y : Str} {py spos : Pos} (hu : X.A.units + 1 < cLine) (hN : X.N.Nodup) (hi : GI X c W ta iter it) (ok : BlkOk X.N X.env.scope scope own)
    (hg : InB X scope fun Y => GG Y c ta tg) (ht : InB X scope fun Y => GTs Y c W0 ifs cd) (hi1 : InB X scope fun Y => GI Y c W0 ta1 iter1 it1) (hg1 : InB X scope fun Y => GG Y c ta1 tg1) (ht1 : InB X scope fun Y => GTs Y c W0 ifs1 cd1) (hk : InB X scope fun Y => GE Y c W0 kx k) (he : InB X scope fun Y => GE Y c W0 vx v)
    (hsw : swapsWith (.DictComp kx vx [⟨ta, iter, ifs, 0⟩, ⟨ta1, iter1, ifs1, 0⟩] scope pos) (some (.Name y py)) spos.line X.env = pure true)
    (hv : ∀ j ∈ tg.slots, j ∈ own.map (·.2) := by decide) (hv1 : ∀ j ∈ tg1.slots, j ∈ vs1 := by decide) (hw : ∀ i ∈ vs1, i ∈ own.map (·.2) := by decide) (hp : ∀ p ∈ c.pin, p.1 ∉ own.map (·.2) := by first | (intro p hp; exact nomatch hp) | decide) (hp1 : ∀ p ∈ c.pin, p.1 ∉ vs1 := by first | (intro p hp; exact nomatch hp) | decide)
    (hpi : ∀ p ∈ c.pin, p.1 ≠ i := by first | (intro p hp; exact nomatch hp) | decide) (hy : X.N[i]? = some y := by rfl) (hyl : X.env.scope.names.lookup y = some .local := by rfl) (hc : X.calm = true := by rfl) (hs : ∀ x, foldedSetIterable iter X.env x = pure x := by intro _; rfl) (hs1 : ∀ env x, foldedSetIterable iter1 env x = pure x := by intro _ _; rfl) :
    GS X c W (.Assign [.Name y py] (.DictComp kx vx [⟨ta, iter, ifs, 0⟩, ⟨ta1, iter1, ifs1, 0⟩] scope pos) spos) (sOwn i (eDc2 t (own.map (·.2)) vs1 tg it cd tg1 it1 cd1 k v)) :=
  own_store hpi (ps_imp (ps_setDc2 hu hc hN hy hyl hsw hi ok hw hg ht hi1 hg1 ht1 hk he hs hs1) fun D σ H h => dc2_rd hv hv1 hp hp1 σ H _ h)
end
end Wd
set_option Elab.async false
set_option linter.all false
set_option maxRecDepth 100000
set_option maxHeartbeats 2000000
set_option autoImplicit false
/-! Wd30: from the head's facts to promises: classes, hearers, tables. -/
namespace Wd
open PySem PySem.Spec PyProof.Rows L2 He
/-- a class's __init__, its last statement -/
def clsInit (s : Stmt) : Stmt := match s with
  | .ClassDef _ _ _ body _ _ _ _ _ _ _ => body.getLast?.getD (.Pass ⟨0, 0, 0, 0⟩)
  | _ => .Pass ⟨0, 0, 0, 0⟩
def exV (x : Str) (fld : Option Str) (s : Stmt) : ExD := ⟨x, "ValueError", "ValueError.__new__", "ValueError.__init__", [.type "ValueError", .type "Exception", .type "BaseException", .type "object"], fld, defArgs (clsInit s), defBody (clsInit s), defScope (clsInit s)⟩
def exO (x : Str) (fld : Option Str) (s : Stmt) : ExD := ⟨x, "OverflowError", "OverflowError.__new__", "OverflowError.__init__", [.type "OverflowError", .type "ArithmeticError", .type "Exception", .type "BaseException", .type "object"], fld, defArgs (clsInit s), defBody (clsInit s), defScope (clsInit s)⟩
def exL (x : Str) (fld : Option Str) (s : Stmt) : ExD := ⟨x, "LookupError", "LookupError.__new__", "LookupError.__init__", [.type "LookupError", .type "Exception", .type "BaseException", .type "object"], fld, defArgs (clsInit s), defBody (clsInit s), defScope (clsInit s)⟩
section
variable {P : Program} {w : World} {K : PySem.W.Frag} {mg : Str → Option Value} {h : Heap} {fa : List Fa} {fn : List DefD} {tf : List Defn} {es : List ExD}
theorem supV {x : Str} {fld : Option Str} {s : Stmt} (top : (P.main.scope.names.lookup ("super" : Str)).isSome = false) (c : (exV x fld s).ok P K = true) : SupC P K (ga K x) ((exV x fld s).at_ K) "ValueError" "ValueError.__new__" "ValueError.__init__" [.type "ValueError", .type "Exception", .type "BaseException", .type "object"] := ExD.sup (e := exV x fld s) PySem.F.excBase_ValueError PySem.W.kxs_ValueError refuse_VE top c
theorem supO {x : Str} {fld : Option Str} {s : Stmt} (top : (P.main.scope.names.lookup ("super" : Str)).isSome = false) (c : (exO x fld s).ok P K = true) : SupC P K (ga K x) ((exO x fld s).at_ K) "OverflowError" "OverflowError.__new__" "OverflowError.__init__" [.type "OverflowError", .type "ArithmeticError", .type "Exception", .type "BaseException", .type "object"] := ExD.sup (e := exO x fld s) PySem.F.excBase_OverflowError PySem.W.kxs_OverflowError refuse_OE top c
theorem supL {x : Str} {fld : Option Str} {s : Stmt} (top : (P.main.scope.names.lookup ("super" : Str)).isSome = false) (c : (exL x fld s).ok P K = true) : SupC P K (ga K x) ((exL x fld s).at_ K) "LookupError" "LookupError.__new__" "LookupError.__init__" [.type "LookupError", .type "Exception", .type "BaseException", .type "object"] := ExD.sup (e := exL x fld s) PySem.F.excBase_LookupError PySem.W.kxs_LookupError refuse_LE top c
theorem says_mem (c : SaysD fa fn K) {f : Fa} (h : f ∈ fa) : f.ok K = true := by
  obtain ⟨i, hi⟩ := List.getElem?_of_mem h
  exact c.fact i hi
/-- the tables of the defs that hold lambdas -/
def qn (x : Str) : Str := (x ++ ".<locals>.") ++ "<lambda>"
def tabT (K : PySem.W.Frag) (tf : List Defn) : List (Addr × Str) := tf.map fun p => ((cT K p).2, qn p.1)
theorem tab_mem {p : Defn} (hp : p ∈ tf) : ((cT K p).2, qn p.1) ∈ tabT K tf := List.mem_map_of_mem hp
theorem tab_hu (nd : (tf.map fun p => (cT K p).2).Nodup) {p : Defn} (hp : p ∈ tf) : ∀ q ∈ tabT K tf, q.1 = (cT K p).2 → q.2 = qn p.1 := fun q hq e => by
  obtain ⟨r, hr, rfl⟩ := List.mem_map.mp hq
  have : r = p := by
    obtain ⟨i, hi⟩ := List.getElem?_of_mem hr
    obtain ⟨j, hj⟩ := List.getElem?_of_mem hp
    have li := (List.getElem?_eq_some_iff.mp hi).1
    have lj := (List.getElem?_eq_some_iff.mp hj).1
    have ei : (tf.map fun p => (cT K p).2)[i]? = some (cT K r).2 := by rw [List.getElem?_map, hi]; rfl
    have ej : (tf.map fun p => (cT K p).2)[j]? = some (cT K p).2 := by rw [List.getElem?_map, hj]; rfl
    have eij : i = j := by
      have e' : (cT K r).2 = (cT K p).2 := e
      refine (List.getElem?_inj (by rw [List.length_map]; exact li) nd).mp ?_
      rw [ei, ej, e']
    rw [eij, hj] at hi
    exact (Option.some.inj hi).symm
  rw [this]
theorem code_of {x : Str} {params : Arguments} {body : List Stmt} {scope : Scope} {f : Addr} {fd : FuncData} {cdv : Value} (ef : f = fAd K (x, none)) (D : FunD K x x params body scope [] [] f fd)
    (h : ∃ oc od osl kV doc pm an ct, K.lookup f = some ⟨oc, od, .func (PySem.W.fnOf x x params body scope .none kV doc pm an cdv ct), osl⟩) : cdv = .ref (cT K (x, none)).1 := by
  obtain ⟨oc, od, dV, kV, doc, pm, an, cdv', ct, osl, rfl, lk, hcd, hD, hK⟩ := D.ex
  obtain ⟨oc2, od2, osl2, kV2, doc2, pm2, an2, ct2, lk2⟩ := h
  rw [lk] at lk2
  obtain ⟨c, rfl⟩ := codeIn_ref hcd
  have e : PySem.W.fnOf x x params body scope dV kV doc pm an (.ref c) ct = PySem.W.fnOf x x params body scope .none kV2 doc2 pm2 an2 cdv ct2 := by
    injection lk2 with e1
    injection e1 with e2 e3 e4
    injection e4
  have e5 : Value.ref c = cdv := congrArg FuncData.code e
  rw [← e5]
  have := codeOf_eq (p := (x, none)) (by rw [← ef]; exact lk) (show (PySem.W.fnOf x x params body scope dV kV doc pm an (.ref c) ct).code = .ref c from rfl)
  show Value.ref c = .ref (codeOf K (x, none))
  rw [this]
/-- a hearer's facts -/
theorem hears_of {base : Heap} {T : List (Addr × Str)} {k : Nat} {x a : Str} {params : Arguments} {body : List Stmt} {scope : Scope} {N : List Str} {mb : (S → Res D) → SM} {f : Addr} {fd : FuncData} (hm : mg x = some (.ref f))
    (D : FunD K x x params body scope [] [] f fd) (S : FnScope N [a] scope) (hb : ∀ (kV doc pm : Value) (an : Option Addr) (cdv ct : Value) (us : List Value), us.length = 1 → bindArgs (PySem.W.fnOf x x params body scope .none kV doc pm an cdv ct) ⟨us, []⟩ = pure ([a].zip us))
    (h0 : N[0]? = some a) (hv : Vis scope a) (hd : (a == ("__debug__" : Str)) = false) (hcd' : (a == ("__classdict__" : Str)) = false)
    (hbody : ∀ (cdv : Value) (A : Around) (outer : List PySem.Env) (s : Shared) (H : Hp) (E : XK) (c2 : Cc) (κ : Wd.S → Res Wd.D) (fl : Addr), c2.T = T → c2.pin = [(0, .ref fl)] →
      (∀ (W' : WX) (pn : List (Addr × Obj)) (xe : Value → Shared → Prop) (p1 p2 : Pos), Bx ((bodyCx P w K mg base N x scope f cdv A outer s H E).tr pn xe) W' (k + 1) → GE ((bodyCx P w K mg base N x scope f cdv A outer s H E).tr pn xe) c2 W' (.Call (.Name a p1) [] [] p2) (eCb κ)) →
      Bx (bodyCx P w K mg base N x scope f cdv A outer s H E) (bodyW E) (k + 1) → GB (bodyCx P w K mg base N x scope f cdv A outer s H E) c2 (bodyW E) body (mb κ)) :
    Hears P w K mg base T k x (runL mb N.length) := by
  have bN := D.bindsN (ps := [a]) hb
  have kp := D.kp
  obtain ⟨oc, od, dV, kV, doc, pm, an, cdv, ct, osl, rfl, lk, hcd, hD, hK⟩ := D.ex
  exact ⟨f, a, params, body, scope, dV, kV, doc, pm, cdv, ct, oc, an, od, osl, N, mb, hm, kp, lk, hcd, bN, S, h0, hv, hd, hcd', rfl, fun A outer s H E c2 κ fl e1 e2 cb B => hbody cdv A outer s H E c2 κ fl e1 e2 cb B⟩
/-- the last def, as the end asks it -/
theorem fnG_of {base : Heap} {T : List (Addr × Str)} {k : Nat} {x : Str} {params : Arguments} {body : List Stmt} {scope : Scope} {N ps : List Str} {m : SM} {f : Addr} {fd : FuncData} (D : FunD K x x params body scope [] [] f fd) (S : FnScope N ps scope)
    (hbody : ∀ (cdv : Value) (A : Around) (outer : List PySem.Env) (s : Shared) (H : Hp) (E : XK), (∃ oc od osl kV doc pm an ct, K.lookup f = some ⟨oc, od, .func (PySem.W.fnOf x x params body scope .none kV doc pm an cdv ct), osl⟩) → Bx (bodyCx P w K mg base N x scope f cdv A outer s H E) (bodyW E) k →
      GB (bodyCx P w K mg base N x scope f cdv A outer s H E) { T := T } (bodyW E) body m) : FnG P w K mg base (k + 1) f fd ps (spOf K { T := T } ps.length (runB m N.length)) := by
  obtain ⟨oc, od, dV, kV, doc, pm, an, cdv, ct, osl, rfl, lk, hcd, hD, hK⟩ := D.ex
  rcases hD with ⟨_, rfl⟩ | ⟨z, _⟩
  · exact g_def lk hcd S fun A outer s H E B => hbody cdv A outer s H E ⟨oc, od, osl, kV, doc, pm, an, ct, lk⟩ B
  · exact absurd rfl z
/-- a constant text, evaluated -/
theorem arg_str {prog : Program} {z : Str} {k : Nat} {p : Pos} {env : PySem.Env} {A : Around} {E : Value → Shared → Prop} {h1 : Heap} {g : Array GenState} {d : Drawn} {t1 : Nat} {os : OsState} {Q' : Value → Shared → Prop} (hq : ∀ v t2, Q' v ⟨h1, g, d, t2, os⟩) : wpAny (model prog w) A (eval (.Constant (.str z) k p) env) Q' E ⟨h1, g, d, t1, os⟩ := wpAny_Constant_str (hq _ _)
/-- a local name, evaluated -/
theorem arg_name {prog : Program} {y : Str} {p : Pos} {env : PySem.Env} {A : Around} {E : Value → Shared → Prop} {h1 : Heap} {g : Array GenState} {d : Drawn} {t1 : Nat} {os : OsState} {Q' : Value → Shared → Prop} {m : Str → Option Value} {u : Value} (hk : env.scope.kind = .function) (hl : env.kindOf y = some .local) (hn : h1.Ns env.locals m) (hv : m y = some u) (hd : (y == ("__debug__" : Str)) = false) (hq : ∀ v t2, Q' v ⟨h1, g, d, t2, os⟩) :
    wpAny (model prog w) A (eval (.Name y p) env) Q' E ⟨h1, g, d, t1, os⟩ := wpAny_Name (wpAny_loadName_local hk hl hn hv (hq _ _)) hd
end
end Wd
set_option linter.all false
set_option maxRecDepth 100000
set_option autoImplicit false
/-! the defs of worksward_k58_whole_entries_shown as terms -/
namespace K58
open PySem Wd
def kn : List Str := ["BadLog"]
abbrev N_is_whole : List Str := ["thing", "least", "most"]
def b_is_whole : SM := (sSeq (sIf (qOr (qNot (qB (e1 (oIsa .int) (eV 0)))) (qOr (qB (e1 (oIsa .bool) (eV 0))) (qB (e2 oLt (eV 0) (eV 1))))) (sRet (eC (.bl false))) sPass) (sRet (eOr (e1 oIsN (eV 2)) (e2 oLe (eV 0) (eV 2)))))
def f_is_whole : Fn := runB b_is_whole 3
abbrev N_heard_behind : List Str := ["entry", "heard", "lost", "deed", "seen", "loss", "row", "word", "found"]
def b_heard_behind : SM := (sSeq (sPut (.tp [(.nm 4), (.nm 5), (.nm 6), (.nm 7)]) (eV 0)) (sSeq (sIf (qB (e2 oNotIn (eV 3) (eV 4))) (sRet (eLst (eAll [(eTup (eAll [(eV 1), (eV 2)]))]))) sPass) (sSeq (sAsg 8 (eIf (qB (e2 oLt (eV 2) (eV 5))) (eLst (eAll [(eTup (eAll [(eV 1), (e2 oAdd (eV 2) (eC (.int 1)))]))])) (eLst (eAll [])))) (sRet (e2 oAdd (eV 8) (eIf (qAnd (qB (e2 oLt (eV 1) (eN oLen (eAll [(eV 6)])))) (qB (e2 oEqP (e2 oIx (eV 6) (eV 1)) (eV 3)))) (eLst (eAll [(eTup (eAll [(e2 oAdd (eV 1) (eC (.int 1))), (eC (.int 0))]))])) (eLst (eAll []))))))))
def f_heard_behind : Fn := runB b_heard_behind 9
abbrev N__law_begun : List Str := ["_law_script", "_law_k", "_law_cells", "_law_great", "_law_cell", "_law_seed"]
def b__law_begun : SM := (sSeq (sAsg 2 (e2 oAdd (eSl (eV 0) (eAt (eV 1)) eNo) (eSl (eV 0) eNo (eAt (eV 1))))) (sSeq (sAsg 3 (eLc [4] (.nm 4) (iAny (eV 2)) (qB (e2 oGe (eV 4) (e2 oPow (eC (.int 10)) (eC (.int 18))))) (eV 4))) (sSeq (sAsg 5 (e2 oAdd (eC (.int 97)) (eV 1))) (sSeq (sFor (.nm 4) (iAny (eV 2)) (sAsg 5 (e2 oMod (eN oInt (eAll [(e2 oAdd (e2 oMulP (eV 5) (eC (.int 48271))) (eV 4))])) (eC (.int 2147483647))))) (sRet (eNew (eDct [((eC (.str "left")), (eIf (qB (e2 oNeP (eV 3) (eLst (eAll [])))) (e2 oIx (eV 3) (eC (.int 0))) (eC (.int 0)))), ((eC (.str "seed")), (eV 5)), ((eC (.str "cells")), (e2 oAdd (eV 2) (eLst (eAll [(e2 oAdd (e2 oMul (eC (.int 31)) (eV 1)) (eC (.int 5)))])))), ((eC (.str "spot")), (eC (.int 0)))])))))))
def f__law_begun : Fn := runB b__law_begun 6
abbrev N__law_draw : List Str := ["_law_m", "_law_many", "_law_found", "_law_spot", "_law_cells", "_law_added", "_law_cell", "_law_blend"]
def b__law_draw : SM := (sSeq (sIf (qB (e2 oGt (e2 oDix (eV 0) (eC (.str "left"))) (eC (.int 0)))) (sSeq (sAsg 2 (e2 oMod (eN oInt (eAll [(e2 oDix (eV 0) (eC (.str "left")))])) (eV 1))) (sSeq (sDputR (eV 0) (eC (.str "left")) (e2 oDiv (e2 oDix (eV 0) (eC (.str "left"))) (eV 1))) (sRet (eV 2)))) sPass) (sSeq (sAsg 3 (e2 oDix (eV 0) (eC (.str "spot")))) (sSeq (sDputR (eV 0) (eC (.str "spot")) (e2 oAdd (eV 3) (eC (.int 1)))) (sSeq (sPar2 4 5 (e2 oDix (eV 0) (eC (.str "cells"))) (e2 oAdd (e2 oDix (eV 0) (eC (.str "seed"))) (e2 oMul (e2 oMul (eC (.int 40503)) (eV 3)) (eV 3)))) (sSeq (sAsg 6 (e2 oIx (eV 4) (e2 oMod (eN oInt (eAll [(eV 3)])) (eN oLen (eAll [(eV 4)]))))) (sSeq (sAsg 7 (e2 oMod (eN oInt (eAll [(e2 oAdd (e2 oMul (eV 6) (e2 oAdd (e2 oMul (eC (.int 2)) (eV 3)) (eC (.int 3)))) (eV 5))])) (eC (.int 2147483647)))) (sSeq (sAsg 7 (e2 oMod (eN oInt (eAll [(e2 oAdd (e2 oAdd (e2 oMul (eV 7) (eV 7)) (e2 oMul (eC (.int 69621)) (eV 3))) (e2 oDix (eV 0) (eC (.str "seed"))))])) (eC (.int 2147483629)))) (sRet (e2 oMod (e2 oDiv (e2 oMod (eN oInt (eAll [(e2 oAdd (e2 oMulP (eV 7) (eC (.int 48271))) (eV 3))])) (eC (.int 2147483647))) (eC (.int 11))) (eV 1))))))))))
def f__law_draw : Fn := runB b__law_draw 8
abbrev N__law_is_among : List Str := ["_law_thing", "_law_least", "_law_most"]
def b__law_is_among : SM := (sSeq (sIf (qOr (qNot (qB (e1 (oIsa .int) (eV 0)))) (qOr (qB (e1 (oIsa .bool) (eV 0))) (qB (e2 oLt (eV 0) (eV 1))))) (sRet (eC (.bl false))) sPass) (sRet (eOr (e1 oIsN (eV 2)) (e2 oLe (eV 0) (eV 2)))))
def f__law_is_among : Fn := runB b__law_is_among 3
abbrev N__law_shows : List Str := ["_law_entry_here", "_law_row_here", "_law_seen", "_law_loss", "_law_due_here", "_law_word", "_law_some_here", "_law_ends", "_law_deed", "_law_later", "_law_spot", "_law_one", "_law_end"]
def b__law_shows : SM := (sSeq (sPut (.tp [(.nm 2), (.nm 3), (.nm 4), (.nm 5)]) (eV 0)) (sSeq (sPut (.tp [(.nm 6), (.nm 7)]) (eTup (eAll [(eLc [8] (.nm 8) (iAny (eV 1)) (qB (e2 oIn (eV 8) (eV 2))) (eV 8)), (eLst (eAll [(e1 oNeg (eC (.int 1)))]))]))) (sSeq (sFor (.nm 8) (iAny (eV 4)) (sSeq (sOwn 9 (eLst (eAll []))) (sSeq (sFor (.tp [(.nm 10), (.nm 11)]) (iEnum2 (eV 6)) (sIf (qAnd (qB (e2 oEqP (eV 11) (eV 8))) (qB (e2 oNeP (eLc [12] (.nm 12) (iAny (eV 7)) (qB (eChain oLt oLe (eC (.int 0)) (e2 oSub (eV 10) (eV 12)) (e2 oAdd (eV 3) (eC (.int 1))))) (eC (.int 1))) (eLst (eAll []))))) (sApp 9 (eV 10)) sPass)) (sSeq (sFrz 9) (sAsg 7 (eV 9)))))) (sRet (e2 oNeP (eLc [12] (.nm 12) (iAny (eV 7)) (qB (e2 oLe (e2 oSub (e2 oSub (eN oLen (eAll [(eV 6)])) (eC (.int 1))) (eV 12)) (eV 3))) (eC (.int 1))) (eLst (eAll [])))))))
def f__law_shows : Fn := runB b__law_shows 13
abbrev N__law_heard : List Str := ["_law_call", "error"]
def b__law_heard (κ : Wd.S → Res Wd.D) : SM := (sTry kn (sRet (eLst (eAll [(eCb κ)]))) [⟨"BadLog", some 1, fun xn => (sRet (eFd xn "part"))⟩])
def f__law_heard : (Wd.S → Res Wd.D) → Wd.S → Res Wd.D := runL b__law_heard 2
abbrev N_is_row : List Str := ["thing", "most", "one"]
def b_is_row : SM := (sRet (eAnd (e1 (oIsa .tuple) (eV 0)) (eN oAllB (eAll [(eLc [2] (.nm 2) (iAny (eV 0)) qT (eCall f_is_whole (eAll [(eV 2), (eC (.int 0)), (eV 1)])))]))))
def f_is_row : Fn := runB b_is_row 3
abbrev N_need_deeds : List Str := ["deeds"]
def b_need_deeds : SM := (sIf (qNot (qB (eCall f_is_whole (eAll [(eV 0), (eC (.int 1)), (eC (.int 6))])))) (sRaise "OutOfPlace" none (eC (.str "no number of deeds"))) sPass)
def f_need_deeds : Fn := runB b_need_deeds 1
abbrev N_need_number : List Str := ["log", "number"]
def b_need_number : SM := (sIf (qNot (qB (eCall f_is_whole (eAll [(eV 1), (eC (.int 0)), (e2 oSub (eN oLen (eAll [(eV 0)])) (eC (.int 1)))])))) (sRaise "OutOfPlace" none (eC (.str "no number of an entry"))) sPass)
def f_need_number : Fn := runB b_need_number 2
abbrev N_does_show_in : List Str := ["entry", "row", "here", "deed", "heard", "lost", "pair"]
def b_does_show_in : SM := (sSeq (sOwn 2 (eDctT [((eTup (eAll [(eC (.int 0)), (eC (.int 0))])), (eC (.bl true)))])) (sSeq (sFor (.nm 3) (iAny (eV 1)) (sSeq (sFrz 2) (sOwn 2 (eDc2 true [4, 5, 6] [6] (.tp [(.nm 4), (.nm 5)]) (iAny (eV 2)) qT (.nm 6) (iAny (eCall f_heard_behind (eAll [(eV 0), (eV 4), (eV 5), (eV 3)]))) qT (eV 6) (eC (.bl true)))))) (sSeq (sFrz 2) (sRet (eN oAnyB (eAll [(eLc [4, 5] (.tp [(.nm 4), (.nm 5)]) (iAny (eV 2)) qT (e2 oEqP (eV 4) (eN oLen (eAll [(e2 oIx (eV 0) (eC (.int 2)))]))))]))))))
def f_does_show_in : Fn := runB b_does_show_in 7
abbrev N__law_of : List Str := ["_law_m", "_law_some_here"]
def b__law_of : SM := (sRet (e2 oIx (eV 1) (eCall f__law_draw (eAll [(eV 0), (eN oLen (eAll [(eV 1)]))]))))
def f__law_of : Fn := runB b__law_of 2
abbrev N__law_some : List Str := ["_law_m", "_law_many", "_law_share", "_law_k"]
def b__law_some : SM := (sRet (eN oTupL (eAll [(eLc [3] (.nm 3) (iRange1 (eV 1)) (qB (e2 oGt (eCall f__law_draw (eAll [(eV 0), (eV 2)])) (eC (.int 0)))) (eV 3))])))
def f__law_some : Fn := runB b__law_some 4
abbrev N__law_row : List Str := ["_law_m", "_law_many", "_law_most", "_law_lap"]
def b__law_row : SM := (sRet (eN oTupL (eAll [(eLc [3] (.nm 3) (iRange1 (eCall f__law_draw (eAll [(eV 0), (e2 oAdd (eV 2) (eC (.int 1)))]))) qT (eCall f__law_draw (eAll [(eV 0), (eV 1)])))])))
def f__law_row : Fn := runB b__law_row 4
abbrev N__law_is_entry : List Str := ["_law_many", "_law_thing", "_law_one"]
def b__law_is_entry : SM := (sSeq (sIf (qOr (qNot (qB (e1 (oIsa .tuple) (eV 1)))) (qOr (qB (e2 oNeP (eN oLen (eAll [(eV 1)])) (eC (.int 4)))) (qNot (qB (e1 (oIsa .tuple) (e2 oIx (eV 1) (eC (.int 0)))))))) (sRet (eC (.bl false))) sPass) (sSeq (sIf (qB (e2 oNeP (eLc [2] (.nm 2) (iAny (e2 oIx (eV 1) (eC (.int 0)))) (qNot (qB (eCall f__law_is_among (eAll [(eV 2), (eC (.int 0)), (e2 oSub (eV 0) (eC (.int 1)))])))) (eC (.int 1))) (eLst (eAll [])))) (sRet (eC (.bl false))) sPass) (sSeq (sIf (qOr (qB (e2 oNeP (e1 oSset (e2 oIx (eV 1) (eC (.int 0)))) (eN oLstL (eAll [(e2 oIx (eV 1) (eC (.int 0)))])))) (qNot (qB (eCall f__law_is_among (eAll [(e2 oIx (eV 1) (eC (.int 1))), (eC (.int 0)), (eC (.int 2))]))))) (sRet (eC (.bl false))) sPass) (sSeq (sIf (qOr (qNot (qB (e1 (oIsa .tuple) (e2 oIx (eV 1) (eC (.int 2)))))) (qB (e2 oGt (eN oLen (eAll [(e2 oIx (eV 1) (eC (.int 2)))])) (eC (.int 8))))) (sRet (eC (.bl false))) sPass) (sSeq (sIf (qB (e2 oNeP (eLc [2] (.nm 2) (iAny (e2 oIx (eV 1) (eC (.int 2)))) (qOr (qNot (qB (eCall f__law_is_among (eAll [(eV 2), (eC (.int 0)), (e2 oSub (eV 0) (eC (.int 1)))])))) (qB (e2 oNotIn (eV 2) (e2 oIx (eV 1) (eC (.int 0)))))) (eC (.int 1))) (eLst (eAll [])))) (sRet (eC (.bl false))) sPass) (sRet (e2 oIn (eN oReprP (eAll [(e2 oIx (eV 1) (eC (.int 3)))])) (eTup (eAll [(eC (.str "'done'")), (eC (.str "'never'"))])))))))))
def f__law_is_entry : Fn := runB b__law_is_entry 3
abbrev N__law_odds : List Str := ["_law_m", "_law_many", "_law_some_here", "_law_found", "_law_seen", "_law_loss", "_law_row_here", "_law_word", "_law_odds_here", "_law_odd"]
def b__law_odds : SM := (sSeq (sOwn 3 (eLst (eAll [(eV 2), (eC .non), (eTup (eAll [])), (eN oLstL (eAll [(eV 2)])), (eC (.str "log")), (eTup (eAll [(eC .non)])), (e2 oAdd (eV 2) (eTup (eAll [(eC (.int 5))]))), (e2 oMulP (eV 2) (eC (.int 9))), (e2 oAdd (eTup (eAll [(eTup (eAll []))])) (eV 2))]))) (sSeq (sPut (.tp [(.nm 4), (.nm 5), (.nm 6), (.nm 7)]) (e2 oIx (eV 2) (eC (.int 0)))) (sSeq (sAsg 8 (eLst (eAll [(eTup (eAll [(eN oLstL (eAll [(eV 4)])), (eV 5), (eV 6), (eV 7)])), (eTup (eAll [(e1 oRevT (eV 4)), (eV 5), (eV 6), (eV 7)])), (eTup (eAll [(eV 4), (eC (.int 3)), (eV 6), (eV 7)]))]))) (sSeq (sAsg 8 (e2 oAdd (eV 8) (eLst (eAll [(eTup (eAll [(eV 4), (e1 oNeg (eC (.int 1))), (eV 6), (eV 7)])), (eTup (eAll [(eV 4), (eC (.bl true)), (eV 6), (eV 7)])), (eTup (eAll [(eV 4), (eV 5), (eN oLstL (eAll [(eV 6)])), (eV 7)])), (eSl (e2 oIx (eV 2) (eC (.int 0))) eNo (eAt (eC (.int 3))))])))) (sSeq (sAsg 8 (e2 oAdd (eV 8) (eLst (eAll [(eTup (eAll [(eV 4), (eV 5), (eV 6), (eC (.str "Done"))])), (eTup (eAll [(eV 4), (eV 5), (e2 oAdd (eV 6) (eTup (eAll [(eV 1)]))), (eV 7)])), (eTup (eAll [(eV 4), (eV 5), (eV 6), (eC .non)]))])))) (sSeq (sAsg 8 (e2 oAdd (eV 8) (eLst (eAll [(e2 oAdd (e2 oIx (eV 2) (eC (.int 0))) (eTup (eAll [(eC (.int 0))]))), (eTup (eAll [(eV 4), (eC .non), (eV 6), (eV 7)])), (eTup (eAll [(eTup (eAll [])), (eV 5), (eTup (eAll [(eC (.int 0))])), (eV 7)])), (eTup (eAll [(eTup (eAll [(eV 1)])), (eV 5), (eTup (eAll [])), (eV 7)]))])))) (sSeq (sAsg 8 (e2 oAdd (eV 8) (eLst (eAll [(eTup (eAll [(eTup (eAll [(eC (.int 0)), (eC (.int 0))])), (eV 5), (eTup (eAll [])), (eV 7)])), (eTup (eAll [(eTup (eAll [(eC (.bl true))])), (eV 5), (eTup (eAll [])), (eV 7)])), (eTup (eAll [(eTup (eAll [(eC (.int 0))])), (eV 5), (e2 oRepT (eTup (eAll [(eC (.int 0))])) (eC (.int 9))), (eV 7)]))])))) (sSeq (sAsg 8 (e2 oAdd (eV 8) (eLst (eAll [(eTup (eAll [(eTup (eAll [(eC (.int 0))])), (eV 5), (e2 oRepT (eTup (eAll [(eC (.int 0))])) (eC (.int 8))), (eV 7)])), (eTup (eAll [(eTup (eAll [(eC (.int 0))])), (eV 5), (eTup (eAll [(eC (.bl false))])), (eV 7)]))])))) (sSeq (sFor (.nm 9) (iAny (eV 8)) (sApp 3 (e2 oAdd (eSl (eV 2) eNo (eAt (eCall f__law_draw (eAll [(eV 0), (e2 oAdd (eN oLen (eAll [(eV 2)])) (eC (.int 1)))])))) (eTup (eAll [(eV 9)]))))) (sSeq (sFrz 3) (sRet (eV 3))))))))))))
def f__law_odds : Fn := runB b__law_odds 10
abbrev N_is_lot : List Str := ["thing", "most", "one", "other"]
def b_is_lot : SM := (sRet (eAnd (eCall f_is_row (eAll [(eV 0), (eV 1)])) (eN oAllB (eAll [(eLc [2, 3] (.tp [(.nm 2), (.nm 3)]) (iZipT (eV 0) (eSl (eV 0) (eAt (eC (.int 1))) eNo)) qT (e2 oLt (eV 2) (eV 3)))]))))
def f_is_lot : Fn := runB b_is_lot 4
abbrev N__law_entry : List Str := ["_law_m", "_law_many", "_law_row_here", "_law_seen", "_law_loss", "_law_kept", "_law_deed"]
def b__law_entry : SM := (sSeq (sPut (.tp [(.nm 3), (.nm 4)]) (eTup (eAll [(eCall f__law_some (eAll [(eV 0), (eV 1), (eC (.int 3))])), (eCall f__law_of (eAll [(eV 0), (eLst (eAll [(eC (.int 0)), (eC (.int 0)), (eC (.int 1)), (eC (.int 2))]))]))]))) (sSeq (sOwn 5 (eLc [6] (.nm 6) (iAny (eV 2)) (qB (e2 oIn (eV 6) (eV 3))) (eV 6))) (sSeq (sIf (qB (e2 oGt (eV 4) (eC (.int 0)))) (sSeq (sFrz 5) (sOwn 5 (eLc [6] (.nm 6) (iAny (eV 5)) (qB (e2 oGt (eCall f__law_draw (eAll [(eV 0), (eC (.int 4))])) (eC (.int 0)))) (eV 6)))) sPass) (sSeq (sIf (qAnd (qB (e2 oEqP (eCall f__law_draw (eAll [(eV 0), (eC (.int 3))])) (eC (.int 0)))) (qB (e2 oNeP (eV 3) (eTup (eAll []))))) (sApp 5 (eCall f__law_of (eAll [(eV 0), (eV 3)]))) sPass) (sRet (eTup (eAll [(eV 3), (eV 4), (eN oTupL (eAll [(eSl (eW 5) eNo (eAt (eC (.int 8))))])), (eCall f__law_of (eAll [(eV 0), (eLst (eAll [(eC (.str "done")), (eC (.str "done")), (eC (.str "never"))]))]))])))))))
def f__law_entry : Fn := runB b__law_entry 7
abbrev N__law_due : List Str := ["_law_many", "_law_thing", "_law_wrong", "_law_number", "_law_one"]
def b__law_due : SM := (sSeq (sIf (qOr (qNot (qB (e1 (oIsa .tuple) (eV 1)))) (qB (e2 oGt (eN oLen (eAll [(eV 1)])) (eC (.int 8))))) (sRet (eC (.str "form"))) sPass) (sSeq (sAsg 2 (eLc [3, 4] (.tp [(.nm 3), (.nm 4)]) (iEnum2 (eV 1)) (qNot (qB (eCall f__law_is_entry (eAll [(eV 0), (eV 4)])))) (eV 3))) (sRet (eIf (qB (e2 oNeP (eV 2) (eLst (eAll [])))) (e2 oIx (eV 2) (eC (.int 0))) (eLst (eAll [(eV 1)]))))))
def f__law_due : Fn := runB b__law_due 5
abbrev N_is_entry : List Str := ["deeds", "thing", "deed"]
def b_is_entry : SM := (sSeq (sIf (qOr (qNot (qB (e1 (oIsa .tuple) (eV 1)))) (qOr (qB (e2 oNeP (eN oLen (eAll [(eV 1)])) (eC (.int 4)))) (qNot (qB (eCall f_is_lot (eAll [(e2 oIx (eV 1) (eC (.int 0))), (e2 oSub (eV 0) (eC (.int 1)))])))))) (sRet (eC (.bl false))) sPass) (sSeq (sIf (qOr (qNot (qB (eCall f_is_whole (eAll [(e2 oIx (eV 1) (eC (.int 1))), (eC (.int 0)), (eC (.int 2))])))) (qOr (qNot (qB (eCall f_is_row (eAll [(e2 oIx (eV 1) (eC (.int 2))), (e2 oSub (eV 0) (eC (.int 1)))])))) (qB (e2 oGt (eN oLen (eAll [(e2 oIx (eV 1) (eC (.int 2)))])) (eC (.int 8)))))) (sRet (eC (.bl false))) sPass) (sSeq (sIf (qNot (qB (eN oAllB (eAll [(eLc [2] (.nm 2) (iAny (e2 oIx (eV 1) (eC (.int 2)))) qT (e2 oIn (eV 2) (e2 oIx (eV 1) (eC (.int 0)))))])))) (sRet (eC (.bl false))) sPass) (sRet (eAnd (e1 (oIsa .str) (e2 oIx (eV 1) (eC (.int 3)))) (e2 oIn (e2 oIx (eV 1) (eC (.int 3))) (eTup (eAll [(eC (.str "done")), (eC (.str "never"))]))))))))
def f_is_entry : Fn := runB b_is_entry 3
abbrev N_need_log : List Str := ["deeds", "thing", "number", "entry"]
def b_need_log : SM := (sSeq (sExpr (eCall f_need_deeds (eAll [(eV 0)]))) (sSeq (sIf (qOr (qNot (qB (e1 (oIsa .tuple) (eV 1)))) (qB (e2 oGt (eN oLen (eAll [(eV 1)])) (eC (.int 8))))) (sRaise "BadLog" (some "part") (eC (.str "form"))) sPass) (sSeq (sFor (.tp [(.nm 2), (.nm 3)]) (iEnum2 (eV 1)) (sIf (qNot (qB (eCall f_is_entry (eAll [(eV 0), (eV 3)])))) (sRaise "BadLog" (some "part") (eV 2)) sPass)) (sRet (eV 1)))))
def f_need_log : Fn := runB b_need_log 4
abbrev N_does_show : List Str := ["deeds", "log", "number", "row"]
def b_does_show : SM := (sSeq (sExpr (eCall f_need_log (eAll [(eV 0), (eV 1)]))) (sSeq (sExpr (eCall f_need_number (eAll [(eV 1), (eV 2)]))) (sSeq (sIf (qOr (qNot (qB (eCall f_is_row (eAll [(eV 3), (e2 oSub (eV 0) (eC (.int 1)))])))) (qB (e2 oGt (eN oLen (eAll [(eV 3)])) (eC (.int 400))))) (sRaise "OutOfPlace" none (eC (.str "no row"))) sPass) (sRet (eCall f_does_show_in (eAll [(e2 oIx (eV 1) (eV 2)), (eV 3)]))))))
def f_does_show : Fn := runB b_does_show 4
abbrev N__law_rows_right : List Str := ["_law_m", "_law_many", "_law_some_here", "_law_rows", "_law_number", "_law_entry_here", "_law_row_here", "_law_due_here", "_law_told", "_law_more", "_law_deed", "_law_at", "_law_longer", "_law_wide"]
def b__law_rows_right : SM := (sSeq (sFor (.tp [(.nm 4), (.nm 5)]) (iEnum2 (eV 2)) (sFor (.nm 6) (iAny (eV 3)) (sSeq (sAsg 7 (eCall f__law_shows (eAll [(eV 5), (eV 6)]))) (sSeq (sAsg 8 (eLst (eAll [(eCall f_does_show (eAll [(eV 1), (eV 2), (eV 4), (eV 6)])), (eCall f_does_show (eAll [(eV 1), (eV 2), (eV 4), (eV 6)]))]))) (sSeq (sIf (qB (e2 oNeP (eN oReprP (eAll [(eV 8)])) (eN oReprP (eAll [(eLst (eAll [(eV 7), (eV 7)]))])))) (sRet (eC (.bl false))) sPass) (sSeq (sAsg 9 (eLc [10] (.nm 10) (iRange1 (eV 1)) (qB (e2 oNotIn (eV 10) (e2 oIx (eV 5) (eC (.int 0))))) (eV 10))) (sSeq (sAsg 11 (eCall f__law_draw (eAll [(eV 0), (e2 oAdd (eN oLen (eAll [(eV 6)])) (eC (.int 1)))]))) (sSeq (sAsg 12 (e2 oAdd (e2 oAdd (eSl (eV 6) eNo (eAt (eV 11))) (eN oTupL (eAll [(eSl (eV 9) eNo (eAt (eC (.int 1))))]))) (eSl (eV 6) (eAt (eV 11)) eNo))) (sSeq (sIf (qB (e2 oNeP (eCall f_does_show (eAll [(eV 1), (eV 2), (eV 4), (eV 12)])) (eV 7))) (sRet (eC (.bl false))) sPass) (sSeq (sAsg 13 (eTup (eAll [(e2 oIx (eV 5) (eC (.int 0))), (eC (.int 2)), (e2 oIx (eV 5) (eC (.int 2))), (e2 oIx (eV 5) (eC (.int 3)))]))) (sIf (qAnd (qB (eV 7)) (qB (e2 oNotB (eCall f_does_show (eAll [(eV 1), (eTup (eAll [(eV 13)])), (eC (.int 0)), (eV 6)])) (eC (.bl true))))) (sRet (eC (.bl false))) sPass))))))))))) (sRet (eC (.bl true))))
def f__law_rows_right : Fn := runB b__law_rows_right 14
abbrev N__law_hand_right : List Str := ["_law_some_here", "_law_rows", "_law_due_here", "_law_number", "_law_told", "_law_spot", "_law_row_here"]
def b__law_hand_right : SM := (sSeq (sAsg 0 (eTup (eAll [(eTup (eAll [(eTup (eAll [(eC (.int 0)), (eC (.int 1))])), (eC (.int 1)), (eTup (eAll [(eC (.int 0)), (eC (.int 1))])), (eC (.str "done"))])), (eTup (eAll [(eTup (eAll [])), (eC (.int 0)), (eTup (eAll [])), (eC (.str "never"))])), (eTup (eAll [(eTup (eAll [(eC (.int 0))])), (eC (.int 2)), (eTup (eAll [(eC (.int 0)), (eC (.int 0))])), (eC (.str "done"))])), (eTup (eAll [(eTup (eAll [(eC (.int 0))])), (eC (.int 0)), (eTup (eAll [])), (eC (.str "done"))]))]))) (sSeq (sAsg 1 (eLst (eAll [(eTup (eAll [(eC (.int 0)), (eC (.int 1))])), (eTup (eAll [(eC (.int 0)), (eC (.int 2)), (eC (.int 1))])), (eTup (eAll [(eC (.int 0)), (eC (.int 0)), (eC (.int 1))])), (eTup (eAll [(eC (.int 1)), (eC (.int 0)), (eC (.int 1)), (eC (.int 0))])), (eTup (eAll [(eC (.int 0)), (eC (.int 0)), (eC (.int 0)), (eC (.int 1))])), (eTup (eAll [(eC (.int 1)), (eC (.int 1)), (eC (.int 0)), (eC (.int 1))])), (eTup (eAll [(eC (.int 0))])), (eTup (eAll [(eC (.int 2)), (eC (.int 2)), (eC (.int 2))])), (eTup (eAll [(eC (.int 0)), (eC (.int 0))]))]))) (sSeq (sAsg 1 (e2 oAdd (eV 1) (eLst (eAll [(e2 oRepT (eTup (eAll [(eC (.int 0))])) (eC (.int 8))), (e2 oRepT (eTup (eAll [(eC (.int 0))])) (eC (.int 9))), (eTup (eAll [])), (eTup (eAll [(eC (.int 1)), (eC (.int 2)), (eC (.int 1)), (eC (.int 0)), (eC (.int 1))]))])))) (sSeq (sAsg 2 (eLst (eAll [(eTup (eAll [(eC (.int 0)), (eC (.int 1)), (eC (.int 2)), (eC (.int 3)), (eC (.int 4))])), (eN oTupL (eAll [(eLr (eC (.int 13)))])), (eTup (eAll [(eC (.int 2)), (eC (.int 3)), (eC (.int 4)), (eC (.int 8)), (eC (.int 9))])), (eTup (eAll [(eC (.int 7)), (eC (.int 11))]))]))) (sSeq (sFor (.nm 3) (iRange1 (eC (.int 4))) (sSeq (sAsg 4 (eLc [5, 6] (.tp [(.nm 5), (.nm 6)]) (iEnum2 (eV 1)) (qB (e2 oIsB (eCall f_does_show (eAll [(eC (.int 3)), (eV 0), (eV 3), (eV 6)])) (eC (.bl true)))) (eV 5))) (sIf (qB (e2 oNeP (eN oTupL (eAll [(eV 4)])) (e2 oIx (eV 2) (eV 3)))) (sRet (eC (.bl false))) sPass))) (sRet (eAnd (eCall f_does_show (eAll [(eC (.int 1)), (eTup (eAll [(eTup (eAll [(eTup (eAll [(eC (.int 0))])), (eC (.int 2)), (eTup (eAll [])), (eC (.str "never"))]))])), (eC (.int 0)), (eTup (eAll [(eC (.int 0)), (eC (.int 0))]))])) (e2 oEqP (eCall f_need_log (eAll [(eC (.int 6)), (eTup (eAll []))])) (eTup (eAll []))))))))))
def f__law_hand_right : Fn := runB b__law_hand_right 7
abbrev N__law_right : List Str := ["_law_m", "_law_many", "_law_rows", "_law_lap", "_law_some_here", "_law_row_here", "_law_kept", "_law_odd", "_law_own", "_law_due_here"]
def b__law_right : SM := (sSeq (sAsg 1 (e2 oAdd (eC (.int 1)) (eCall f__law_draw (eAll [(eV 0), (eC (.int 6))])))) (sSeq (sAsg 2 (eLc [3] (.nm 3) (iRange1 (eC (.int 4))) qT (eCall f__law_row (eAll [(eV 0), (eV 1), (eC (.int 10))])))) (sSeq (sAsg 4 (eTup (eAll []))) (sSeq (sFor (.nm 3) (iRange1 (e2 oAdd (eC (.int 1)) (eCall f__law_draw (eAll [(eV 0), (eC (.int 4))])))) (sSeq (sAsg 5 (eCall f__law_of (eAll [(eV 0), (eV 2)]))) (sAsg 4 (e2 oAdd (eV 4) (eTup (eAll [(eCall f__law_entry (eAll [(eV 0), (eV 1), (eV 5)]))])))))) (sSeq (sAsg 6 (eN oReprP (eAll [(eLst (eAll [(eV 4), (eV 2)]))]))) (sSeq (sIf (qNot (qB (eCall f__law_rows_right (eAll [(eV 0), (eV 1), (eV 4), (e2 oAdd (eV 2) (eLst (eAll [(e2 oIx (e2 oIx (eV 4) (eC (.int 0))) (eC (.int 2))), (eTup (eAll []))])))])))) (sRet (eC (.bl false))) sPass) (sSeq (sFor (.nm 7) (iAny (eCall f__law_odds (eAll [(eV 0), (eV 1), (eV 4)]))) (sSeq (sPar2 8 9 (eN oReprP (eAll [(eV 7)])) (eCall f__law_due (eAll [(eV 1), (eV 7)]))) (sIf (qOr (qB (e2 oNeP (eN oReprP (eAll [(eLam f__law_heard (eCall f_need_log (eAll [(eV 1), (eV 7)])))])) (eN oReprP (eAll [(eV 9)])))) (qB (e2 oNeP (eN oReprP (eAll [(eV 7)])) (eV 8)))) (sRet (eC (.bl false))) sPass))) (sRet (e2 oEqP (eN oReprP (eAll [(eLst (eAll [(eV 4), (eV 2)]))])) (eV 6))))))))))
def f__law_right : Fn := runB b__law_right 10
abbrev N_law : List Str := ["_law_script", "_law_k"]
def b_law : SM := (sSeq (sFor (.nm 1) (iRange1 (e2 oAdd (eC (.int 1)) (eN oMin (eAll [(eN oLen (eAll [(eV 0)])), (eC (.int 4))])))) (sIf (qNot (qB (eCall f__law_right (eAll [(eCall f__law_begun (eAll [(eV 0), (eV 1)]))])))) (sRet (eC (.bl false))) sPass)) (sRet (eCall f__law_hand_right eNil)))
def f_law : Fn := runB b_law 2
end K58
set_option Elab.async false
set_option linter.all false
set_option maxRecDepth 100000
set_option maxHeartbeats 0
set_option autoImplicit false
/-! the derivations of worksward_k58_whole_entries_shown -/
namespace K58
open PySem PySem.Spec PyProof.Rows L2 Wd
abbrev P : Program := PySem.Challenge.pw_worksward_k58_whole_entries_shown
def top (i : Nat) : Stmt := P.main.body.getD i (.Pass ⟨0, 0, 0, 0⟩)
structure GG (w : World) (K : PySem.W.Frag) (mg : Str → Option Value) : Prop where
  blt : Blt mg
  c_DONE : ∃ t, mg "DONE" = some (.str "done" t)
  c_MOST_DEEDS : ∃ t, mg "MOST_DEEDS" = some (.int 6 t)
  c_MOST_ENTRIES : ∃ t, mg "MOST_ENTRIES" = some (.int 8 t)
  c_MOST_LOSS : ∃ t, mg "MOST_LOSS" = some (.int 2 t)
  c_MOST_RUN : ∃ t, mg "MOST_RUN" = some (.int 400 t)
  c_MOST_SHOWN : ∃ t, mg "MOST_SHOWN" = some (.int 8 t)
  c_NEVER : ∃ t, mg "NEVER" = some (.str "never" t)
  ra_BadLog : RaA P w K mg "BadLog" (some "part")
  ra_OutOfPlace : RaA P w K mg "OutOfPlace" none
  g_BadLog : mg "BadLog" = some (.ref (He.ga K "BadLog"))
  exm : ∀ z ∈ kn, ∀ y ∈ kn, PySem.W.exmOne K (.ref (He.ga K z)) (.ref (He.ga K y)) = some (decide (z = y))
  no_BadLog_part : PySem.W.findIn K (.ref (He.ga K "BadLog")) "part" = some none
  xf_BadLog : XfC K (He.ga K "BadLog")
theorem exm_of {K : PySem.W.Frag} {hs : List Hd} (h : ∀ z ∈ kn, ∀ y ∈ kn, PySem.W.exmOne K (.ref (He.ga K z)) (.ref (He.ga K y)) = some (decide (z = y))) (e : hs.map (·.y) = kn) : ∀ z ∈ kn, ∀ x ∈ hs, PySem.W.exmOne K (.ref (He.ga K z)) (.ref (He.ga K x.y)) = some (decide (z = x.y)) := fun z hz x hx => h z hz x.y (by rw [← e]; exact List.mem_map_of_mem hx)
theorem pinS {K : PySem.W.Frag} {c : Cc} {i j : Nat} {a : Addr} {y : Str} {x : Exn} {cls : Value} {d : Option Addr} (h : ∀ p ∈ c.pin, p.1 ≠ i) (hj : (j == i) = false) : ∀ p ∈ (c.suite K (some j) a y x cls d).pin, p.1 ≠ i := fun p hp => by
  rcases List.mem_append.mp (show p ∈ [(j, V.ref a)] ++ c.pin from hp) with hp | hp
  · rw [List.mem_singleton.mp hp]
    exact beq_eq_false_iff_ne.mp hj
  · exact h p hp
theorem pinS0 {K : PySem.W.Frag} {c : Cc} {i : Nat} {a : Addr} {y : Str} {x : Exn} {cls : Value} {d : Option Addr} (h : ∀ p ∈ c.pin, p.1 ≠ i) : ∀ p ∈ (c.suite K none a y x cls d).pin, p.1 ≠ i := h
section
variable {w : World} {K : PySem.W.Frag} {mg : Str → Option Value} {base : Heap} {T : List (Addr × Str)} {f : Addr} {cdv : Value} {A : Around} {outer : List PySem.Env} {s : Shared} {H : Hp} {E : XK}
theorem nd_is_whole : N_is_whole.Nodup := by decide +kernel
theorem d_is_whole (G : GG w K mg) (B : Bx (bodyCx P w K mg base N_is_whole "is_whole" (defScope (top 6)) f cdv A outer s H E) (bodyW E) 0) :
    GB (bodyCx P w K mg base N_is_whole "is_whole" (defScope (top 6)) f cdv A outer s H E) { T := T } (bodyW E) (defBody (top 6)) b_is_whole :=
  have nd := nd_is_whole
  (g_seq (g_ifS (GW.t (g_orW (g_notT (g_test (g_isaInt G.blt (GE.v (g_var 0))))) (g_orW (g_test (g_isaBool G.blt (GE.v (g_var 0)))) (g_orW1 (t_lt (GE.v (g_var 0)) (GE.v (g_var 1))))))) (g_one (g_ret g_bl)) g_nop)
    (g_one (g_ret (g_orV (g_isN (GE.v (g_var 2))) (g_oneV (c_le (GE.v (g_var 0)) (GE.v (g_var 2))))))))
theorem nd_heard_behind : N_heard_behind.Nodup := by decide +kernel
theorem d_heard_behind (G : GG w K mg) (B : Bx (bodyCx P w K mg base N_heard_behind "heard_behind" (defScope (top 20)) f cdv A outer s H E) (bodyW E) 0) :
    GB (bodyCx P w K mg base N_heard_behind "heard_behind" (defScope (top 20)) f cdv A outer s H E) { T := T } (bodyW E) (defBody (top 20)) b_heard_behind :=
  have nd := nd_heard_behind
  (g_seq (g_put (g_var 0) (g_tp (g_tgs (g_nm 4 nd) (g_tgs (g_nm 5 nd) (g_tgs (g_nm 6 nd) (g_tgs (g_nm 7 nd) g_tgs0))))))
    (g_seq (g_ifS (t_ni (GE.v (g_var 3)) (GE.v (g_var 4))) (g_one (g_ret (GF.e (g_lst (g_cons (g_tup (g_cons (g_var 1) (g_cons (g_var 2) g_nil))) g_nil))))) g_nop)
    (g_seq (g_asg 8 (g_if (t_lt (GE.v (g_var 2)) (GE.v (g_var 5))) (GF.e (g_lst (g_cons (g_tup (g_cons (g_var 1) (g_cons (g_add (GE.v (g_var 2)) (GE.v g_int)) g_nil))) g_nil))) (GF.e (g_lst g_nil))) nd)
    (g_one (g_ret (g_add (GE.v (g_var 8)) (GE.v (g_if (GW.t (g_andW (t_lt (GE.v (g_var 1)) (GE.v (g_len G.blt (GE.v (g_var 6))))) (g_andW1 (t_eqP B (GE.v (g_ix (GE.v (g_var 6)) (GE.v (g_var 1)))) (GE.v (g_var 3)))))) (GF.e (g_lst (g_cons (g_tup (g_cons (g_add (GE.v (g_var 1)) (GE.v g_int)) (g_cons g_int g_nil))) g_nil))) (GF.e (g_lst g_nil))))))))))
theorem nd__law_begun : N__law_begun.Nodup := by decide +kernel
theorem d__law_begun (G : GG w K mg) (B : Bx (bodyCx P w K mg base N__law_begun "_law_begun" (defScope (top 24)) f cdv A outer s H E) (bodyW E) 0) :
    GB (bodyCx P w K mg base N__law_begun "_law_begun" (defScope (top 24)) f cdv A outer s H E) { T := T } (bodyW E) (defBody (top 24)) b__law_begun :=
  have nd := nd__law_begun
  (g_seq (g_asg 2 (g_add (GE.v (g_sl (GE.v (g_var 0)) (g_at (g_var 1)) g_no)) (GE.v (g_sl (GE.v (g_var 0)) g_no (g_at (g_var 1))))) nd)
    (g_seq (g_asgLc 3 nd (g_any2 (g_var 2)) (blkOk_by (own := [("_law_cell", 4)]) (by kernel_rfl)) (fun _ _ _ _ _ => (g_nm 4 nd)) (fun _ _ _ _ _ => (g_ts1 (t_ge (GE.v (g_var 4)) (GE.v (g_pow (GE.v g_int) (GE.v g_int)))))) (fun _ _ _ _ _ => (g_var 4)) (sw_true rfl rfl rfl rfl))
    (g_seq (g_asg 5 (g_add (GE.v g_int) (GE.v (g_var 1))) nd)
    (g_seq (g_for (g_any2 (g_var 2)) (g_nm 4 nd) (g_one (g_asg 5 (g_mod (GE.v (g_intc G.blt (GE.v (g_add (GE.v (g_mulP (GE.v (g_var 5)) (GE.v g_int))) (GE.v (g_var 4)))))) (GE.v g_int)) nd)) B.po)
    (g_one (g_ret (g_new (g_disp (.cons g_str (g_if (t_neP B (GE.v (g_var 3)) (GE.v (GF.e (g_lst g_nil)))) (g_ix (GE.v (g_var 3)) (GE.v g_int)) g_int) (.cons g_str (g_var 5) (.cons g_str (g_add (GE.v (g_var 2)) (GE.v (GF.e (g_lst (g_cons (g_add (GE.v (g_mul (GE.v g_int) (GE.v (g_var 1)))) (GE.v g_int)) g_nil))))) (.cons g_str g_int .nil))))))))))))
theorem nd__law_draw : N__law_draw.Nodup := by decide +kernel
theorem d__law_draw (G : GG w K mg) (B : Bx (bodyCx P w K mg base N__law_draw "_law_draw" (defScope (top 25)) f cdv A outer s H E) (bodyW E) 0) :
    GB (bodyCx P w K mg base N__law_draw "_law_draw" (defScope (top 25)) f cdv A outer s H E) { T := T } (bodyW E) (defBody (top 25)) b__law_draw :=
  have nd := nd__law_draw
  (g_seq (g_ifS (t_gt (GE.v (g_dix B.u1 (GE.v (g_var 0)) (GE.v g_str))) (GE.v g_int)) (g_seq (g_asg 2 (g_mod (GE.v (g_intc G.blt (GE.v (g_dix B.u1 (GE.v (g_var 0)) (GE.v g_str))))) (GE.v (g_var 1))) nd)
    (g_seq (g_dputR B.u1 (g_var 0) g_str (g_div (GE.v (g_dix B.u1 (GE.v (g_var 0)) (GE.v g_str))) (GE.v (g_var 1))))
    (g_one (g_ret (g_var 2))))) g_nop)
    (g_seq (g_asg 3 (g_dix B.u1 (GE.v (g_var 0)) (GE.v g_str)) nd)
    (g_seq (g_dputR B.u1 (g_var 0) g_str (g_add (GE.v (g_var 3)) (GE.v g_int)))
    (g_seq (g_par2 4 5 (g_dix B.u1 (GE.v (g_var 0)) (GE.v g_str)) (g_add (GE.v (g_dix B.u1 (GE.v (g_var 0)) (GE.v g_str))) (GE.v (g_mul (GE.v (g_mul (GE.v g_int) (GE.v (g_var 3)))) (GE.v (g_var 3))))) nd)
    (g_seq (g_asg 6 (g_ix (GE.v (g_var 4)) (GE.v (g_mod (GE.v (g_intc G.blt (GE.v (g_var 3)))) (GE.v (g_len G.blt (GE.v (g_var 4))))))) nd)
    (g_seq (g_asg 7 (g_mod (GE.v (g_intc G.blt (GE.v (g_add (GE.v (g_mul (GE.v (g_var 6)) (GE.v (g_add (GE.v (g_mul (GE.v g_int) (GE.v (g_var 3)))) (GE.v g_int))))) (GE.v (g_var 5)))))) (GE.v g_int)) nd)
    (g_seq (g_asg 7 (g_mod (GE.v (g_intc G.blt (GE.v (g_add (GE.v (g_add (GE.v (g_mul (GE.v (g_var 7)) (GE.v (g_var 7)))) (GE.v (g_mul (GE.v g_int) (GE.v (g_var 3)))))) (GE.v (g_dix B.u1 (GE.v (g_var 0)) (GE.v g_str))))))) (GE.v g_int)) nd)
    (g_one (g_ret (g_mod (GE.v (g_div (GE.v (g_mod (GE.v (g_intc G.blt (GE.v (g_add (GE.v (g_mulP (GE.v (g_var 7)) (GE.v g_int))) (GE.v (g_var 3)))))) (GE.v g_int))) (GE.v g_int))) (GE.v (g_var 1))))))))))))
theorem nd__law_is_among : N__law_is_among.Nodup := by decide +kernel
theorem d__law_is_among (G : GG w K mg) (B : Bx (bodyCx P w K mg base N__law_is_among "_law_is_among" (defScope (top 28)) f cdv A outer s H E) (bodyW E) 0) :
    GB (bodyCx P w K mg base N__law_is_among "_law_is_among" (defScope (top 28)) f cdv A outer s H E) { T := T } (bodyW E) (defBody (top 28)) b__law_is_among :=
  have nd := nd__law_is_among
  (g_seq (g_ifS (GW.t (g_orW (g_notT (g_test (g_isaInt G.blt (GE.v (g_var 0))))) (g_orW (g_test (g_isaBool G.blt (GE.v (g_var 0)))) (g_orW1 (t_lt (GE.v (g_var 0)) (GE.v (g_var 1))))))) (g_one (g_ret g_bl)) g_nop)
    (g_one (g_ret (g_orV (g_isN (GE.v (g_var 2))) (g_oneV (c_le (GE.v (g_var 0)) (GE.v (g_var 2))))))))
theorem nd__law_shows : N__law_shows.Nodup := by decide +kernel
theorem d__law_shows (G : GG w K mg) (B : Bx (bodyCx P w K mg base N__law_shows "_law_shows" (defScope (top 31)) f cdv A outer s H E) (bodyW E) 0) :
    GB (bodyCx P w K mg base N__law_shows "_law_shows" (defScope (top 31)) f cdv A outer s H E) { T := T } (bodyW E) (defBody (top 31)) b__law_shows :=
  have nd := nd__law_shows
  (g_seq (g_put (g_var 0) (g_tp (g_tgs (g_nm 2 nd) (g_tgs (g_nm 3 nd) (g_tgs (g_nm 4 nd) (g_tgs (g_nm 5 nd) g_tgs0))))))
    (g_seq (g_put (g_tup (g_cons (GF.e (g_lc nd (g_any2 (g_var 1)) (blkOk_by (own := [("_law_deed", 8)]) (by kernel_rfl)) (fun _ _ _ _ _ => (g_nm 8 nd)) (fun _ _ _ _ _ => (g_ts1 (t_in (GE.v (g_var 8)) (GE.v (g_var 2))))) (fun _ _ _ _ _ => (g_var 8)))) (g_cons (GF.e (g_lst (g_cons (g_neg g_int) g_nil))) g_nil))) (g_tp (g_tgs (g_nm 6 nd) (g_tgs (g_nm 7 nd) g_tgs0))))
    (g_seq (g_for (g_any2 (g_var 4)) (g_nm 8 nd) (g_seq (g_own 9 (g_lst g_nil) nd)
    (g_seq (g_for (g_enum2 G.blt (g_var 6)) (g_tp (g_tgs (g_nm 10 nd) (g_tgs (g_nm 11 nd) g_tgs0))) (g_one (g_ifS (GW.t (g_andW (t_eqP B (GE.v (g_var 11)) (GE.v (g_var 8))) (g_andW1 (t_neP B (GE.v (GF.e (g_lc nd (g_any2 (g_var 7)) (blkOk_by (own := [("_law_end", 12)]) (by kernel_rfl)) (fun _ _ _ _ _ => (g_nm 12 nd)) (fun _ _ _ _ _ => (g_ts1 (t_lt_le (GE.v g_int) (GE.v (g_sub (GE.v (g_var 10)) (GE.v (g_var 12)))) (GE.v (g_add (GE.v (g_var 3)) (GE.v g_int)))))) (fun _ _ _ _ _ => g_int)))) (GE.v (GF.e (g_lst g_nil))))))) (g_one (g_app 9 (g_var 10))) g_nop)) B.po)
    (g_one (g_frz 9 (g_asg 7 (g_var 9) nd))))) B.po)
    (g_one (g_ret (c_neP B (GE.v (GF.e (g_lc nd (g_any2 (g_var 7)) (blkOk_by (own := [("_law_end", 12)]) (by kernel_rfl)) (fun _ _ _ _ _ => (g_nm 12 nd)) (fun _ _ _ _ _ => (g_ts1 (t_le (GE.v (g_sub (GE.v (g_sub (GE.v (g_len G.blt (GE.v (g_var 6)))) (GE.v g_int))) (GE.v (g_var 12)))) (GE.v (g_var 3))))) (fun _ _ _ _ _ => g_int)))) (GE.v (GF.e (g_lst g_nil)))))))))
theorem nd__law_heard : N__law_heard.Nodup := by decide +kernel
theorem d__law_heard (G : GG w K mg) {c2 : Cc} {κ : Wd.S → Res Wd.D} {fl : Addr} {kk : Nat} (hT : c2.T = T) (ep : c2.pin = [(0, .ref fl)]) (cb : ∀ (W' : WX) (pn : List (Addr × Obj)) (xe : Value → Shared → Prop) (p1 p2 : Pos), Bx ((bodyCx P w K mg base N__law_heard "_law_heard" (defScope (top 34)) f cdv A outer s H E).tr pn xe) W' (kk + 1) → GE ((bodyCx P w K mg base N__law_heard "_law_heard" (defScope (top 34)) f cdv A outer s H E).tr pn xe) c2 W' (.Call (.Name "_law_call" p1) [] [] p2) (eCb κ)) (B : Bx (bodyCx P w K mg base N__law_heard "_law_heard" (defScope (top 34)) f cdv A outer s H E) (bodyW E) (kk + 1)) :
    GB (bodyCx P w K mg base N__law_heard "_law_heard" (defScope (top 34)) f cdv A outer s H E) c2 (bodyW E) (defBody (top 34)) (b__law_heard κ) :=
  have nd := nd__law_heard
  have hpin : ∀ i, (i == 0) = false → ∀ p ∈ c2.pin, p.1 ≠ i := fun i hi p hp => by
    rw [ep] at hp
    rw [List.mem_singleton.mp hp]
    exact Ne.symm (beq_eq_false_iff_ne.mp hi)
  (g_one (g_try (known := kn) B nd (fun W pn xe B => (g_one (g_ret (GF.e (g_lst (g_cons (cb _ _ _ _ _ B) g_nil)))))) (.consAs ⟨rfl, rfl, .inl G.g_BadLog⟩ rfl rfl (hpin 1 rfl) (fun a oe cls d pn xn hz hfd => (g_one (g_ret (g_fld G.xf_BadLog G.no_BadLog_part hz hfd)))) .nil) (exm_of G.exm rfl)))
theorem nd_is_row : N_is_row.Nodup := by decide +kernel
theorem d_is_row (G : GG w K mg) (k_is_whole : Cal P w K mg base T 1 "is_whole" 3 f_is_whole) (B : Bx (bodyCx P w K mg base N_is_row "is_row" (defScope (top 7)) f cdv A outer s H E) (bodyW E) 1) :
    GB (bodyCx P w K mg base N_is_row "is_row" (defScope (top 7)) f cdv A outer s H E) { T := T } (bodyW E) (defBody (top 7)) b_is_row :=
  have nd := nd_is_row
  (g_one (g_ret (g_andV (g_isaTup G.blt (GE.v (g_var 0))) (g_oneV (g_all G.blt (GE.v (GF.e (g_lc nd (g_any2 (g_var 0)) (blkOk_by (own := [("one", 2)]) (by kernel_rfl)) (fun _ _ _ _ _ => (g_nm 2 nd)) (fun _ _ _ _ _ => g_ts0) (fun _ _ _ _ _ => (k_call k_is_whole B.blk (g_cons (g_var 2) (g_cons g_int (g_cons (g_var 1) g_nil)))))))))))))
theorem nd_need_deeds : N_need_deeds.Nodup := by decide +kernel
theorem d_need_deeds (G : GG w K mg) (k_is_whole : Cal P w K mg base T 1 "is_whole" 3 f_is_whole) (B : Bx (bodyCx P w K mg base N_need_deeds "need_deeds" (defScope (top 10)) f cdv A outer s H E) (bodyW E) 1) :
    GB (bodyCx P w K mg base N_need_deeds "need_deeds" (defScope (top 10)) f cdv A outer s H E) { T := T } (bodyW E) (defBody (top 10)) b_need_deeds :=
  have nd := nd_need_deeds
  (g_one (g_ifS (g_notT (g_test (k_call k_is_whole B (g_cons (g_var 0) (g_cons g_int (g_cons (g_gInt rfl G.c_MOST_DEEDS) g_nil)))))) (g_one (g_raiseB G.ra_OutOfPlace B g_str)) g_nop))
theorem nd_need_number : N_need_number.Nodup := by decide +kernel
theorem d_need_number (G : GG w K mg) (k_is_whole : Cal P w K mg base T 1 "is_whole" 3 f_is_whole) (B : Bx (bodyCx P w K mg base N_need_number "need_number" (defScope (top 19)) f cdv A outer s H E) (bodyW E) 1) :
    GB (bodyCx P w K mg base N_need_number "need_number" (defScope (top 19)) f cdv A outer s H E) { T := T } (bodyW E) (defBody (top 19)) b_need_number :=
  have nd := nd_need_number
  (g_one (g_ifS (g_notT (g_test (k_call k_is_whole B (g_cons (g_var 1) (g_cons g_int (g_cons (g_sub (GE.v (g_len G.blt (GE.v (g_var 0)))) (GE.v g_int)) g_nil)))))) (g_one (g_raiseB G.ra_OutOfPlace B g_str)) g_nop))
theorem nd_does_show_in : N_does_show_in.Nodup := by decide +kernel
theorem d_does_show_in (G : GG w K mg) (k_heard_behind : Cal P w K mg base T 1 "heard_behind" 4 f_heard_behind) (B : Bx (bodyCx P w K mg base N_does_show_in "does_show_in" (defScope (top 21)) f cdv A outer s H E) (bodyW E) 1) :
    GB (bodyCx P w K mg base N_does_show_in "does_show_in" (defScope (top 21)) f cdv A outer s H E) { T := T } (bodyW E) (defBody (top 21)) b_does_show_in :=
  have nd := nd_does_show_in
  (g_seq (g_own 2 (g_dispT B.u1 (.cons (g_tup (g_cons g_int (g_cons g_int g_nil))) g_bl .nil)) nd)
    (g_seq (g_for (g_any2 (g_var 1)) (g_nm 3 nd) (g_one (g_frz 2 (g_ownDc2 2 (vs1 := [6]) B.u1 nd (g_any2 (g_var 2)) (blkOk_by (own := [("heard", 4), ("lost", 5), ("pair", 6)]) (by kernel_rfl)) (fun _ _ _ _ _ => (g_tp (g_tgs (g_nm 4 nd) (g_tgs (g_nm 5 nd) g_tgs0)))) (fun _ _ _ _ _ => g_ts0) (fun _ _ _ _ _ => (g_any2 (k_call k_heard_behind B.blk (g_cons (g_var 0) (g_cons (g_var 4) (g_cons (g_var 5) (g_cons (g_var 3) g_nil))))))) (fun _ _ _ _ _ => (g_nm 6 nd)) (fun _ _ _ _ _ => g_ts0) (fun _ _ _ _ _ => (g_var 6)) (fun _ _ _ _ _ => g_bl) (sw_trueD rfl rfl rfl rfl)))) B.po)
    (g_one (g_frz 2 (g_ret (g_any G.blt (GE.v (GF.e (g_lc nd (g_any2 (g_var 2)) (blkOk_by (own := [("heard", 4), ("lost", 5)]) (by kernel_rfl)) (fun _ _ _ _ _ => (g_tp (g_tgs (g_nm 4 nd) (g_tgs (g_nm 5 nd) g_tgs0)))) (fun _ _ _ _ _ => g_ts0) (fun _ _ _ _ _ => (c_eqP B.blk (GE.v (g_var 4)) (GE.v (g_len G.blt (GE.v (g_ix (GE.v (g_var 0)) (GE.v g_int))))))))))))))))
theorem nd__law_of : N__law_of.Nodup := by decide +kernel
theorem d__law_of (G : GG w K mg) (k__law_draw : Cal P w K mg base T 1 "_law_draw" 2 f__law_draw) (B : Bx (bodyCx P w K mg base N__law_of "_law_of" (defScope (top 26)) f cdv A outer s H E) (bodyW E) 1) :
    GB (bodyCx P w K mg base N__law_of "_law_of" (defScope (top 26)) f cdv A outer s H E) { T := T } (bodyW E) (defBody (top 26)) b__law_of :=
  have nd := nd__law_of
  (g_one (g_ret (g_ix (GE.v (g_var 1)) (GE.v (k_call k__law_draw B (g_cons (g_var 0) (g_cons (g_len G.blt (GE.v (g_var 1))) g_nil)))))))
theorem nd__law_some : N__law_some.Nodup := by decide +kernel
theorem d__law_some (G : GG w K mg) (k__law_draw : Cal P w K mg base T 1 "_law_draw" 2 f__law_draw) (B : Bx (bodyCx P w K mg base N__law_some "_law_some" (defScope (top 27)) f cdv A outer s H E) (bodyW E) 1) :
    GB (bodyCx P w K mg base N__law_some "_law_some" (defScope (top 27)) f cdv A outer s H E) { T := T } (bodyW E) (defBody (top 27)) b__law_some :=
  have nd := nd__law_some
  (g_one (g_ret (g_tupc G.blt (GE.v (GF.e (g_lc nd (g_range1 G.blt (g_var 1)) (blkOk_by (own := [("_law_k", 3)]) (by kernel_rfl)) (fun _ _ _ _ _ => (g_nm 3 nd)) (fun _ _ _ _ _ => (g_ts1 (t_gt (GE.v (k_call k__law_draw B.blk (g_cons (g_var 0) (g_cons (g_var 2) g_nil)))) (GE.v g_int)))) (fun _ _ _ _ _ => (g_var 3))))))))
theorem nd__law_row : N__law_row.Nodup := by decide +kernel
theorem d__law_row (G : GG w K mg) (k__law_draw : Cal P w K mg base T 1 "_law_draw" 2 f__law_draw) (B : Bx (bodyCx P w K mg base N__law_row "_law_row" (defScope (top 29)) f cdv A outer s H E) (bodyW E) 1) :
    GB (bodyCx P w K mg base N__law_row "_law_row" (defScope (top 29)) f cdv A outer s H E) { T := T } (bodyW E) (defBody (top 29)) b__law_row :=
  have nd := nd__law_row
  (g_one (g_ret (g_tupc G.blt (GE.v (GF.e (g_lc nd (g_range1 G.blt (k_call k__law_draw B (g_cons (g_var 0) (g_cons (g_add (GE.v (g_var 2)) (GE.v g_int)) g_nil)))) (blkOk_by (own := [("_law_lap", 3)]) (by kernel_rfl)) (fun _ _ _ _ _ => (g_nm 3 nd)) (fun _ _ _ _ _ => g_ts0) (fun _ _ _ _ _ => (k_call k__law_draw B.blk (g_cons (g_var 0) (g_cons (g_var 1) g_nil))))))))))
theorem nd__law_is_entry : N__law_is_entry.Nodup := by decide +kernel
theorem d__law_is_entry (G : GG w K mg) (k__law_is_among : Cal P w K mg base T 1 "_law_is_among" 3 f__law_is_among) (B : Bx (bodyCx P w K mg base N__law_is_entry "_law_is_entry" (defScope (top 32)) f cdv A outer s H E) (bodyW E) 1) :
    GB (bodyCx P w K mg base N__law_is_entry "_law_is_entry" (defScope (top 32)) f cdv A outer s H E) { T := T } (bodyW E) (defBody (top 32)) b__law_is_entry :=
  have nd := nd__law_is_entry
  (g_seq (g_ifS (GW.t (g_orW (g_notT (g_test (g_isaTup G.blt (GE.v (g_var 1))))) (g_orW (t_neP B (GE.v (g_len G.blt (GE.v (g_var 1)))) (GE.v g_int)) (g_orW1 (g_notT (g_test (g_isaTup G.blt (GE.v (g_ix (GE.v (g_var 1)) (GE.v g_int)))))))))) (g_one (g_ret g_bl)) g_nop)
    (g_seq (g_ifS (t_neP B (GE.v (GF.e (g_lc nd (g_any2 (g_ix (GE.v (g_var 1)) (GE.v g_int))) (blkOk_by (own := [("_law_one", 2)]) (by kernel_rfl)) (fun _ _ _ _ _ => (g_nm 2 nd)) (fun _ _ _ _ _ => (g_ts1 (g_notT (g_test (k_call k__law_is_among B.blk (g_cons (g_var 2) (g_cons g_int (g_cons (g_sub (GE.v (g_var 0)) (GE.v g_int)) g_nil)))))))) (fun _ _ _ _ _ => g_int)))) (GE.v (GF.e (g_lst g_nil)))) (g_one (g_ret g_bl)) g_nop)
    (g_seq (g_ifS (GW.t (g_orW (t_neP B (GE.v (GF.e (g_sset G.blt (GE.v (g_ix (GE.v (g_var 1)) (GE.v g_int)))))) (GE.v (GF.e (g_lstc G.blt (GE.v (g_ix (GE.v (g_var 1)) (GE.v g_int))))))) (g_orW1 (g_notT (g_test (k_call k__law_is_among B (g_cons (g_ix (GE.v (g_var 1)) (GE.v g_int)) (g_cons g_int (g_cons g_int g_nil))))))))) (g_one (g_ret g_bl)) g_nop)
    (g_seq (g_ifS (GW.t (g_orW (g_notT (g_test (g_isaTup G.blt (GE.v (g_ix (GE.v (g_var 1)) (GE.v g_int)))))) (g_orW1 (t_gt (GE.v (g_len G.blt (GE.v (g_ix (GE.v (g_var 1)) (GE.v g_int))))) (GE.v g_int))))) (g_one (g_ret g_bl)) g_nop)
    (g_seq (g_ifS (t_neP B (GE.v (GF.e (g_lc nd (g_any2 (g_ix (GE.v (g_var 1)) (GE.v g_int))) (blkOk_by (own := [("_law_one", 2)]) (by kernel_rfl)) (fun _ _ _ _ _ => (g_nm 2 nd)) (fun _ _ _ _ _ => (g_ts1 (GW.t (g_orW (g_notT (g_test (k_call k__law_is_among B.blk (g_cons (g_var 2) (g_cons g_int (g_cons (g_sub (GE.v (g_var 0)) (GE.v g_int)) g_nil)))))) (g_orW1 (t_ni (GE.v (g_var 2)) (GE.v (g_ix (GE.v (g_var 1)) (GE.v g_int))))))))) (fun _ _ _ _ _ => g_int)))) (GE.v (GF.e (g_lst g_nil)))) (g_one (g_ret g_bl)) g_nop)
    (g_one (g_ret (c_in (GE.v (g_reprP G.blt B.u70 B.gd (GE.v (g_ix (GE.v (g_var 1)) (GE.v g_int))))) (GE.v (g_tup (g_cons g_str (g_cons g_str g_nil))))))))))))
theorem nd__law_odds : N__law_odds.Nodup := by decide +kernel
theorem d__law_odds (G : GG w K mg) (k__law_draw : Cal P w K mg base T 1 "_law_draw" 2 f__law_draw) (B : Bx (bodyCx P w K mg base N__law_odds "_law_odds" (defScope (top 35)) f cdv A outer s H E) (bodyW E) 1) :
    GB (bodyCx P w K mg base N__law_odds "_law_odds" (defScope (top 35)) f cdv A outer s H E) { T := T } (bodyW E) (defBody (top 35)) b__law_odds :=
  have nd := nd__law_odds
  (g_seq (g_own 3 (g_lst (g_cons (g_var 2) (g_cons g_non (g_cons (g_tup g_nil) (g_cons (GF.e (g_lstc G.blt (GE.v (g_var 2)))) (g_cons g_str (g_cons (g_tup (g_cons g_non g_nil)) (g_cons (g_add (GE.v (g_var 2)) (GE.v (g_tup (g_cons g_int g_nil)))) (g_cons (g_mulP (GE.v (g_var 2)) (GE.v g_int)) (g_cons (g_add (GE.v (g_tup (g_cons (g_tup g_nil) g_nil))) (GE.v (g_var 2))) g_nil)))))))))) nd)
    (g_seq (g_put (g_ix (GE.v (g_var 2)) (GE.v g_int)) (g_tp (g_tgs (g_nm 4 nd) (g_tgs (g_nm 5 nd) (g_tgs (g_nm 6 nd) (g_tgs (g_nm 7 nd) g_tgs0))))))
    (g_seq (g_asg 8 (GF.e (g_lst (g_cons (g_tup (g_cons (GF.e (g_lstc G.blt (GE.v (g_var 4)))) (g_cons (g_var 5) (g_cons (g_var 6) (g_cons (g_var 7) g_nil))))) (g_cons (g_tup (g_cons (g_revT (GE.v (g_var 4))) (g_cons (g_var 5) (g_cons (g_var 6) (g_cons (g_var 7) g_nil))))) (g_cons (g_tup (g_cons (g_var 4) (g_cons g_int (g_cons (g_var 6) (g_cons (g_var 7) g_nil))))) g_nil))))) nd)
    (g_seq (g_asg 8 (g_add (GE.v (g_var 8)) (GE.v (GF.e (g_lst (g_cons (g_tup (g_cons (g_var 4) (g_cons (g_neg g_int) (g_cons (g_var 6) (g_cons (g_var 7) g_nil))))) (g_cons (g_tup (g_cons (g_var 4) (g_cons g_bl (g_cons (g_var 6) (g_cons (g_var 7) g_nil))))) (g_cons (g_tup (g_cons (g_var 4) (g_cons (g_var 5) (g_cons (GF.e (g_lstc G.blt (GE.v (g_var 6)))) (g_cons (g_var 7) g_nil))))) (g_cons (g_sl (GE.v (g_ix (GE.v (g_var 2)) (GE.v g_int))) g_no (g_at g_int)) g_nil)))))))) nd)
    (g_seq (g_asg 8 (g_add (GE.v (g_var 8)) (GE.v (GF.e (g_lst (g_cons (g_tup (g_cons (g_var 4) (g_cons (g_var 5) (g_cons (g_var 6) (g_cons g_str g_nil))))) (g_cons (g_tup (g_cons (g_var 4) (g_cons (g_var 5) (g_cons (g_add (GE.v (g_var 6)) (GE.v (g_tup (g_cons (g_var 1) g_nil)))) (g_cons (g_var 7) g_nil))))) (g_cons (g_tup (g_cons (g_var 4) (g_cons (g_var 5) (g_cons (g_var 6) (g_cons g_non g_nil))))) g_nil))))))) nd)
    (g_seq (g_asg 8 (g_add (GE.v (g_var 8)) (GE.v (GF.e (g_lst (g_cons (g_add (GE.v (g_ix (GE.v (g_var 2)) (GE.v g_int))) (GE.v (g_tup (g_cons g_int g_nil)))) (g_cons (g_tup (g_cons (g_var 4) (g_cons g_non (g_cons (g_var 6) (g_cons (g_var 7) g_nil))))) (g_cons (g_tup (g_cons (g_tup g_nil) (g_cons (g_var 5) (g_cons (g_tup (g_cons g_int g_nil)) (g_cons (g_var 7) g_nil))))) (g_cons (g_tup (g_cons (g_tup (g_cons (g_var 1) g_nil)) (g_cons (g_var 5) (g_cons (g_tup g_nil) (g_cons (g_var 7) g_nil))))) g_nil)))))))) nd)
    (g_seq (g_asg 8 (g_add (GE.v (g_var 8)) (GE.v (GF.e (g_lst (g_cons (g_tup (g_cons (g_tup (g_cons g_int (g_cons g_int g_nil))) (g_cons (g_var 5) (g_cons (g_tup g_nil) (g_cons (g_var 7) g_nil))))) (g_cons (g_tup (g_cons (g_tup (g_cons g_bl g_nil)) (g_cons (g_var 5) (g_cons (g_tup g_nil) (g_cons (g_var 7) g_nil))))) (g_cons (g_tup (g_cons (g_tup (g_cons g_int g_nil)) (g_cons (g_var 5) (g_cons (g_repT (GE.v (g_tup (g_cons g_int g_nil))) (GE.v g_int)) (g_cons (g_var 7) g_nil))))) g_nil))))))) nd)
    (g_seq (g_asg 8 (g_add (GE.v (g_var 8)) (GE.v (GF.e (g_lst (g_cons (g_tup (g_cons (g_tup (g_cons g_int g_nil)) (g_cons (g_var 5) (g_cons (g_repT (GE.v (g_tup (g_cons g_int g_nil))) (GE.v g_int)) (g_cons (g_var 7) g_nil))))) (g_cons (g_tup (g_cons (g_tup (g_cons g_int g_nil)) (g_cons (g_var 5) (g_cons (g_tup (g_cons g_bl g_nil)) (g_cons (g_var 7) g_nil))))) g_nil)))))) nd)
    (g_seq (g_for (g_any2 (g_var 8)) (g_nm 9 nd) (g_one (g_app 3 (g_add (GE.v (g_sl (GE.v (g_var 2)) g_no (g_at (k_call k__law_draw B (g_cons (g_var 0) (g_cons (g_add (GE.v (g_len G.blt (GE.v (g_var 2)))) (GE.v g_int)) g_nil)))))) (GE.v (g_tup (g_cons (g_var 9) g_nil)))))) B.po)
    (g_one (g_frz 3 (g_ret (g_var 3)))))))))))))
theorem nd_is_lot : N_is_lot.Nodup := by decide +kernel
theorem d_is_lot (G : GG w K mg) (k_is_row : Cal P w K mg base T 2 "is_row" 2 f_is_row) (B : Bx (bodyCx P w K mg base N_is_lot "is_lot" (defScope (top 8)) f cdv A outer s H E) (bodyW E) 2) :
    GB (bodyCx P w K mg base N_is_lot "is_lot" (defScope (top 8)) f cdv A outer s H E) { T := T } (bodyW E) (defBody (top 8)) b_is_lot :=
  have nd := nd_is_lot
  (g_one (g_ret (g_andV (k_call k_is_row B (g_cons (g_var 0) (g_cons (g_var 1) g_nil))) (g_oneV (g_all G.blt (GE.v (GF.e (g_lc nd (g_zip G.blt (g_var 0) (g_sl (GE.v (g_var 0)) (g_at g_int) g_no)) (blkOk_by (own := [("one", 2), ("other", 3)]) (by kernel_rfl)) (fun _ _ _ _ _ => (g_tp (g_tgs (g_nm 2 nd) (g_tgs (g_nm 3 nd) g_tgs0)))) (fun _ _ _ _ _ => g_ts0) (fun _ _ _ _ _ => (c_lt (GE.v (g_var 2)) (GE.v (g_var 3))))))))))))
theorem nd__law_entry : N__law_entry.Nodup := by decide +kernel
theorem d__law_entry (G : GG w K mg) (k__law_some : Cal P w K mg base T 2 "_law_some" 3 f__law_some) (k__law_of : Cal P w K mg base T 2 "_law_of" 2 f__law_of) (k__law_draw : Cal P w K mg base T 1 "_law_draw" 2 f__law_draw) (B : Bx (bodyCx P w K mg base N__law_entry "_law_entry" (defScope (top 30)) f cdv A outer s H E) (bodyW E) 2) :
    GB (bodyCx P w K mg base N__law_entry "_law_entry" (defScope (top 30)) f cdv A outer s H E) { T := T } (bodyW E) (defBody (top 30)) b__law_entry :=
  have nd := nd__law_entry
  (g_seq (g_put (g_tup (g_cons (k_call k__law_some B (g_cons (g_var 0) (g_cons (g_var 1) (g_cons g_int g_nil)))) (g_cons (k_call k__law_of B (g_cons (g_var 0) (g_cons (GF.e (g_lst (g_cons g_int (g_cons g_int (g_cons g_int (g_cons g_int g_nil)))))) g_nil))) g_nil))) (g_tp (g_tgs (g_nm 3 nd) (g_tgs (g_nm 4 nd) g_tgs0))))
    (g_seq (g_ownLc 5 nd (g_any2 (g_var 2)) (blkOk_by (own := [("_law_deed", 6)]) (by kernel_rfl)) (fun _ _ _ _ _ => (g_nm 6 nd)) (fun _ _ _ _ _ => (g_ts1 (t_in (GE.v (g_var 6)) (GE.v (g_var 3))))) (fun _ _ _ _ _ => (g_var 6)) (sw_true rfl rfl rfl rfl))
    (g_seq (g_ifS (t_gt (GE.v (g_var 4)) (GE.v g_int)) (g_one (g_frz 5 (g_ownLc 5 nd (g_any2 (g_var 5)) (blkOk_by (own := [("_law_deed", 6)]) (by kernel_rfl)) (fun _ _ _ _ _ => (g_nm 6 nd)) (fun _ _ _ _ _ => (g_ts1 (t_gt (GE.v (k_call k__law_draw B.blk (g_cons (g_var 0) (g_cons g_int g_nil)))) (GE.v g_int)))) (fun _ _ _ _ _ => (g_var 6)) (sw_true rfl rfl rfl rfl)))) g_nop)
    (g_seq (g_ifS (GW.t (g_andW (t_eqP B (GE.v (k_call k__law_draw B (g_cons (g_var 0) (g_cons g_int g_nil)))) (GE.v g_int)) (g_andW1 (t_neP B (GE.v (g_var 3)) (GE.v (g_tup g_nil)))))) (g_one (g_app 5 (k_call k__law_of B (g_cons (g_var 0) (g_cons (g_var 3) g_nil))))) g_nop)
    (g_one (g_ret (g_tup (g_cons (g_var 3) (g_cons (g_var 4) (g_cons (g_tupc G.blt (GE.v (g_sl (g_view 5) g_no (g_at g_int)))) (g_cons (k_call k__law_of B (g_cons (g_var 0) (g_cons (GF.e (g_lst (g_cons g_str (g_cons g_str (g_cons g_str g_nil))))) g_nil))) g_nil)))))))))))
theorem nd__law_due : N__law_due.Nodup := by decide +kernel
theorem d__law_due (G : GG w K mg) (k__law_is_entry : Cal P w K mg base T 2 "_law_is_entry" 2 f__law_is_entry) (B : Bx (bodyCx P w K mg base N__law_due "_law_due" (defScope (top 33)) f cdv A outer s H E) (bodyW E) 2) :
    GB (bodyCx P w K mg base N__law_due "_law_due" (defScope (top 33)) f cdv A outer s H E) { T := T } (bodyW E) (defBody (top 33)) b__law_due :=
  have nd := nd__law_due
  (g_seq (g_ifS (GW.t (g_orW (g_notT (g_test (g_isaTup G.blt (GE.v (g_var 1))))) (g_orW1 (t_gt (GE.v (g_len G.blt (GE.v (g_var 1)))) (GE.v g_int))))) (g_one (g_ret g_str)) g_nop)
    (g_seq (g_asgLc 2 nd (g_enum2 G.blt (g_var 1)) (blkOk_by (own := [("_law_number", 3), ("_law_one", 4)]) (by kernel_rfl)) (fun _ _ _ _ _ => (g_tp (g_tgs (g_nm 3 nd) (g_tgs (g_nm 4 nd) g_tgs0)))) (fun _ _ _ _ _ => (g_ts1 (g_notT (g_test (k_call k__law_is_entry B.blk (g_cons (g_var 0) (g_cons (g_var 4) g_nil))))))) (fun _ _ _ _ _ => (g_var 3)) (sw_true rfl rfl rfl rfl))
    (g_one (g_ret (g_if (t_neP B (GE.v (g_var 2)) (GE.v (GF.e (g_lst g_nil)))) (g_ix (GE.v (g_var 2)) (GE.v g_int)) (GF.e (g_lst (g_cons (g_var 1) g_nil))))))))
theorem nd_is_entry : N_is_entry.Nodup := by decide +kernel
theorem d_is_entry (G : GG w K mg) (k_is_lot : Cal P w K mg base T 3 "is_lot" 2 f_is_lot) (k_is_whole : Cal P w K mg base T 1 "is_whole" 3 f_is_whole) (k_is_row : Cal P w K mg base T 2 "is_row" 2 f_is_row) (B : Bx (bodyCx P w K mg base N_is_entry "is_entry" (defScope (top 17)) f cdv A outer s H E) (bodyW E) 3) :
    GB (bodyCx P w K mg base N_is_entry "is_entry" (defScope (top 17)) f cdv A outer s H E) { T := T } (bodyW E) (defBody (top 17)) b_is_entry :=
  have nd := nd_is_entry
  (g_seq (g_ifS (GW.t (g_orW (g_notT (g_test (g_isaTup G.blt (GE.v (g_var 1))))) (g_orW (t_neP B (GE.v (g_len G.blt (GE.v (g_var 1)))) (GE.v g_int)) (g_orW1 (g_notT (g_test (k_call k_is_lot B (g_cons (g_ix (GE.v (g_var 1)) (GE.v g_int)) (g_cons (g_sub (GE.v (g_var 0)) (GE.v g_int)) g_nil))))))))) (g_one (g_ret g_bl)) g_nop)
    (g_seq (g_ifS (GW.t (g_orW (g_notT (g_test (k_call k_is_whole B (g_cons (g_ix (GE.v (g_var 1)) (GE.v g_int)) (g_cons g_int (g_cons (g_gInt rfl G.c_MOST_LOSS) g_nil)))))) (g_orW (g_notT (g_test (k_call k_is_row B (g_cons (g_ix (GE.v (g_var 1)) (GE.v g_int)) (g_cons (g_sub (GE.v (g_var 0)) (GE.v g_int)) g_nil))))) (g_orW1 (t_gt (GE.v (g_len G.blt (GE.v (g_ix (GE.v (g_var 1)) (GE.v g_int))))) (GE.v (g_gInt rfl G.c_MOST_SHOWN))))))) (g_one (g_ret g_bl)) g_nop)
    (g_seq (g_ifS (g_notT (g_test (g_all G.blt (GE.v (GF.e (g_lc nd (g_any2 (g_ix (GE.v (g_var 1)) (GE.v g_int))) (blkOk_by (own := [("deed", 2)]) (by kernel_rfl)) (fun _ _ _ _ _ => (g_nm 2 nd)) (fun _ _ _ _ _ => g_ts0) (fun _ _ _ _ _ => (c_in (GE.v (g_var 2)) (GE.v (g_ix (GE.v (g_var 1)) (GE.v g_int))))))))))) (g_one (g_ret g_bl)) g_nop)
    (g_one (g_ret (g_andV (g_isaStr G.blt (GE.v (g_ix (GE.v (g_var 1)) (GE.v g_int)))) (g_oneV (c_in (GE.v (g_ix (GE.v (g_var 1)) (GE.v g_int))) (GE.v (g_tup (g_cons (g_gStr rfl G.c_DONE) (g_cons (g_gStr rfl G.c_NEVER) g_nil))))))))))))
theorem nd_need_log : N_need_log.Nodup := by decide +kernel
theorem d_need_log (G : GG w K mg) (k_need_deeds : Cal P w K mg base T 2 "need_deeds" 1 f_need_deeds) (k_is_entry : Cal P w K mg base T 4 "is_entry" 2 f_is_entry) (B : Bx (bodyCx P w K mg base N_need_log "need_log" (defScope (top 18)) f cdv A outer s H E) (bodyW E) 4) :
    GB (bodyCx P w K mg base N_need_log "need_log" (defScope (top 18)) f cdv A outer s H E) { T := T } (bodyW E) (defBody (top 18)) b_need_log :=
  have nd := nd_need_log
  (g_seq (g_expr (k_call k_need_deeds B (g_cons (g_var 0) g_nil)))
    (g_seq (g_ifS (GW.t (g_orW (g_notT (g_test (g_isaTup G.blt (GE.v (g_var 1))))) (g_orW1 (t_gt (GE.v (g_len G.blt (GE.v (g_var 1)))) (GE.v (g_gInt rfl G.c_MOST_ENTRIES)))))) (g_one (g_raiseA G.ra_BadLog B g_str)) g_nop)
    (g_seq (g_for (g_enum2 G.blt (g_var 1)) (g_tp (g_tgs (g_nm 2 nd) (g_tgs (g_nm 3 nd) g_tgs0))) (g_one (g_ifS (g_notT (g_test (k_call k_is_entry B (g_cons (g_var 0) (g_cons (g_var 3) g_nil))))) (g_one (g_raiseA G.ra_BadLog B (g_var 2))) g_nop)) B.po)
    (g_one (g_ret (g_var 1))))))
theorem nd_does_show : N_does_show.Nodup := by decide +kernel
theorem d_does_show (G : GG w K mg) (k_need_log : Cal P w K mg base T 5 "need_log" 2 f_need_log) (k_need_number : Cal P w K mg base T 2 "need_number" 2 f_need_number) (k_is_row : Cal P w K mg base T 2 "is_row" 2 f_is_row) (k_does_show_in : Cal P w K mg base T 2 "does_show_in" 2 f_does_show_in) (B : Bx (bodyCx P w K mg base N_does_show "does_show" (defScope (top 22)) f cdv A outer s H E) (bodyW E) 5) :
    GB (bodyCx P w K mg base N_does_show "does_show" (defScope (top 22)) f cdv A outer s H E) { T := T } (bodyW E) (defBody (top 22)) b_does_show :=
  have nd := nd_does_show
  (g_seq (g_expr (k_call k_need_log B (g_cons (g_var 0) (g_cons (g_var 1) g_nil))))
    (g_seq (g_expr (k_call k_need_number B (g_cons (g_var 1) (g_cons (g_var 2) g_nil))))
    (g_seq (g_ifS (GW.t (g_orW (g_notT (g_test (k_call k_is_row B (g_cons (g_var 3) (g_cons (g_sub (GE.v (g_var 0)) (GE.v g_int)) g_nil))))) (g_orW1 (t_gt (GE.v (g_len G.blt (GE.v (g_var 3)))) (GE.v (g_gInt rfl G.c_MOST_RUN)))))) (g_one (g_raiseB G.ra_OutOfPlace B g_str)) g_nop)
    (g_one (g_ret (k_call k_does_show_in B (g_cons (g_ix (GE.v (g_var 1)) (GE.v (g_var 2))) (g_cons (g_var 3) g_nil))))))))
theorem nd__law_rows_right : N__law_rows_right.Nodup := by decide +kernel
theorem d__law_rows_right (G : GG w K mg) (k__law_shows : Cal P w K mg base T 1 "_law_shows" 2 f__law_shows) (k_does_show : Cal P w K mg base T 6 "does_show" 4 f_does_show) (k__law_draw : Cal P w K mg base T 1 "_law_draw" 2 f__law_draw) (B : Bx (bodyCx P w K mg base N__law_rows_right "_law_rows_right" (defScope (top 36)) f cdv A outer s H E) (bodyW E) 6) :
    GB (bodyCx P w K mg base N__law_rows_right "_law_rows_right" (defScope (top 36)) f cdv A outer s H E) { T := T } (bodyW E) (defBody (top 36)) b__law_rows_right :=
  have nd := nd__law_rows_right
  (g_seq (g_for (g_enum2 G.blt (g_var 2)) (g_tp (g_tgs (g_nm 4 nd) (g_tgs (g_nm 5 nd) g_tgs0))) (g_one (g_for (g_any2 (g_var 3)) (g_nm 6 nd) (g_seq (g_asg 7 (k_call k__law_shows B (g_cons (g_var 5) (g_cons (g_var 6) g_nil))) nd)
    (g_seq (g_asg 8 (GF.e (g_lst (g_cons (k_call k_does_show B (g_cons (g_var 1) (g_cons (g_var 2) (g_cons (g_var 4) (g_cons (g_var 6) g_nil))))) (g_cons (k_call k_does_show B (g_cons (g_var 1) (g_cons (g_var 2) (g_cons (g_var 4) (g_cons (g_var 6) g_nil))))) g_nil)))) nd)
    (g_seq (g_ifS (t_neP B (GE.v (g_reprP G.blt B.u70 B.gd (GE.v (g_var 8)))) (GE.v (g_reprP G.blt B.u70 B.gd (GE.v (GF.e (g_lst (g_cons (g_var 7) (g_cons (g_var 7) g_nil)))))))) (g_one (g_ret g_bl)) g_nop)
    (g_seq (g_asgLc 9 nd (g_range1 G.blt (g_var 1)) (blkOk_by (own := [("_law_deed", 10)]) (by kernel_rfl)) (fun _ _ _ _ _ => (g_nm 10 nd)) (fun _ _ _ _ _ => (g_ts1 (t_ni (GE.v (g_var 10)) (GE.v (g_ix (GE.v (g_var 5)) (GE.v g_int)))))) (fun _ _ _ _ _ => (g_var 10)) (sw_true rfl rfl rfl rfl))
    (g_seq (g_asg 11 (k_call k__law_draw B (g_cons (g_var 0) (g_cons (g_add (GE.v (g_len G.blt (GE.v (g_var 6)))) (GE.v g_int)) g_nil))) nd)
    (g_seq (g_asg 12 (g_add (GE.v (g_add (GE.v (g_sl (GE.v (g_var 6)) g_no (g_at (g_var 11)))) (GE.v (g_tupc G.blt (GE.v (g_sl (GE.v (g_var 9)) g_no (g_at g_int))))))) (GE.v (g_sl (GE.v (g_var 6)) (g_at (g_var 11)) g_no))) nd)
    (g_seq (g_ifS (t_neP B (GE.v (k_call k_does_show B (g_cons (g_var 1) (g_cons (g_var 2) (g_cons (g_var 4) (g_cons (g_var 12) g_nil)))))) (GE.v (g_var 7))) (g_one (g_ret g_bl)) g_nop)
    (g_seq (g_asg 13 (g_tup (g_cons (g_ix (GE.v (g_var 5)) (GE.v g_int)) (g_cons g_int (g_cons (g_ix (GE.v (g_var 5)) (GE.v g_int)) (g_cons (g_ix (GE.v (g_var 5)) (GE.v g_int)) g_nil))))) nd)
    (g_one (g_ifS (GW.t (g_andW (g_test (g_var 7)) (g_andW1 (t_notB (GE.v (k_call k_does_show B (g_cons (g_var 1) (g_cons (g_tup (g_cons (g_var 13) g_nil)) (g_cons g_int (g_cons (g_var 6) g_nil)))))) (GE.v g_bl))))) (g_one (g_ret g_bl)) g_nop)))))))))) B.po)) B.po)
    (g_one (g_ret g_bl)))
theorem nd__law_hand_right : N__law_hand_right.Nodup := by decide +kernel
theorem d__law_hand_right (G : GG w K mg) (k_does_show : Cal P w K mg base T 6 "does_show" 4 f_does_show) (k_need_log : Cal P w K mg base T 5 "need_log" 2 f_need_log) (B : Bx (bodyCx P w K mg base N__law_hand_right "_law_hand_right" (defScope (top 38)) f cdv A outer s H E) (bodyW E) 6) :
    GB (bodyCx P w K mg base N__law_hand_right "_law_hand_right" (defScope (top 38)) f cdv A outer s H E) { T := T } (bodyW E) (defBody (top 38)) b__law_hand_right :=
  have nd := nd__law_hand_right
  (g_seq (g_asg 0 (g_tup (g_cons (g_tup (g_cons (g_tup (g_cons g_int (g_cons g_int g_nil))) (g_cons g_int (g_cons (g_tup (g_cons g_int (g_cons g_int g_nil))) (g_cons g_str g_nil))))) (g_cons (g_tup (g_cons (g_tup g_nil) (g_cons g_int (g_cons (g_tup g_nil) (g_cons g_str g_nil))))) (g_cons (g_tup (g_cons (g_tup (g_cons g_int g_nil)) (g_cons g_int (g_cons (g_tup (g_cons g_int (g_cons g_int g_nil))) (g_cons g_str g_nil))))) (g_cons (g_tup (g_cons (g_tup (g_cons g_int g_nil)) (g_cons g_int (g_cons (g_tup g_nil) (g_cons g_str g_nil))))) g_nil))))) nd)
    (g_seq (g_asg 1 (GF.e (g_lst (g_cons (g_tup (g_cons g_int (g_cons g_int g_nil))) (g_cons (g_tup (g_cons g_int (g_cons g_int (g_cons g_int g_nil)))) (g_cons (g_tup (g_cons g_int (g_cons g_int (g_cons g_int g_nil)))) (g_cons (g_tup (g_cons g_int (g_cons g_int (g_cons g_int (g_cons g_int g_nil))))) (g_cons (g_tup (g_cons g_int (g_cons g_int (g_cons g_int (g_cons g_int g_nil))))) (g_cons (g_tup (g_cons g_int (g_cons g_int (g_cons g_int (g_cons g_int g_nil))))) (g_cons (g_tup (g_cons g_int g_nil)) (g_cons (g_tup (g_cons g_int (g_cons g_int (g_cons g_int g_nil)))) (g_cons (g_tup (g_cons g_int (g_cons g_int g_nil))) g_nil))))))))))) nd)
    (g_seq (g_asg 1 (g_add (GE.v (g_var 1)) (GE.v (GF.e (g_lst (g_cons (g_repT (GE.v (g_tup (g_cons g_int g_nil))) (GE.v g_int)) (g_cons (g_repT (GE.v (g_tup (g_cons g_int g_nil))) (GE.v g_int)) (g_cons (g_tup g_nil) (g_cons (g_tup (g_cons g_int (g_cons g_int (g_cons g_int (g_cons g_int (g_cons g_int g_nil)))))) g_nil)))))))) nd)
    (g_seq (g_asg 2 (GF.e (g_lst (g_cons (g_tup (g_cons g_int (g_cons g_int (g_cons g_int (g_cons g_int (g_cons g_int g_nil)))))) (g_cons (g_tupc G.blt (GE.v (GF.e (g_lstRg G.blt g_int)))) (g_cons (g_tup (g_cons g_int (g_cons g_int (g_cons g_int (g_cons g_int (g_cons g_int g_nil)))))) (g_cons (g_tup (g_cons g_int (g_cons g_int g_nil))) g_nil)))))) nd)
    (g_seq (g_for (g_range1 G.blt g_int) (g_nm 3 nd) (g_seq (g_asgLc 4 nd (g_enum2 G.blt (g_var 1)) (blkOk_by (own := [("_law_spot", 5), ("_law_row_here", 6)]) (by kernel_rfl)) (fun _ _ _ _ _ => (g_tp (g_tgs (g_nm 5 nd) (g_tgs (g_nm 6 nd) g_tgs0)))) (fun _ _ _ _ _ => (g_ts1 (t_isB (GE.v (k_call k_does_show B.blk (g_cons g_int (g_cons (g_var 0) (g_cons (g_var 3) (g_cons (g_var 6) g_nil)))))) (GE.v g_bl)))) (fun _ _ _ _ _ => (g_var 5)) (sw_true rfl rfl rfl rfl))
    (g_one (g_ifS (t_neP B (GE.v (g_tupc G.blt (GE.v (g_var 4)))) (GE.v (g_ix (GE.v (g_var 2)) (GE.v (g_var 3))))) (g_one (g_ret g_bl)) g_nop))) B.po)
    (g_one (g_ret (g_andV (k_call k_does_show B (g_cons g_int (g_cons (g_tup (g_cons (g_tup (g_cons (g_tup (g_cons g_int g_nil)) (g_cons g_int (g_cons (g_tup g_nil) (g_cons g_str g_nil))))) g_nil)) (g_cons g_int (g_cons (g_tup (g_cons g_int (g_cons g_int g_nil))) g_nil))))) (g_oneV (c_eqP B (GE.v (k_call k_need_log B (g_cons g_int (g_cons (g_tup g_nil) g_nil)))) (GE.v (g_tup g_nil))))))))))))
theorem nd__law_right : N__law_right.Nodup := by decide +kernel
theorem d__law_right (G : GG w K mg) (k__law_draw : Cal P w K mg base T 1 "_law_draw" 2 f__law_draw) (k__law_row : Cal P w K mg base T 2 "_law_row" 3 f__law_row) (k__law_of : Cal P w K mg base T 2 "_law_of" 2 f__law_of) (k__law_entry : Cal P w K mg base T 3 "_law_entry" 3 f__law_entry) (k__law_rows_right : Cal P w K mg base T 7 "_law_rows_right" 4 f__law_rows_right) (k__law_odds : Cal P w K mg base T 2 "_law_odds" 3 f__law_odds) (k__law_due : Cal P w K mg base T 3 "_law_due" 2 f__law_due) (h__law_heard : Hears P w K mg base T 7 "_law_heard" f__law_heard) (k_need_log : Cal P w K mg base T 5 "need_log" 2 f_need_log) {cd PT : Addr} (tb : LamX.TabB base mg cd PT) (hcode : cdv = .ref cd) (qT_mem : (PT, (("_law_right" : Str) ++ ".<locals>.") ++ "<lambda>") ∈ T) (hu : ∀ p ∈ T, p.1 = PT → p.2 = (("_law_right" : Str) ++ ".<locals>.") ++ "<lambda>") (B : Bx (bodyCx P w K mg base N__law_right "_law_right" (defScope (top 37)) f cdv A outer s H E) (bodyW E) 9) :
    GB (bodyCx P w K mg base N__law_right "_law_right" (defScope (top 37)) f cdv A outer s H E) { T := T } (bodyW E) (defBody (top 37)) b__law_right :=
  have nd := nd__law_right
  (g_seq (g_asg 1 (g_add (GE.v g_int) (GE.v (k_call k__law_draw B (g_cons (g_var 0) (g_cons g_int g_nil))))) nd)
    (g_seq (g_asgLc 2 nd (g_range1 G.blt g_int) (blkOk_by (own := [("_law_lap", 3)]) (by kernel_rfl)) (fun _ _ _ _ _ => (g_nm 3 nd)) (fun _ _ _ _ _ => g_ts0) (fun _ _ _ _ _ => (k_call k__law_row B.blk (g_cons (g_var 0) (g_cons (g_var 1) (g_cons g_int g_nil))))) (sw_true rfl rfl rfl rfl))
    (g_seq (g_asg 4 (g_tup g_nil) nd)
    (g_seq (g_for (g_range1 G.blt (g_add (GE.v g_int) (GE.v (k_call k__law_draw B (g_cons (g_var 0) (g_cons g_int g_nil)))))) (g_nm 3 nd) (g_seq (g_asg 5 (k_call k__law_of B (g_cons (g_var 0) (g_cons (g_var 2) g_nil))) nd)
    (g_one (g_asg 4 (g_add (GE.v (g_var 4)) (GE.v (g_tup (g_cons (k_call k__law_entry B (g_cons (g_var 0) (g_cons (g_var 1) (g_cons (g_var 5) g_nil)))) g_nil)))) nd))) B.po)
    (g_seq (g_asg 6 (g_reprP G.blt B.u70 B.gd (GE.v (GF.e (g_lst (g_cons (g_var 4) (g_cons (g_var 2) g_nil)))))) nd)
    (g_seq (g_ifS (g_notT (g_test (k_call k__law_rows_right B (g_cons (g_var 0) (g_cons (g_var 1) (g_cons (g_var 4) (g_cons (g_add (GE.v (g_var 2)) (GE.v (GF.e (g_lst (g_cons (g_ix (GE.v (g_ix (GE.v (g_var 4)) (GE.v g_int))) (GE.v g_int)) (g_cons (g_tup g_nil) g_nil)))))) g_nil))))))) (g_one (g_ret g_bl)) g_nop)
    (g_seq (g_for (g_any2 (k_call k__law_odds B (g_cons (g_var 0) (g_cons (g_var 1) (g_cons (g_var 4) g_nil))))) (g_nm 7 nd) (g_seq (g_par2 8 9 (g_reprP G.blt B.u70 B.gd (GE.v (g_var 7))) (k_call k__law_due B (g_cons (g_var 1) (g_cons (g_var 7) g_nil))) nd)
    (g_one (g_ifS (GW.t (g_orW (t_neP B (GE.v (g_reprP G.blt B.u70 B.gd (GE.v (g_lam (k := 7) h__law_heard B (by exact Nat.le_of_ble_eq_true rfl) tb hcode qT_mem hu (LamX.lamS_by (by kernel_rfl)) (fun _ _ _ _ _ _ _ B => (k_call k_need_log B (g_cons (g_var 1) (g_cons (g_var 7) g_nil)))))))) (GE.v (g_reprP G.blt B.u70 B.gd (GE.v (g_var 9))))) (g_orW1 (t_neP B (GE.v (g_reprP G.blt B.u70 B.gd (GE.v (g_var 7)))) (GE.v (g_var 8)))))) (g_one (g_ret g_bl)) g_nop))) B.po)
    (g_one (g_ret (c_eqP B (GE.v (g_reprP G.blt B.u70 B.gd (GE.v (GF.e (g_lst (g_cons (g_var 4) (g_cons (g_var 2) g_nil))))))) (GE.v (g_var 6))))))))))))
theorem nd_law : N_law.Nodup := by decide +kernel
theorem d_law (G : GG w K mg) (k__law_right : Cal P w K mg base T 10 "_law_right" 1 f__law_right) (k__law_begun : Cal P w K mg base T 1 "_law_begun" 2 f__law_begun) (k__law_hand_right : Cal P w K mg base T 7 "_law_hand_right" 0 f__law_hand_right) (B : Bx (bodyCx P w K mg base N_law "law" (defScope (top 39)) f cdv A outer s H E) (bodyW E) 10) :
    GB (bodyCx P w K mg base N_law "law" (defScope (top 39)) f cdv A outer s H E) { T := T } (bodyW E) (defBody (top 39)) b_law :=
  have nd := nd_law
  (g_seq (g_for (g_range1 G.blt (g_add (GE.v g_int) (GE.v (g_min G.blt (GE.v (g_len G.blt (GE.v (g_var 0)))) (GE.v g_int))))) (g_nm 1 nd) (g_one (g_ifS (g_notT (g_test (k_call k__law_right B (g_cons (k_call k__law_begun B (g_cons (g_var 0) (g_cons (g_var 1) g_nil))) g_nil)))) (g_one (g_ret g_bl)) g_nop)) B.po)
    (g_one (g_ret (g_call0 k__law_hand_right B (by exact Nat.le_of_ble_eq_true rfl)))))
end
end K58
set_option Elab.async false
set_option linter.all false
set_option maxRecDepth 100000
set_option maxHeartbeats 0
set_option autoImplicit false
/-! the end of worksward_k58_whole_entries_shown -/
namespace K58
open PySem PySem.Spec PyProof.Rows L2 Wd He
def ex_BadLog : ExD := exV "BadLog" (some "part") (top 1)
def ex_OutOfPlace : ExD := exV "OutOfPlace" none (top 2)
def es : List ExD := [ex_BadLog, ex_OutOfPlace]
def dd_is_whole : DefD := ⟨("is_whole", none), "is_whole", "is_whole", defArgs (top 6), defBody (top 6), defScope (top 6), [], []⟩
def dd_is_row : DefD := ⟨("is_row", none), "is_row", "is_row", defArgs (top 7), defBody (top 7), defScope (top 7), [], []⟩
def dd_is_lot : DefD := ⟨("is_lot", none), "is_lot", "is_lot", defArgs (top 8), defBody (top 8), defScope (top 8), [], []⟩
def dd_need_deeds : DefD := ⟨("need_deeds", none), "need_deeds", "need_deeds", defArgs (top 10), defBody (top 10), defScope (top 10), [], []⟩
def dd_is_entry : DefD := ⟨("is_entry", none), "is_entry", "is_entry", defArgs (top 17), defBody (top 17), defScope (top 17), [], []⟩
def dd_need_log : DefD := ⟨("need_log", none), "need_log", "need_log", defArgs (top 18), defBody (top 18), defScope (top 18), [], []⟩
def dd_need_number : DefD := ⟨("need_number", none), "need_number", "need_number", defArgs (top 19), defBody (top 19), defScope (top 19), [], []⟩
def dd_heard_behind : DefD := ⟨("heard_behind", none), "heard_behind", "heard_behind", defArgs (top 20), defBody (top 20), defScope (top 20), [], []⟩
def dd_does_show_in : DefD := ⟨("does_show_in", none), "does_show_in", "does_show_in", defArgs (top 21), defBody (top 21), defScope (top 21), [], []⟩
def dd_does_show : DefD := ⟨("does_show", none), "does_show", "does_show", defArgs (top 22), defBody (top 22), defScope (top 22), [], []⟩
def dd__law_begun : DefD := ⟨("_law_begun", none), "_law_begun", "_law_begun", defArgs (top 24), defBody (top 24), defScope (top 24), [], []⟩
def dd__law_draw : DefD := ⟨("_law_draw", none), "_law_draw", "_law_draw", defArgs (top 25), defBody (top 25), defScope (top 25), [], []⟩
def dd__law_of : DefD := ⟨("_law_of", none), "_law_of", "_law_of", defArgs (top 26), defBody (top 26), defScope (top 26), [], []⟩
def dd__law_some : DefD := ⟨("_law_some", none), "_law_some", "_law_some", defArgs (top 27), defBody (top 27), defScope (top 27), [], []⟩
def dd__law_is_among : DefD := ⟨("_law_is_among", none), "_law_is_among", "_law_is_among", defArgs (top 28), defBody (top 28), defScope (top 28), [], []⟩
def dd__law_row : DefD := ⟨("_law_row", none), "_law_row", "_law_row", defArgs (top 29), defBody (top 29), defScope (top 29), [], []⟩
def dd__law_entry : DefD := ⟨("_law_entry", none), "_law_entry", "_law_entry", defArgs (top 30), defBody (top 30), defScope (top 30), [], []⟩
def dd__law_shows : DefD := ⟨("_law_shows", none), "_law_shows", "_law_shows", defArgs (top 31), defBody (top 31), defScope (top 31), [], []⟩
def dd__law_is_entry : DefD := ⟨("_law_is_entry", none), "_law_is_entry", "_law_is_entry", defArgs (top 32), defBody (top 32), defScope (top 32), [], []⟩
def dd__law_due : DefD := ⟨("_law_due", none), "_law_due", "_law_due", defArgs (top 33), defBody (top 33), defScope (top 33), [], []⟩
def dd__law_heard : DefD := ⟨("_law_heard", none), "_law_heard", "_law_heard", defArgs (top 34), defBody (top 34), defScope (top 34), [], []⟩
def dd__law_odds : DefD := ⟨("_law_odds", none), "_law_odds", "_law_odds", defArgs (top 35), defBody (top 35), defScope (top 35), [], []⟩
def dd__law_rows_right : DefD := ⟨("_law_rows_right", none), "_law_rows_right", "_law_rows_right", defArgs (top 36), defBody (top 36), defScope (top 36), [], []⟩
def dd__law_right : DefD := ⟨("_law_right", none), "_law_right", "_law_right", defArgs (top 37), defBody (top 37), defScope (top 37), [], []⟩
def dd__law_hand_right : DefD := ⟨("_law_hand_right", none), "_law_hand_right", "_law_hand_right", defArgs (top 38), defBody (top 38), defScope (top 38), [], []⟩
def dd_law : DefD := ⟨("law", none), "law", "law", defArgs (top 39), defBody (top 39), defScope (top 39), [], []⟩
def fn : List DefD := [dd_is_whole, dd_is_row, dd_is_lot, dd_need_deeds, dd_is_entry, dd_need_log, dd_need_number, dd_heard_behind, dd_does_show_in, dd_does_show, dd__law_begun, dd__law_draw, dd__law_of, dd__law_some, dd__law_is_among, dd__law_row, dd__law_entry, dd__law_shows, dd__law_is_entry, dd__law_due, dd__law_heard, dd__law_odds, dd__law_rows_right, dd__law_right, dd__law_hand_right, dd_law]
def fa0 : List Fa := [Fa.glo "is_whole", Fa.glo "is_row", Fa.glo "is_lot", Fa.glo "need_deeds", Fa.glo "is_entry", Fa.glo "need_log", Fa.glo "need_number", Fa.glo "heard_behind", Fa.glo "does_show_in", Fa.glo "does_show", Fa.glo "_law_begun", Fa.glo "_law_draw", Fa.glo "_law_of", Fa.glo "_law_some", Fa.glo "_law_is_among", Fa.glo "_law_row", Fa.glo "_law_entry", Fa.glo "_law_shows", Fa.glo "_law_is_entry", Fa.glo "_law_due", Fa.glo "_law_heard", Fa.glo "_law_odds", Fa.glo "_law_rows_right", Fa.glo "_law_right", Fa.glo "_law_hand_right", Fa.glo "law", Fa.glo "BadLog", Fa.glo "OutOfPlace", Fa.free "len", Fa.free "isinstance"]
def fa1 : List Fa := [Fa.free "all", Fa.free "any", Fa.free "zip", Fa.free "enumerate", Fa.free "int", Fa.free "range", Fa.free "tuple", Fa.free "list", Fa.free "dict", Fa.free "min", Fa.free "max", Fa.free "repr", Fa.free "set", Fa.free "sorted", Fa.free "str", Fa.free "bool", Fa.free "abs", Fa.free "sum", Fa.str "DONE" "done", Fa.int "MOST_DEEDS" 6, Fa.int "MOST_ENTRIES" 8, Fa.int "MOST_LOSS" 2, Fa.int "MOST_RUN" 400, Fa.int "MOST_SHOWN" 8, Fa.str "NEVER" "never"]
def fax : List Fa := kn.flatMap fun x => kn.map fun y => .exm x y (decide (x = y))
def fa : List Fa := fa0 ++ fa1 ++ fax
def tf : List Defn := [("_law_right", none)]
def nms0 : List Str := ["is_whole", "is_row", "is_lot", "need_deeds", "is_entry", "need_log", "need_number", "heard_behind", "does_show_in", "does_show", "_law_begun", "_law_draw", "_law_of", "_law_some", "_law_is_among", "_law_row", "_law_entry", "_law_shows", "_law_is_entry", "_law_due", "_law_heard", "_law_odds", "_law_rows_right", "_law_right", "_law_hand_right", "BadLog", "OutOfPlace", "MOST_DEEDS", "MOST_RUN", "MOST_ENTRIES"]
def nms1 : List Str := ["MOST_SHOWN", "MOST_LOSS", "DONE", "NEVER"]
def nms : List Str := nms0 ++ nms1
abbrev R : PySem.W.OpenRow := PySem.W.OpenLaw.row PySem.Challenge.rw_worksward_k58_whole_entries_shown
abbrev hk : PySem.W.Hook := hookW P 5 fa fn tf es
def ob (s : PySem.W.SharedT) : AlW := obsW P 5 fa fn tf es (HandSHeadRun.getT s)
theorem ob_eq (s : PySem.W.SharedT) : ob s = hk.obs s.abs := obsW_eq (HandSHeadRun.getT_eq s)
theorem run (w : World) : HandSHeadRun.RunEq R (PySem.W.view R.prog [39]) hk ob 4000 nms w := by
  intro os
  kernel_rfl
section
variable {w : World} {K : PySem.W.Frag} {mg : Str → Option Value} {h : Heap}
theorem mk_BadLog (c : ex_BadLog.ok P K = true ∧ fnC K (ex_BadLog.at_ K) = ex_BadLog.val) : MkA P w K (ga K "BadLog") (ex_BadLog.at_ K) "part" := by
  obtain ⟨oc, kV, doc, pm, ct, od, an, osl, nm, qual, cda, cc, T⟩ := ExD.supF c.2 c.1
  have S := supV (P := P) (by kernel_rfl) c.1
  have hno := (fldOk_no (ExD.last c.1).2).1
  intro A mg mb h g d t os e t0 u R X hg hb hbb hl hr he hKe hq
  exact init_A (x := "self") (y := "part") S T X hg hb hbb hl hr he hKe hno (fun _ _ => rfl) (by decide) (by decide +kernel) rfl rfl rfl rfl rfl rfl rfl rfl rfl (by decide) (by decide) (fun L A E h1 t1 Q' hn hq => arg_str hq) hq
theorem mk_OutOfPlace (c : ex_OutOfPlace.ok P K = true ∧ fnC K (ex_OutOfPlace.at_ K) = ex_OutOfPlace.val) : MkB P w K (ga K "OutOfPlace") (ex_OutOfPlace.at_ K) := by
  obtain ⟨oc, kV, doc, pm, ct, od, an, osl, nm, qual, cda, cc, T⟩ := ExD.supF c.2 c.1
  have S := supV (P := P) (by kernel_rfl) c.1
  intro A mg mb h g d t os e t0 u R X hg hb hbb hl hr he hq
  exact init_B (x := "self") (y := "text") S T X hg hb hbb hl hr he (fun _ _ => rfl) (by decide) (by decide +kernel) rfl rfl rfl rfl rfl rfl rfl rfl rfl (fun L A E h1 t1 Q' hn hq => arg_name rfl rfl hn (by rfl) (by decide) hq) hq
theorem gg (X : K.In h) (G : h.Ns mainGlobals mg) (c : SaysW P fa fn tf es h K) : GG w K mg where
  blt := ⟨free_ok X G (says_mem c.d (List.mem_of_getElem? (i := 28) (a := Fa.free "len") rfl)), free_ok X G (says_mem c.d (List.mem_of_getElem? (i := 29) (a := Fa.free "isinstance") rfl)), free_ok X G (says_mem c.d (List.mem_of_getElem? (i := 30) (a := Fa.free "all") rfl)), free_ok X G (says_mem c.d (List.mem_of_getElem? (i := 31) (a := Fa.free "any") rfl)), free_ok X G (says_mem c.d (List.mem_of_getElem? (i := 32) (a := Fa.free "zip") rfl)), free_ok X G (says_mem c.d (List.mem_of_getElem? (i := 33) (a := Fa.free "enumerate") rfl)), free_ok X G (says_mem c.d (List.mem_of_getElem? (i := 34) (a := Fa.free "int") rfl)), free_ok X G (says_mem c.d (List.mem_of_getElem? (i := 35) (a := Fa.free "range") rfl)), free_ok X G (says_mem c.d (List.mem_of_getElem? (i := 36) (a := Fa.free "tuple") rfl)), free_ok X G (says_mem c.d (List.mem_of_getElem? (i := 37) (a := Fa.free "list") rfl)), free_ok X G (says_mem c.d (List.mem_of_getElem? (i := 38) (a := Fa.free "dict") rfl)), free_ok X G (says_mem c.d (List.mem_of_getElem? (i := 39) (a := Fa.free "min") rfl)), free_ok X G (says_mem c.d (List.mem_of_getElem? (i := 40) (a := Fa.free "max") rfl)), free_ok X G (says_mem c.d (List.mem_of_getElem? (i := 41) (a := Fa.free "repr") rfl)), free_ok X G (says_mem c.d (List.mem_of_getElem? (i := 42) (a := Fa.free "set") rfl)), free_ok X G (says_mem c.d (List.mem_of_getElem? (i := 43) (a := Fa.free "sorted") rfl)), free_ok X G (says_mem c.d (List.mem_of_getElem? (i := 44) (a := Fa.free "str") rfl)), free_ok X G (says_mem c.d (List.mem_of_getElem? (i := 45) (a := Fa.free "bool") rfl)), free_ok X G (says_mem c.d (List.mem_of_getElem? (i := 46) (a := Fa.free "abs") rfl)), free_ok X G (says_mem c.d (List.mem_of_getElem? (i := 47) (a := Fa.free "sum") rfl))⟩
  c_DONE := str_ok X G (says_mem c.d (List.mem_of_getElem? (i := 48) (a := Fa.str "DONE" "done") rfl))
  c_MOST_DEEDS := int_ok X G (says_mem c.d (List.mem_of_getElem? (i := 49) (a := Fa.int "MOST_DEEDS" 6) rfl))
  c_MOST_ENTRIES := int_ok X G (says_mem c.d (List.mem_of_getElem? (i := 50) (a := Fa.int "MOST_ENTRIES" 8) rfl))
  c_MOST_LOSS := int_ok X G (says_mem c.d (List.mem_of_getElem? (i := 51) (a := Fa.int "MOST_LOSS" 2) rfl))
  c_MOST_RUN := int_ok X G (says_mem c.d (List.mem_of_getElem? (i := 52) (a := Fa.int "MOST_RUN" 400) rfl))
  c_MOST_SHOWN := int_ok X G (says_mem c.d (List.mem_of_getElem? (i := 53) (a := Fa.int "MOST_SHOWN" 8) rfl))
  c_NEVER := str_ok X G (says_mem c.d (List.mem_of_getElem? (i := 54) (a := Fa.str "NEVER" "never") rfl))
  ra_BadLog := ⟨glo_ok X G (says_mem c.d (List.mem_of_getElem? (i := 26) (a := Fa.glo "BadLog") rfl)), _, _, _, _, _, supV (by kernel_rfl) (c.ex ex_BadLog (List.mem_of_getElem? (i := 0) rfl)).1, mk_BadLog (c.ex ex_BadLog (List.mem_of_getElem? (i := 0) rfl))⟩
  ra_OutOfPlace := ⟨glo_ok X G (says_mem c.d (List.mem_of_getElem? (i := 27) (a := Fa.glo "OutOfPlace") rfl)), _, _, _, _, _, supV (by kernel_rfl) (c.ex ex_OutOfPlace (List.mem_of_getElem? (i := 1) rfl)).1, mk_OutOfPlace (c.ex ex_OutOfPlace (List.mem_of_getElem? (i := 1) rfl))⟩
  g_BadLog := glo_ok X G (says_mem c.d (List.mem_of_getElem? (i := 26) (a := Fa.glo "BadLog") rfl))
  exm := fun z hz y hy => of_decide_eq_true (says_mem c.d (f := .exm z y (decide (z = y))) (List.mem_append_right _ (List.mem_flatMap.mpr ⟨z, hz, List.mem_map.mpr ⟨y, hy, rfl⟩⟩)))
  no_BadLog_part := (fldOk_no (ExD.last (c.ex ex_BadLog (List.mem_of_getElem? (i := 0) rfl)).1).2).1
  xf_BadLog := (fldOk_no (ExD.last (c.ex ex_BadLog (List.mem_of_getElem? (i := 0) rfl)).1).2).2
theorem promises (X : K.In h) (G : h.Ns mainGlobals mg) (c : SaysW P fa fn tf es h K) (base : Heap) (TB : ∀ p ∈ tf.map (cT K), LamX.TabB base mg p.1 p.2) {fdL : FuncData} (DL : FunD K "law" "law" (defArgs (top 39)) (defBody (top 39)) (defScope (top 39)) [] [] (fAd K ("law", none)) fdL) : FnG P w K mg base 11 (fAd K ("law", none)) fdL ["_law_script"] (spOf K { T := tabT K tf } 1 f_law) := by
  have GG0 : GG w K mg := gg X G c
  obtain ⟨fd_is_whole, D_is_whole⟩ := c.d.def_ 0 (d := dd_is_whole) rfl
  have k_is_whole : Cal P w K mg base (tabT K tf) 1 "is_whole" 3 f_is_whole := cal_of (N := N_is_whole) (ps := ["thing", "least", "most"]) (m := b_is_whole) (glo_ok X G (says_mem c.d (List.mem_of_getElem? (i := 0) (a := Fa.glo "is_whole") rfl))) D_is_whole ⟨rfl, rfl, rfl, by decide +kernel, rfl, by decide +kernel, by decide +kernel⟩ (fun _ _ _ _ _ _ us hl => match us, hl with | [_, _, _], _ => rfl) (fun cdv A outer s H E lk B => d_is_whole GG0 B)
  obtain ⟨fd_heard_behind, D_heard_behind⟩ := c.d.def_ 7 (d := dd_heard_behind) rfl
  have k_heard_behind : Cal P w K mg base (tabT K tf) 1 "heard_behind" 4 f_heard_behind := cal_of (N := N_heard_behind) (ps := ["entry", "heard", "lost", "deed"]) (m := b_heard_behind) (glo_ok X G (says_mem c.d (List.mem_of_getElem? (i := 7) (a := Fa.glo "heard_behind") rfl))) D_heard_behind ⟨rfl, rfl, rfl, by decide +kernel, rfl, by decide +kernel, by decide +kernel⟩ (fun _ _ _ _ _ _ us hl => match us, hl with | [_, _, _, _], _ => rfl) (fun cdv A outer s H E lk B => d_heard_behind GG0 B)
  obtain ⟨fd__law_begun, D__law_begun⟩ := c.d.def_ 10 (d := dd__law_begun) rfl
  have k__law_begun : Cal P w K mg base (tabT K tf) 1 "_law_begun" 2 f__law_begun := cal_of (N := N__law_begun) (ps := ["_law_script", "_law_k"]) (m := b__law_begun) (glo_ok X G (says_mem c.d (List.mem_of_getElem? (i := 10) (a := Fa.glo "_law_begun") rfl))) D__law_begun ⟨rfl, rfl, rfl, by decide +kernel, rfl, by decide +kernel, by decide +kernel⟩ (fun _ _ _ _ _ _ us hl => match us, hl with | [_, _], _ => rfl) (fun cdv A outer s H E lk B => d__law_begun GG0 B)
  obtain ⟨fd__law_draw, D__law_draw⟩ := c.d.def_ 11 (d := dd__law_draw) rfl
  have k__law_draw : Cal P w K mg base (tabT K tf) 1 "_law_draw" 2 f__law_draw := cal_of (N := N__law_draw) (ps := ["_law_m", "_law_many"]) (m := b__law_draw) (glo_ok X G (says_mem c.d (List.mem_of_getElem? (i := 11) (a := Fa.glo "_law_draw") rfl))) D__law_draw ⟨rfl, rfl, rfl, by decide +kernel, rfl, by decide +kernel, by decide +kernel⟩ (fun _ _ _ _ _ _ us hl => match us, hl with | [_, _], _ => rfl) (fun cdv A outer s H E lk B => d__law_draw GG0 B)
  obtain ⟨fd__law_is_among, D__law_is_among⟩ := c.d.def_ 14 (d := dd__law_is_among) rfl
  have k__law_is_among : Cal P w K mg base (tabT K tf) 1 "_law_is_among" 3 f__law_is_among := cal_of (N := N__law_is_among) (ps := ["_law_thing", "_law_least", "_law_most"]) (m := b__law_is_among) (glo_ok X G (says_mem c.d (List.mem_of_getElem? (i := 14) (a := Fa.glo "_law_is_among") rfl))) D__law_is_among ⟨rfl, rfl, rfl, by decide +kernel, rfl, by decide +kernel, by decide +kernel⟩ (fun _ _ _ _ _ _ us hl => match us, hl with | [_, _, _], _ => rfl) (fun cdv A outer s H E lk B => d__law_is_among GG0 B)
  obtain ⟨fd__law_shows, D__law_shows⟩ := c.d.def_ 17 (d := dd__law_shows) rfl
  have k__law_shows : Cal P w K mg base (tabT K tf) 1 "_law_shows" 2 f__law_shows := cal_of (N := N__law_shows) (ps := ["_law_entry_here", "_law_row_here"]) (m := b__law_shows) (glo_ok X G (says_mem c.d (List.mem_of_getElem? (i := 17) (a := Fa.glo "_law_shows") rfl))) D__law_shows ⟨rfl, rfl, rfl, by decide +kernel, rfl, by decide +kernel, by decide +kernel⟩ (fun _ _ _ _ _ _ us hl => match us, hl with | [_, _], _ => rfl) (fun cdv A outer s H E lk B => d__law_shows GG0 B)
  obtain ⟨fd__law_heard, D__law_heard⟩ := c.d.def_ 20 (d := dd__law_heard) rfl
  have h__law_heard_7 : Hears P w K mg base (tabT K tf) 7 "_law_heard" f__law_heard := hears_of (N := N__law_heard) (mb := b__law_heard) (glo_ok X G (says_mem c.d (List.mem_of_getElem? (i := 20) (a := Fa.glo "_law_heard") rfl))) D__law_heard ⟨rfl, rfl, rfl, by decide +kernel, rfl, by decide +kernel, by decide +kernel⟩ (fun _ _ _ _ _ _ us hl => match us, hl with | [_], _ => rfl) rfl (by first | exact Or.inl rfl | exact Or.inr (Or.inl rfl) | exact Or.inr (Or.inr rfl)) (by decide) (by decide) (fun cdv A outer s H E c2 κ fl e1 e2 cb B => d__law_heard GG0 e1 e2 cb B)
  obtain ⟨fd_is_row, D_is_row⟩ := c.d.def_ 1 (d := dd_is_row) rfl
  have k_is_row : Cal P w K mg base (tabT K tf) 2 "is_row" 2 f_is_row := cal_of (N := N_is_row) (ps := ["thing", "most"]) (m := b_is_row) (glo_ok X G (says_mem c.d (List.mem_of_getElem? (i := 1) (a := Fa.glo "is_row") rfl))) D_is_row ⟨rfl, rfl, rfl, by decide +kernel, rfl, by decide +kernel, by decide +kernel⟩ (fun _ _ _ _ _ _ us hl => match us, hl with | [_, _], _ => rfl) (fun cdv A outer s H E lk B => d_is_row GG0 k_is_whole B)
  obtain ⟨fd_need_deeds, D_need_deeds⟩ := c.d.def_ 3 (d := dd_need_deeds) rfl
  have k_need_deeds : Cal P w K mg base (tabT K tf) 2 "need_deeds" 1 f_need_deeds := cal_of (N := N_need_deeds) (ps := ["deeds"]) (m := b_need_deeds) (glo_ok X G (says_mem c.d (List.mem_of_getElem? (i := 3) (a := Fa.glo "need_deeds") rfl))) D_need_deeds ⟨rfl, rfl, rfl, by decide +kernel, rfl, by decide +kernel, by decide +kernel⟩ (fun _ _ _ _ _ _ us hl => match us, hl with | [_], _ => rfl) (fun cdv A outer s H E lk B => d_need_deeds GG0 k_is_whole B)
  obtain ⟨fd_need_number, D_need_number⟩ := c.d.def_ 6 (d := dd_need_number) rfl
  have k_need_number : Cal P w K mg base (tabT K tf) 2 "need_number" 2 f_need_number := cal_of (N := N_need_number) (ps := ["log", "number"]) (m := b_need_number) (glo_ok X G (says_mem c.d (List.mem_of_getElem? (i := 6) (a := Fa.glo "need_number") rfl))) D_need_number ⟨rfl, rfl, rfl, by decide +kernel, rfl, by decide +kernel, by decide +kernel⟩ (fun _ _ _ _ _ _ us hl => match us, hl with | [_, _], _ => rfl) (fun cdv A outer s H E lk B => d_need_number GG0 k_is_whole B)
  obtain ⟨fd_does_show_in, D_does_show_in⟩ := c.d.def_ 8 (d := dd_does_show_in) rfl
  have k_does_show_in : Cal P w K mg base (tabT K tf) 2 "does_show_in" 2 f_does_show_in := cal_of (N := N_does_show_in) (ps := ["entry", "row"]) (m := b_does_show_in) (glo_ok X G (says_mem c.d (List.mem_of_getElem? (i := 8) (a := Fa.glo "does_show_in") rfl))) D_does_show_in ⟨rfl, rfl, rfl, by decide +kernel, rfl, by decide +kernel, by decide +kernel⟩ (fun _ _ _ _ _ _ us hl => match us, hl with | [_, _], _ => rfl) (fun cdv A outer s H E lk B => d_does_show_in GG0 k_heard_behind B)
  obtain ⟨fd__law_of, D__law_of⟩ := c.d.def_ 12 (d := dd__law_of) rfl
  have k__law_of : Cal P w K mg base (tabT K tf) 2 "_law_of" 2 f__law_of := cal_of (N := N__law_of) (ps := ["_law_m", "_law_some_here"]) (m := b__law_of) (glo_ok X G (says_mem c.d (List.mem_of_getElem? (i := 12) (a := Fa.glo "_law_of") rfl))) D__law_of ⟨rfl, rfl, rfl, by decide +kernel, rfl, by decide +kernel, by decide +kernel⟩ (fun _ _ _ _ _ _ us hl => match us, hl with | [_, _], _ => rfl) (fun cdv A outer s H E lk B => d__law_of GG0 k__law_draw B)
  obtain ⟨fd__law_some, D__law_some⟩ := c.d.def_ 13 (d := dd__law_some) rfl
  have k__law_some : Cal P w K mg base (tabT K tf) 2 "_law_some" 3 f__law_some := cal_of (N := N__law_some) (ps := ["_law_m", "_law_many", "_law_share"]) (m := b__law_some) (glo_ok X G (says_mem c.d (List.mem_of_getElem? (i := 13) (a := Fa.glo "_law_some") rfl))) D__law_some ⟨rfl, rfl, rfl, by decide +kernel, rfl, by decide +kernel, by decide +kernel⟩ (fun _ _ _ _ _ _ us hl => match us, hl with | [_, _, _], _ => rfl) (fun cdv A outer s H E lk B => d__law_some GG0 k__law_draw B)
  obtain ⟨fd__law_row, D__law_row⟩ := c.d.def_ 15 (d := dd__law_row) rfl
  have k__law_row : Cal P w K mg base (tabT K tf) 2 "_law_row" 3 f__law_row := cal_of (N := N__law_row) (ps := ["_law_m", "_law_many", "_law_most"]) (m := b__law_row) (glo_ok X G (says_mem c.d (List.mem_of_getElem? (i := 15) (a := Fa.glo "_law_row") rfl))) D__law_row ⟨rfl, rfl, rfl, by decide +kernel, rfl, by decide +kernel, by decide +kernel⟩ (fun _ _ _ _ _ _ us hl => match us, hl with | [_, _, _], _ => rfl) (fun cdv A outer s H E lk B => d__law_row GG0 k__law_draw B)
  obtain ⟨fd__law_is_entry, D__law_is_entry⟩ := c.d.def_ 18 (d := dd__law_is_entry) rfl
  have k__law_is_entry : Cal P w K mg base (tabT K tf) 2 "_law_is_entry" 2 f__law_is_entry := cal_of (N := N__law_is_entry) (ps := ["_law_many", "_law_thing"]) (m := b__law_is_entry) (glo_ok X G (says_mem c.d (List.mem_of_getElem? (i := 18) (a := Fa.glo "_law_is_entry") rfl))) D__law_is_entry ⟨rfl, rfl, rfl, by decide +kernel, rfl, by decide +kernel, by decide +kernel⟩ (fun _ _ _ _ _ _ us hl => match us, hl with | [_, _], _ => rfl) (fun cdv A outer s H E lk B => d__law_is_entry GG0 k__law_is_among B)
  obtain ⟨fd__law_odds, D__law_odds⟩ := c.d.def_ 21 (d := dd__law_odds) rfl
  have k__law_odds : Cal P w K mg base (tabT K tf) 2 "_law_odds" 3 f__law_odds := cal_of (N := N__law_odds) (ps := ["_law_m", "_law_many", "_law_some_here"]) (m := b__law_odds) (glo_ok X G (says_mem c.d (List.mem_of_getElem? (i := 21) (a := Fa.glo "_law_odds") rfl))) D__law_odds ⟨rfl, rfl, rfl, by decide +kernel, rfl, by decide +kernel, by decide +kernel⟩ (fun _ _ _ _ _ _ us hl => match us, hl with | [_, _, _], _ => rfl) (fun cdv A outer s H E lk B => d__law_odds GG0 k__law_draw B)
  obtain ⟨fd_is_lot, D_is_lot⟩ := c.d.def_ 2 (d := dd_is_lot) rfl
  have k_is_lot : Cal P w K mg base (tabT K tf) 3 "is_lot" 2 f_is_lot := cal_of (N := N_is_lot) (ps := ["thing", "most"]) (m := b_is_lot) (glo_ok X G (says_mem c.d (List.mem_of_getElem? (i := 2) (a := Fa.glo "is_lot") rfl))) D_is_lot ⟨rfl, rfl, rfl, by decide +kernel, rfl, by decide +kernel, by decide +kernel⟩ (fun _ _ _ _ _ _ us hl => match us, hl with | [_, _], _ => rfl) (fun cdv A outer s H E lk B => d_is_lot GG0 k_is_row B)
  obtain ⟨fd__law_entry, D__law_entry⟩ := c.d.def_ 16 (d := dd__law_entry) rfl
  have k__law_entry : Cal P w K mg base (tabT K tf) 3 "_law_entry" 3 f__law_entry := cal_of (N := N__law_entry) (ps := ["_law_m", "_law_many", "_law_row_here"]) (m := b__law_entry) (glo_ok X G (says_mem c.d (List.mem_of_getElem? (i := 16) (a := Fa.glo "_law_entry") rfl))) D__law_entry ⟨rfl, rfl, rfl, by decide +kernel, rfl, by decide +kernel, by decide +kernel⟩ (fun _ _ _ _ _ _ us hl => match us, hl with | [_, _, _], _ => rfl) (fun cdv A outer s H E lk B => d__law_entry GG0 k__law_some k__law_of k__law_draw B)
  obtain ⟨fd__law_due, D__law_due⟩ := c.d.def_ 19 (d := dd__law_due) rfl
  have k__law_due : Cal P w K mg base (tabT K tf) 3 "_law_due" 2 f__law_due := cal_of (N := N__law_due) (ps := ["_law_many", "_law_thing"]) (m := b__law_due) (glo_ok X G (says_mem c.d (List.mem_of_getElem? (i := 19) (a := Fa.glo "_law_due") rfl))) D__law_due ⟨rfl, rfl, rfl, by decide +kernel, rfl, by decide +kernel, by decide +kernel⟩ (fun _ _ _ _ _ _ us hl => match us, hl with | [_, _], _ => rfl) (fun cdv A outer s H E lk B => d__law_due GG0 k__law_is_entry B)
  obtain ⟨fd_is_entry, D_is_entry⟩ := c.d.def_ 4 (d := dd_is_entry) rfl
  have k_is_entry : Cal P w K mg base (tabT K tf) 4 "is_entry" 2 f_is_entry := cal_of (N := N_is_entry) (ps := ["deeds", "thing"]) (m := b_is_entry) (glo_ok X G (says_mem c.d (List.mem_of_getElem? (i := 4) (a := Fa.glo "is_entry") rfl))) D_is_entry ⟨rfl, rfl, rfl, by decide +kernel, rfl, by decide +kernel, by decide +kernel⟩ (fun _ _ _ _ _ _ us hl => match us, hl with | [_, _], _ => rfl) (fun cdv A outer s H E lk B => d_is_entry GG0 k_is_lot k_is_whole k_is_row B)
  obtain ⟨fd_need_log, D_need_log⟩ := c.d.def_ 5 (d := dd_need_log) rfl
  have k_need_log : Cal P w K mg base (tabT K tf) 5 "need_log" 2 f_need_log := cal_of (N := N_need_log) (ps := ["deeds", "thing"]) (m := b_need_log) (glo_ok X G (says_mem c.d (List.mem_of_getElem? (i := 5) (a := Fa.glo "need_log") rfl))) D_need_log ⟨rfl, rfl, rfl, by decide +kernel, rfl, by decide +kernel, by decide +kernel⟩ (fun _ _ _ _ _ _ us hl => match us, hl with | [_, _], _ => rfl) (fun cdv A outer s H E lk B => d_need_log GG0 k_need_deeds k_is_entry B)
  obtain ⟨fd_does_show, D_does_show⟩ := c.d.def_ 9 (d := dd_does_show) rfl
  have k_does_show : Cal P w K mg base (tabT K tf) 6 "does_show" 4 f_does_show := cal_of (N := N_does_show) (ps := ["deeds", "log", "number", "row"]) (m := b_does_show) (glo_ok X G (says_mem c.d (List.mem_of_getElem? (i := 9) (a := Fa.glo "does_show") rfl))) D_does_show ⟨rfl, rfl, rfl, by decide +kernel, rfl, by decide +kernel, by decide +kernel⟩ (fun _ _ _ _ _ _ us hl => match us, hl with | [_, _, _, _], _ => rfl) (fun cdv A outer s H E lk B => d_does_show GG0 k_need_log k_need_number k_is_row k_does_show_in B)
  obtain ⟨fd__law_rows_right, D__law_rows_right⟩ := c.d.def_ 22 (d := dd__law_rows_right) rfl
  have k__law_rows_right : Cal P w K mg base (tabT K tf) 7 "_law_rows_right" 4 f__law_rows_right := cal_of (N := N__law_rows_right) (ps := ["_law_m", "_law_many", "_law_some_here", "_law_rows"]) (m := b__law_rows_right) (glo_ok X G (says_mem c.d (List.mem_of_getElem? (i := 22) (a := Fa.glo "_law_rows_right") rfl))) D__law_rows_right ⟨rfl, rfl, rfl, by decide +kernel, rfl, by decide +kernel, by decide +kernel⟩ (fun _ _ _ _ _ _ us hl => match us, hl with | [_, _, _, _], _ => rfl) (fun cdv A outer s H E lk B => d__law_rows_right GG0 k__law_shows k_does_show k__law_draw B)
  obtain ⟨fd__law_hand_right, D__law_hand_right⟩ := c.d.def_ 24 (d := dd__law_hand_right) rfl
  have k__law_hand_right : Cal P w K mg base (tabT K tf) 7 "_law_hand_right" 0 f__law_hand_right := cal_of (N := N__law_hand_right) (ps := []) (m := b__law_hand_right) (glo_ok X G (says_mem c.d (List.mem_of_getElem? (i := 24) (a := Fa.glo "_law_hand_right") rfl))) D__law_hand_right ⟨rfl, rfl, rfl, by decide +kernel, rfl, by decide +kernel, by decide +kernel⟩ (fun _ _ _ _ _ _ us hl => match us, hl with | [], _ => rfl) (fun cdv A outer s H E lk B => d__law_hand_right GG0 k_does_show k_need_log B)
  obtain ⟨fd__law_right, D__law_right⟩ := c.d.def_ 23 (d := dd__law_right) rfl
  have k__law_right : Cal P w K mg base (tabT K tf) 10 "_law_right" 1 f__law_right := cal_of (N := N__law_right) (ps := ["_law_m"]) (m := b__law_right) (glo_ok X G (says_mem c.d (List.mem_of_getElem? (i := 23) (a := Fa.glo "_law_right") rfl))) D__law_right ⟨rfl, rfl, rfl, by decide +kernel, rfl, by decide +kernel, by decide +kernel⟩ (fun _ _ _ _ _ _ us hl => match us, hl with | [_], _ => rfl) (fun cdv A outer s H E lk B => d__law_right GG0 k__law_draw k__law_row k__law_of k__law_entry k__law_rows_right k__law_odds k__law_due h__law_heard_7 k_need_log (TB (cT K ("_law_right", none)) (List.mem_map_of_mem (List.mem_of_getElem? (i := 0) rfl))) (code_of rfl D__law_right lk) (tab_mem (p := ("_law_right", none)) (List.mem_of_getElem? (i := 0) rfl)) (tab_hu c.nd (p := ("_law_right", none)) (List.mem_of_getElem? (i := 0) rfl)) B)
  obtain ⟨fd_law, D_law⟩ := c.d.def_ 25 (d := dd_law) rfl
  exact fnG_of (N := N_law) (ps := ["_law_script"]) (m := b_law) DL ⟨rfl, rfl, rfl, by decide +kernel, rfl, by decide +kernel, by decide +kernel⟩ (fun cdv A outer s H E lk B => d_law GG0 k__law_right k__law_begun k__law_hand_right B)
end
end K58
open PySem PySem.W PySem.Calls PyProof.Rows
theorem K58.holds (law_true : ∀ ns : List Int, ns.length ≤ 63 → (∀ z ∈ ns, Builtin.Int.intBits z ≤ 1048576) → ∃ s', K58.f_law [.lst (ns.map Wd.D.int)] [] = .ok (.bl true) s') : PySem.Challenge.rw_worksward_k58_whole_entries_shown.Holds := by
  w_on; o_law
  refine HandSHeadRun.head_any (r := OpenLaw.row PySem.Challenge.rw_worksward_k58_whole_entries_shown) (q := view (OpenLaw.row PySem.Challenge.rw_worksward_k58_whole_entries_shown).prog [39]) (H := K58.hk) (ob := K58.ob) (M := 4000) (loose := K58.nms) (d := HandSHeadRun.topDef (OpenLaw.row PySem.Challenge.rw_worksward_k58_whole_entries_shown).prog 39) (kwd := []) K58.ob_eq
    (by kernel_rfl) (fun s => by kernel_rfl) K58.run (by kernel_rfl) (by kernel_rfl) (by kernel_rfl) (by rfl) (by first | assumption | decide +kernel) (by decide +kernel) ⟨rfl, rfl, rfl, rfl, rfl, by decide +kernel⟩ ?hw ?hc
  case hw => w_witness2
  case hc =>
    refine Wd.walk_G (l := PySem.Challenge.rw_worksward_k58_whole_entries_shown) (n := 63) (k := 11) (x := "_law_script") rfl (by decide) (by kernel_rfl) ⟨rfl, by decide, by decide⟩ ?F
    intro w mg fa h Y G hmg0
    obtain ⟨K, KX, c⟩ := Y
    have hmg : mg ("law" : PySem.Str) = some (.ref fa) := by
      have e : (HandSHeadRun.topDef (OpenLaw.row PySem.Challenge.rw_worksward_k58_whole_entries_shown).prog 39).name = ("law" : PySem.Str) := by kernel_rfl
      rw [← e]
      exact hmg0
    obtain ⟨fd, D⟩ := c.d.def_ 25 (d := K58.dd_law) rfl
    have e := hmg.symm.trans (He.glo_ok KX G (Wd.says_mem c.d (List.mem_of_getElem? (i := 25) (a := He.Fa.glo "law") rfl)))
    cases e
    have b := L2.FunD.bindsA (ps := ["_law_script"]) D fun _ _ _ _ _ _ us hl => match us, hl with | [_], _ => rfl
    refine ⟨K, KX, fd, K58.tf.map (He.cT K), Wd.tabT K K58.tf, K58.f_law, fun p hp => ?_, fun p hp => ?_, fun p hp => ?_, fun p hp => ?_, fun s u => b s [u] rfl, fun ns hl hb => law_true ns hl hb, fun base _ _ TB => ?_⟩
    · obtain ⟨q, hq, rfl⟩ := List.mem_map.mp hp
      exact c.empty q hq
    · obtain ⟨q, hq, rfl⟩ := List.mem_map.mp hp
      exact c.out q hq
    · obtain ⟨q, hq, rfl⟩ := List.mem_map.mp hp
      exact codeHd_of_K KX (c.hd q hq)
    · obtain ⟨q, hq, rfl⟩ := List.mem_map.mp hp
      exact ⟨_, List.mem_map_of_mem hq, rfl⟩
    · exact K58.promises (w := w) KX G c base TB D
set_option linter.all false
set_option autoImplicit false
/-! Wm0: reckoning with the terms of Wd0: evaluation by simp, ends, loops. -/
namespace Wd
open PySem
section
variable {α β : Type} {l : Env} {s s1 : S} {d x y : D} {a b : EM D} {f : S → D → D → Option D}
/-! ### evaluation -/
@[simp] theorem bind_ok (a : α) (s : S) (f : α → S → Res β) : (Res.ok a s).bind f = f a s := rfl
@[simp] theorem bind_exc (a : Exn) (s : S) (f : α → S → Res β) : (Res.exc a s).bind f = .exc a s := rfl
@[simp] theorem bind_bad (f : α → S → Res β) : (Res.bad).bind f = .bad := rfl
@[simp] theorem toR_ok (a : α) (s : S) (l : Env) (f : α → S → R) : (Res.ok a s).toR l f = f a s := rfl
@[simp] theorem toR_exc (a : Exn) (s : S) (l : Env) (f : α → S → R) : (Res.exc a s).toR l f = .ex a l s := rfl
@[simp] theorem toR_bad (l : Env) (f : α → S → R) : (Res.bad).toR l f = .bad := rfl
@[simp] theorem opt_some (a : α) (s : S) : opt (some a) s = .ok a s := rfl
@[simp] theorem opt_none (s : S) : opt (none : Option α) s = .bad := rfl
@[simp] theorem eC_ap (d : D) (l : Env) (s : S) : eC d l s = .ok d s := rfl
@[simp] theorem eV_ap (i : Nat) (l : Env) (s : S) : eV i l s = match l[i]? with | some (some (.val d)) => .ok d s | _ => .bad := rfl
@[simp] theorem eW_ap (i : Nat) (l : Env) (s : S) : eW i l s = match l[i]? with | some (some (.val d)) => .ok d s | some (some (.own o)) => .ok o.d s | _ => .bad := rfl
@[simp] theorem eNil_ap (l : Env) (s : S) : eNil l s = .ok [] s := rfl
@[simp] theorem eAll_nil (l : Env) (s : S) : eAll [] l s = .ok [] s := rfl
@[simp] theorem eAll_cons (m : EM D) (ms : List (EM D)) (l : Env) (s : S) : eAll (m :: ms) l s = (m l s).bind fun d s1 => (eAll ms l s1).bind fun ds s2 => .ok (d :: ds) s2 := rfl
@[simp] theorem e1_ap (f : S → D → Option D) (a : EM D) (l : Env) (s : S) : e1 f a l s = (a l s).bind fun x s1 => opt (f s1 x) s1 := rfl
@[simp] theorem e2_ap (f : S → D → D → Option D) (a b : EM D) (l : Env) (s : S) : e2 f a b l s = (a l s).bind fun x s1 => (b l s1).bind fun y s2 => opt (f s2 x y) s2 := rfl
@[simp] theorem eN_ap (f : S → List D → Option D) (a : EM (List D)) (l : Env) (s : S) : eN f a l s = (a l s).bind fun xs s1 => opt (f s1 xs) s1 := rfl
@[simp] theorem eTup_ap (a : EM (List D)) (l : Env) (s : S) : eTup a l s = (a l s).bind fun xs s1 => .ok (.tup xs) s1 := rfl
@[simp] theorem eLst_ap (a : EM (List D)) (l : Env) (s : S) : eLst a l s = (a l s).bind fun xs s1 => .ok (.lst xs) s1 := rfl
@[simp] theorem qB_ap (a : EM D) (l : Env) (s : S) : qB a l s = (a l s).bind fun x s1 => match x with | .bl b => .ok b s1 | _ => .bad := rfl
@[simp] theorem qAnd_ap (a b : EM Bool) (l : Env) (s : S) : qAnd a b l s = (a l s).bind fun x s1 => if x = true then b l s1 else .ok false s1 := rfl
@[simp] theorem qOr_ap (a b : EM Bool) (l : Env) (s : S) : qOr a b l s = (a l s).bind fun x s1 => if x = true then .ok true s1 else b l s1 := rfl
@[simp] theorem qNot_ap (a : EM Bool) (l : Env) (s : S) : qNot a l s = (a l s).bind fun x s1 => .ok (!x) s1 := rfl
@[simp] theorem qT_ap (l : Env) (s : S) : qT l s = .ok true s := rfl
@[simp] theorem eIf_ap (c : EM Bool) (a b : EM D) (l : Env) (s : S) : eIf c a b l s = (c l s).bind fun x s1 => if x = true then a l s1 else b l s1 := rfl
@[simp] theorem eAnd_ap (a b : EM D) (l : Env) (s : S) : eAnd a b l s = (a l s).bind fun x s1 => match x with | .bl true => b l s1 | .bl false => .ok (.bl false) s1 | _ => .bad := rfl
@[simp] theorem eOr_ap (a b : EM D) (l : Env) (s : S) : eOr a b l s = (a l s).bind fun x s1 => match x with | .bl true => .ok (.bl true) s1 | .bl false => b l s1 | _ => .bad := rfl
@[simp] theorem eNot_ap (a : EM D) (l : Env) (s : S) : eNot a l s = (a l s).bind fun x s1 => match x with | .bl b => .ok (.bl (!b)) s1 | _ => .bad := rfl
@[simp] theorem eChain_ap (f g : S → D → D → Option D) (a b c : EM D) (l : Env) (s : S) : eChain f g a b c l s = (a l s).bind fun x s1 => (b l s1).bind fun y s2 => match f s2 x y with
  | some (.bl true) => (c l s2).bind fun z s3 => opt (g s3 y z) s3
  | some (.bl false) => .ok (.bl false) s2
  | _ => .bad := rfl
@[simp] theorem eNo_ap (l : Env) (s : S) : eNo l s = .ok none s := rfl
@[simp] theorem eAt_ap (a : EM D) (l : Env) (s : S) : eAt a l s = (a l s).bind fun x s1 => match x with | .int i => .ok (some i) s1 | _ => .bad := rfl
@[simp] theorem eSl_ap (a : EM D) (lo hi : EM (Option Int)) (l : Env) (s : S) : eSl a lo hi l s = (a l s).bind fun x s1 => (lo l s1).bind fun i s2 => (hi l s2).bind fun j s3 => opt (oSl s3 x i j) s3 := rfl
@[simp] theorem eCall_ap (f : Fn) (a : EM (List D)) (l : Env) (s : S) : eCall f a l s = (a l s).bind fun ds s1 => f ds s1 := rfl
@[simp] theorem eNew_ap (e : EM D) (l : Env) (s : S) : eNew e l s = (e l s).bind fun d s1 => match d.own? with | some o => .ok (.ref s1.length) (s1 ++ [o]) | none => .bad := rfl
@[simp] theorem eCb_ap (κ : S → Res D) (l : Env) (s : S) : eCb κ l s = κ s := rfl
@[simp] theorem eLam_ap (φ : (S → Res D) → S → Res D) (m : EM D) (l : Env) (s : S) : eLam φ m l s = φ (fun s' => m l s') s := rfl
@[simp] theorem eLr_ap (m : EM D) (l : Env) (s : S) : eLr m l s = (m l s).bind fun x s1 => match x with
  | .int n => if 0 ≤ n ∧ n < 1000000 then .ok (.lst (upto 0 n.toNat)) s1 else .bad
  | _ => .bad := rfl
@[simp] theorem iAny_ap (a : EM D) (l : Env) (s : S) : iAny a l s = (a l s).bind fun x s1 => match x with
  | .tup xs => .ok xs s1
  | .lst xs => .ok xs s1
  | .dct _ kvs => .ok (kvs.map Prod.fst) s1
  | _ => .bad := rfl
@[simp] theorem iRange1_ap (a : EM D) (l : Env) (s : S) : iRange1 a l s = (a l s).bind fun x s1 => match x with
  | .int n => if n < 1000000 ∧ -1000000 < n then .ok (upto 0 n.toNat) s1 else .bad
  | _ => .bad := rfl
@[simp] theorem iEnum2_ap (m : EM D) (l : Env) (s : S) : iEnum2 m l s = (m l s).bind fun x s1 => match x with
  | .lst xs => .ok (enumL 0 xs) s1
  | .tup xs => .ok (enumL 0 xs) s1
  | _ => .bad := rfl
@[simp] theorem iZipT_ap (m n : EM D) (l : Env) (s : S) : iZipT m n l s = (m l s).bind fun x s1 => (n l s1).bind fun y s2 => match x, y with
  | .tup xs, .tup ys => .ok (zipL xs ys) s2
  | _, _ => .bad := rfl
@[simp] theorem eLc_ap (vs : List Nat) (t : Tg) (it : EM (List D)) (c : EM Bool) (e : EM D) (l : Env) (s : S) : eLc vs t it c e l s = (it l s).bind fun ds s1 => (lcL t c e ds (wipeE l vs) s1).bind fun xs s2 => if ds.length ≤ big then .ok (.lst xs) s2 else .bad := rfl
@[simp] theorem eDc2_ap (t : Bool) (vs vs1 : List Nat) (tg : Tg) (it : EM (List D)) (c : EM Bool) (tg1 : Tg) (it1 : EM (List D)) (c1 : EM Bool) (k v : EM D) (l : Env) (s : S) : eDc2 t vs vs1 tg it c tg1 it1 c1 k v l s = (it l s).bind fun ds s1 => (dcOut t vs1 tg c tg1 it1 c1 k v ds (wipeE l vs) [] s1).bind fun acc s2 => .ok (.dct t acc) s2 := rfl
@[simp] theorem wipeE_nil (l : Env) : wipeE l [] = l := rfl
@[simp] theorem wipeE_cons (l : Env) (v : Nat) (vs : List Nat) : wipeE l (v :: vs) = (wipeE l vs).set v none := rfl
/-! ### statements -/
@[simp] theorem sPass_ap (l : Env) (s : S) : sPass l s = .nx l s := rfl
@[simp] theorem sSeq_ap (a b : SM) (l : Env) (s : S) : sSeq a b l s = match a l s with | .nx l' s' => b l' s' | r => r := rfl
@[simp] theorem sAsg_ap (i : Nat) (e : EM D) (l : Env) (s : S) : sAsg i e l s = (e l s).toR l fun d s' => .nx (l.set i (some (.val d))) s' := rfl
@[simp] theorem sRet_ap (e : EM D) (l : Env) (s : S) : sRet e l s = (e l s).toR l fun d s' => .rt d s' := rfl
@[simp] theorem sIf_ap (c : EM Bool) (a b : SM) (l : Env) (s : S) : sIf c a b l s = (c l s).toR l fun x s' => if x = true then a l s' else b l s' := rfl
@[simp] theorem sExpr_ap (e : EM D) (l : Env) (s : S) : sExpr e l s = (e l s).toR l fun _ s' => .nx l s' := rfl
@[simp] theorem sOwn_ap (i : Nat) (e : EM D) (l : Env) (s : S) : sOwn i e l s = (e l s).toR l fun d s' => match d.own? with | some o => .nx (l.set i (some (.own o))) s' | none => .bad := rfl
@[simp] theorem sFrz_ap (i : Nat) (l : Env) (s : S) : sFrz i l s = match l[i]? with | some (some (.own o)) => .nx (l.set i (some (.val o.d))) s | some (some (.val d)) => .nx l s | _ => .bad := rfl
@[simp] theorem sApp_ap (i : Nat) (e : EM D) (l : Env) (s : S) : sApp i e l s = match l[i]? with
  | some (some (.own (.lst xs))) => (e l s).toR l fun d s' => if xs.length < big then .nx (l.set i (some (.own (.lst (xs ++ [d]))))) s' else .bad
  | _ => .bad := rfl
def putR (l : Env) (r x y : D) (s3 : S) : R := match r with
  | .ref n => (match s3[n]? with
    | some (.dct t kvs) => if x.keyOf t && decide (kvs.length < big) then .nx l (s3.set n (.dct t (dput kvs x y))) else .bad
    | _ => .bad)
  | _ => .bad
@[simp] theorem sDputR_ap (o k v : EM D) (l : Env) (s : S) : sDputR o k v l s = (v l s).toR l fun y s1 => (o l s1).toR l fun r s2 => (k l s2).toR l fun x s3 => putR l r x y s3 := rfl
@[simp] theorem sPar2_ap (i j : Nat) (m1 m2 : EM D) (l : Env) (s : S) : sPar2 i j m1 m2 l s = (eAll [m1, m2] l s).toR l fun ds s' => match ds with
  | [d1, d2] => .nx ((l.set i (some (.val d1))).set j (some (.val d2))) s'
  | _ => .bad := rfl
@[simp] theorem sPut_ap (t : Tg) (e : EM D) (l : Env) (s : S) : sPut t e l s = (e l s).toR l fun d s' => match t.put d l with | some l' => .nx l' s' | none => .bad := rfl
@[simp] theorem sFor_ap (t : Tg) (it : EM (List D)) (b : SM) (l : Env) (s : S) : sFor t it b l s = (it l s).toR l fun ds s' => forL t b ds l s' := rfl
@[simp] theorem sRaise_ap (x : Str) (fld : Option Str) (m : EM D) (l : Env) (s : S) : sRaise x fld m l s = (m l s).toR l fun d s' => .ex ⟨x, match fld with | some f => [(f, d)] | none => []⟩ l s' := rfl
@[simp] theorem runB_ap (b : SM) (n : Nat) (ds : List D) (s : S) : runB b n ds s = match b (ds.map (fun d => some (.val d)) ++ List.replicate (n - ds.length) none) s with
  | .nx _ s' => .ok .non s'
  | .rt d s' => .ok d s'
  | .ex x _ s' => .exc x s'
  | _ => .bad := rfl
@[simp] theorem put_nm (i : Nat) (d : D) (l : Env) : (Tg.nm i).put d l = some (l.set i (some (.val d))) := by simp [Tg.put]
@[simp] theorem put_tp (ts : List Tg) (ds : List D) (l : Env) : (Tg.tp ts).put (.tup ds) l = Tg.puts ts ds l := by simp [Tg.put]
@[simp] theorem puts_nil (l : Env) : Tg.puts [] [] l = some l := by simp [Tg.puts]
@[simp] theorem puts_cons (t : Tg) (ts : List Tg) (d : D) (ds : List D) (l : Env) : Tg.puts (t :: ts) (d :: ds) l = match t.put d l with | some l' => Tg.puts ts ds l' | none => none := by cases h : t.put d l <;> simp [Tg.puts, h]
/-! ### values -/
@[simp] theorem look_non (s : S) : look s .non = .non := rfl
@[simp] theorem look_bl (s : S) (b : Bool) : look s (.bl b) = .bl b := rfl
@[simp] theorem look_int (s : S) (i : Int) : look s (.int i) = .int i := rfl
@[simp] theorem look_str (s : S) (x : Str) : look s (.str x) = .str x := rfl
@[simp] theorem look_tup (s : S) (xs : List D) : look s (.tup xs) = .tup xs := rfl
@[simp] theorem look_lst (s : S) (xs : List D) : look s (.lst xs) = .lst xs := rfl
@[simp] theorem look_dct (s : S) (t : Bool) (xs : List (D × D)) : look s (.dct t xs) = .dct t xs := rfl
@[simp] theorem look_ref (s : S) (n : Nat) : look s (.ref n) = match s[n]? with | some o => o.d | none => .ref n := rfl
@[simp] theorem d_lst (xs : List D) : (O.lst xs).d = .lst xs := rfl
@[simp] theorem d_dct (t : Bool) (xs : List (D × D)) : (O.dct t xs).d = .dct t xs := rfl
@[simp] theorem own_lst (xs : List D) : (D.lst xs).own? = some (.lst xs) := rfl
@[simp] theorem own_dct (t : Bool) (xs : List (D × D)) : (D.dct t xs).own? = some (.dct t xs) := rfl
@[simp] theorem oAdd_int (s : S) (i j : Int) : oAdd s (.int i) (.int j) = some (.int (i + j)) := rfl
@[simp] theorem oAdd_tup (s : S) (i j : List D) : oAdd s (.tup i) (.tup j) = if i.length + j.length ≤ big then some (.tup (i ++ j)) else none := rfl
@[simp] theorem oAdd_lst (s : S) (i j : List D) : oAdd s (.lst i) (.lst j) = if i.length + j.length ≤ big then some (.lst (i ++ j)) else none := rfl
@[simp] theorem oSub_int (s : S) (i j : Int) : oSub s (.int i) (.int j) = some (.int (i - j)) := rfl
@[simp] theorem oMul_int (s : S) (i j : Int) : oMul s (.int i) (.int j) = if small i || small j then some (.int (i * j)) else none := rfl
@[simp] theorem oDiv_int (s : S) (i j : Int) : oDiv s (.int i) (.int j) = if 0 < j ∧ j < 1073741824 then some (.int (i / j)) else none := rfl
@[simp] theorem oMod_int (s : S) (i j : Int) : oMod s (.int i) (.int j) = if 0 < j then some (.int (i % j)) else none := rfl
@[simp] theorem oNeg_int (s : S) (i : Int) : oNeg s (.int i) = some (.int (-i)) := rfl
@[simp] theorem oLt_int (s : S) (i j : Int) : oLt s (.int i) (.int j) = some (.bl (decide (i < j))) := rfl
@[simp] theorem oLe_int (s : S) (i j : Int) : oLe s (.int i) (.int j) = some (.bl (decide (i ≤ j))) := rfl
@[simp] theorem oGt_int (s : S) (i j : Int) : oGt s (.int i) (.int j) = some (.bl (decide (j < i))) := rfl
@[simp] theorem oGe_int (s : S) (i j : Int) : oGe s (.int i) (.int j) = some (.bl (decide (j ≤ i))) := rfl
@[simp] theorem oIsN_ap (s : S) (x : D) : oIsN s x = some (.bl x.isNon) := rfl
@[simp] theorem oNotN_ap (s : S) (x : D) : oNotN s x = some (.bl (!x.isNon)) := rfl
@[simp] theorem isNon_non : D.isNon .non = true := rfl
@[simp] theorem isNon_int (i : Int) : D.isNon (.int i) = false := rfl
@[simp] theorem isNon_tup (i : List D) : D.isNon (.tup i) = false := rfl
@[simp] theorem oNotB_bl (s : S) (a b : Bool) : oNotB s (.bl a) (.bl b) = some (.bl (!decide (a = b))) := rfl
@[simp] theorem oIsB_bl (s : S) (a b : Bool) : oIsB s (.bl a) (.bl b) = some (.bl (decide (a = b))) := rfl
@[simp] theorem oIx_tup (s : S) (xs : List D) (i : Int) : oIx s (.tup xs) (.int i) = atL xs i := rfl
@[simp] theorem oIx_lst (s : S) (xs : List D) (i : Int) : oIx s (.lst xs) (.int i) = atL xs i := rfl
@[simp] theorem oSl_tup (s : S) (xs : List D) (lo hi : Option Int) : oSl s (.tup xs) lo hi = some (.tup (cut xs lo hi)) := rfl
@[simp] theorem oSl_lst (s : S) (xs : List D) (lo hi : Option Int) : oSl s (.lst xs) lo hi = some (.lst (cut xs lo hi)) := rfl
@[simp] theorem oLen_tup (s : S) (xs : List D) : oLen s [.tup xs] = some (.int xs.length) := rfl
@[simp] theorem oLen_lst (s : S) (xs : List D) : oLen s [.lst xs] = some (.int xs.length) := rfl
@[simp] theorem oInt_int (s : S) (i : Int) : oInt s [.int i] = some (.int i) := rfl
@[simp] theorem oMin_int (s : S) (i j : Int) : oMin s [.int i, .int j] = some (.int (if j < i then j else i)) := rfl
@[simp] theorem oMax_int (s : S) (i j : Int) : oMax s [.int i, .int j] = some (.int (if j > i then j else i)) := rfl
@[simp] theorem oTupL_lst (s : S) (xs : List D) : oTupL s [.lst xs] = some (.tup xs) := rfl
@[simp] theorem oTupL_tup (s : S) (xs : List D) : oTupL s [.tup xs] = some (.tup xs) := rfl
@[simp] theorem oLstL_lst (s : S) (xs : List D) : oLstL s [.lst xs] = some (.lst xs) := rfl
@[simp] theorem oLstL_tup (s : S) (xs : List D) : oLstL s [.tup xs] = some (.lst xs) := rfl
@[simp] theorem oIsa_ap (t : Ty) (s : S) (x : D) : oIsa t s x = (x.isa t).map .bl := rfl
@[simp] theorem oRevT_tup (s : S) (xs : List D) : oRevT s (.tup xs) = some (.tup xs.reverse) := rfl
@[simp] theorem oAllB_lst (s : S) (xs : List D) : oAllB s [.lst xs] = (bools xs).map fun bs => .bl (bs.all id) := rfl
@[simp] theorem oAnyB_lst (s : S) (xs : List D) : oAnyB s [.lst xs] = (bools xs).map fun bs => .bl (bs.any id) := rfl
@[simp] theorem bools_bl (bs : List Bool) : bools (bs.map D.bl) = some bs := by
  induction bs with
  | nil => rfl
  | cons b bs ih => simp [bools, ih]
theorem bools_map {γ : Type} (g : γ → Bool) (xs : List γ) : bools (xs.map fun x => D.bl (g x)) = some (xs.map g) := by
  have := bools_bl (xs.map g)
  rw [List.map_map] at this
  exact this
@[simp] theorem upto_eq (lo : Int) (n : Nat) : upto lo n = (List.range n).map fun (i : Nat) => D.int (lo + (i : Int)) := by
  induction n generalizing lo with
  | zero => rfl
  | succ n ih =>
    rw [upto, ih, List.range_succ_eq_map, List.map_cons, List.map_map]
    simp only [Int.natCast_zero, Int.add_zero, List.cons.injEq, true_and]
    apply List.map_congr_left
    intro i _
    simp only [Function.comp]
    congr 1
    omega
/-! ### ends -/
/-- it ends in order, with Q -/
def Res.To (r : Res α) (Q : α → S → Prop) : Prop := match r with
  | .ok a s => Q a s
  | _ => False
@[simp] theorem To_ok (a : α) (s : S) (Q : α → S → Prop) : (Res.ok a s).To Q ↔ Q a s := Iff.rfl
@[simp] theorem To_bad (Q : α → S → Prop) : (Res.bad).To Q ↔ False := Iff.rfl
@[simp] theorem To_exc (x : Exn) (s : S) (Q : α → S → Prop) : (Res.exc x s).To Q ↔ False := Iff.rfl
@[simp] theorem To_bind (r : Res α) (f : α → S → Res β) (Q : β → S → Prop) : (r.bind f).To Q ↔ r.To fun a s => (f a s).To Q := by cases r <;> simp
theorem Res.To.mono {r : Res α} {Q Q' : α → S → Prop} (h : r.To Q) (i : ∀ a s, Q a s → Q' a s) : r.To Q' := by
  cases r with
  | ok a s => exact i a s h
  | exc _ _ => exact h
  | bad => exact h
theorem Res.To.ex {r : Res α} {Q : α → S → Prop} (h : r.To Q) : ∃ a s, r = .ok a s ∧ Q a s := by
  cases r with
  | ok a s => exact ⟨a, s, rfl, h⟩
  | exc _ _ => exact h.elim
  | bad => exact h.elim
theorem To_eq {r : Res α} {a : α} {s : S} (h : r.To fun b s' => b = a ∧ s' = s) : r = .ok a s := by
  obtain ⟨b, s', rfl, rfl, rfl⟩ := h.ex
  rfl
theorem To_of {r : Res α} {a : α} {s : S} {Q : α → S → Prop} (e : r = .ok a s) (h : Q a s) : r.To Q := by rw [e]; exact h
def R.To (r : R) (N : Env → S → Prop) (T : D → S → Prop) : Prop := match r with
  | .nx l s => N l s
  | .rt d s => T d s
  | _ => False
@[simp] theorem RTo_nx (l : Env) (s : S) (N : Env → S → Prop) (T : D → S → Prop) : (R.nx l s).To N T ↔ N l s := Iff.rfl
@[simp] theorem RTo_rt (d : D) (s : S) (N : Env → S → Prop) (T : D → S → Prop) : (R.rt d s).To N T ↔ T d s := Iff.rfl
@[simp] theorem RTo_bad (N : Env → S → Prop) (T : D → S → Prop) : (R.bad).To N T ↔ False := Iff.rfl
@[simp] theorem RTo_ex (x : Exn) (l : Env) (s : S) (N : Env → S → Prop) (T : D → S → Prop) : (R.ex x l s).To N T ↔ False := Iff.rfl
@[simp] theorem RTo_toR (r : Res α) (l : Env) (f : α → S → R) (N : Env → S → Prop) (T : D → S → Prop) : (r.toR l f).To N T ↔ r.To fun a s => (f a s).To N T := by cases r <;> simp
theorem RTo_seq (r : R) (b : SM) (N : Env → S → Prop) (T : D → S → Prop) : (match r with | .nx l' s' => b l' s' | r => r).To N T ↔ r.To (fun l' s' => (b l' s').To N T) T := by cases r <;> simp [R.To]
theorem sSeq_To (a b : SM) (l : Env) (s : S) (N : Env → S → Prop) (T : D → S → Prop) : (sSeq a b l s).To N T ↔ (a l s).To (fun l' s' => (b l' s').To N T) T := RTo_seq _ _ _ _
theorem R.To.mono {r : R} {N N' : Env → S → Prop} {T T' : D → S → Prop} (h : r.To N T) (i : ∀ l s, N l s → N' l s) (j : ∀ d s, T d s → T' d s) : r.To N' T' := by
  cases r with
  | nx l s => exact i l s h
  | rt d s => exact j d s h
  | _ => exact h
theorem runB_To {b : SM} {n : Nat} {ds : List D} {s : S} {Q : D → S → Prop} (h : (b (ds.map (fun d => some (.val d)) ++ List.replicate (n - ds.length) none) s).To (fun _ s' => Q .non s') Q) : (runB b n ds s).To Q := by
  rw [runB_ap]
  cases e : b (ds.map (fun d => some (.val d)) ++ List.replicate (n - ds.length) none) s with
  | nx l s => rw [e] at h; exact h
  | rt d s => rw [e] at h; exact h
  | _ => rw [e] at h; exact h.elim
theorem forL_To {t : Tg} {b : SM} (I : List D → Env → S → Prop) {T : D → S → Prop} (h : ∀ d ds l s, I (d :: ds) l s → ∃ l1, t.put d l = some l1 ∧ (b l1 s).To (I ds) T) : ∀ ds l s, I ds l s → (forL t b ds l s).To (I []) T
  | [], l, s, i => i
  | d :: ds, l, s, i => by
    obtain ⟨l1, e, r⟩ := h d ds l s i
    unfold forL
    rw [e]
    show (match b l1 s with | .nx l2 s2 => forL t b ds l2 s2 | .ct l2 s2 => forL t b ds l2 s2 | .bk l2 s2 => .nx l2 s2 | .rt d s2 => .rt d s2 | .ex x l2 s2 => .ex x l2 s2 | .bad => .bad).To _ _
    cases q : b l1 s with
    | nx l2 s2 =>
      rw [q] at r
      exact forL_To I h ds l2 s2 r
    | rt d s2 =>
      rw [q] at r
      exact r
    | _ =>
      rw [q] at r
      exact r.elim
theorem lcL_To {t : Tg} {c : EM Bool} {e : EM D} {l : Env} (J : List D → S → Prop) : ∀ (ds acc : List D) (s : S), (∀ d ∈ ds, ∀ acc s, J acc s → ∃ l1, t.put d l = some l1 ∧ (c l1 s).To fun b s1 => if b = true then (e l1 s1).To fun x s2 => J (acc ++ [x]) s2 else J acc s1) → J acc s → (lcL t c e ds l s).To fun xs s' => J (acc ++ xs) s'
  | [], acc, s, _, j => by
    unfold lcL
    rw [To_ok, List.append_nil]
    exact j
  | d :: ds, acc, s, h, j => by
    obtain ⟨l1, e1, r⟩ := h d List.mem_cons_self acc s j
    have h' := fun d hd => h d (List.mem_cons_of_mem _ hd)
    unfold lcL
    rw [e1]
    dsimp only
    cases q : c l1 s with
    | ok b s1 =>
      rw [q, To_ok] at r
      cases b with
      | true =>
        rw [if_pos rfl] at r
        dsimp only
        cases q2 : e l1 s1 with
        | ok x s2 =>
          rw [q2, To_ok] at r
          dsimp only
          have ih := lcL_To J ds (acc ++ [x]) s2 h' r
          cases q3 : lcL t c e ds l s2 with
          | ok xs s3 =>
            rw [q3, To_ok, List.append_assoc] at ih
            exact ih
          | _ =>
            rw [q3] at ih
            exact ih.elim
        | _ =>
          rw [q2] at r
          exact r.elim
      | false =>
        rw [if_neg (by simp)] at r
        exact lcL_To J ds acc s1 h' r
    | _ =>
      rw [q] at r
      exact r.elim
theorem lcL_pure {t : Tg} {c : EM Bool} {e : EM D} {l : Env} {s : S} (p : D → Bool) (g : D → D) : ∀ ds : List D, (∀ d ∈ ds, ∃ l1, t.put d l = some l1 ∧ c l1 s = .ok (p d) s ∧ (p d = true → e l1 s = .ok (g d) s)) → lcL t c e ds l s = .ok ((ds.filter p).map g) s
  | [], _ => rfl
  | d :: ds, h => by
    obtain ⟨l1, e1, e2, e3⟩ := h d List.mem_cons_self
    have ih := lcL_pure p g ds fun d hd => h d (List.mem_cons_of_mem _ hd)
    unfold lcL
    rw [e1]
    dsimp only
    rw [e2]
    cases q : p d with
    | true =>
      dsimp only
      rw [e3 q]
      dsimp only
      rw [ih, List.filter_cons_of_pos q, List.map_cons]
    | false =>
      dsimp only
      rw [ih, List.filter_cons_of_neg (by simp [q])]
end
end Wd
set_option linter.all false
set_option autoImplicit false
set_option maxRecDepth 10000
/-! Wm1: the law's draws: begun, draw, of. -/
namespace Wd
open PySem
local macro_rules | `(tactic| and_intros) => `(tactic| simp only [sSeq_To, sIf_ap, sPass_ap, sAsg_ap, sRet_ap, sExpr_ap, sOwn_ap, sFrz_ap, sApp_ap, sDputR_ap, sPar2_ap, sPut_ap, sFor_ap, sRaise_ap, qB_ap, qAnd_ap, qOr_ap, qNot_ap, qT_ap, e1_ap, e2_ap, eN_ap, eV_ap, eW_ap, eC_ap, eNil_ap, eAll_nil, eAll_cons, eTup_ap, eLst_ap, eIf_ap, eAnd_ap, eOr_ap, eNot_ap, eChain_ap, eNo_ap, eAt_ap, eSl_ap, eCall_ap, eNew_ap, eCb_ap, eLam_ap, eLr_ap, iAny_ap, iRange1_ap, iEnum2_ap, iZipT_ap, eLc_ap, eDc2_ap, wipeE_nil, wipeE_cons, put_nm, put_tp, puts_nil, puts_cons, bind_ok, bind_exc, bind_bad, toR_ok, toR_exc, toR_bad, opt_some, opt_none, look_non, look_bl, look_int, look_str, look_tup, look_lst, look_dct, d_lst, d_dct, own_lst, own_dct, oAdd_int, oSub_int, oNeg_int, oLt_int, oLe_int, oGt_int, oGe_int, oIsN_ap, oNotN_ap, isNon_non, isNon_int, isNon_tup, oNotB_bl, oIsB_bl, oIx_tup, oIx_lst, oSl_tup, oSl_lst, oLen_tup, oLen_lst, oInt_int, oMin_int, oMax_int, oTupL_lst, oTupL_tup, oLstL_lst, oLstL_tup, oIsa_ap, oRevT_tup, oAllB_lst, oAnyB_lst, To_ok, To_bad, To_exc, To_bind, RTo_nx, RTo_rt, RTo_bad, RTo_ex, RTo_toR, List.map_cons, List.map_nil, List.length_cons, List.length_nil, List.cons_append, List.nil_append, Nat.zero_add, Nat.reduceAdd, Nat.reduceSub, List.replicate_succ, List.replicate_zero, List.getElem?_cons_zero, List.getElem?_cons_succ, List.set_cons_zero, List.set_cons_succ, if_true, if_false, Bool.false_eq_true, Bool.not_true, Bool.not_false, Option.map_some, Option.map_none])
/-- the state of the draws -/
def DrO (left seed : Int) (cells : List Int) (spot : Int) : O := .dct false [(.str "left", .int left), (.str "seed", .int seed), (.str "cells", .lst (cells.map D.int)), (.str "spot", .int spot)]
def At (n : Nat) (s : S) (m : Nat) : Prop := ∃ (left seed : Int) (cells : List Int) (spot : Int), s[m]? = some (DrO left seed cells spot) ∧ cells ≠ [] ∧ 0 ≤ spot ∧ spot ≤ n
def b_begun : SM := (sSeq (sAsg 2 (e2 oAdd (eSl (eV 0) (eAt (eV 1)) eNo) (eSl (eV 0) eNo (eAt (eV 1))))) (sSeq (sAsg 3 (eLc [4] (.nm 4) (iAny (eV 2)) (qB (e2 oGe (eV 4) (e2 oPow (eC (.int 10)) (eC (.int 18))))) (eV 4))) (sSeq (sAsg 5 (e2 oAdd (eC (.int 97)) (eV 1))) (sSeq (sFor (.nm 4) (iAny (eV 2)) (sAsg 5 (e2 oMod (eN oInt (eAll [(e2 oAdd (e2 oMulP (eV 5) (eC (.int 48271))) (eV 4))])) (eC (.int 2147483647))))) (sRet (eNew (eDct [((eC (.str "left")), (eIf (qB (e2 oNeP (eV 3) (eLst (eAll [])))) (e2 oIx (eV 3) (eC (.int 0))) (eC (.int 0)))), ((eC (.str "seed")), (eV 5)), ((eC (.str "cells")), (e2 oAdd (eV 2) (eLst (eAll [(e2 oAdd (e2 oMul (eC (.int 31)) (eV 1)) (eC (.int 5)))])))), ((eC (.str "spot")), (eC (.int 0)))])))))))
def b_draw : SM := (sSeq (sIf (qB (e2 oGt (e2 oDix (eV 0) (eC (.str "left"))) (eC (.int 0)))) (sSeq (sAsg 2 (e2 oMod (eN oInt (eAll [(e2 oDix (eV 0) (eC (.str "left")))])) (eV 1))) (sSeq (sDputR (eV 0) (eC (.str "left")) (e2 oDiv (e2 oDix (eV 0) (eC (.str "left"))) (eV 1))) (sRet (eV 2)))) sPass) (sSeq (sAsg 3 (e2 oDix (eV 0) (eC (.str "spot")))) (sSeq (sDputR (eV 0) (eC (.str "spot")) (e2 oAdd (eV 3) (eC (.int 1)))) (sSeq (sPar2 4 5 (e2 oDix (eV 0) (eC (.str "cells"))) (e2 oAdd (e2 oDix (eV 0) (eC (.str "seed"))) (e2 oMul (e2 oMul (eC (.int 40503)) (eV 3)) (eV 3)))) (sSeq (sAsg 6 (e2 oIx (eV 4) (e2 oMod (eN oInt (eAll [(eV 3)])) (eN oLen (eAll [(eV 4)]))))) (sSeq (sAsg 7 (e2 oMod (eN oInt (eAll [(e2 oAdd (e2 oMul (eV 6) (e2 oAdd (e2 oMul (eC (.int 2)) (eV 3)) (eC (.int 3)))) (eV 5))])) (eC (.int 2147483647)))) (sSeq (sAsg 7 (e2 oMod (eN oInt (eAll [(e2 oAdd (e2 oAdd (e2 oMul (eV 7) (eV 7)) (e2 oMul (eC (.int 69621)) (eV 3))) (e2 oDix (eV 0) (eC (.str "seed"))))])) (eC (.int 2147483629)))) (sRet (e2 oMod (e2 oDiv (e2 oMod (eN oInt (eAll [(e2 oAdd (e2 oMulP (eV 7) (eC (.int 48271))) (eV 3))])) (eC (.int 2147483647))) (eC (.int 11))) (eV 1))))))))))
section
variable {left seed spot v : Int} {cells : List Int} {s : S} {m n : Nat}
theorem get_left (h : s[m]? = some (DrO left seed cells spot)) : oDix s (.ref m) (.str "left") = some (.int left) := by
  unfold oDix
  rw [look_ref, h]
  rfl
theorem get_seed (h : s[m]? = some (DrO left seed cells spot)) : oDix s (.ref m) (.str "seed") = some (.int seed) := by
  unfold oDix
  rw [look_ref, h]
  rfl
theorem get_cells (h : s[m]? = some (DrO left seed cells spot)) : oDix s (.ref m) (.str "cells") = some (.lst (cells.map D.int)) := by
  unfold oDix
  rw [look_ref, h]
  rfl
theorem get_spot (h : s[m]? = some (DrO left seed cells spot)) : oDix s (.ref m) (.str "spot") = some (.int spot) := by
  unfold oDix
  rw [look_ref, h]
  rfl
theorem put_left {l : Env} (h : s[m]? = some (DrO left seed cells spot)) : putR l (.ref m) (.str "left") (.int v) s = .nx l (s.set m (DrO v seed cells spot)) := by
  unfold putR
  simp only
  rw [h]
  rfl
theorem put_spot {l : Env} (h : s[m]? = some (DrO left seed cells spot)) : putR l (.ref m) (.str "spot") (.int v) s = .nx l (s.set m (DrO left seed cells v)) := by
  unfold putR
  simp only
  rw [h]
  rfl
theorem set_at {o o' : O} (h : s[m]? = some o) : (s.set m o')[m]? = some o' := by
  have hl := (List.getElem?_eq_some_iff.mp h).1
  rw [List.getElem?_set_self hl]
theorem small_lit {i : Int} (h1 : -(2 ^ 64) < i) (h2 : i < 2 ^ 64) : small i = true := by
  unfold small
  rw [decide_eq_true h1, decide_eq_true h2]
  rfl
theorem atL_mod {xs : List D} {i : Int} (h : xs ≠ []) : ∃ d ∈ xs, atL xs (i % (xs.length : Int)) = some d := by
  have hl : 0 < xs.length := List.length_pos_iff.mpr h
  have h0 : 0 ≤ i % (xs.length : Int) := Int.emod_nonneg _ (by omega)
  have h1 : i % (xs.length : Int) < xs.length := Int.emod_lt_of_pos _ (by omega)
  have h2 : (i % (xs.length : Int)).toNat < xs.length := by omega
  refine ⟨xs[(i % (xs.length : Int)).toNat], List.getElem_mem h2, ?_⟩
  unfold atL ixI
  rw [if_pos h0, if_pos h1]
  simp [h2]
/-- a drawn number -/
theorem draw_To {k : Int} (a : At n s m) (hn : n < 1000000000000) (h0 : 0 < k) (h1 : k < 1073741824) : (runB b_draw 8 [.ref m, .int k] s).To fun r s' => ∃ i, r = .int i ∧ 0 ≤ i ∧ i < k ∧ At (n + 1) s' m := by
  obtain ⟨left, seed, cells, spot, h, hc, hs0, hs1⟩ := a
  apply runB_To
  unfold b_draw
  simp only [List.map_cons, List.map_nil, List.length_cons, List.length_nil, List.cons_append, List.nil_append, Nat.zero_add, Nat.reduceAdd, Nat.reduceSub, List.replicate_succ, List.replicate_zero]
  rw [sSeq_To]
  simp only [sIf_ap, qB_ap, e2_ap, eV_ap, eC_ap, List.getElem?_cons_zero, bind_ok, get_left h, opt_some, oGt_int, RTo_toR, To_ok]
  by_cases hl : 0 < left
  · simp only [decide_eq_true hl, if_true]
    rw [sSeq_To]
    simp only [sAsg_ap, e2_ap, eN_ap, eAll_cons, eAll_nil, eV_ap, eC_ap, List.getElem?_cons_zero, List.getElem?_cons_succ, bind_ok, get_left h, opt_some, oInt_int, oMod_int, if_pos h0, RTo_toR, To_ok, RTo_nx, List.set_cons_succ, List.set_cons_zero]
    rw [sSeq_To]
    simp only [sDputR_ap, e2_ap, eV_ap, eC_ap, List.getElem?_cons_zero, List.getElem?_cons_succ, bind_ok, get_left h, opt_some, oDiv_int, if_pos (And.intro h0 h1), RTo_toR, To_ok, put_left h, RTo_nx, sRet_ap, RTo_rt]
    exact ⟨_, rfl, Int.emod_nonneg _ (by omega), Int.emod_lt_of_pos _ h0, _, seed, cells, spot, set_at h, hc, hs0, by omega⟩
  · simp only [decide_eq_false hl, Bool.false_eq_true, if_false, sPass_ap, RTo_nx]
    rw [sSeq_To]
    simp only [sAsg_ap, e2_ap, eV_ap, eC_ap, List.getElem?_cons_zero, List.getElem?_cons_succ, bind_ok, get_spot h, opt_some, RTo_toR, To_ok, RTo_nx, List.set_cons_succ, List.set_cons_zero]
    rw [sSeq_To]
    simp only [sDputR_ap, e2_ap, eV_ap, eC_ap, List.getElem?_cons_zero, List.getElem?_cons_succ, bind_ok, oAdd_int, opt_some, RTo_toR, To_ok, put_spot h, RTo_nx]
    have h' := set_at (o' := DrO left seed cells (spot + 1)) h
    have sm : small spot = true := small_lit (by omega) (by omega)
    have sm2 : small (2 * spot + 3) = true := small_lit (by omega) (by omega)
    have sm3 : small 40503 = true := by decide
    have sm4 : small 2 = true := by decide
    have sm5 : small 69621 = true := by decide
    rw [sSeq_To]
    simp only [sPar2_ap, eAll_cons, eAll_nil, e2_ap, eV_ap, eC_ap, List.getElem?_cons_zero, List.getElem?_cons_succ, bind_ok, get_cells h', get_seed h', opt_some, oMul_int, sm, sm3, Bool.or_true, Bool.true_or, if_true, oAdd_int, RTo_toR, To_ok, RTo_nx, List.set_cons_succ, List.set_cons_zero]
    rw [sSeq_To]
    have hm : cells.map D.int ≠ [] := by simpa using hc
    obtain ⟨d, hd, ed⟩ := atL_mod (i := spot) hm
    obtain ⟨cell, _, rfl⟩ := List.mem_map.mp hd
    have hlen : (0 : Int) < ((cells.map D.int).length : Int) := by
      have := List.length_pos_iff.mpr hm
      omega
    simp only [sAsg_ap, eAll_cons, eAll_nil, eN_ap, e2_ap, eV_ap, eC_ap, List.getElem?_cons_zero, List.getElem?_cons_succ, bind_ok, oInt_int, oLen_lst, opt_some, oMod_int, if_pos hlen, oIx_lst, ed, RTo_toR, To_ok, RTo_nx, List.set_cons_succ, List.set_cons_zero]
    rw [sSeq_To]
    have p1 : (0 : Int) < 2147483647 := by decide
    have p2 : (0 : Int) < 2147483629 := by decide
    have p3 : (0 : Int) < 11 ∧ (11 : Int) < 1073741824 := by decide
    simp only [sAsg_ap, eAll_cons, eAll_nil, eN_ap, e2_ap, eV_ap, eC_ap, List.getElem?_cons_zero, List.getElem?_cons_succ, bind_ok, oInt_int, opt_some, oMul_int, sm2, sm4, Bool.or_true, Bool.true_or, if_true, oAdd_int, oMod_int, if_pos p1, RTo_toR, To_ok, RTo_nx, List.set_cons_succ, List.set_cons_zero]
    generalize hb : (cell * (2 * spot + 3) + (seed + 40503 * spot * spot)) % 2147483647 = bl
    have b0 : 0 ≤ bl := by rw [← hb]; exact Int.emod_nonneg _ (by decide)
    have b1 : bl < 2147483647 := by rw [← hb]; exact Int.emod_lt_of_pos _ (by decide)
    have sm6 : small bl = true := small_lit (by omega) (by omega)
    rw [sSeq_To]
    simp only [sAsg_ap, eAll_cons, eAll_nil, eN_ap, e2_ap, eV_ap, eC_ap, List.getElem?_cons_zero, List.getElem?_cons_succ, bind_ok, oInt_int, opt_some, oMul_int, sm5, sm6, Bool.or_true, Bool.true_or, if_true, oAdd_int, get_seed h', oMod_int, if_pos p2, RTo_toR, To_ok, RTo_nx, List.set_cons_succ, List.set_cons_zero]
    generalize hb2 : (bl * bl + 69621 * spot + seed) % 2147483629 = bm
    have sm7 : small 48271 = true := by decide
    have hM : ∀ s' : S, oMulP s' (.int bm) (.int 48271) = some (.int (bm * 48271)) := fun s' => by
      unfold oMulP oOr
      rw [oMul_int, sm7, Bool.or_true]
      rfl
    simp only [sRet_ap, eAll_cons, eAll_nil, eN_ap, e2_ap, eV_ap, eC_ap, List.getElem?_cons_zero, List.getElem?_cons_succ, bind_ok, oInt_int, opt_some, hM, oAdd_int, oMod_int, if_pos p1, oDiv_int, if_pos p3, if_pos h0, RTo_toR, To_ok, RTo_rt]
    exact ⟨_, rfl, Int.emod_nonneg _ (by omega), Int.emod_lt_of_pos _ h0, left, seed, cells, spot + 1, h', hc, by omega, by omega⟩
theorem cut_map {α β : Type} (f : α → β) (xs : List α) (lo hi : Option Int) : cut (xs.map f) lo hi = (cut xs lo hi).map f := by
  simp [cut, List.map_drop, List.map_take]
theorem cut_le {α : Type} (xs : List α) (lo hi : Option Int) : (cut xs lo hi).length ≤ xs.length := by
  unfold cut
  rw [List.length_take, List.length_drop]
  omega
theorem eq_nil_ne (s : S) (xs : List D) (ps : List PyData) (h : D.pys xs = some ps) (hs : SeqAt.shaped (.list ps) = true) : oNeP s (.lst xs) (.lst []) = some (.bl (!xs.isEmpty)) := by
  unfold oNeP oOr oNeS oNe eqD
  simp only [look_lst, D.py, h, D.pys, Option.map_some, hs]
  have : SeqAt.shaped (PyData.list []) = true := by decide
  rw [this]
  cases xs with
  | nil =>
    cases h
    rfl
  | cons x xs =>
    unfold D.pys at h
    split at h
    · cases h
      rfl
    · cases h
theorem pys_ints : ∀ ns : List Int, D.pys (ns.map D.int) = some (ns.map PyData.int)
  | [] => rfl
  | n :: ns => by
    rw [List.map_cons, D.pys, pys_ints ns]
    rfl
theorem lay_ints : ∀ ns : List Int, PyData.canLayAll0 (ns.map PyData.int) = true
  | [] => rfl
  | n :: ns => by
    rw [List.map_cons, PyData.canLayAll0, lay_ints ns]
    rfl
theorem depth_ints : ∀ ns : List Int, PyData.depthAll (ns.map PyData.int) = 0
  | [] => rfl
  | n :: ns => by
    rw [List.map_cons, PyData.depthAll, depth_ints ns]
    rfl
theorem shaped_ints (ns : List Int) : SeqAt.shaped (.list (ns.map PyData.int)) = true := by
  unfold SeqAt.shaped PyData.canLay0 PyData.depth
  rw [lay_ints, depth_ints]
  rfl
theorem big_eq : big = 1000000 := rfl
/-- the beginning of the draws -/
theorem begun_To {ns : List Int} {k : Nat} (hl : ns.length ≤ 63) (hk : k ≤ 63) : (runB b_begun 6 [.lst (ns.map D.int), .int k] s).To fun r s' => r = .ref s.length ∧ At 0 s' s.length := by
  apply runB_To
  unfold b_begun
  and_intros
  have hc1 := cut_le ns (some (k : Int)) none
  have hc2 := cut_le ns none (some (k : Int))
  rw [cut_map, cut_map, oAdd_lst, if_pos (by rw [List.length_map, List.length_map, big_eq]; omega), ← List.map_append]
  generalize hcs : cut ns (some (k : Int)) none ++ cut ns none (some (k : Int)) = cs
  have hcl : cs.length ≤ 126 := by
    rw [← hcs, List.length_append]
    omega
  and_intros
  have e1 : lcL (.nm 4) (qB (e2 oGe (eV 4) (e2 oPow (eC (.int 10)) (eC (.int 18))))) (eV 4) (cs.map D.int) [some (.val (.lst (ns.map D.int))), some (.val (.int k)), some (.val (.lst (cs.map D.int))), none, none, none] s = .ok ((cs.filter fun c => decide ((10 : Int) ^ 18 ≤ c)).map D.int) s := by
    rw [lcL_pure (fun d => match d with | .int c => decide ((10 : Int) ^ 18 ≤ c) | _ => false) id]
    · simp [List.filter_map, Function.comp_def]
    · intro d hd
      obtain ⟨c, _, rfl⟩ := List.mem_map.mp hd
      refine ⟨_, rfl, ?_, fun _ => rfl⟩
      and_intros
      rfl
  rw [e1]
  have hb : (cs.map D.int).length ≤ big := by
    rw [List.length_map, big_eq]
    omega
  and_intros
  rw [if_pos hb]
  and_intros
  generalize (cs.filter fun c => decide ((10 : Int) ^ 18 ≤ c)) = gs
  refine R.To.mono (forL_To (I := fun ds l s' => ∃ (x : Option Slot) (v : Int) (js : List Int), l = [some (.val (.lst (ns.map D.int))), some (.val (.int k)), some (.val (.lst (cs.map D.int))), some (.val (.lst (gs.map D.int))), x, some (.val (.int v))] ∧ s = s' ∧ ds = js.map D.int) (T := fun _ _ => False) ?h (cs.map D.int) _ _ ⟨none, _, cs, rfl, rfl, rfl⟩) ?_ fun _ _ z => z.elim
  case h =>
    rintro d ds l s' ⟨x, v, js, rfl, rfl, e⟩
    cases js with
    | nil => cases e
    | cons j js =>
      injection e with ea eb
      subst ea eb
      refine ⟨_, rfl, ?_⟩
      have p1 : (0 : Int) < 2147483647 := by decide
      have sm7 : small 48271 = true := by decide
      have hM : ∀ s' : S, oMulP s' (.int v) (.int 48271) = some (.int (v * 48271)) := fun s' => by
        unfold oMulP oOr
        rw [oMul_int, sm7, Bool.or_true]
        rfl
      and_intros
      rw [hM]
      and_intros
      rw [oMod_int, if_pos p1]
      and_intros
      exact ⟨_, _, js, rfl, by first | rfl | trivial, by first | rfl | trivial⟩
  rintro l s' ⟨x, v, js, rfl, rfl, _⟩
  have hsm : small 31 = true := by decide
  have hleft : ∃ left : Int, (eIf (qB (e2 oNeP (eV 3) (eLst (eAll [])))) (e2 oIx (eV 3) (eC (.int 0))) (eC (.int 0))) [some (.val (.lst (ns.map D.int))), some (.val (.int k)), some (.val (.lst (cs.map D.int))), some (.val (.lst (gs.map D.int))), x, some (.val (.int v))] s = .ok (.int left) s := by
    and_intros
    rw [eq_nil_ne s _ _ (pys_ints gs) (shaped_ints gs)]
    and_intros
    cases gs with
    | nil => exact ⟨0, rfl⟩
    | cons g gs => exact ⟨g, by simp [atL, ixI]⟩
  obtain ⟨left, hleft⟩ := hleft
  have hadd : ∀ s' : S, oAdd s' (.lst (cs.map D.int)) (.lst [.int (31 * k + 5)]) = some (.lst ((cs ++ [31 * (k : Int) + 5]).map D.int)) := fun s' => by
    rw [oAdd_lst, if_pos (by rw [List.length_map, big_eq]; simp; omega)]
    simp
  have hpair : ∀ ms, ms = [((eC (.str "left")), (eIf (qB (e2 oNeP (eV 3) (eLst (eAll [])))) (e2 oIx (eV 3) (eC (.int 0))) (eC (.int 0)))), ((eC (.str "seed")), (eV 5)), ((eC (.str "cells")), (e2 oAdd (eV 2) (eLst (eAll [(e2 oAdd (e2 oMul (eC (.int 31)) (eV 1)) (eC (.int 5)))])))), ((eC (.str "spot")), (eC (.int 0)))] →
      eDct ms [some (.val (.lst (ns.map D.int))), some (.val (.int k)), some (.val (.lst (cs.map D.int))), some (.val (.lst (gs.map D.int))), x, some (.val (.int v))] s = .ok (.dct false [(.str "left", .int left), (.str "seed", .int v), (.str "cells", .lst ((cs ++ [31 * (k : Int) + 5]).map D.int)), (.str "spot", .int 0)]) s := by
    rintro _ rfl
    unfold eDct ePairs ePairs ePairs ePairs ePairs
    simp only [eC_ap, bind_ok, hleft]
    and_intros
    rw [oMul_int, hsm, Bool.true_or, if_pos rfl]
    and_intros
    rw [hadd]
    rfl
  simp only [sRet_ap, eNew_ap, hpair _ rfl, bind_ok, own_dct, RTo_toR, To_ok, RTo_rt]
  refine ⟨by trivial, left, v, cs ++ [31 * (k : Int) + 5], 0, ?_, by simp, Int.le_refl 0, Int.le_refl 0⟩
  rw [List.getElem?_append_right (Nat.le_refl _), Nat.sub_self]
  rfl
end
end Wd
set_option linter.all false
set_option autoImplicit false
set_option maxRecDepth 10000
/-! Wm2: repr and == of data without dicts. -/
namespace Wd
open PySem
mutual
/-- may be shown and compared -/
def D.rok : D → Bool
  | .non => true
  | .bl _ => true
  | .int i => decide (i.natAbs.log2 < 1920)
  | .str x => PySem.PyData.strOk x
  | .tup xs => D.roks xs
  | .lst xs => D.roks xs
  | .dct _ _ => false
  | .ref _ => false
def D.roks : List D → Bool
  | [] => true
  | x :: xs => D.rok x && D.roks xs
end
mutual
/-- at most so long -/
def D.rsz : D → Nat
  | .non => 4
  | .bl _ => 5
  | .int i => if i.natAbs ≤ 100 then 102 else 1921
  | .str x => (reprText x).length
  | .tup xs => D.rszs xs + 3
  | .lst xs => D.rszs xs + 3
  | .dct _ _ => 0
  | .ref _ => 0
def D.rszs : List D → Nat
  | [] => 0
  | x :: xs => D.rsz x + 2 + D.rszs xs
end
mutual
def D.rdp : D → Nat
  | .tup xs => D.rdps xs + 1
  | .lst xs => D.rdps xs + 1
  | _ => 0
def D.rdps : List D → Nat
  | [] => 0
  | x :: xs => max (D.rdp x) (D.rdps xs)
end
theorem roks_iff {xs : List D} : D.roks xs = true ↔ ∀ x ∈ xs, x.rok = true := by
  induction xs with
  | nil => simp [D.roks]
  | cons x xs ih => simp [D.roks, ih]
theorem roks_append {xs ys : List D} : D.roks (xs ++ ys) = (D.roks xs && D.roks ys) := by
  induction xs with
  | nil => simp [D.roks]
  | cons x xs ih => simp [D.roks, ih, Bool.and_assoc]
theorem rszs_append {xs ys : List D} : D.rszs (xs ++ ys) = D.rszs xs + D.rszs ys := by
  induction xs with
  | nil => simp [D.rszs]
  | cons x xs ih =>
    simp only [List.cons_append, D.rszs, ih]
    omega
theorem rszs_le {B : Nat} : ∀ {xs : List D}, (∀ x ∈ xs, x.rsz ≤ B) → D.rszs xs ≤ xs.length * (B + 2)
  | [], _ => by simp [D.rszs]
  | x :: xs, h => by
    have h1 := h x List.mem_cons_self
    have h2 := rszs_le (xs := xs) fun y hy => h y (List.mem_cons_of_mem _ hy)
    simp only [D.rszs, List.length_cons, Nat.succ_mul]
    omega
theorem rdps_le {B : Nat} : ∀ {xs : List D}, (∀ x ∈ xs, x.rdp ≤ B) → D.rdps xs ≤ B
  | [], _ => by simp [D.rdps]
  | x :: xs, h => by
    have h1 := h x List.mem_cons_self
    have h2 := rdps_le (xs := xs) fun y hy => h y (List.mem_cons_of_mem _ hy)
    simp only [D.rdps]
    omega
theorem listText_len (ts : List Str) : (listText ts).length ≤ (ts.map fun t => t.length + 2).sum + 3 := by
  unfold listText
  rw [strLen_append]
  have e : ((("]" : String) : Str)).length = 1 := rfl
  rw [e]
  have key : ∀ (ts : List Str) (k : Nat) (acc : Str), (textFrom k acc ts).length ≤ acc.length + (ts.map fun t => t.length + 2).sum := by
    intro ts
    induction ts with
    | nil => intro k acc; exact Nat.le_refl _
    | cons t ts ih =>
      intro k acc
      have h := ih (k + 1) (acc ++ (if k > 0 then ", " else "" : String) ++ t)
      show (textFrom (k + 1) (acc ++ (if k > 0 then ", " else "" : String) ++ t) ts).length ≤ _
      have e2 : (acc ++ (if k > 0 then ", " else "" : String) ++ t).length ≤ acc.length + 2 + t.length := by
        rw [strLen_append, strLen_append]
        split
        · exact Nat.le_refl _
        · show acc.length + 0 + t.length ≤ _
          omega
      rw [List.map_cons, List.sum_cons]
      omega
  have h := key ts 0 "["
  have e3 : ((("[" : String) : Str)).length = 1 := rfl
  rw [e3] at h
  omega
theorem tupleText_len (ts : List Str) : (tupleText ts).length ≤ (ts.map fun t => t.length + 2).sum + 3 := by
  unfold tupleText
  rw [strLen_append, strLen_append]
  have e3 : ((("(" : String) : Str)).length = 1 := rfl
  rw [e3]
  have hj : (Str.join ", " ts).length ≤ (ts.map fun t => t.length + 2).sum := by
    by_cases h : ts = []
    · subst h
      exact Nat.le_refl _
    · have := join_length_add ts h
      unfold piled at this
      omega
  have e2 : ((if ts.length == 1 then ",)" else ")" : String) : Str).length ≤ 2 := by
    split
    · exact Nat.le_refl _
    · exact Nat.le_succ 1
  omega
mutual
theorem rok_py : ∀ (x : D), x.rok = true → ∃ p, x.py = some p ∧ p.showable = true ∧ p.canLay0 = true ∧ p.depth = x.rdp ∧ p.shown.length ≤ x.rsz
  | .non, _ => ⟨.none, rfl, rfl, rfl, rfl, Nat.le_refl _⟩
  | .bl b, _ => ⟨.bool b, rfl, rfl, rfl, rfl, by cases b <;> decide⟩
  | .int i, h => ⟨.int i, rfl, by unfold D.rok at h; unfold PyData.showable; exact h, rfl, rfl, by
      unfold D.rok at h
      show (Str.ofString (toString i)).length ≤ D.rsz (.int i)
      unfold D.rsz
      split
      · have := PyProof.Rows.len_str_of_int i
        omega
      · exact PyProof.Rows.int_text_len_1921 (of_decide_eq_true h)⟩
  | .str x, h => ⟨.str x, rfl, rfl, by unfold D.rok at h; unfold PyData.canLay0; exact h, rfl, by
      show (reprText x).length ≤ D.rsz (.str x)
      unfold D.rsz
      exact Nat.le_refl _⟩
  | .tup xs, h => by
    unfold D.rok at h
    obtain ⟨ps, h1, h2, h3, h4, h5⟩ := roks_pys xs h
    refine ⟨.tuple ps, by unfold D.py; rw [h1]; rfl, by unfold PyData.showable; exact h2, by unfold PyData.canLay0; exact h3, by unfold PyData.depth D.rdp; rw [h4], ?_⟩
    unfold PyData.shown D.rsz
    exact Nat.le_trans (tupleText_len _) (by omega)
  | .lst xs, h => by
    unfold D.rok at h
    obtain ⟨ps, h1, h2, h3, h4, h5⟩ := roks_pys xs h
    refine ⟨.list ps, by unfold D.py; rw [h1]; rfl, by unfold PyData.showable; exact h2, by unfold PyData.canLay0; exact h3, by unfold PyData.depth D.rdp; rw [h4], ?_⟩
    unfold PyData.shown D.rsz
    exact Nat.le_trans (listText_len _) (by omega)
  | .dct _ _, h => by simp [D.rok] at h
  | .ref _, h => by simp [D.rok] at h
theorem roks_pys : ∀ (xs : List D), D.roks xs = true → ∃ ps, D.pys xs = some ps ∧ PyData.showableAll ps = true ∧ PyData.canLayAll0 ps = true ∧ PyData.depthAll ps = D.rdps xs ∧ ((PyData.shownAll ps).map fun t => t.length + 2).sum ≤ D.rszs xs
  | [], _ => ⟨[], rfl, rfl, rfl, rfl, Nat.le_refl _⟩
  | x :: xs, h => by
    unfold D.roks at h
    rw [Bool.and_eq_true] at h
    obtain ⟨p, g1, g2, g3, g4, g5⟩ := rok_py x h.1
    obtain ⟨ps, h1, h2, h3, h4, h5⟩ := roks_pys xs h.2
    refine ⟨p :: ps, by unfold D.pys; rw [g1, h1], by unfold PyData.showableAll; rw [g2, h2]; rfl, by unfold PyData.canLayAll0; rw [g3, h3]; rfl, by unfold PyData.depthAll D.rdps; rw [g4, h4], ?_⟩
    unfold PyData.shownAll D.rszs
    rw [List.map_cons, List.sum_cons]
    omega
end
/-- the text of a value -/
def D.show (x : D) : Str := match x.py with
  | some p => p.shown
  | none => ""
theorem look_rok {s : S} {x : D} (h : x.rok = true) : look s x = x := by cases x <;> first | rfl | simp [D.rok] at h
theorem repr_ok {s : S} {x : D} (h1 : x.rok = true) (h2 : x.rdp ≤ 64) (h3 : x.rsz ≤ 1000000) : oReprP s [x] = some (.str x.show) := by
  obtain ⟨p, e, g2, g3, g4, g5⟩ := rok_py x h1
  have nd : p.hasDict = false := PyData.hasDict_of_canLay p g3
  have hd : p.depth ≤ 64 := by omega
  have hl : p.shown.length ≤ big := by rw [big_eq]; omega
  have e2 : x.show = p.shown := by unfold D.show; rw [e]
  have e3 : oRepr s [x] = some (.str p.shown) := by
    unfold oRepr
    simp only [look_rok h1, e, g2, nd, hd, hl, decide_true, Bool.not_false, Bool.and_self, if_true]
  unfold oReprP
  simp only [e, e3, g2, hd, hl, decide_true, Bool.and_true, e2]
  split <;> rfl
/-- a value as data -/
def D.data (x : D) : PyData := (x.py).getD .none
theorem eqD_ok {s : S} {x y : D} (h1 : x.rok = true) (h2 : x.rdp ≤ 64) (k1 : y.rok = true) (k2 : y.rdp ≤ 64) : eqD s x y = some (PyData.eqv x.data y.data) := by
  obtain ⟨p, e, g2, g3, g4, g5⟩ := rok_py x h1
  obtain ⟨q, f, j2, j3, j4, j5⟩ := rok_py y k1
  have s1 : SeqAt.shaped p = true := by
    unfold SeqAt.shaped
    rw [g3, g4, decide_eq_true h2]
    rfl
  have s2 : SeqAt.shaped q = true := by
    unfold SeqAt.shaped
    rw [j3, j4, decide_eq_true k2]
    rfl
  unfold eqD D.data
  rw [look_rok h1, look_rok k1, e, f]
  simp [s1, s2]
theorem eqv_str (a b : Str) : (D.str a).data.eqv (D.str b).data = (a == b) := by
  show PyData.eqv (.str a) (.str b) = _
  unfold PyData.eqv
  rfl
theorem eqP_ok {s : S} {x y : D} (h1 : x.rok = true) (h2 : x.rdp ≤ 64) (k1 : y.rok = true) (k2 : y.rdp ≤ 64) : oEqP s x y = some (.bl (PyData.eqv x.data y.data)) := by
  unfold oEqP oOr
  cases q : oEqS s x y with
  | none =>
    simp only
    unfold oEq
    rw [eqD_ok h1 h2 k1 k2]
    rfl
  | some d =>
    unfold oEqS at q
    split at q
    · cases q
      rw [eqv_str]
    · cases q
theorem neP_ok {s : S} {x y : D} (h1 : x.rok = true) (h2 : x.rdp ≤ 64) (k1 : y.rok = true) (k2 : y.rdp ≤ 64) : oNeP s x y = some (.bl (!PyData.eqv x.data y.data)) := by
  unfold oNeP oOr
  cases q : oNeS s x y with
  | none =>
    simp only
    unfold oNe
    rw [eqD_ok h1 h2 k1 k2]
    rfl
  | some d =>
    unfold oNeS at q
    split at q
    · cases q
      rw [eqv_str]
    · cases q
@[simp] theorem eqP_str (s : S) (a b : Str) : oEqP s (.str a) (.str b) = some (.bl (a == b)) := rfl
@[simp] theorem neP_str (s : S) (a b : Str) : oNeP s (.str a) (.str b) = some (.bl (!(a == b))) := rfl
theorem shaped_int (i : Int) : SeqAt.shaped (.int i) = true := rfl
theorem shaped_bool (i : Bool) : SeqAt.shaped (.bool i) = true := rfl
@[simp] theorem eqP_int (s : S) (a b : Int) : oEqP s (.int a) (.int b) = some (.bl (a == b)) := by
  unfold oEqP oOr oEqS oEq eqD
  simp [D.py, shaped_int, PyData.eqv]
@[simp] theorem neP_int (s : S) (a b : Int) : oNeP s (.int a) (.int b) = some (.bl (!(a == b))) := by
  unfold oNeP oOr oNeS oNe eqD
  simp [D.py, shaped_int, PyData.eqv]
@[simp] theorem eqP_bl (s : S) (a b : Bool) : oEqP s (.bl a) (.bl b) = some (.bl (a == b)) := by
  unfold oEqP oOr oEqS oEq eqD
  simp [D.py, shaped_bool, PyData.eqv]
@[simp] theorem neP_bl (s : S) (a b : Bool) : oNeP s (.bl a) (.bl b) = some (.bl (!(a == b))) := by
  unfold oNeP oOr oNeS oNe eqD
  simp [D.py, shaped_bool, PyData.eqv]
theorem eqvAll_ints : ∀ ns ms : List Int, PyData.eqvAll (ns.map PyData.int) (ms.map PyData.int) = decide (ns = ms)
  | [], [] => by simp [PyData.eqvAll]
  | [], m :: ms => by simp [PyData.eqvAll]
  | n :: ns, [] => by simp [PyData.eqvAll]
  | n :: ns, m :: ms => by
    rw [List.map_cons, List.map_cons, PyData.eqvAll, eqvAll_ints ns ms]
    unfold PyData.eqv
    by_cases h : n = m <;> by_cases h2 : ns = ms <;> simp [h, h2]
theorem neP_ints (s : S) (ns ms : List Int) : oNeP s (.lst (ns.map D.int)) (.lst (ms.map D.int)) = some (.bl (!decide (ns = ms))) := by
  unfold oNeP oOr oNeS oNe eqD
  simp only [look_lst, D.py, pys_ints, Option.map_some, shaped_ints, Bool.and_self, if_true, PyData.eqv, eqvAll_ints]
theorem shaped_intsT (ns : List Int) : SeqAt.shaped (.tuple (ns.map PyData.int)) = true := by
  unfold SeqAt.shaped PyData.canLay0 PyData.depth
  rw [lay_ints, depth_ints]
  rfl
theorem neP_intsT (s : S) (ns ms : List Int) : oNeP s (.tup (ns.map D.int)) (.tup (ms.map D.int)) = some (.bl (!decide (ns = ms))) := by
  unfold oNeP oOr oNeS oNe eqD
  simp only [look_tup, D.py, pys_ints, Option.map_some, shaped_intsT, Bool.and_self, if_true, PyData.eqv, eqvAll_ints]
theorem eqP_intsT (s : S) (ns ms : List Int) : oEqP s (.tup (ns.map D.int)) (.tup (ms.map D.int)) = some (.bl (decide (ns = ms))) := by
  unfold oEqP oOr oEqS oEq eqD
  simp only [look_tup, D.py, pys_ints, Option.map_some, shaped_intsT, Bool.and_self, if_true, PyData.eqv, eqvAll_ints]
/-- in a row of ints -/
theorem in_ints (s : S) (i : Int) (ns : List Int) : oIn s (.int i) (.tup (ns.map D.int)) = some (.bl (decide (i ∈ ns))) := by
  unfold oIn
  simp only [look_tup]
  have h : (ns.map D.int).all D.flat = true := by simp [List.all_eq_true, D.flat]
  rw [h]
  have e : ((ns.map D.int).any fun z => z.feq (.int i)) = decide (i ∈ ns) := by
    induction ns with
    | nil => rfl
    | cons n ns ih =>
      rw [List.map_cons, List.any_cons, ih (by simp [List.all_eq_true, D.flat])]
      by_cases h : n = i
      · subst h; simp [D.feq]
      · have : ¬ i = n := fun z => h z.symm
        simp [D.feq, h, this]
  rw [e]
  rfl
theorem notin_ints (s : S) (i : Int) (ns : List Int) : oNotIn s (.int i) (.tup (ns.map D.int)) = some (.bl (!decide (i ∈ ns))) := by
  have h := in_ints s i ns
  unfold oIn at h
  unfold oNotIn
  simp only [look_tup] at h ⊢
  split at h
  · rename_i hc
    rw [if_pos hc]
    simpa using h
  · cases h
theorem roks_ints {ns : List Int} (h : ∀ i ∈ ns, i.natAbs ≤ 100) : D.roks (ns.map D.int) = true := by
  rw [roks_iff]
  intro x hx
  obtain ⟨i, hi, rfl⟩ := List.mem_map.mp hx
  have h2 := h i hi
  unfold D.rok
  refine decide_eq_true ?_
  have : i.natAbs.log2 ≤ i.natAbs := Nat.log2_le_self _
  omega
theorem rszs_ints {ns : List Int} (h : ∀ i ∈ ns, i.natAbs ≤ 100) : D.rszs (ns.map D.int) ≤ ns.length * 104 := by
  have := rszs_le (B := 102) (xs := ns.map D.int) fun x hx => by
    obtain ⟨i, hi, rfl⟩ := List.mem_map.mp hx
    unfold D.rsz
    rw [if_pos (h i hi)]
    exact Nat.le_refl _
  rw [List.length_map] at this
  exact this
theorem rdps_ints (ns : List Int) : D.rdps (ns.map D.int) = 0 := by
  have := rdps_le (B := 0) (xs := ns.map D.int) fun x hx => by
    obtain ⟨i, hi, rfl⟩ := List.mem_map.mp hx
    exact Nat.le_refl _
  omega
end Wd
set_option linter.all false
set_option autoImplicit false
set_option maxRecDepth 10000
/-! K58m1: the checks of entries and logs. -/
namespace K58
open PySem Wd
local macro_rules | `(tactic| and_intros) => `(tactic| simp only [sSeq_To, sIf_ap, sPass_ap, sAsg_ap, sRet_ap, sExpr_ap, sOwn_ap, sFrz_ap, sApp_ap, sDputR_ap, sPar2_ap, sPut_ap, sFor_ap, sRaise_ap, qB_ap, qAnd_ap, qOr_ap, qNot_ap, qT_ap, e1_ap, e2_ap, eN_ap, eV_ap, eW_ap, eC_ap, eNil_ap, eAll_nil, eAll_cons, eTup_ap, eLst_ap, eIf_ap, eAnd_ap, eOr_ap, eNot_ap, eChain_ap, eNo_ap, eAt_ap, eSl_ap, eCall_ap, eNew_ap, eCb_ap, eLam_ap, eLr_ap, iAny_ap, iRange1_ap, iEnum2_ap, iZipT_ap, eLc_ap, eDc2_ap, wipeE_nil, wipeE_cons, put_nm, put_tp, puts_nil, puts_cons, bind_ok, bind_exc, bind_bad, toR_ok, toR_exc, toR_bad, opt_some, opt_none, look_non, look_bl, look_int, look_str, look_tup, look_lst, look_dct, d_lst, d_dct, own_lst, own_dct, oAdd_int, oSub_int, oNeg_int, oLt_int, oLe_int, oGt_int, oGe_int, oIsN_ap, oNotN_ap, isNon_non, isNon_int, isNon_tup, oNotB_bl, oIsB_bl, oIx_tup, oIx_lst, oSl_tup, oSl_lst, oLen_tup, oLen_lst, oInt_int, oMin_int, oMax_int, oTupL_lst, oTupL_tup, oLstL_lst, oLstL_tup, oIsa_ap, oRevT_tup, oAllB_lst, oAnyB_lst, To_ok, To_bad, To_exc, To_bind, RTo_nx, RTo_rt, RTo_bad, RTo_ex, RTo_toR, List.map_cons, List.map_nil, List.length_cons, List.length_nil, List.cons_append, List.nil_append, Nat.zero_add, Nat.reduceAdd, Nat.reduceSub, List.replicate_succ, List.replicate_zero, List.getElem?_cons_zero, List.getElem?_cons_succ, List.set_cons_zero, List.set_cons_succ, if_true, if_false, Bool.false_eq_true, Bool.not_true, Bool.not_false, Option.map_some, Option.map_none])
/-- no dict, nothing of the store -/
def fine : D → Bool
  | .dct _ _ => false
  | .ref _ => false
  | _ => true
def isW (x : D) (a : Int) (b : Int) : Bool := match x with
  | .int i => decide (a ≤ i) && decide (i ≤ b)
  | _ => false
section
variable {s : S} {x : D} {a b : Int}
theorem whole_eq (h : fine x = true) : f_is_whole [x, .int a, .int b] s = .ok (.bl (isW x a b)) s := by
  unfold f_is_whole b_is_whole
  cases x with
  | int i =>
    simp [D.isa, isW]
    by_cases h : i < a
    · simp [h, show ¬ a ≤ i by omega]
    · simp [h, show a ≤ i by omega]
  | dct _ _ => cases h
  | ref _ => cases h
  | _ => simp [D.isa, isW]
theorem among_eq (h : fine x = true) : f__law_is_among [x, .int a, .int b] s = .ok (.bl (isW x a b)) s := by
  have e : f__law_is_among = f_is_whole := rfl
  rw [e]
  exact whole_eq h
def isR (x : D) (b : Int) : Bool := match x with
  | .tup xs => xs.all fun y => isW y 0 b
  | _ => false
/-- no tuple, or one of such -/
def fineT : D → Bool
  | .tup xs => xs.all fine && decide (xs.length < 64)
  | x => fine x
theorem row_eq (h : fineT x = true) : f_is_row [x, .int b] s = .ok (.bl (isR x b)) s := by
  unfold f_is_row b_is_row
  cases x with
  | tup xs =>
    have h : (xs.all fine && decide (xs.length < 64)) = true := h
    rw [Bool.and_eq_true, List.all_eq_true, decide_eq_true_eq] at h
    rw [runB_ap]
    and_intros
    simp only [D.isa, Option.map_some]
    and_intros
    rw [lcL_pure (fun _ => true) (fun y => .bl (isW y 0 b)) xs]
    · have hb : xs.length ≤ big := by rw [big_eq]; omega
      and_intros
      rw [if_pos hb]
      and_intros
      rw [List.filter_eq_self.mpr (fun _ _ => rfl), bools_map]
      simp [isR, List.all_map, Function.comp_def]
    · intro d hd
      refine ⟨_, rfl, rfl, fun _ => ?_⟩
      and_intros
      exact whole_eq (h.1 d hd)
  | dct _ _ => cases h
  | ref _ => cases h
  | _ => simp [D.isa, isR]
theorem isR_ints {x : D} (h : isR x b = true) : ∃ ns : List Int, x = .tup (ns.map D.int) ∧ ∀ n ∈ ns, 0 ≤ n ∧ n ≤ b := by
  cases x with
  | tup xs =>
    have h : (xs.all fun y => isW y 0 b) = true := h
    induction xs with
    | nil => exact ⟨[], rfl, fun _ z => nomatch z⟩
    | cons y ys ih =>
      rw [List.all_cons, Bool.and_eq_true] at h
      obtain ⟨ns, e, hn⟩ := ih h.2 h.2
      cases y with
      | int i =>
        have h1 : (decide (0 ≤ i) && decide (i ≤ b)) = true := h.1
        rw [Bool.and_eq_true, decide_eq_true_eq, decide_eq_true_eq] at h1
        refine ⟨i :: ns, ?_, ?_⟩
        · injection e with e
          rw [List.map_cons, e]
        · intro n hn'
          rcases List.mem_cons.mp hn' with rfl | hn'
          · exact h1
          · exact hn n hn'
      | _ => exact absurd h.1 (by simp [isW])
  | _ => cases h
theorem isR_of {ns : List Int} (h : ∀ n ∈ ns, 0 ≤ n ∧ n ≤ b) : isR (.tup (ns.map D.int)) b = true := by
  unfold isR
  rw [List.all_eq_true]
  intro y hy
  obtain ⟨n, hn, rfl⟩ := List.mem_map.mp hy
  obtain ⟨h1, h2⟩ := h n hn
  simp [isW, h1, h2]
/-- each less than the next -/
def inc : List Int → Bool
  | [] => true
  | [_] => true
  | x :: y :: r => decide (x < y) && inc (y :: r)
theorem zip_inc : ∀ ns : List Int, zipL (ns.map D.int) (ns.map D.int).tail = (ns.zip ns.tail).map fun p => D.tup [.int p.1, .int p.2]
  | [] => rfl
  | [_] => rfl
  | x :: y :: r => by
    have := zip_inc (y :: r)
    simp only [List.map_cons, List.tail_cons, List.zip_cons_cons] at this ⊢
    rw [zipL, this]
theorem inc_zip : ∀ ns : List Int, ((ns.zip ns.tail).all fun p => decide (p.1 < p.2)) = inc ns
  | [] => rfl
  | [_] => rfl
  | x :: y :: r => by
    have := inc_zip (y :: r)
    simp only [List.tail_cons, List.zip_cons_cons, List.all_cons, inc] at this ⊢
    rw [this]
theorem cut_tail {α : Type} (xs : List α) : cut xs (some 1) none = xs.tail := by
  cases xs with
  | nil => rfl
  | cons x xs =>
    unfold cut cutAt
    have e : min 1 (xs.length + 1) = 1 := by omega
    simp [e]
def isL (x : D) (b : Int) : Bool := isR x b && match x with
  | .tup xs => ((zipL xs xs.tail).all fun p => match p with | .tup [.int i, .int j] => decide (i < j) | _ => false)
  | _ => false
theorem isL_ints {ns : List Int} (h : ∀ n ∈ ns, 0 ≤ n ∧ n ≤ b) : isL (.tup (ns.map D.int)) b = inc ns := by
  unfold isL
  rw [isR_of h, Bool.true_and]
  simp only
  rw [zip_inc, List.all_map]
  exact inc_zip ns
theorem lot_eq (h : fineT x = true) : f_is_lot [x, .int b] s = .ok (.bl (isL x b)) s := by
  unfold f_is_lot b_is_lot
  rw [runB_ap]
  and_intros
  rw [row_eq h]
  and_intros
  cases q : isR x b with
  | false =>
    simp only [isL, q, Bool.false_and]
    rfl
  | true =>
    obtain ⟨ns, rfl, hn⟩ := isR_ints q
    have hl : ns.length < 64 := by
      have h : ((ns.map D.int).all fine && decide ((ns.map D.int).length < 64)) = true := h
      rw [Bool.and_eq_true, decide_eq_true_eq, List.length_map] at h
      exact h.2
    and_intros
    rw [cut_tail, zip_inc, lcL_pure (fun _ => true) (fun y => match y with | .tup [.int i, .int j] => .bl (decide (i < j)) | _ => .non)]
    · have hb : ((ns.zip ns.tail).map fun p => D.tup [.int p.1, .int p.2]).length ≤ big := by
        rw [big_eq, List.length_map, List.length_zip]
        omega
      and_intros
      rw [if_pos hb]
      and_intros
      rw [List.filter_eq_self.mpr (fun _ _ => rfl), List.map_map]
      have e : ((fun y => match y with | .tup [.int i, .int j] => D.bl (decide (i < j)) | _ => .non) ∘ fun p : Int × Int => D.tup [.int p.1, .int p.2]) = fun p => D.bl (decide (p.1 < p.2)) := rfl
      rw [e, bools_map]
      simp only [Option.map_some, opt_some, isL_ints hn]
      rw [← inc_zip, List.all_map]
      rfl
    · intro d hd
      obtain ⟨p, _, rfl⟩ := List.mem_map.mp hd
      refine ⟨_, rfl, rfl, fun _ => ?_⟩
      and_intros
end
end K58
set_option linter.all false
set_option autoImplicit false
set_option maxRecDepth 10000
/-! K58m2: entries, logs: the program's checks and the law's. -/
namespace K58
open PySem Wd
local macro_rules | `(tactic| and_intros) => `(tactic| simp only [sSeq_To, sIf_ap, sPass_ap, sAsg_ap, sRet_ap, sExpr_ap, sOwn_ap, sFrz_ap, sApp_ap, sDputR_ap, sPar2_ap, sPut_ap, sFor_ap, sRaise_ap, qB_ap, qAnd_ap, qOr_ap, qNot_ap, qT_ap, e1_ap, e2_ap, eN_ap, eV_ap, eW_ap, eC_ap, eNil_ap, eAll_nil, eAll_cons, eTup_ap, eLst_ap, eIf_ap, eAnd_ap, eOr_ap, eNot_ap, eChain_ap, eNo_ap, eAt_ap, eSl_ap, eCall_ap, eNew_ap, eCb_ap, eLam_ap, eLr_ap, iAny_ap, iRange1_ap, iEnum2_ap, iZipT_ap, eLc_ap, eDc2_ap, wipeE_nil, wipeE_cons, put_nm, put_tp, puts_nil, puts_cons, bind_ok, bind_exc, bind_bad, toR_ok, toR_exc, toR_bad, opt_some, opt_none, look_non, look_bl, look_int, look_str, look_tup, look_lst, look_dct, d_lst, d_dct, own_lst, own_dct, oAdd_int, oSub_int, oNeg_int, oLt_int, oLe_int, oGt_int, oGe_int, oIsN_ap, oNotN_ap, isNon_non, isNon_int, isNon_tup, oNotB_bl, oIsB_bl, oIx_tup, oIx_lst, oSl_tup, oSl_lst, oLen_tup, oLen_lst, oInt_int, oMin_int, oMax_int, oTupL_lst, oTupL_tup, oLstL_lst, oLstL_tup, oIsa_ap, oRevT_tup, oAllB_lst, oAnyB_lst, To_ok, To_bad, To_exc, To_bind, RTo_nx, RTo_rt, RTo_bad, RTo_ex, RTo_toR, List.map_cons, List.map_nil, List.length_cons, List.length_nil, List.cons_append, List.nil_append, Nat.zero_add, Nat.reduceAdd, Nat.reduceSub, List.replicate_succ, List.replicate_zero, List.getElem?_cons_zero, List.getElem?_cons_succ, List.set_cons_zero, List.set_cons_succ, if_true, if_false, Bool.false_eq_true, Bool.not_true, Bool.not_false, Option.map_some, Option.map_none])
section
variable {s : S} {x : D} {many : Int}
theorem four {α : Type} {xs : List α} (h : xs.length = 4) : ∃ a b c d, xs = [a, b, c, d] := by
  match xs, h with
  | [a, b, c, d], _ => exact ⟨a, b, c, d, rfl⟩
def len8 : D → Bool
  | .tup xs => decide (xs.length ≤ 8)
  | _ => false
def intsOf : D → List Int
  | .tup xs => (intsD xs).getD []
  | _ => []
def sub (c a : D) : Bool := (intsOf c).all fun i => decide (i ∈ intsOf a)
def wordOk : D → Bool
  | .str z => z == "done" || z == "never"
  | _ => false
def entOk (many : Int) (x : D) : Bool := match x with
  | .tup [a, b, c, d] => isL a (many - 1) && (isW b 0 2 && (isR c (many - 1) && (len8 c && (sub c a && wordOk d))))
  | _ => false
theorem entOk_ne {xs : List D} (h : xs.length ≠ 4) : entOk many (.tup xs) = false := by
  match xs, h with
  | [], _ => rfl
  | [_], _ => rfl
  | [_, _], _ => rfl
  | [_, _, _], _ => rfl
  | [_, _, _, _], h => exact absurd rfl h
  | _ :: _ :: _ :: _ :: _ :: _, _ => rfl
def wordT (d : D) : Prop := d = .non ∨ d = .str "done" ∨ d = .str "never" ∨ d = .str "Done"
def tameE (x : D) : Prop := match x with
  | .tup [a, b, c, d] => fineT a = true ∧ fine b = true ∧ fineT c = true ∧ wordT d
  | .dct _ _ => False
  | .ref _ => False
  | _ => True
@[simp] theorem intsD_map (ns : List Int) : intsD (ns.map D.int) = some ns := by
  induction ns with
  | nil => rfl
  | cons n ns ih => rw [List.map_cons, intsD, ih]; rfl
@[simp] theorem intsOf_map (ns : List Int) : intsOf (.tup (ns.map D.int)) = ns := by
  unfold intsOf
  simp
theorem at0 {a b c d : D} : atL [a, b, c, d] 0 = some a := rfl
theorem at1 {a b c d : D} : atL [a, b, c, d] 1 = some b := rfl
theorem at2 {a b c d : D} : atL [a, b, c, d] 2 = some c := rfl
theorem at3 {a b c d : D} : atL [a, b, c, d] 3 = some d := rfl
theorem fineT_len {xs : List D} (h : fineT (.tup xs) = true) : xs.length < 64 := by
  have h : (xs.all fine && decide (xs.length < 64)) = true := h
  rw [Bool.and_eq_true, decide_eq_true_eq] at h
  exact h.2
theorem fineT_all {xs : List D} (h : fineT (.tup xs) = true) : ∀ y ∈ xs, fine y = true := by
  have h : (xs.all fine && decide (xs.length < 64)) = true := h
  rw [Bool.and_eq_true, List.all_eq_true] at h
  exact h.1
theorem isa_tup_not {x : D} (h : fine x = true) (n : ∀ xs, x ≠ .tup xs) : x.isa .tuple = some false := by
  cases x with
  | tup xs => exact absurd rfl (n xs)
  | dct _ _ => cases h
  | ref _ => cases h
  | _ => rfl
theorem fineT_fine {x : D} (h : fineT x = true) : fine x = true := by
  cases x with
  | tup _ => rfl
  | _ => exact h
/-- the program's look at an entry -/
theorem entry_eq (h : tameE x) : f_is_entry [.int many, x] s = .ok (.bl (entOk many x)) s := by
  unfold f_is_entry b_is_entry
  refine To_eq (runB_To ?_)
  cases x with
  | tup xs =>
    and_intros
    simp only [D.isa, Option.map_some]
    and_intros
    rw [neP_int]
    and_intros
    by_cases hl : xs.length = 4
    · obtain ⟨a, b, c, d, rfl⟩ := four hl
      obtain ⟨ha, hb, hc, hd⟩ := h
      simp only [List.length_cons, List.length_nil]
      have e4 : (!(((0 + 1 + 1 + 1 + 1 : Nat) : Int) == 4)) = false := rfl
      simp only [e4]
      and_intros
      rw [at0]
      and_intros
      rw [lot_eq ha]
      and_intros
      cases q1 : isL a (many - 1) with
      | false => simp [entOk, q1]
      | true =>
        and_intros
        rw [at1]
        and_intros
        rw [whole_eq hb]
        and_intros
        cases q2 : isW b 0 2 with
        | false => simp [entOk, q2]
        | true =>
          and_intros
          rw [at2]
          and_intros
          rw [row_eq hc]
          and_intros
          cases q3 : isR c (many - 1) with
          | false => simp [entOk, q3]
          | true =>
            obtain ⟨ms, rfl, hm⟩ := isR_ints q3
            have q1' : isR a (many - 1) = true := by
              unfold isL at q1
              rw [Bool.and_eq_true] at q1
              exact q1.1
            obtain ⟨ns, rfl, hn⟩ := isR_ints q1'
            and_intros
            by_cases h8 : ms.length ≤ 8
            · have h8' : ¬ (8 : Int) < ((ms.map D.int).length : Int) := by rw [List.length_map]; omega
              simp only [decide_eq_false h8']
              and_intros
              rw [at2]
              and_intros
              rw [lcL_pure (fun _ => true) (fun y => match y with | .int i => .bl (decide (i ∈ ns)) | _ => .non)]
              · have hbig : (ms.map D.int).length ≤ big := by rw [big_eq, List.length_map]; omega
                and_intros
                rw [if_pos hbig]
                and_intros
                rw [List.filter_eq_self.mpr (fun _ _ => rfl), List.map_map]
                have e : ((fun y => match y with | .int i => D.bl (decide (i ∈ ns)) | _ => .non) ∘ D.int) = fun i => D.bl (decide (i ∈ ns)) := rfl
                rw [e, bools_map]
                and_intros
                have e5 : ((ms.map fun i => decide (i ∈ ns)).all id) = sub (.tup (ms.map D.int)) (.tup (ns.map D.int)) := by
                  unfold sub
                  rw [intsOf_map, intsOf_map, List.all_map]
                  rfl
                simp only [e5]
                cases q4 : sub (.tup (ms.map D.int)) (.tup (ns.map D.int)) with
                | false => simp [entOk, q4]
                | true =>
                  and_intros
                  rw [at3]
                  and_intros
                  have e8 : len8 (.tup (ms.map D.int)) = true := by
                    show decide ((ms.map D.int).length ≤ 8) = true
                    rw [List.length_map]
                    exact decide_eq_true h8
                  have e9 : entOk many (.tup [.tup (ns.map D.int), b, .tup (ms.map D.int), d]) = wordOk d := by
                    simp only [entOk, q1, q2, q3, q4, e8, Bool.true_and]
                  rw [e9]
                  rcases hd with rfl | rfl | rfl | rfl <;> exact ⟨rfl, rfl⟩
              · intro y hy
                obtain ⟨i, _, rfl⟩ := List.mem_map.mp hy
                refine ⟨_, rfl, rfl, fun _ => ?_⟩
                and_intros
                rw [at0]
                and_intros
                rw [in_ints]
                and_intros
            · have h8' : (8 : Int) < ((ms.map D.int).length : Int) := by rw [List.length_map]; omega
              simp only [decide_eq_true h8']
              and_intros
              have e8 : len8 (.tup (ms.map D.int)) = false := by
                show decide ((ms.map D.int).length ≤ 8) = false
                rw [List.length_map]
                exact decide_eq_false h8
              simp [entOk, e8]
    · have e4 : (!(((xs.length : Nat) : Int) == 4)) = true := by
        have : ¬ ((xs.length : Nat) : Int) = 4 := by omega
        simp [this]
      simp only [e4]
      and_intros
      exact ⟨by rw [entOk_ne hl], trivial⟩
  | dct _ _ => exact h.elim
  | ref _ => exact h.elim
  | _ => exact ⟨rfl, rfl⟩
theorem insU_id {x : Int} {ns : List Int} (h : inc (x :: ns) = true) : insU x ns = x :: ns := by
  cases ns with
  | nil => rfl
  | cons y r =>
    unfold inc at h
    rw [Bool.and_eq_true, decide_eq_true_eq] at h
    unfold insU
    rw [if_pos h.1]
theorem inc_tl {x : Int} {ns : List Int} (h : inc (x :: ns) = true) : inc ns = true := by
  cases ns with
  | nil => rfl
  | cons y r =>
    unfold inc at h
    rw [Bool.and_eq_true] at h
    exact h.2
theorem inc_cons {x : Int} {ns : List Int} (h : inc ns = true) (h2 : ∀ y ∈ ns.head?, x < y) : inc (x :: ns) = true := by
  cases ns with
  | nil => rfl
  | cons y r =>
    unfold inc
    rw [h, decide_eq_true (h2 y rfl)]
    rfl
theorem inc_insU {x : Int} : ∀ {ns : List Int}, inc ns = true → inc (insU x ns) = true
  | [], _ => rfl
  | y :: r, h => by
    unfold insU
    split
    · rename_i hlt
      exact inc_cons h fun z hz => by cases hz; exact hlt
    · split
      · exact h
      · rename_i h1 h2
        have ih := inc_insU (x := x) (inc_tl h)
        refine inc_cons ih fun z hz => ?_
        cases r with
        | nil => cases hz; omega
        | cons w r =>
          unfold insU at hz
          split at hz
          · cases hz; omega
          · split at hz
            · cases hz
              unfold inc at h
              rw [Bool.and_eq_true, decide_eq_true_eq] at h
              exact h.1
            · cases hz
              unfold inc at h
              rw [Bool.and_eq_true, decide_eq_true_eq] at h
              exact h.1
theorem inc_sortU : ∀ ns : List Int, inc (sortU ns) = true
  | [] => rfl
  | x :: r => inc_insU (inc_sortU r)
theorem sortU_id : ∀ {ns : List Int}, inc ns = true → sortU ns = ns
  | [], _ => rfl
  | x :: r, h => by
    unfold sortU
    rw [sortU_id (inc_tl h)]
    exact insU_id h
theorem sortU_iff (ns : List Int) : decide (sortU ns = ns) = inc ns := by
  by_cases h : sortU ns = ns
  · rw [decide_eq_true h]
    have := inc_sortU ns
    rw [h] at this
    exact this.symm
  · rw [decide_eq_false h]
    cases q : inc ns with
    | false => rfl
    | true => exact absurd (sortU_id q) h
theorem sset_ints (s : S) {ns : List Int} (h : ns.length < 64) : oSset s (.tup (ns.map D.int)) = some (.lst ((sortU ns).map D.int)) := by
  unfold oSset
  simp only [look_tup, intsD_map]
  rw [if_pos h]
theorem isaT (xs : List D) : D.isa .tuple (.tup xs) = some true := rfl
theorem ones_any (p : D → Bool) : ∀ ys : List D, (!decide (((ys.filter p).map fun _ => (1 : Int)) = [])) = ys.any p
  | [] => rfl
  | y :: ys => by
    rw [List.any_cons]
    cases q : p y with
    | true => simp [q]
    | false =>
      rw [List.filter_cons_of_neg (by simp [q]), ones_any p ys, Bool.false_or]
/-- [1 for y in ys if ..] != [] -/
theorem ones_ne (s : S) (p : D → Bool) (ys : List D) : oNeP s (.lst ((ys.filter p).map fun _ => D.int 1)) (.lst []) = some (.bl (ys.any p)) := by
  have e : ((ys.filter p).map fun _ => D.int 1) = ((ys.filter p).map fun _ => (1 : Int)).map D.int := by
    rw [List.map_map]
    rfl
  have := neP_ints s ((ys.filter p).map fun _ => (1 : Int)) []
  rw [List.map_nil, ones_any] at this
  rw [e]
  exact this
theorem any_not {xs : List D} (b : Int) : (xs.any fun y => !isW y 0 b) = !isR (.tup xs) b := by
  show _ = !(xs.all fun y => isW y 0 b)
  induction xs with
  | nil => rfl
  | cons x xs ih =>
    rw [List.any_cons, List.all_cons, ih, Bool.not_and]
theorem rp_done : oReprP s [.str "done"] = some (.str "'done'") := by
  have e : (D.str "done").show = "'done'" := by decide +kernel
  rw [← e]
  exact repr_ok (by decide +kernel) (by decide) (by decide +kernel)
theorem rp_never : oReprP s [.str "never"] = some (.str "'never'") := by
  have e : (D.str "never").show = "'never'" := by decide +kernel
  rw [← e]
  exact repr_ok (by decide +kernel) (by decide) (by decide +kernel)
theorem rp_Done : oReprP s [.str "Done"] = some (.str "'Done'") := by
  have e : (D.str "Done").show = "'Done'" := by decide +kernel
  rw [← e]
  exact repr_ok (by decide +kernel) (by decide) (by decide +kernel)
/-- the law's look at an entry -/
theorem lawEntry_eq (h : tameE x) : f__law_is_entry [.int many, x] s = .ok (.bl (entOk many x)) s := by
  unfold f__law_is_entry b__law_is_entry
  refine To_eq (runB_To ?_)
  cases x with
  | tup xs =>
    and_intros
    simp only [isaT, Option.map_some]
    and_intros
    rw [neP_int]
    and_intros
    by_cases hl : xs.length = 4
    · obtain ⟨a, b, c, d, rfl⟩ := four hl
      obtain ⟨ha, hb, hc, hd⟩ := h
      simp only [List.length_cons, List.length_nil]
      have e4 : (!(((0 + 1 + 1 + 1 + 1 : Nat) : Int) == 4)) = false := rfl
      simp only [e4]
      and_intros
      rw [at0]
      and_intros
      by_cases hat : ∃ as, a = .tup as
      · obtain ⟨as, rfl⟩ := hat
        simp only [isaT, Option.map_some]
        and_intros
        rw [at0]
        and_intros
        rw [lcL_pure (fun y => !isW y 0 (many - 1)) (fun _ => .int 1) as]
        · have hbig : as.length ≤ big := by rw [big_eq]; have := fineT_len ha; omega
          and_intros
          rw [if_pos hbig]
          and_intros
          rw [ones_ne]
          and_intros
          rw [any_not]
          cases q1 : isR (.tup as) (many - 1) with
          | false =>
            and_intros
            exact ⟨by simp [entOk, isL, q1], trivial⟩
          | true =>
            obtain ⟨ns, e, hn⟩ := isR_ints q1
            injection e with e
            subst e
            and_intros
            rw [at0]
            and_intros
            rw [sset_ints s (by have := fineT_len ha; rw [List.length_map] at this; exact this)]
            and_intros
            rw [neP_ints, sortU_iff]
            and_intros
            cases q2 : inc ns with
            | false =>
              and_intros
              exact ⟨by simp [entOk, isL_ints hn, q2], trivial⟩
            | true =>
              and_intros
              rw [at1]
              and_intros
              rw [among_eq hb]
              and_intros
              have ql : isL (.tup (ns.map D.int)) (many - 1) = true := by rw [isL_ints hn]; exact q2
              cases q3 : isW b 0 2 with
              | false =>
                and_intros
                exact ⟨by simp [entOk, q3], trivial⟩
              | true =>
                and_intros
                rw [at2]
                and_intros
                by_cases hct : ∃ cs, c = .tup cs
                · obtain ⟨cs, rfl⟩ := hct
                  simp only [isaT, Option.map_some]
                  and_intros
                  by_cases h8 : cs.length ≤ 8
                  · have h8' : ¬ (8 : Int) < (cs.length : Int) := by omega
                    have e8 : len8 (.tup cs) = true := decide_eq_true h8
                    simp only [decide_eq_false h8']
                    and_intros
                    rw [at2]
                    and_intros
                    rw [lcL_pure (fun y => !isW y 0 (many - 1) || !(match y with | .int i => decide (i ∈ ns) | _ => false)) (fun _ => .int 1) cs]
                    · have hbig : cs.length ≤ big := by rw [big_eq]; omega
                      and_intros
                      rw [if_pos hbig]
                      and_intros
                      rw [ones_ne]
                      and_intros
                      have e6 : (cs.any fun y => !isW y 0 (many - 1) || !(match y with | .int i => decide (i ∈ ns) | _ => false)) = !(isR (.tup cs) (many - 1) && sub (.tup cs) (.tup (ns.map D.int))) := by
                        cases q4 : isR (.tup cs) (many - 1) with
                        | false =>
                          have h5 := any_not (xs := cs) (many - 1)
                          rw [q4] at h5
                          obtain ⟨y, hy, e7⟩ := List.any_eq_true.mp h5
                          rw [Bool.false_and]
                          exact List.any_eq_true.mpr ⟨y, hy, by rw [e7]; rfl⟩
                        | true =>
                          obtain ⟨ms, e, hm⟩ := isR_ints q4
                          injection e with e
                          subst e
                          rw [Bool.true_and]
                          unfold sub
                          rw [intsOf_map, intsOf_map, List.any_map]
                          clear hc h8 h8' e8 hbig q4 hl
                          induction ms with
                          | nil => rfl
                          | cons m ms ih =>
                            rw [List.any_cons, List.all_cons, ih fun n hn => hm n (List.mem_cons_of_mem _ hn), Bool.not_and]
                            have h6 := hm m List.mem_cons_self
                            simp only [Function.comp, isW, h6.1, h6.2, decide_true, Bool.and_self, Bool.not_true, Bool.false_or]
                      rw [e6]
                      cases q4 : isR (.tup cs) (many - 1) && sub (.tup cs) (.tup (ns.map D.int)) with
                      | false =>
                        and_intros
                        refine ⟨?_, trivial⟩
                        have : entOk many (.tup [.tup (ns.map D.int), b, .tup cs, d]) = false := by
                          simp only [entOk, ql, q3, e8, Bool.true_and]
                          rw [← Bool.and_assoc, q4, Bool.false_and]
                        rw [this]
                      | true =>
                        have e9 : entOk many (.tup [.tup (ns.map D.int), b, .tup cs, d]) = wordOk d := by
                          simp only [entOk, ql, q3, e8, Bool.true_and]
                          rw [← Bool.and_assoc, q4, Bool.true_and]
                        and_intros
                        rw [at3]
                        and_intros
                        rw [e9]
                        rcases hd with rfl | rfl | rfl | rfl
                        · exact ⟨rfl, rfl⟩
                        · rw [rp_done]
                          exact ⟨rfl, rfl⟩
                        · rw [rp_never]
                          exact ⟨rfl, rfl⟩
                        · rw [rp_Done]
                          exact ⟨rfl, rfl⟩
                    · intro y hy
                      refine ⟨_, rfl, ?_, fun _ => rfl⟩
                      and_intros
                      rw [among_eq (fineT_all hc y hy)]
                      and_intros
                      cases q5 : isW y 0 (many - 1) with
                      | false => rfl
                      | true =>
                        cases y with
                        | int i =>
                          and_intros
                          rw [at0]
                          and_intros
                          rw [notin_ints]
                          rfl
                        | _ => cases q5
                  · have h8' : (8 : Int) < (cs.length : Int) := by omega
                    have e8 : len8 (.tup cs) = false := decide_eq_false h8
                    simp only [decide_eq_true h8']
                    and_intros
                    exact ⟨by simp [entOk, e8], trivial⟩
                · rw [isa_tup_not (fineT_fine hc) fun cs e => hct ⟨cs, e⟩]
                  and_intros
                  have : isR c (many - 1) = false := by
                    cases c with
                    | tup cs => exact absurd ⟨cs, rfl⟩ hct
                    | _ => rfl
                  exact ⟨by simp [entOk, this], trivial⟩
        · intro y hy
          refine ⟨_, rfl, ?_, fun _ => rfl⟩
          and_intros
          rw [among_eq (fineT_all ha y hy)]
          and_intros
      · rw [isa_tup_not (fineT_fine ha) fun as e => hat ⟨as, e⟩]
        and_intros
        have : isR a (many - 1) = false := by
          cases a with
          | tup as => exact absurd ⟨as, rfl⟩ hat
          | _ => rfl
        exact ⟨by simp [entOk, isL, this], trivial⟩
    · have e4 : (!(((xs.length : Nat) : Int) == 4)) = true := by
        have : ¬ ((xs.length : Nat) : Int) = 4 := by omega
        simp [this]
      simp only [e4]
      and_intros
      exact ⟨by rw [entOk_ne hl], trivial⟩
  | dct _ _ => exact h.elim
  | ref _ => exact h.elim
  | _ => exact ⟨rfl, rfl⟩
end
end K58
set_option linter.all false
set_option autoImplicit false
set_option maxRecDepth 10000
/-! K58m3: logs: what is needed, what is due, what is heard. -/
namespace K58
open PySem Wd
local macro_rules | `(tactic| subst_vars) => `(tactic| simp only [sSeq_ap, sIf_ap, sPass_ap, sAsg_ap, sRet_ap, sExpr_ap, sOwn_ap, sFrz_ap, sApp_ap, sDputR_ap, sPar2_ap, sPut_ap, sFor_ap, sRaise_ap, qB_ap, qAnd_ap, qOr_ap, qNot_ap, qT_ap, e1_ap, e2_ap, eN_ap, eV_ap, eW_ap, eC_ap, eNil_ap, eAll_nil, eAll_cons, eTup_ap, eLst_ap, eIf_ap, eAnd_ap, eOr_ap, eNot_ap, eChain_ap, eNo_ap, eAt_ap, eSl_ap, eCall_ap, eNew_ap, eCb_ap, eLam_ap, eLr_ap, iAny_ap, iRange1_ap, iEnum2_ap, iZipT_ap, eLc_ap, eDc2_ap, wipeE_nil, wipeE_cons, put_nm, put_tp, puts_nil, puts_cons, bind_ok, bind_exc, bind_bad, toR_ok, toR_exc, toR_bad, opt_some, opt_none, look_non, look_bl, look_int, look_str, look_tup, look_lst, look_dct, d_lst, d_dct, own_lst, own_dct, oAdd_int, oSub_int, oNeg_int, oLt_int, oLe_int, oGt_int, oGe_int, oIsN_ap, oNotN_ap, isNon_non, isNon_int, isNon_tup, oNotB_bl, oIsB_bl, oIx_tup, oIx_lst, oSl_tup, oSl_lst, oLen_tup, oLen_lst, oInt_int, oMin_int, oMax_int, oTupL_lst, oTupL_tup, oLstL_lst, oLstL_tup, oIsa_ap, oRevT_tup, oAllB_lst, oAnyB_lst, To_ok, To_bad, To_exc, To_bind, RTo_nx, RTo_rt, RTo_bad, RTo_ex, RTo_toR, List.map_cons, List.map_nil, List.length_cons, List.length_nil, List.cons_append, List.nil_append, Nat.zero_add, Nat.reduceAdd, Nat.reduceSub, List.replicate_succ, List.replicate_zero, List.getElem?_cons_zero, List.getElem?_cons_succ, List.set_cons_zero, List.set_cons_succ, if_true, if_false, Bool.false_eq_true, Bool.not_true, Bool.not_false, Option.map_some, Option.map_none])
local macro_rules | `(tactic| and_intros) => `(tactic| simp only [sSeq_To, sIf_ap, sPass_ap, sAsg_ap, sRet_ap, sExpr_ap, sOwn_ap, sFrz_ap, sApp_ap, sDputR_ap, sPar2_ap, sPut_ap, sFor_ap, sRaise_ap, qB_ap, qAnd_ap, qOr_ap, qNot_ap, qT_ap, e1_ap, e2_ap, eN_ap, eV_ap, eW_ap, eC_ap, eNil_ap, eAll_nil, eAll_cons, eTup_ap, eLst_ap, eIf_ap, eAnd_ap, eOr_ap, eNot_ap, eChain_ap, eNo_ap, eAt_ap, eSl_ap, eCall_ap, eNew_ap, eCb_ap, eLam_ap, eLr_ap, iAny_ap, iRange1_ap, iEnum2_ap, iZipT_ap, eLc_ap, eDc2_ap, wipeE_nil, wipeE_cons, put_nm, put_tp, puts_nil, puts_cons, bind_ok, bind_exc, bind_bad, toR_ok, toR_exc, toR_bad, opt_some, opt_none, look_non, look_bl, look_int, look_str, look_tup, look_lst, look_dct, d_lst, d_dct, own_lst, own_dct, oAdd_int, oSub_int, oNeg_int, oLt_int, oLe_int, oGt_int, oGe_int, oIsN_ap, oNotN_ap, isNon_non, isNon_int, isNon_tup, oNotB_bl, oIsB_bl, oIx_tup, oIx_lst, oSl_tup, oSl_lst, oLen_tup, oLen_lst, oInt_int, oMin_int, oMax_int, oTupL_lst, oTupL_tup, oLstL_lst, oLstL_tup, oIsa_ap, oRevT_tup, oAllB_lst, oAnyB_lst, To_ok, To_bad, To_exc, To_bind, RTo_nx, RTo_rt, RTo_bad, RTo_ex, RTo_toR, List.map_cons, List.map_nil, List.length_cons, List.length_nil, List.cons_append, List.nil_append, Nat.zero_add, Nat.reduceAdd, Nat.reduceSub, List.replicate_succ, List.replicate_zero, List.getElem?_cons_zero, List.getElem?_cons_succ, List.set_cons_zero, List.set_cons_succ, if_true, if_false, Bool.false_eq_true, Bool.not_true, Bool.not_false, Option.map_some, Option.map_none])
section
variable {s : S} {x : D} {many : Int}
def firstBad (many : Int) : List D → Option Nat
  | [] => none
  | x :: xs => if entOk many x then (firstBad many xs).map (· + 1) else some 0
def partOf (many : Int) : D → Option D
  | .tup xs => if 8 < xs.length then some (.str "form") else (firstBad many xs).map fun j => .int (j : Nat)
  | _ => some (.str "form")
def tameL : D → Prop
  | .tup xs => ∀ x ∈ xs, tameE x
  | .dct _ _ => False
  | .ref _ => False
  | _ => True
theorem deeds_eq (h1 : 1 ≤ many) (h2 : many ≤ 6) : f_need_deeds [.int many] s = .ok .non s := by
  unfold f_need_deeds b_need_deeds
  rw [runB_ap]
  subst_vars
  rw [whole_eq rfl]
  subst_vars
  simp [isW, h1, h2]
theorem need_loop (xs : List D) : ∀ (i : Nat) (a b : Option Slot) (X : D), (∀ x ∈ xs, tameE x) → ∃ l', forL (.tp [(.nm 2), (.nm 3)]) (sIf (qNot (qB (eCall f_is_entry (eAll [(eV 0), (eV 3)])))) (sRaise "BadLog" (some "part") (eV 2)) sPass) (enumL i xs) [some (.val (.int many)), some (.val X), a, b] s =
    (match firstBad many xs with
      | none => .nx l' s
      | some j => .ex ⟨"BadLog", [("part", .int ((i + j : Nat) : Int))]⟩ l' s) ∧ (firstBad many xs = none → ∃ a' b', l' = [some (.val (.int many)), some (.val X), a', b']) := by
  induction xs with
  | nil => exact fun i a b X _ => ⟨_, rfl, fun _ => ⟨a, b, rfl⟩⟩
  | cons x xs ih =>
    intro i a b X h
    have hx := h x List.mem_cons_self
    have e1 : (sIf (qNot (qB (eCall f_is_entry (eAll [(eV 0), (eV 3)])))) (sRaise "BadLog" (some "part") (eV 2)) sPass) [some (.val (.int many)), some (.val X), some (.val (.int i)), some (.val x)] s = if entOk many x then .nx [some (.val (.int many)), some (.val X), some (.val (.int i)), some (.val x)] s else .ex ⟨"BadLog", [("part", .int (i : Int))]⟩ [some (.val (.int many)), some (.val X), some (.val (.int i)), some (.val x)] s := by
      subst_vars
      rw [entry_eq hx]
      subst_vars
      cases entOk many x <;> rfl
    have e2 : ∀ r, r = (sIf (qNot (qB (eCall f_is_entry (eAll [(eV 0), (eV 3)])))) (sRaise "BadLog" (some "part") (eV 2)) sPass) → forL (.tp [(.nm 2), (.nm 3)]) r (enumL i (x :: xs)) [some (.val (.int many)), some (.val X), a, b] s = if entOk many x then forL (.tp [(.nm 2), (.nm 3)]) r (enumL (i + 1 : Nat) xs) [some (.val (.int many)), some (.val X), some (.val (.int i)), some (.val x)] s else .ex ⟨"BadLog", [("part", .int (i : Int))]⟩ [some (.val (.int many)), some (.val X), some (.val (.int i)), some (.val x)] s := by
      intro r hr
      rw [← hr] at e1
      rw [enumL, forL]
      simp only [put_tp, puts_cons, puts_nil, put_nm, List.set_cons_succ, List.set_cons_zero]
      rw [e1]
      cases entOk many x <;> rfl
    rw [e2 _ rfl]
    cases q : entOk many x with
    | true =>
      obtain ⟨l', e3, e4⟩ := ih (i + 1) (some (.val (.int i))) (some (.val x)) X fun y hy => h y (List.mem_cons_of_mem _ hy)
      refine ⟨l', ?_, ?_⟩
      · rw [if_pos rfl, e3]
        simp only [firstBad, q, if_true]
        cases firstBad many xs with
        | none => rfl
        | some j =>
          simp only [Option.map_some]
          rw [show i + 1 + j = i + (j + 1) by omega]
      · simp only [firstBad, q, if_true, Option.map_eq_none_iff]
        exact e4
    | false =>
      refine ⟨[some (.val (.int many)), some (.val X), some (.val (.int i)), some (.val x)], ?_, ?_⟩
      · rw [if_neg (by simp)]
        simp only [firstBad, q, Bool.false_eq_true, if_false]
        rfl
      · simp [firstBad, q]
theorem need_log_eq (h1 : 1 ≤ many) (h2 : many ≤ 6) (h : tameL x) : f_need_log [.int many, x] s = match partOf many x with
    | none => .ok x s
    | some p => .exc ⟨"BadLog", [("part", p)]⟩ s := by
  unfold f_need_log b_need_log
  rw [runB_ap]
  subst_vars
  rw [deeds_eq h1 h2]
  subst_vars
  cases x with
  | tup xs =>
    simp only [isaT, Option.map_some]
    subst_vars
    by_cases h8 : 8 < xs.length
    · have : (8 : Int) < (xs.length : Int) := by omega
      simp only [decide_eq_true this, partOf, if_pos h8]
      rfl
    · have : ¬ (8 : Int) < (xs.length : Int) := by omega
      simp only [decide_eq_false this, partOf, if_neg h8]
      subst_vars
      obtain ⟨l', e, e'⟩ := need_loop (many := many) (s := s) xs 0 none none (.tup xs) h
      simp only [Int.natCast_zero] at e
      rw [e]
      cases q : firstBad many xs with
      | none =>
        obtain ⟨a', b', rfl⟩ := e' q
        rfl
      | some j => simp
  | dct _ _ => exact h.elim
  | ref _ => exact h.elim
  | _ => rfl
theorem enum_filter : ∀ (xs : List D) (i : Nat), ((enumL i xs).filter fun p => match p with | .tup [_, x] => !entOk many x | _ => false).map (fun p => match p with | .tup [j, _] => j | _ => .non) = [] ∧ firstBad many xs = none ∨ ∃ j r, firstBad many xs = some j ∧ ((enumL i xs).filter fun p => match p with | .tup [_, x] => !entOk many x | _ => false).map (fun p => match p with | .tup [j, _] => j | _ => .non) = (D.int ((i + j : Nat) : Int)) :: (r : List Int).map D.int
  | [], i => .inl ⟨rfl, rfl⟩
  | x :: xs, i => by
    have ih := enum_filter xs (i + 1)
    rw [enumL]
    cases q : entOk many x with
    | true =>
      rw [List.filter_cons_of_neg (by simp [q])]
      simp only [firstBad, q, if_true]
      rcases ih with ⟨e1, e2⟩ | ⟨j, r, e1, e2⟩
      · exact .inl ⟨e1, by rw [e2]; rfl⟩
      · refine .inr ⟨j + 1, r, by rw [e1]; rfl, ?_⟩
        have e3 : (((i : Int) + 1)) = ((i + 1 : Nat) : Int) := by omega
        rw [e3, e2, show i + 1 + j = i + (j + 1) by omega]
    | false =>
      rw [List.filter_cons_of_pos (by simp [q])]
      right
      simp only [firstBad, q, Bool.false_eq_true, if_false, List.map_cons]
      have e3 : (((i : Int) + 1)) = ((i + 1 : Nat) : Int) := by omega
      rw [e3]
      rcases ih with ⟨e1, e2⟩ | ⟨j, r, e1, e2⟩
      · exact ⟨0, [], rfl, by rw [e1]; rfl⟩
      · exact ⟨0, ((i + 1 + j : Nat) : Int) :: r, rfl, by rw [e2]; rfl⟩
theorem due_eq (h : tameL x) : f__law_due [.int many, x] s = .ok (match partOf many x with
    | none => .lst [x]
    | some p => p) s := by
  unfold f__law_due b__law_due
  rw [runB_ap]
  subst_vars
  cases x with
  | tup xs =>
    simp only [isaT, Option.map_some]
    subst_vars
    by_cases h8 : 8 < xs.length
    · have : (8 : Int) < (xs.length : Int) := by omega
      simp only [decide_eq_true this, partOf, if_pos h8]
      rfl
    · have : ¬ (8 : Int) < (xs.length : Int) := by omega
      simp only [decide_eq_false this, partOf, if_neg h8]
      subst_vars
      have ef := enum_filter (many := many) xs 0
      simp only [Int.natCast_zero] at ef
      rw [lcL_pure (fun p => match p with | .tup [_, x] => !entOk many x | _ => false) (fun p => match p with | .tup [j, _] => j | _ => .non)]
      · have hlen : (enumL 0 xs).length = xs.length := by
          have : ∀ (xs : List D) (i : Int), (enumL i xs).length = xs.length := by
            intro xs
            induction xs with
            | nil => intro i; rfl
            | cons x xs ih => intro i; rw [enumL, List.length_cons, List.length_cons, ih]
          exact this xs 0
        have hbig : (enumL 0 xs).length ≤ big := by rw [hlen, big_eq]; omega
        subst_vars
        rw [if_pos hbig]
        subst_vars
        rcases ef with ⟨e1, e2⟩ | ⟨j, r, e1, e2⟩
        · rw [e1, e2]
          have := neP_ints s [] []
          simp only [List.map_nil] at this
          rw [this]
          rfl
        · rw [e1, e2]
          have := neP_ints s (((0 + j : Nat) : Int) :: r) []
          simp only [List.map_nil, List.map_cons] at this
          rw [this]
          simp [atL, ixI]
      · intro d hd
        have : ∀ (xs : List D) (i : Int), d ∈ enumL i xs → ∃ j x, d = .tup [.int j, x] ∧ x ∈ xs := by
          intro xs
          induction xs with
          | nil => intro i z; cases z
          | cons x xs ih =>
            intro i z
            rw [enumL] at z
            rcases List.mem_cons.mp z with rfl | z
            · exact ⟨i, x, rfl, List.mem_cons_self⟩
            · obtain ⟨j, y, e, hy⟩ := ih _ z
              exact ⟨j, y, e, List.mem_cons_of_mem _ hy⟩
        obtain ⟨j, y, rfl, hy⟩ := this xs 0 hd
        refine ⟨_, rfl, ?_, fun _ => rfl⟩
        subst_vars
        rw [lawEntry_eq (h y hy)]
        subst_vars
  | dct _ _ => exact h.elim
  | ref _ => exact h.elim
  | _ => rfl
theorem heard_eq (h1 : 1 ≤ many) (h2 : many ≤ 6) (h : tameL x) : f__law_heard (fun s' => f_need_log [.int many, x] s') s = .ok (match partOf many x with
    | none => .lst [x]
    | some p => p) s := by
  unfold f__law_heard b__law_heard runL
  unfold sTry
  subst_vars
  rw [need_log_eq h1 h2 h]
  cases partOf many x with
  | none => rfl
  | some p => rfl
end
end K58
set_option linter.all false
set_option autoImplicit false
set_option maxRecDepth 10000
/-! K58m4: entries shown: the plain law. -/
namespace K58
open PySem Wd
/-! ### the law's ends -/
def cond (loss d : Int) (ends : List Int) (i x : Int) : Bool := x == d && ends.any fun e => decide (0 < i - e) && decide (i - e ≤ loss + 1)
def later (loss : Int) (ends : List Int) (d : Int) : Int → List Int → List Int
  | _, [] => []
  | i, x :: xs => if cond loss d ends i x then i :: later loss ends d (i + 1) xs else later loss ends d (i + 1) xs
theorem mem_later {loss d : Int} {ends : List Int} : ∀ {xs : List Int} {i k : Int}, k ∈ later loss ends d i xs ↔ ∃ n : Nat, k = i + n ∧ xs[n]? = some d ∧ ∃ e ∈ ends, 0 < k - e ∧ k - e ≤ loss + 1
  | [], i, k => by simp [later]
  | x :: xs, i, k => by
    have ih := mem_later (loss := loss) (d := d) (ends := ends) (xs := xs) (i := i + 1) (k := k)
    have hc : cond loss d ends i x = true ↔ x = d ∧ ∃ e ∈ ends, 0 < i - e ∧ i - e ≤ loss + 1 := by
      unfold cond
      simp [List.any_eq_true]
    unfold later
    constructor
    · intro h
      split at h
      · rename_i hc'
        rcases List.mem_cons.mp h with rfl | h
        · obtain ⟨rfl, he⟩ := hc.mp hc'
          exact ⟨0, by simp, rfl, he⟩
        · obtain ⟨n, e1, e2, e3⟩ := ih.mp h
          exact ⟨n + 1, by omega, by simpa using e2, e3⟩
      · obtain ⟨n, e1, e2, e3⟩ := ih.mp h
        exact ⟨n + 1, by omega, by simpa using e2, e3⟩
    · rintro ⟨n, e1, e2, e3⟩
      cases n with
      | zero =>
        have ek : k = i := by omega
        subst ek
        have ex : x = d := by simpa using e2
        rw [if_pos (hc.mpr ⟨ex, e3⟩)]
        exact List.mem_cons_self
      | succ n =>
        have : k ∈ later loss ends d (i + 1) xs := ih.mpr ⟨n, by omega, by simpa using e2, e3⟩
        split
        · exact List.mem_cons_of_mem _ this
        · exact this
def endsOf (loss : Int) (so : List Int) (due : List Int) : List Int := due.foldl (fun ends d => later loss ends d 0 so) [-1]
def shL (seen : List Int) (loss : Int) (due row : List Int) : Bool := (endsOf loss (row.filter (· ∈ seen)) due).any fun e => decide (((row.filter (· ∈ seen)).length : Int) - 1 - e ≤ loss)
/-! ### the program's pairs -/
abbrev Pr := Int × Int
def hb (seen : List Int) (loss : Int) (due : List Int) (deed : Int) (p : Pr) : List Pr := if deed ∉ seen then [p] else (if p.2 < loss then [(p.1, p.2 + 1)] else []) ++ (if p.1 < due.length ∧ due[p.1.toNat]? = some deed then [(p.1 + 1, 0)] else [])
def ins (acc : List Pr) (q : Pr) : List Pr := if q ∈ acc then acc else acc ++ [q]
def step (seen : List Int) (loss : Int) (due : List Int) (ps : List Pr) (deed : Int) : List Pr := ps.foldl (fun acc p => (hb seen loss due deed p).foldl ins acc) []
def shP (seen : List Int) (loss : Int) (due row : List Int) : Bool := (row.foldl (step seen loss due) [(0, 0)]).any fun p => p.1 == due.length
theorem mem_ins {acc : List Pr} {q r : Pr} : r ∈ ins acc q ↔ r ∈ acc ∨ r = q := by
  unfold ins
  split
  · constructor
    · exact .inl
    · rintro (h | rfl)
      · exact h
      · assumption
  · simp
theorem mem_inss {qs : List Pr} : ∀ {acc : List Pr} {r : Pr}, r ∈ qs.foldl ins acc ↔ r ∈ acc ∨ r ∈ qs := by
  induction qs with
  | nil => simp
  | cons q qs ih =>
    intro acc r
    rw [List.foldl_cons, ih, mem_ins, List.mem_cons, or_assoc]
theorem mem_foldp {f : Pr → List Pr} {ps : List Pr} : ∀ {acc : List Pr} {r : Pr}, r ∈ ps.foldl (fun acc p => (f p).foldl ins acc) acc ↔ r ∈ acc ∨ ∃ p ∈ ps, r ∈ f p := by
  induction ps with
  | nil => simp
  | cons q qs ih =>
    intro acc r
    rw [List.foldl_cons, ih, mem_inss, or_assoc]
    simp
theorem mem_step {seen : List Int} {loss deed : Int} {due : List Int} {ps : List Pr} {r : Pr} : r ∈ step seen loss due ps deed ↔ ∃ p ∈ ps, r ∈ hb seen loss due deed p := by
  unfold step
  rw [mem_foldp]
  simp
theorem mem_hb {seen : List Int} {loss deed : Int} {due : List Int} {p r : Pr} (h : deed ∈ seen) : r ∈ hb seen loss due deed p ↔ (p.2 < loss ∧ r = (p.1, p.2 + 1)) ∨ (p.1 < due.length ∧ due[p.1.toNat]? = some deed ∧ r = (p.1 + 1, 0)) := by
  unfold hb
  rw [if_neg (fun z => z h), List.mem_append]
  constructor
  · rintro (h | h)
    · split at h
      · exact .inl ⟨by assumption, by simpa using h⟩
      · cases h
    · split at h
      · rename_i hc
        exact .inr ⟨hc.1, hc.2, by simpa using h⟩
      · cases h
  · rintro (⟨h1, rfl⟩ | ⟨h1, h2, rfl⟩)
    · rw [if_pos h1]
      exact .inl List.mem_cons_self
    · exact .inr (by rw [if_pos (And.intro h1 h2)]; exact List.mem_cons_self)
theorem ends_succ {loss : Int} {so due : List Int} {k : Nat} {d : Int} (h : due[k]? = some d) : endsOf loss so (due.take (k + 1)) = later loss (endsOf loss so (due.take k)) d 0 so := by
  have hl := (List.getElem?_eq_some_iff.mp h).1
  have e : due.take (k + 1) = due.take k ++ [d] := by
    rw [List.take_succ, h]
    rfl
  rw [e]
  unfold endsOf
  rw [List.foldl_append]
  rfl
/-- what stands in the program's dict behind n seen deeds -/
def Inv (loss : Int) (so due : List Int) (n : Nat) (ps : List Pr) : Prop := ∀ p : Pr, p ∈ ps ↔ ∃ k : Nat, p.1 = k ∧ k ≤ due.length ∧ 0 ≤ p.2 ∧ p.2 ≤ loss ∧ ((n : Int) - 1 - p.2) ∈ endsOf loss so (due.take k)
theorem inv_zero {loss : Int} {so due : List Int} (h0 : 0 ≤ loss) : Inv loss so due 0 [(0, 0)] := by
  intro p
  rw [List.mem_singleton]
  constructor
  · rintro rfl
    exact ⟨0, rfl, Nat.zero_le _, Int.le_refl _, h0, by simp [endsOf]⟩
  · rintro ⟨k, e1, hk, h1, h2, h3⟩
    cases k with
    | zero =>
      simp only [List.take_zero, endsOf, List.foldl_nil, List.mem_singleton] at h3
      exact Prod.ext e1 (by simp; omega)
    | succ k =>
      have hk' : k < due.length := hk
      rw [ends_succ (List.getElem?_eq_getElem hk')] at h3
      obtain ⟨n, e, _⟩ := mem_later.mp h3
      omega
theorem inv_skip {seen : List Int} {loss : Int} {so due : List Int} {n : Nat} {ps : List Pr} {deed : Int} (h : deed ∉ seen) (i : Inv loss so due n ps) : Inv loss so due n (step seen loss due ps deed) := by
  intro p
  rw [← i p, mem_step]
  unfold hb
  constructor
  · rintro ⟨q, hq, hr⟩
    rw [if_pos h, List.mem_singleton] at hr
    rw [hr]
    exact hq
  · intro hp
    exact ⟨p, hp, by rw [if_pos h]; exact List.mem_singleton.mpr rfl⟩
theorem inv_go {seen : List Int} {loss : Int} {so due : List Int} {n : Nat} {ps : List Pr} {deed : Int} (h : deed ∈ seen) (hn : so[n]? = some deed) (i : Inv loss so due n ps) : Inv loss so due (n + 1) (step seen loss due ps deed) := by
  rintro ⟨h', l'⟩
  rw [mem_step]
  constructor
  · rintro ⟨⟨hh, l⟩, hq, hr⟩
    obtain ⟨k, e1, hk, h1, h2, h3⟩ := (i _).mp hq
    simp only at e1 h1 h2 h3
    rcases (mem_hb h).mp hr with ⟨a1, a2⟩ | ⟨a1, a2, a3⟩
    · injection a2 with b1 b2
      simp only at a1 b1 b2 ⊢
      refine ⟨k, by omega, hk, by omega, by omega, ?_⟩
      have : ((n + 1 : Nat) : Int) - 1 - l' = (n : Int) - 1 - l := by omega
      rw [this]
      exact h3
    · injection a3 with b1 b2
      simp only at a1 a2 b1 b2 ⊢
      subst e1 b1 b2
      have hk' : k < due.length := by omega
      rw [show ((k : Int)).toNat = k by omega] at a2
      refine ⟨k + 1, by omega, hk', Int.le_refl _, by omega, ?_⟩
      rw [ends_succ a2]
      refine mem_later.mpr ⟨n, by omega, hn, _, h3, by omega, by omega⟩
  · rintro ⟨k, e1, hk, h1, h2, h3⟩
    simp only at e1 h1 h2 h3
    by_cases hl : 1 ≤ l'
    · refine ⟨(h', l' - 1), (i _).mpr ⟨k, e1, hk, by simp only; omega, by simp only; omega, ?_⟩, (mem_hb h).mpr (.inl ⟨by simp only; omega, by simp only [Prod.mk.injEq, true_and]; omega⟩)⟩
      simp only
      have : ((n + 1 : Nat) : Int) - 1 - l' = (n : Int) - 1 - (l' - 1) := by omega
      rw [← this]
      exact h3
    · have e0 : l' = 0 := by omega
      subst e0
      cases k with
      | zero =>
        simp only [List.take_zero, endsOf, List.foldl_nil, List.mem_singleton] at h3
        omega
      | succ k =>
        have hk' : k < due.length := hk
        rw [ends_succ (List.getElem?_eq_getElem hk')] at h3
        obtain ⟨m, em, ed, e, he, g1, g2⟩ := mem_later.mp h3
        have emn : m = n := by omega
        subst emn
        rw [hn] at ed
        have ed' : due[k] = deed := (Option.some.inj ed).symm
        refine ⟨((k : Int), ((m + 1 : Nat) : Int) - 1 - 0 - e - 1), (i _).mpr ⟨k, rfl, Nat.le_of_lt hk', by simp only; omega, by simp only; omega, ?_⟩, (mem_hb h).mpr (.inr ⟨by simp only; omega, ?_, ?_⟩)⟩
        · simp only
          have : ((m : Int) - 1 - (((m + 1 : Nat) : Int) - 1 - 0 - e - 1)) = e := by omega
          rw [this]
          exact he
        · simp only
          rw [show ((k : Int)).toNat = k by omega, List.getElem?_eq_getElem hk', ed']
        · simp only [Prod.mk.injEq, and_true]
          omega
theorem inv_row {seen : List Int} {loss : Int} {so due : List Int} : ∀ (row done : List Int) (ps : List Pr), so = done ++ row.filter (· ∈ seen) → Inv loss so due done.length ps → Inv loss so due so.length (row.foldl (step seen loss due) ps)
  | [], done, ps, e, i => by
    rw [List.filter_nil, List.append_nil] at e
    rw [e]
    rw [e] at i
    exact i
  | d :: row, done, ps, e, i => by
    rw [List.foldl_cons]
    by_cases h : d ∈ seen
    · rw [List.filter_cons_of_pos (by simpa using h)] at e
      have hn : so[done.length]? = some d := by
        rw [e, List.getElem?_append_right (Nat.le_refl _), Nat.sub_self]
        rfl
      refine inv_row row (done ++ [d]) _ (by rw [e]; simp) ?_
      rw [List.length_append]
      exact inv_go h hn i
    · rw [List.filter_cons_of_neg (by simpa using h)] at e
      exact inv_row row done _ e (inv_skip h i)
theorem ends_lt {loss : Int} {so : List Int} (due : List Int) : ∀ e ∈ endsOf loss so due, e < so.length := by
  intro e he
  by_cases h : due = []
  · subst h
    simp only [endsOf, List.foldl_nil, List.mem_singleton] at he
    omega
  · obtain ⟨pre, d, rfl⟩ : ∃ pre d, due = pre ++ [d] := ⟨_, _, (List.dropLast_concat_getLast h).symm⟩
    unfold endsOf at he
    rw [List.foldl_append] at he
    obtain ⟨n, e1, e2, _⟩ := mem_later.mp he
    have := (List.getElem?_eq_some_iff.mp e2).1
    omega
/-- THE PLAIN LAW -/
theorem shows_same {seen : List Int} {loss : Int} {due row : List Int} (h0 : 0 ≤ loss) : shP seen loss due row = shL seen loss due row := by
  have inv := inv_row (seen := seen) (loss := loss) (due := due) row [] [(0, 0)] rfl (inv_zero h0)
  rw [Bool.eq_iff_iff]
  unfold shP shL
  rw [List.any_eq_true, List.any_eq_true]
  constructor
  · rintro ⟨p, hp, hd⟩
    obtain ⟨k, e1, hk, h1, h2, h3⟩ := (inv p).mp hp
    have ek : k = due.length := by
      have : p.1 = due.length := by simpa using hd
      omega
    subst ek
    rw [List.take_length] at h3
    refine ⟨_, h3, ?_⟩
    rw [List.nil_append]
    refine decide_eq_true ?_
    omega
  · rintro ⟨e, he, hd⟩
    have hd := of_decide_eq_true hd
    have hlt := ends_lt due e he
    refine ⟨((due.length : Int), ((row.filter (· ∈ seen)).length : Int) - 1 - e), (inv _).mpr ⟨due.length, rfl, Nat.le_refl _, by simp only; omega, by simp only; omega, ?_⟩, by simp⟩
    rw [List.take_length, List.nil_append]
    have : ((row.filter (· ∈ seen)).length : Int) - 1 - (((row.filter (· ∈ seen)).length : Int) - 1 - e) = e := by omega
    simp only
    rw [this]
    exact he
theorem later_mono {l1 l2 d : Int} {e1 e2 : List Int} {so : List Int} (hl : l1 ≤ l2) (he : ∀ e ∈ e1, e ∈ e2) : ∀ k ∈ later l1 e1 d 0 so, k ∈ later l2 e2 d 0 so := fun k hk => by
  obtain ⟨n, a, b, e, c, g1, g2⟩ := mem_later.mp hk
  exact mem_later.mpr ⟨n, a, b, e, he e c, g1, by omega⟩
theorem ends_mono {l1 l2 : Int} {so : List Int} (hl : l1 ≤ l2) : ∀ (due e1 e2 : List Int), (∀ e ∈ e1, e ∈ e2) → ∀ e ∈ due.foldl (fun ends d => later l1 ends d 0 so) e1, e ∈ due.foldl (fun ends d => later l2 ends d 0 so) e2
  | [], _, _, h => h
  | d :: due, _, _, h => by
    rw [List.foldl_cons, List.foldl_cons]
    exact ends_mono hl due _ _ (later_mono hl h)
theorem shL_mono {seen due row : List Int} {l1 l2 : Int} (hl : l1 ≤ l2) (h : shL seen l1 due row = true) : shL seen l2 due row = true := by
  unfold shL at h ⊢
  rw [List.any_eq_true] at h ⊢
  obtain ⟨e, he, hd⟩ := h
  have hd := of_decide_eq_true hd
  exact ⟨e, ends_mono hl due _ _ (fun _ z => z) e he, decide_eq_true (by omega)⟩
end K58
set_option linter.all false
set_option autoImplicit false
set_option maxRecDepth 10000
/-! K58m5: the two looks at rows, as functions. -/
namespace K58
open PySem Wd
local macro_rules | `(tactic| subst_vars) => `(tactic| simp only [sSeq_ap, sIf_ap, sPass_ap, sAsg_ap, sRet_ap, sExpr_ap, sOwn_ap, sFrz_ap, sApp_ap, sDputR_ap, sPar2_ap, sPut_ap, sFor_ap, sRaise_ap, qB_ap, qAnd_ap, qOr_ap, qNot_ap, qT_ap, e1_ap, e2_ap, eN_ap, eV_ap, eW_ap, eC_ap, eNil_ap, eAll_nil, eAll_cons, eTup_ap, eLst_ap, eIf_ap, eAnd_ap, eOr_ap, eNot_ap, eChain_ap, eNo_ap, eAt_ap, eSl_ap, eCall_ap, eNew_ap, eCb_ap, eLam_ap, eLr_ap, iAny_ap, iRange1_ap, iEnum2_ap, iZipT_ap, eLc_ap, eDc2_ap, wipeE_nil, wipeE_cons, put_nm, put_tp, puts_nil, puts_cons, bind_ok, bind_exc, bind_bad, toR_ok, toR_exc, toR_bad, opt_some, opt_none, look_non, look_bl, look_int, look_str, look_tup, look_lst, look_dct, d_lst, d_dct, own_lst, own_dct, oAdd_int, oSub_int, oNeg_int, oLt_int, oLe_int, oGt_int, oGe_int, oIsN_ap, oNotN_ap, isNon_non, isNon_int, isNon_tup, oNotB_bl, oIsB_bl, oIx_tup, oIx_lst, oSl_tup, oSl_lst, oLen_tup, oLen_lst, oInt_int, oMin_int, oMax_int, oTupL_lst, oTupL_tup, oLstL_lst, oLstL_tup, oIsa_ap, oRevT_tup, oAllB_lst, oAnyB_lst, To_ok, To_bad, To_exc, To_bind, RTo_nx, RTo_rt, RTo_bad, RTo_ex, RTo_toR, List.map_cons, List.map_nil, List.length_cons, List.length_nil, List.cons_append, List.nil_append, Nat.zero_add, Nat.reduceAdd, Nat.reduceSub, List.replicate_succ, List.replicate_zero, List.getElem?_cons_zero, List.getElem?_cons_succ, List.set_cons_zero, List.set_cons_succ, if_true, if_false, Bool.false_eq_true, Bool.not_true, Bool.not_false, Option.map_some, Option.map_none])
local macro_rules | `(tactic| and_intros) => `(tactic| simp only [sSeq_To, sIf_ap, sPass_ap, sAsg_ap, sRet_ap, sExpr_ap, sOwn_ap, sFrz_ap, sApp_ap, sDputR_ap, sPar2_ap, sPut_ap, sFor_ap, sRaise_ap, qB_ap, qAnd_ap, qOr_ap, qNot_ap, qT_ap, e1_ap, e2_ap, eN_ap, eV_ap, eW_ap, eC_ap, eNil_ap, eAll_nil, eAll_cons, eTup_ap, eLst_ap, eIf_ap, eAnd_ap, eOr_ap, eNot_ap, eChain_ap, eNo_ap, eAt_ap, eSl_ap, eCall_ap, eNew_ap, eCb_ap, eLam_ap, eLr_ap, iAny_ap, iRange1_ap, iEnum2_ap, iZipT_ap, eLc_ap, eDc2_ap, wipeE_nil, wipeE_cons, put_nm, put_tp, puts_nil, puts_cons, bind_ok, bind_exc, bind_bad, toR_ok, toR_exc, toR_bad, opt_some, opt_none, look_non, look_bl, look_int, look_str, look_tup, look_lst, look_dct, d_lst, d_dct, own_lst, own_dct, oAdd_int, oSub_int, oNeg_int, oLt_int, oLe_int, oGt_int, oGe_int, oIsN_ap, oNotN_ap, isNon_non, isNon_int, isNon_tup, oNotB_bl, oIsB_bl, oIx_tup, oIx_lst, oSl_tup, oSl_lst, oLen_tup, oLen_lst, oInt_int, oMin_int, oMax_int, oTupL_lst, oTupL_tup, oLstL_lst, oLstL_tup, oIsa_ap, oRevT_tup, oAllB_lst, oAnyB_lst, To_ok, To_bad, To_exc, To_bind, RTo_nx, RTo_rt, RTo_bad, RTo_ex, RTo_toR, List.map_cons, List.map_nil, List.length_cons, List.length_nil, List.cons_append, List.nil_append, Nat.zero_add, Nat.reduceAdd, Nat.reduceSub, List.replicate_succ, List.replicate_zero, List.getElem?_cons_zero, List.getElem?_cons_succ, List.set_cons_zero, List.set_cons_succ, if_true, if_false, Bool.false_eq_true, Bool.not_true, Bool.not_false, Option.map_some, Option.map_none])
abbrev row (r : List Int) : D := .tup (r.map D.int)
def ent (seen : List Int) (loss : Int) (due : List Int) (w : Str) : D := .tup [row seen, .int loss, row due, .str w]
section
variable {s : S} {seen due r : List Int} {loss : Int} {w : Str}
theorem ints_any (p : D → Bool) (ns : List Int) : (ns.map D.int).any p = ns.any fun i => p (.int i) := by rw [List.any_map]; rfl
theorem enumL_map (i : Int) (x : Int) (xs : List Int) : enumL i ((x :: xs).map D.int) = .tup [.int i, .int x] :: enumL (i + 1) (xs.map D.int) := rfl
theorem enumL_len (xs : List D) : ∀ i : Int, (enumL i xs).length = xs.length := by
  induction xs with
  | nil => intro i; rfl
  | cons x xs ih => intro i; rw [enumL, List.length_cons, List.length_cons, ih]
theorem later_cons (loss : Int) (ends : List Int) (d i x : Int) (xs : List Int) : later loss ends d i (x :: xs) = if cond loss d ends i x then i :: later loss ends d (i + 1) xs else later loss ends d (i + 1) xs := rfl
theorem shows_eq (hr : r.length ≤ 1000) (hd : due.length ≤ 1000) : f__law_shows [ent seen loss due w, row r] s = .ok (.bl (shL seen loss due r)) s := by
  unfold f__law_shows b__law_shows ent
  refine To_eq (runB_To ?_)
  and_intros
  have e1 : ∀ l1 : Wd.Env, l1.length = 13 → l1[2]? = some (some (.val (row seen))) → lcL (.nm 8) (qB (e2 oIn (eV 8) (eV 2))) (eV 8) (r.map D.int) l1 s = .ok ((r.filter (· ∈ seen)).map D.int) s := by
    intro l1 h1 h2
    rw [lcL_pure (fun d => match d with | .int i => decide (i ∈ seen) | _ => false) id]
    · simp [List.filter_map, Function.comp_def]
    · intro d hd
      obtain ⟨i, _, rfl⟩ := List.mem_map.mp hd
      have h8 : (l1.set 8 (some (.val (.int i))))[8]? = some (some (.val (.int i))) := by rw [List.getElem?_set_self (by omega)]
      have h2' : (l1.set 8 (some (.val (.int i))))[2]? = some (some (.val (row seen))) := by rw [List.getElem?_set_ne (by decide)]; exact h2
      refine ⟨_, rfl, ?_, fun _ => ?_⟩
      · simp only [qB_ap, e2_ap, eV_ap, h8, h2', bind_ok, in_ints, opt_some]
      · simp only [eV_ap, h8]
        rfl
  rw [e1 _ rfl rfl]
  generalize hso : r.filter (· ∈ seen) = so
  have hsl : so.length ≤ 1000 := by
    rw [← hso]
    exact Nat.le_trans (List.length_filter_le _ _) hr
  have hbig : (r.map D.int).length ≤ big := by rw [List.length_map, big_eq]; omega
  and_intros
  rw [if_pos hbig]
  and_intros
  refine R.To.mono (forL_To (I := fun ds l s' => ∃ (x8 x9 x10 x11 x12 : Option Slot) (rest ends : List Int), ds = rest.map D.int ∧ rest.foldl (fun ends d => later loss ends d 0 so) ends = endsOf loss so due ∧ ends.length ≤ 1000 ∧ l = [some (.val (.tup [row seen, .int loss, row due, .str w])), some (.val (row r)), some (.val (row seen)), some (.val (.int loss)), some (.val (row due)), some (.val (.str w)), some (.val (.lst (so.map D.int))), some (.val (.lst (ends.map D.int))), x8, x9, x10, x11, x12] ∧ s = s') (T := fun _ _ => False) ?h (due.map D.int) _ _ ⟨none, none, none, none, none, due, [-1], rfl, rfl, by decide, rfl, rfl⟩) ?_ fun _ _ z => z.elim
  case h =>
    rintro d ds l s' ⟨x8, x9, x10, x11, x12, rest, ends, hds, hf, hel, rfl, rfl⟩
    cases rest with
    | nil => cases hds
    | cons d0 rest =>
      injection hds with ha hb
      subst ha hb
      refine ⟨_, rfl, ?_⟩
      and_intros
      refine R.To.mono (forL_To (I := fun ds l s' => ∃ (y10 y11 y12 : Option Slot) (j : Int) (rest2 acc : List Int), ds = enumL j (rest2.map D.int) ∧ acc ++ later loss ends d0 j rest2 = later loss ends d0 0 so ∧ acc.length + rest2.length ≤ so.length ∧ l = [some (.val (.tup [row seen, .int loss, row due, .str w])), some (.val (row r)), some (.val (row seen)), some (.val (.int loss)), some (.val (row due)), some (.val (.str w)), some (.val (.lst (so.map D.int))), some (.val (.lst (ends.map D.int))), some (.val (.int d0)), some (.own (.lst (acc.map D.int))), y10, y11, y12] ∧ s = s') (T := fun _ _ => False) ?h2 (enumL 0 (so.map D.int)) _ _ ⟨x10, x11, x12, 0, so, [], rfl, rfl, by simp, rfl, rfl⟩) ?_ fun _ _ z => z.elim
      case h2 =>
        rintro d ds l s' ⟨y10, y11, y12, j, rest2, acc, hds, hf2, hal, rfl, rfl⟩
        cases rest2 with
        | nil => cases hds
        | cons x xs =>
          rw [enumL_map] at hds
          injection hds with ha hb
          subst ha hb
          refine ⟨_, rfl, ?_⟩
          and_intros
          rw [eqP_int]
          and_intros
          rw [List.length_cons] at hal
          rw [later_cons] at hf2
          have hlt : (acc.map D.int).length < big := by rw [List.length_map, big_eq]; omega
          cases q : (x == d0) with
          | false =>
            and_intros
            have hc : cond loss d0 ends j x = false := by unfold cond; rw [q, Bool.false_and]
            rw [hc, if_neg (by simp)] at hf2
            exact ⟨_, _, _, j + 1, xs, acc, by first | rfl | trivial, hf2, by omega, by first | rfl | trivial, by first | rfl | trivial⟩
          | true =>
            and_intros
            have e2 : ∀ l1 : Wd.Env, l1.length = 13 → l1[3]? = some (some (.val (.int loss))) → l1[10]? = some (some (.val (.int j))) → lcL (.nm 12) (qB (eChain oLt oLe (eC (.int 0)) (e2 oSub (eV 10) (eV 12)) (e2 oAdd (eV 3) (eC (.int 1))))) (eC (.int 1)) (ends.map D.int) l1 s = .ok (((ends.map D.int).filter fun d => match d with | .int e => decide (0 < j - e) && decide (j - e ≤ loss + 1) | _ => false).map fun _ => D.int 1) s := by
              intro l1 h1 h3 h10
              refine lcL_pure _ _ _ fun d hd => ?_
              obtain ⟨e, _, rfl⟩ := List.mem_map.mp hd
              have g12 : (l1.set 12 (some (.val (.int e))))[12]? = some (some (.val (.int e))) := by rw [List.getElem?_set_self (by omega)]
              have g3 : (l1.set 12 (some (.val (.int e))))[3]? = some (some (.val (.int loss))) := by rw [List.getElem?_set_ne (by decide)]; exact h3
              have g10 : (l1.set 12 (some (.val (.int e))))[10]? = some (some (.val (.int j))) := by rw [List.getElem?_set_ne (by decide)]; exact h10
              refine ⟨_, rfl, ?_, fun _ => rfl⟩
              simp only [qB_ap, eChain_ap, e2_ap, eV_ap, eC_ap, g12, g3, g10, bind_ok, oSub_int, oAdd_int, oLt_int, oLe_int, opt_some]
              by_cases hp : 0 < j - e
              · simp only [decide_eq_true hp, bind_ok, Bool.true_and]
              · simp only [decide_eq_false hp, bind_ok, Bool.false_and]
            rw [e2 _ rfl rfl rfl]
            have hb2 : (ends.map D.int).length ≤ big := by rw [List.length_map, big_eq]; omega
            and_intros
            rw [if_pos hb2]
            and_intros
            rw [ones_ne]
            and_intros
            have hc : ((ends.map D.int).any fun d => match d with | .int e => decide (0 < j - e) && decide (j - e ≤ loss + 1) | _ => false) = cond loss d0 ends j x := by
              unfold cond
              rw [q, Bool.true_and, ints_any]
            rw [hc]
            cases hq : cond loss d0 ends j x with
            | true =>
              rw [hq, if_pos rfl] at hf2
              and_intros
              rw [if_pos hlt]
              exact ⟨_, _, _, j + 1, xs, acc ++ [j], by first | rfl | trivial, by rw [List.append_assoc]; exact hf2, by rw [List.length_append]; simp only [List.length_cons, List.length_nil]; omega, by rw [List.map_append]; rfl, by first | rfl | trivial⟩
            | false =>
              rw [hq, if_neg (by simp)] at hf2
              and_intros
              exact ⟨_, _, _, j + 1, xs, acc, by first | rfl | trivial, hf2, by omega, by first | rfl | trivial, by first | rfl | trivial⟩
      rintro l s' ⟨y10, y11, y12, j, rest2, acc, hds, hf2, hal, rfl, rfl⟩
      have er : rest2 = [] := by
        cases rest2 with
        | nil => rfl
        | cons _ _ => cases hds
      subst er
      simp only [later, List.append_nil] at hf2
      subst hf2
      and_intros
      refine ⟨_, _, _, _, _, rest, _, by first | rfl | trivial, ?_, ?_, by first | rfl | trivial, by first | rfl | trivial⟩
      · rw [List.foldl_cons] at hf
        exact hf
      · simp only [List.length_nil, Nat.add_zero] at hal
        omega
  rintro l s' ⟨x8, x9, x10, x11, x12, rest, ends, hds, hf, hel, rfl, rfl⟩
  have er : rest = [] := by
    cases rest with
    | nil => rfl
    | cons _ _ => cases hds
  subst er
  rw [List.foldl_nil] at hf
  and_intros
  have e3 : ∀ l1 : Wd.Env, l1.length = 13 → l1[3]? = some (some (.val (.int loss))) → l1[6]? = some (some (.val (.lst (so.map D.int)))) → lcL (.nm 12) (qB (e2 oLe (e2 oSub (e2 oSub (eN oLen (eAll [(eV 6)])) (eC (.int 1))) (eV 12)) (eV 3))) (eC (.int 1)) (ends.map D.int) l1 s = .ok (((ends.map D.int).filter fun d => match d with | .int e => decide ((so.length : Int) - 1 - e ≤ loss) | _ => false).map fun _ => D.int 1) s := by
    intro l1 h1 h3 h6
    refine lcL_pure _ _ _ fun d hd => ?_
    obtain ⟨e, _, rfl⟩ := List.mem_map.mp hd
    have g12 : (l1.set 12 (some (.val (.int e))))[12]? = some (some (.val (.int e))) := by rw [List.getElem?_set_self (by omega)]
    have g3 : (l1.set 12 (some (.val (.int e))))[3]? = some (some (.val (.int loss))) := by rw [List.getElem?_set_ne (by decide)]; exact h3
    have g6 : (l1.set 12 (some (.val (.int e))))[6]? = some (some (.val (.lst (so.map D.int)))) := by rw [List.getElem?_set_ne (by decide)]; exact h6
    refine ⟨_, rfl, ?_, fun _ => rfl⟩
    simp only [qB_ap, e2_ap, eN_ap, eAll_cons, eAll_nil, eV_ap, eC_ap, g12, g3, g6, bind_ok, oLen_lst, oSub_int, oLe_int, opt_some, List.length_map]
  rw [e3 _ rfl rfl rfl]
  have hb2 : (ends.map D.int).length ≤ big := by rw [List.length_map, big_eq]; omega
  and_intros
  rw [if_pos hb2]
  and_intros
  rw [ones_ne]
  and_intros
  refine ⟨?_, trivial⟩
  unfold shL
  rw [hso, ← hf, ints_any]
/-! ### the program's -/
def pD (p : Pr) : D := .tup [.int p.1, .int p.2]
def kv (ps : List Pr) : List (D × D) := ps.map fun p => (pD p, .bl true)
theorem keq_pD (p q : Pr) : (pD p).keq (pD q) = decide (p = q) := by
  show (D.keq0 (.int p.1) (.int q.1) && (D.keq0 (.int p.2) (.int q.2) && true)) = _
  unfold D.keq0
  simp only [Bool.and_true]
  by_cases h1 : p.1 = q.1
  · by_cases h2 : p.2 = q.2
    · have : p = q := Prod.ext h1 h2
      subst this
      simp
    · have : ¬ p = q := fun z => h2 (by rw [z])
      simp [h1, h2, this]
  · have : ¬ p = q := fun z => h1 (by rw [z])
    simp [h1, this]
theorem dput_kv (ps : List Pr) (q : Pr) : dput (kv ps) (pD q) (.bl true) = kv (ins ps q) := by
  unfold dput ins kv
  have e : ((ps.map fun p => (pD p, D.bl true)).any fun p => p.1.keq (pD q)) = decide (q ∈ ps) := by
    rw [List.any_map]
    induction ps with
    | nil => rfl
    | cons p ps ih =>
      rw [List.any_cons, ih]
      simp only [Function.comp, keq_pD]
      by_cases h : p = q
      · subst h; simp
      · have : ¬ q = p := fun z => h z.symm
        simp [h, this]
  rw [e]
  by_cases h : q ∈ ps
  · rw [decide_eq_true h, if_pos rfl, if_pos h, List.map_map]
    apply List.map_congr_left
    intro p _
    simp only [Function.comp, keq_pD]
    split <;> rfl
  · rw [decide_eq_false h, if_neg (by simp), if_neg h, List.map_append]
    rfl
theorem keyOf_pD (p : Pr) : (pD p).keyOf true = true := rfl
theorem sub_len : ∀ {l m : List Pr}, l.Nodup → (∀ x ∈ l, x ∈ m) → l.length ≤ m.length
  | [], _, _, _ => Nat.zero_le _
  | x :: l, m, h, hs => by
    have hx := hs x List.mem_cons_self
    have h1 := (List.nodup_cons.mp h)
    have ih := sub_len (l := l) (m := m.erase x) h1.2 fun y hy => by
      have hne : y ≠ x := fun z => h1.1 (by rw [← z]; exact hy)
      exact (List.mem_erase_of_ne hne).mpr (hs y (List.mem_cons_of_mem _ hy))
    have hl := List.length_erase_of_mem hx
    have hp : 0 < m.length := List.length_pos_of_mem hx
    rw [List.length_cons]
    omega
def grid (n : Nat) : List Pr := (List.range (n + 1)).flatMap fun (h : Nat) => (List.range 3).map fun (l : Nat) => ((h : Int), (l : Int))
def InG (n : Nat) (p : Pr) : Prop := 0 ≤ p.1 ∧ p.1 ≤ n ∧ 0 ≤ p.2 ∧ p.2 ≤ 2
theorem inG_mem {n : Nat} {p : Pr} (h : InG n p) : p ∈ grid n := by
  obtain ⟨h1, h2, h3, h4⟩ := h
  unfold grid
  refine List.mem_flatMap.mpr ⟨p.1.toNat, List.mem_range.mpr (by omega), List.mem_map.mpr ⟨p.2.toNat, List.mem_range.mpr (by omega), ?_⟩⟩
  exact Prod.ext (by simp only; omega) (by simp only; omega)
theorem grid_len (n : Nat) : (grid n).length = (n + 1) * 3 := by
  unfold grid
  rw [List.length_flatMap]
  simp only [List.length_map, List.length_range]
  induction (n + 1) with
  | zero => rfl
  | succ k ih =>
    rw [List.range_succ, List.map_append, List.sum_append, ih]
    simp
    omega
theorem ins_nodup {acc : List Pr} {q : Pr} (h : acc.Nodup) : (ins acc q).Nodup := by
  unfold ins
  split
  · exact h
  · rename_i hn
    rw [List.nodup_append]
    exact ⟨h, by simp, fun a ha b hb => by
      rw [List.mem_singleton] at hb
      rw [hb]
      exact fun z => hn (by rw [← z]; exact ha)⟩
structure Gd (n : Nat) (acc : List Pr) : Prop where
  nd : acc.Nodup
  g : ∀ p ∈ acc, InG n p
theorem Gd.ins {n : Nat} {acc : List Pr} {q : Pr} (h : Gd n acc) (hq : InG n q) : Gd n (ins acc q) := ⟨ins_nodup h.nd, fun p hp => by
  rcases mem_ins.mp hp with hp | rfl
  · exact h.g p hp
  · exact hq⟩
theorem Gd.len {n : Nat} {acc : List Pr} (h : Gd n acc) : acc.length ≤ (n + 1) * 3 := by
  rw [← grid_len]
  exact sub_len h.nd fun p hp => inG_mem (h.g p hp)
theorem dcIn_eq {n : Nat} (hn : n ≤ 8) {a0 a1 a2 a3 a4 a5 : Option Slot} : ∀ (qs : List Pr) (acc : List Pr) (a6 : Option Slot), (∀ q ∈ qs, InG n q) → Gd n acc → dcIn true (.nm 6) qT (eV 6) (eC (.bl true)) (qs.map pD) [a0, a1, a2, a3, a4, a5, a6] (kv acc) s = .ok (kv (qs.foldl ins acc)) s ∧ Gd n (qs.foldl ins acc)
  | [], acc, a6, _, g => ⟨rfl, g⟩
  | q :: qs, acc, a6, h, g => by
    have hq := h q List.mem_cons_self
    have ih := dcIn_eq hn (a0 := a0) (a1 := a1) (a2 := a2) (a3 := a3) (a4 := a4) (a5 := a5) qs (ins acc q) a6 (fun r hr => h r (List.mem_cons_of_mem _ hr)) (g.ins hq)
    refine ⟨?_, ih.2⟩
    rw [List.map_cons, dcIn]
    simp only [put_nm, List.set_cons_succ, List.set_cons_zero, qT_ap, eV_ap, eC_ap, List.getElem?_cons_succ, List.getElem?_cons_zero]
    have hl : (kv acc).length < big := by
      unfold kv
      rw [List.length_map, big_eq]
      have := g.len
      have : (n + 1) * 3 ≤ 27 := by omega
      omega
    rw [keyOf_pD, decide_eq_true hl, dput_kv]
    exact ih.1
theorem hb_inG {n : Nat} {deed : Int} {p : Pr} (hl : loss ≤ 2) (hd : due.length = n) (h : InG n p) : ∀ q ∈ hb seen loss due deed p, InG n q := by
  intro q hq
  obtain ⟨h1, h2, h3, h4⟩ := h
  unfold hb at hq
  split at hq
  · rw [List.mem_singleton.mp hq]
    exact ⟨h1, h2, h3, h4⟩
  · rcases List.mem_append.mp hq with hq | hq
    · split at hq
      · rw [List.mem_singleton.mp hq]
        refine ⟨h1, h2, by simp only; omega, by simp only; omega⟩
      · cases hq
    · split at hq
      · rename_i hc
        rw [List.mem_singleton.mp hq]
        exact ⟨by simp only; omega, by simp only; omega, Int.le_refl _, by simp⟩
      · cases hq
theorem hb_eq {h l deed : Int} (h0 : 0 ≤ h) : f_heard_behind [ent seen loss due w, .int h, .int l, .int deed] s = .ok (.lst ((hb seen loss due deed (h, l)).map pD)) s := by
  unfold f_heard_behind b_heard_behind ent
  refine To_eq (runB_To ?_)
  and_intros
  rw [notin_ints]
  and_intros
  by_cases hs : deed ∈ seen
  · have ehb : hb seen loss due deed (h, l) = (if l < loss then [(h, l + 1)] else []) ++ (if h < due.length ∧ due[h.toNat]? = some deed then [(h + 1, 0)] else []) := by
      unfold hb
      rw [if_neg (fun z => z hs)]
    rw [ehb]
    simp only [decide_eq_true hs]
    and_intros
    have e1 : ∀ X, (if decide (l < loss) = true then Res.ok (D.lst [.tup [.int h, .int (l + 1)]]) s else Res.ok (D.lst []) s).To X ↔ X (.lst ((if l < loss then [(h, l + 1)] else []).map pD)) s := by
      intro X
      by_cases hl : l < loss
      · simp only [decide_eq_true hl, if_pos hl, if_true, To_ok]
        rfl
      · simp only [decide_eq_false hl, if_neg hl, Bool.false_eq_true, if_false, To_ok]
        rfl
    rw [e1]
    and_intros
    have hlen : (((due.map D.int).length : Nat) : Int) = due.length := by rw [List.length_map]
    have fin : ∀ ys : List Pr, ys = (if h < due.length ∧ due[h.toNat]? = some deed then [(h + 1, 0)] else []) → (opt (oAdd s (.lst ((if l < loss then [(h, l + 1)] else []).map pD)) (.lst (ys.map pD))) s).To fun b s' => b = D.lst (((if l < loss then [(h, l + 1)] else []) ++ (if h < due.length ∧ due[h.toNat]? = some deed then [(h + 1, 0)] else [])).map pD) ∧ s' = s := by
      rintro ys rfl
      rw [oAdd_lst, if_pos]
      · rw [← List.map_append]
        exact ⟨rfl, rfl⟩
      · rw [List.length_map, List.length_map, big_eq]
        split <;> split <;> simp
    rw [hlen]
    by_cases hh : h < due.length
    · simp only [decide_eq_true hh]
      and_intros
      have ea : atL (due.map D.int) h = (due[h.toNat]?).map D.int := by
        unfold atL ixI
        rw [if_pos h0, hlen, if_pos hh]
        simp
      have hg : due[h.toNat]? = some due[h.toNat] := List.getElem?_eq_getElem (by omega)
      rw [hg] at ea
      rw [ea]
      and_intros
      rw [eqP_int]
      and_intros
      by_cases he : due[h.toNat] = deed
      · have : (due[h.toNat] == deed) = true := by simp [he]
        simp only [this]
        and_intros
        exact fin [(h + 1, 0)] (by rw [if_pos ⟨hh, by rw [hg, he]⟩])
      · have : (due[h.toNat] == deed) = false := by simp [he]
        simp only [this]
        and_intros
        exact fin [] (by rw [if_neg]; rintro ⟨_, z⟩; rw [hg] at z; exact he (Option.some.inj z))
    · simp only [decide_eq_false hh]
      and_intros
      exact fin [] (by rw [if_neg]; rintro ⟨z, _⟩; exact hh z)
  · have ehb : hb seen loss due deed (h, l) = [(h, l)] := by
      unfold hb
      rw [if_pos hs]
    rw [ehb]
    simp only [decide_eq_false hs]
    and_intros
    exact ⟨rfl, trivial⟩
theorem dcOut_eq {n : Nat} {deed : Int} {a1 a2 : Option Slot} (hn : n ≤ 8) (hd : due.length = n) (hl : loss ≤ 2) : ∀ (ps acc : List Pr) (a4 a5 a6 : Option Slot), (∀ q ∈ ps, InG n q) → Gd n acc →
    dcOut true [6] (.tp [(.nm 4), (.nm 5)]) qT (.nm 6) (iAny (eCall f_heard_behind (eAll [(eV 0), (eV 4), (eV 5), (eV 3)]))) qT (eV 6) (eC (.bl true)) (ps.map pD) [some (.val (ent seen loss due w)), a1, a2, some (.val (.int deed)), a4, a5, a6] (kv acc) s = .ok (kv (ps.foldl (fun acc p => (hb seen loss due deed p).foldl ins acc) acc)) s ∧ Gd n (ps.foldl (fun acc p => (hb seen loss due deed p).foldl ins acc) acc)
  | [], acc, a4, a5, a6, _, g => ⟨rfl, g⟩
  | p :: ps, acc, a4, a5, a6, h, g => by
    have hp := h p List.mem_cons_self
    have hi := dcIn_eq (s := s) hn (a0 := some (.val (ent seen loss due w))) (a1 := a1) (a2 := a2) (a3 := some (.val (.int deed))) (a4 := some (.val (.int p.1))) (a5 := some (.val (.int p.2))) (hb seen loss due deed p) acc none (hb_inG hl hd hp) g
    have ih := dcOut_eq (deed := deed) (a1 := a1) (a2 := a2) hn hd hl ps _ a4 a5 a6 (fun r hr => h r (List.mem_cons_of_mem _ hr)) hi.2
    refine ⟨?_, ih.2⟩
    rw [List.map_cons, dcOut]
    unfold pD
    subst_vars
    rw [hb_eq hp.1]
    simp only [bind_ok]
    have e0 : (hb seen loss due deed (p.1, p.2)) = hb seen loss due deed p := rfl
    rw [e0, hi.1]
    exact ih.1
theorem step_g {n : Nat} {ps : List Pr} {deed : Int} (hn : n ≤ 8) (hd : due.length = n) (hl : loss ≤ 2) (g : Gd n ps) : Gd n (step seen loss due ps deed) := (dcOut_eq (s := []) (w := "") (seen := seen) (deed := deed) (a1 := none) (a2 := none) hn hd hl ps [] none none none g.g ⟨List.nodup_nil, fun _ z => nomatch z⟩).2
theorem showsP_eq (hr : r.length ≤ 1000) (hd : due.length ≤ 8) (hl0 : 0 ≤ loss) (hl : loss ≤ 2) : f_does_show_in [ent seen loss due w, row r] s = .ok (.bl (shP seen loss due r)) s := by
  unfold f_does_show_in b_does_show_in
  refine To_eq (runB_To ?_)
  have e0 : ∀ l : Wd.Env, eDctT [((eTup (eAll [(eC (.int 0)), (eC (.int 0))])), (eC (.bl true)))] l s = .ok (.dct true (kv [(0, 0)])) s := fun l => rfl
  simp only [sSeq_To, sOwn_ap, e0]
  and_intros
  refine R.To.mono (forL_To (I := fun ds l s' => ∃ (x3 : Option Slot) (rest : List Int) (ps : List Pr), ds = rest.map D.int ∧ rest.foldl (step seen loss due) ps = r.foldl (step seen loss due) [(0, 0)] ∧ Gd due.length ps ∧ l = [some (.val (ent seen loss due w)), some (.val (row r)), some (.own (.dct true (kv ps))), x3, none, none, none] ∧ s = s') (T := fun _ _ => False) ?h (r.map D.int) _ _ ⟨none, r, [(0, 0)], rfl, rfl, ⟨by simp, fun p hp => by rw [List.mem_singleton.mp hp]; exact ⟨Int.le_refl _, by simp, Int.le_refl _, by simp⟩⟩, rfl, rfl⟩) ?_ fun _ _ z => z.elim
  case h =>
    rintro d ds l s' ⟨x3, rest, ps, hds, hf, g, rfl, rfl⟩
    cases rest with
    | nil => cases hds
    | cons d0 rest =>
      injection hds with ha hb
      subst ha hb
      refine ⟨_, rfl, ?_⟩
      and_intros
      have hk : (kv ps).map Prod.fst = ps.map pD := by
        unfold kv
        rw [List.map_map]
        rfl
      have := dcOut_eq (s := s) (w := w) (seen := seen) (deed := d0) (a1 := some (.val (row r))) (a2 := some (.val (.dct true (kv ps)))) hd rfl hl ps [] none none none g.g ⟨List.nodup_nil, fun _ z => nomatch z⟩
      have e1 := this.1
      rw [hk]
      rw [show kv [] = [] from rfl] at e1
      rw [e1]
      and_intros
      exact ⟨_, rest, step seen loss due ps d0, by first | rfl | trivial, by rw [List.foldl_cons] at hf; exact hf, step_g hd rfl hl g, by first | rfl | trivial, by first | rfl | trivial⟩
  rintro l s' ⟨x3, rest, ps, hds, hf, g, rfl, rfl⟩
  have er : rest = [] := by
    cases rest with
    | nil => rfl
    | cons _ _ => cases hds
  subst er
  rw [List.foldl_nil] at hf
  and_intros
  have hk : (kv ps).map Prod.fst = ps.map pD := by
    unfold kv
    rw [List.map_map]
    rfl
  rw [hk, lcL_pure (fun _ => true) (fun d => match d with | .tup [.int h, _] => .bl (h == due.length) | _ => .non)]
  · have hb2 : (ps.map pD).length ≤ big := by
      rw [List.length_map, big_eq]
      have := g.len
      omega
    and_intros
    rw [if_pos hb2]
    and_intros
    rw [List.filter_eq_self.mpr (fun _ _ => rfl), List.map_map]
    have e : ((fun d => match d with | .tup [.int h, _] => D.bl (h == due.length) | _ => .non) ∘ pD) = fun p : Pr => D.bl (p.1 == due.length) := rfl
    rw [e, bools_map]
    and_intros
    refine ⟨?_, trivial⟩
    unfold shP
    rw [← hf, List.any_map]
    rfl
  · intro d hd
    obtain ⟨p, _, rfl⟩ := List.mem_map.mp hd
    refine ⟨_, rfl, rfl, fun _ => ?_⟩
    unfold ent
    and_intros
    rw [at2]
    and_intros
    rw [eqP_int, List.length_map]
    rfl
end
end K58
set_option linter.all false
set_option autoImplicit false
set_option maxRecDepth 10000
/-! K58m6: what the law draws. -/
namespace K58
open PySem Wd
local macro_rules | `(tactic| subst_vars) => `(tactic| try simp only [sSeq_ap, sIf_ap, sPass_ap, sAsg_ap, sRet_ap, sExpr_ap, sOwn_ap, sFrz_ap, sApp_ap, sDputR_ap, sPar2_ap, sPut_ap, sFor_ap, sRaise_ap, qB_ap, qAnd_ap, qOr_ap, qNot_ap, qT_ap, e1_ap, e2_ap, eN_ap, eV_ap, eW_ap, eC_ap, eNil_ap, eAll_nil, eAll_cons, eTup_ap, eLst_ap, eIf_ap, eAnd_ap, eOr_ap, eNot_ap, eChain_ap, eNo_ap, eAt_ap, eSl_ap, eCall_ap, eNew_ap, eCb_ap, eLam_ap, eLr_ap, iAny_ap, iRange1_ap, iEnum2_ap, iZipT_ap, eLc_ap, eDc2_ap, wipeE_nil, wipeE_cons, put_nm, put_tp, puts_nil, puts_cons, bind_ok, bind_exc, bind_bad, toR_ok, toR_exc, toR_bad, opt_some, opt_none, look_non, look_bl, look_int, look_str, look_tup, look_lst, look_dct, d_lst, d_dct, own_lst, own_dct, oAdd_int, oSub_int, oNeg_int, oLt_int, oLe_int, oGt_int, oGe_int, oIsN_ap, oNotN_ap, isNon_non, isNon_int, isNon_tup, oNotB_bl, oIsB_bl, oIx_tup, oIx_lst, oSl_tup, oSl_lst, oLen_tup, oLen_lst, oInt_int, oMin_int, oMax_int, oTupL_lst, oTupL_tup, oLstL_lst, oLstL_tup, oIsa_ap, oRevT_tup, oAllB_lst, oAnyB_lst, To_ok, To_bad, To_exc, To_bind, RTo_nx, RTo_rt, RTo_bad, RTo_ex, RTo_toR, List.map_cons, List.map_nil, List.length_cons, List.length_nil, List.cons_append, List.nil_append, Nat.zero_add, Nat.reduceAdd, Nat.reduceSub, List.replicate_succ, List.replicate_zero, List.getElem?_cons_zero, List.getElem?_cons_succ, List.set_cons_zero, List.set_cons_succ, if_true, if_false, Bool.false_eq_true, Bool.not_true, Bool.not_false, Option.map_some, Option.map_none])
local macro_rules | `(tactic| infer_instance) => `(tactic| try simp only [sIf_ap, sPass_ap, sAsg_ap, sRet_ap, sExpr_ap, sOwn_ap, sFrz_ap, sApp_ap, sDputR_ap, sPar2_ap, sPut_ap, sFor_ap, sRaise_ap, qB_ap, qAnd_ap, qOr_ap, qNot_ap, qT_ap, e1_ap, e2_ap, eN_ap, eV_ap, eW_ap, eC_ap, eNil_ap, eAll_nil, eAll_cons, eTup_ap, eLst_ap, eIf_ap, eAnd_ap, eOr_ap, eNot_ap, eChain_ap, eNo_ap, eAt_ap, eSl_ap, eCall_ap, eNew_ap, eCb_ap, eLam_ap, eLr_ap, iAny_ap, iRange1_ap, iEnum2_ap, iZipT_ap, eLc_ap, eDc2_ap, wipeE_nil, wipeE_cons, put_nm, put_tp, puts_nil, puts_cons, bind_ok, bind_exc, bind_bad, toR_ok, toR_exc, toR_bad, opt_some, opt_none, look_non, look_bl, look_int, look_str, look_tup, look_lst, look_dct, d_lst, d_dct, own_lst, own_dct, oAdd_int, oSub_int, oNeg_int, oLt_int, oLe_int, oGt_int, oGe_int, oIsN_ap, oNotN_ap, isNon_non, isNon_int, isNon_tup, oNotB_bl, oIsB_bl, oIx_tup, oIx_lst, oSl_tup, oSl_lst, oLen_tup, oLen_lst, oInt_int, oMin_int, oMax_int, oTupL_lst, oTupL_tup, oLstL_lst, oLstL_tup, oIsa_ap, oRevT_tup, oAllB_lst, oAnyB_lst, To_ok, To_bad, To_exc, To_bind, RTo_nx, RTo_rt, RTo_bad, RTo_ex, RTo_toR, List.map_cons, List.map_nil, List.length_cons, List.length_nil, List.cons_append, List.nil_append, Nat.zero_add, Nat.reduceAdd, Nat.reduceSub, List.replicate_succ, List.replicate_zero, List.getElem?_cons_zero, List.getElem?_cons_succ, List.set_cons_zero, List.set_cons_succ, if_true, if_false, Bool.false_eq_true, Bool.not_true, Bool.not_false, Option.map_some, Option.map_none])
local macro_rules | `(tactic| and_intros) => `(tactic| try simp only [sSeq_To, sIf_ap, sPass_ap, sAsg_ap, sRet_ap, sExpr_ap, sOwn_ap, sFrz_ap, sApp_ap, sDputR_ap, sPar2_ap, sPut_ap, sFor_ap, sRaise_ap, qB_ap, qAnd_ap, qOr_ap, qNot_ap, qT_ap, e1_ap, e2_ap, eN_ap, eV_ap, eW_ap, eC_ap, eNil_ap, eAll_nil, eAll_cons, eTup_ap, eLst_ap, eIf_ap, eAnd_ap, eOr_ap, eNot_ap, eChain_ap, eNo_ap, eAt_ap, eSl_ap, eCall_ap, eNew_ap, eCb_ap, eLam_ap, eLr_ap, iAny_ap, iRange1_ap, iEnum2_ap, iZipT_ap, eLc_ap, eDc2_ap, wipeE_nil, wipeE_cons, put_nm, put_tp, puts_nil, puts_cons, bind_ok, bind_exc, bind_bad, toR_ok, toR_exc, toR_bad, opt_some, opt_none, look_non, look_bl, look_int, look_str, look_tup, look_lst, look_dct, d_lst, d_dct, own_lst, own_dct, oAdd_int, oSub_int, oNeg_int, oLt_int, oLe_int, oGt_int, oGe_int, oIsN_ap, oNotN_ap, isNon_non, isNon_int, isNon_tup, oNotB_bl, oIsB_bl, oIx_tup, oIx_lst, oSl_tup, oSl_lst, oLen_tup, oLen_lst, oInt_int, oMin_int, oMax_int, oTupL_lst, oTupL_tup, oLstL_lst, oLstL_tup, oIsa_ap, oRevT_tup, oAllB_lst, oAnyB_lst, To_ok, To_bad, To_exc, To_bind, RTo_nx, RTo_rt, RTo_bad, RTo_ex, RTo_toR, List.map_cons, List.map_nil, List.length_cons, List.length_nil, List.cons_append, List.nil_append, Nat.zero_add, Nat.reduceAdd, Nat.reduceSub, List.replicate_succ, List.replicate_zero, List.getElem?_cons_zero, List.getElem?_cons_succ, List.set_cons_zero, List.set_cons_succ, if_true, if_false, Bool.false_eq_true, Bool.not_true, Bool.not_false, Option.map_some, Option.map_none])
theorem hand_right (s : S) : f__law_hand_right [] s = .ok (.bl true) s := by
  kernel_rfl
theorem lcL_To2 {t : Tg} {c : EM Bool} {e : EM D} {l : Wd.Env} (J : List D → List D → S → Prop) : ∀ (ds acc : List D) (s : S), (∀ d rest acc s, J (d :: rest) acc s → ∃ l1, t.put d l = some l1 ∧ (c l1 s).To fun b s1 => if b = true then (e l1 s1).To fun x s2 => J rest (acc ++ [x]) s2 else J rest acc s1) → J ds acc s → (lcL t c e ds l s).To fun xs s' => J [] (acc ++ xs) s'
  | [], acc, s, _, j => by
    unfold lcL
    rw [To_ok, List.append_nil]
    exact j
  | d :: ds, acc, s, h, j => by
    obtain ⟨l1, e1, r⟩ := h d ds acc s j
    unfold lcL
    rw [e1]
    dsimp only
    cases q : c l1 s with
    | ok b s1 =>
      rw [q, To_ok] at r
      cases b with
      | true =>
        rw [if_pos rfl] at r
        dsimp only
        cases q2 : e l1 s1 with
        | ok x s2 =>
          rw [q2, To_ok] at r
          dsimp only
          have ih := lcL_To2 J ds (acc ++ [x]) s2 h r
          cases q3 : lcL t c e ds l s2 with
          | ok xs s3 =>
            rw [q3, To_ok, List.append_assoc] at ih
            exact ih
          | _ =>
            rw [q3] at ih
            exact ih.elim
        | _ =>
          rw [q2] at r
          exact r.elim
      | false =>
        rw [if_neg (by simp)] at r
        exact lcL_To2 J ds acc s1 h r
    | _ =>
      rw [q] at r
      exact r.elim
section
variable {s : S} {m n : Nat}
theorem draw_eq {k : Int} (a : At n s m) (hn : n < 1000000000000) (h0 : 0 < k) (h1 : k < 1073741824) : (f__law_draw [.ref m, .int k] s).To fun r s' => ∃ i, r = .int i ∧ 0 ≤ i ∧ i < k ∧ At (n + 1) s' m := draw_To a hn h0 h1
theorem _root_.Wd.At.le {n n' : Nat} (a : At n s m) (h : n ≤ n') : At n' s m := by
  obtain ⟨l, sd, c, sp, h1, h2, h3, h4⟩ := a
  exact ⟨l, sd, c, sp, h1, h2, h3, by omega⟩
/-- one of some -/
theorem of_To {xs : List D} (a : At n s m) (hn : n < 1000000000000) (h0 : xs ≠ []) (h1 : xs.length < 1000000) {d : D} (hd : d = .lst xs ∨ d = .tup xs) : (f__law_of [.ref m, d] s).To fun r s' => r ∈ xs ∧ At (n + 1) s' m := by
  unfold f__law_of b__law_of
  apply runB_To
  have hp : 0 < xs.length := List.length_pos_iff.mpr h0
  have key : ∀ i : Int, 0 ≤ i → i < xs.length → ∃ x ∈ xs, atL xs i = some x := by
    intro i hi hl
    have hl' : i.toNat < xs.length := by omega
    refine ⟨xs[i.toNat], List.getElem_mem hl', ?_⟩
    unfold atL ixI
    rw [if_pos hi, if_pos hl]
    simp [hl']
  rcases hd with rfl | rfl
  all_goals
    and_intros
    refine (draw_eq a hn (by omega) (by omega)).mono ?_
    rintro r s' ⟨i, rfl, hi, hl, a'⟩
    obtain ⟨x, hx, ex⟩ := key i hi hl
    and_intros
    rw [ex]
    exact ⟨hx, a'⟩
theorem upto_succ (lo : Int) (k : Nat) : upto lo (k + 1) = .int lo :: upto (lo + 1) k := rfl
theorem inc_snoc {xs : List Int} {j : Int} (h : inc xs = true) (hl : ∀ x ∈ xs, x < j) : inc (xs ++ [j]) = true := by
  induction xs with
  | nil => rfl
  | cons x xs ih =>
    rw [List.cons_append]
    refine inc_cons (ih (inc_tl h) fun y hy => hl y (List.mem_cons_of_mem _ hy)) ?_
    intro y hy
    cases xs with
    | nil =>
      cases hy
      exact hl x List.mem_cons_self
    | cons z zs =>
      cases hy
      unfold inc at h
      rw [Bool.and_eq_true, decide_eq_true_eq] at h
      exact h.1
theorem some_To {many : Int} (a : At n s m) (hn : n < 1000000000) (h0 : 0 ≤ many) (h1 : many ≤ 6) : (f__law_some [.ref m, .int many, .int 3] s).To fun r s' => ∃ xs : List Int, r = row xs ∧ inc xs = true ∧ (∀ x ∈ xs, 0 ≤ x ∧ x < many) ∧ xs.length ≤ 6 ∧ At (n + 6) s' m := by
  unfold f__law_some b__law_some
  apply runB_To
  and_intros
  have hr : many < 1000000 ∧ -1000000 < many := by omega
  rw [if_pos hr]
  and_intros
  refine Res.To.mono (lcL_To2 (J := fun rest acc s' => ∃ (j k : Nat) (xs : List Int), rest = upto j k ∧ (j + k : Nat) = many.toNat ∧ acc = xs.map D.int ∧ inc xs = true ∧ (∀ x ∈ xs, 0 ≤ x ∧ x < j) ∧ xs.length ≤ j ∧ At (n + j) s' m) (upto 0 many.toNat) [] s ?h ⟨0, many.toNat, [], rfl, by omega, rfl, rfl, (fun _ z => nomatch z), Nat.zero_le _, a⟩) ?_
  case h =>
    rintro d rest acc s' ⟨j, k, xs, hrest, hjk, rfl, hi, hx, hxl, a'⟩
    cases k with
    | zero => cases hrest
    | succ k =>
      rw [upto_succ] at hrest
      injection hrest with ha hb
      subst ha hb
      refine ⟨_, rfl, ?_⟩
      and_intros
      refine (draw_eq a' (by omega) (by decide) (by decide)).mono ?_
      rintro r s2 ⟨i, rfl, hi0, hi1, a2⟩
      and_intros
      by_cases hp : 0 < i
      · simp only [decide_eq_true hp]
        and_intros
        refine ⟨j + 1, k, xs ++ [(j : Int)], by first | rfl | trivial, by omega, by simp, inc_snoc hi fun x hx' => (hx x hx').2, fun x hx' => ?_, by simp; omega, a2.le (by omega)⟩
        rcases List.mem_append.mp hx' with hx' | hx'
        · have := hx x hx'
          omega
        · rw [List.mem_singleton.mp hx']
          omega
      · simp only [decide_eq_false hp]
        and_intros
        refine ⟨j + 1, k, xs, by first | rfl | trivial, by omega, by first | rfl | trivial, hi, fun x hx' => ?_, by omega, a2.le (by omega)⟩
        have := hx x hx'
        omega
  rintro r s' ⟨j, k, xs, hrest, hjk, hacc, hi, hx, hxl, a'⟩
  have hk : k = 0 := by
    cases k with
    | zero => rfl
    | succ k => rw [upto_succ] at hrest; cases hrest
  subst hk
  rw [List.nil_append] at hacc
  subst hacc
  have hbig : (upto 0 many.toNat).length ≤ big := by
    rw [upto_eq, List.length_map, List.length_range, big_eq]
    omega
  rw [if_pos hbig]
  and_intros
  exact ⟨xs, rfl, hi, fun x hx' => by have := hx x hx'; omega, by omega, a'.le (by omega)⟩
theorem row_To {many : Int} (a : At n s m) (hn : n < 1000000000) (h0 : 0 < many) (h1 : many ≤ 6) : (f__law_row [.ref m, .int many, .int 10] s).To fun r s' => ∃ xs : List Int, r = row xs ∧ (∀ x ∈ xs, 0 ≤ x ∧ x < many) ∧ xs.length ≤ 10 ∧ At (n + 11) s' m := by
  unfold f__law_row b__law_row
  apply runB_To
  and_intros
  refine (draw_eq a (by omega) (by decide) (by decide)).mono ?_
  rintro r s1 ⟨c, rfl, hc0, hc1, a1⟩
  have hr : c < 1000000 ∧ -1000000 < c := by omega
  and_intros
  rw [if_pos hr]
  and_intros
  refine Res.To.mono (lcL_To2 (J := fun rest acc s' => ∃ (j : Int) (k : Nat) (xs : List Int), rest = upto j k ∧ acc = xs.map D.int ∧ (∀ x ∈ xs, 0 ≤ x ∧ x < many) ∧ xs.length + k = c.toNat ∧ At (n + 1 + xs.length) s' m) (upto 0 c.toNat) [] s1 ?h ⟨0, c.toNat, [], rfl, rfl, (fun _ z => nomatch z), by simp, a1⟩) ?_
  case h =>
    rintro d rest acc s' ⟨j, k, xs, hrest, rfl, hx, hxl, a'⟩
    cases k with
    | zero => cases hrest
    | succ k =>
      rw [upto_succ] at hrest
      injection hrest with ha hb
      subst ha hb
      refine ⟨_, rfl, ?_⟩
      and_intros
      refine (draw_eq a' (by omega) h0 (by omega)).mono ?_
      rintro r s2 ⟨i, rfl, hi0, hi1, a2⟩
      refine ⟨j + 1, k, xs ++ [i], by first | rfl | trivial, by simp, fun x hx' => ?_, by simp; omega, a2.le (by simp; omega)⟩
      rcases List.mem_append.mp hx' with hx' | hx'
      · exact hx x hx'
      · rw [List.mem_singleton.mp hx']
        exact ⟨hi0, hi1⟩
  rintro r s' ⟨j, k, xs, hrest, hacc, hx, hxl, a'⟩
  have hk : k = 0 := by
    cases k with
    | zero => rfl
    | succ k => rw [upto_succ] at hrest; cases hrest
  subst hk
  rw [List.nil_append] at hacc
  subst hacc
  have hbig : (upto 0 c.toNat).length ≤ big := by
    rw [upto_eq, List.length_map, List.length_range, big_eq]
    omega
  rw [if_pos hbig]
  and_intros
  exact ⟨xs, rfl, hx, by omega, a'.le (by omega)⟩
/-- a right entry -/
structure Ent where
  seen : List Int
  loss : Int
  due : List Int
  w : Str
def Ent.d (e : Ent) : D := ent e.seen e.loss e.due e.w
structure Ent.Ok (many : Int) (e : Ent) : Prop where
  i : inc e.seen = true
  s : ∀ x ∈ e.seen, 0 ≤ x ∧ x < many
  sl : e.seen.length ≤ 6
  l0 : 0 ≤ e.loss
  l1 : e.loss ≤ 2
  d : ∀ x ∈ e.due, x ∈ e.seen
  dl : e.due.length ≤ 8
  w : e.w = "done" ∨ e.w = "never"
theorem cut_take {α : Type} (xs : List α) (k : Nat) : cut xs none (some (k : Int)) = xs.take k := by
  have e : cutAt xs.length xs.length (some (k : Int)) = min k xs.length := by
    unfold cutAt
    simp only [if_neg (show ¬ (k : Int) < 0 by omega), Int.toNat_natCast]
  unfold cut
  rw [e]
  show List.take (min k xs.length - 0) (List.drop 0 xs) = _
  rw [List.drop_zero, Nat.sub_zero]
  by_cases h : k ≤ xs.length
  · rw [show min k xs.length = k by omega]
  · rw [show min k xs.length = xs.length by omega, List.take_of_length_le (Nat.le_refl _), List.take_of_length_le (by omega)]
theorem cut_drop {α : Type} (xs : List α) (k : Nat) : cut xs (some (k : Int)) none = xs.drop k := by
  have e : cutAt xs.length 0 (some (k : Int)) = min k xs.length := by
    unfold cutAt
    simp only [if_neg (show ¬ (k : Int) < 0 by omega), Int.toNat_natCast]
  unfold cut
  rw [e]
  show List.take (xs.length - min k xs.length) (List.drop (min k xs.length) xs) = _
  by_cases h : k ≤ xs.length
  · rw [show min k xs.length = k by omega]
    exact List.take_of_length_le (by rw [List.length_drop]; omega)
  · rw [show min k xs.length = xs.length by omega, List.drop_of_length_le (Nat.le_refl _), List.drop_of_length_le (by omega)]
    simp
theorem entry_To {many : Int} {r : List Int} (a : At n s m) (hn : n < 100000000) (h0 : 0 < many) (h1 : many ≤ 6) (hr : r.length ≤ 10) : (f__law_entry [.ref m, .int many, row r] s).To fun v s' => ∃ e : Ent, v = e.d ∧ e.Ok many ∧ At (n + 20) s' m := by
  unfold f__law_entry b__law_entry
  apply runB_To
  rw [sSeq_To]
  infer_instance
  refine (some_To a (by omega) (by omega) h1).mono ?_
  rintro v s1 ⟨seen, rfl, hinc, hs, hsl, a1⟩
  infer_instance
  refine (of_To (xs := [.int 0, .int 0, .int 1, .int 2]) a1 (by omega) (by simp) (by simp) (.inl rfl)).mono ?_
  rintro v s2 ⟨hv, a2⟩
  obtain ⟨loss, rfl, hl0, hl1⟩ : ∃ loss : Int, v = .int loss ∧ 0 ≤ loss ∧ loss ≤ 2 := by
    simp only [List.mem_cons, List.mem_nil_iff, or_false] at hv
    rcases hv with rfl | rfl | rfl | rfl
    · exact ⟨0, rfl, by decide, by decide⟩
    · exact ⟨0, rfl, by decide, by decide⟩
    · exact ⟨1, rfl, by decide, by decide⟩
    · exact ⟨2, rfl, by decide, by decide⟩
  infer_instance
  rw [sSeq_To]
  infer_instance
  have e1 : ∀ l1 : Wd.Env, l1.length = 7 → l1[3]? = some (some (.val (row seen))) → lcL (.nm 6) (qB (e2 oIn (eV 6) (eV 3))) (eV 6) (r.map D.int) l1 s2 = .ok ((r.filter (· ∈ seen)).map D.int) s2 := by
    intro l1 h1 h2
    rw [lcL_pure (fun d => match d with | .int i => decide (i ∈ seen) | _ => false) id]
    · simp [List.filter_map, Function.comp_def]
    · intro d hd
      obtain ⟨i, _, rfl⟩ := List.mem_map.mp hd
      have h8 : (l1.set 6 (some (.val (.int i))))[6]? = some (some (.val (.int i))) := by rw [List.getElem?_set_self (by omega)]
      have h2' : (l1.set 6 (some (.val (.int i))))[3]? = some (some (.val (row seen))) := by rw [List.getElem?_set_ne (by decide)]; exact h2
      refine ⟨_, rfl, ?_, fun _ => ?_⟩
      · simp only [qB_ap, e2_ap, eV_ap, h8, h2', bind_ok, in_ints, opt_some]
      · simp only [eV_ap, h8]
        rfl
  rw [e1 _ rfl rfl]
  have hk : ∀ x ∈ r.filter (· ∈ seen), x ∈ seen := fun x hx => by
    have := (List.mem_filter.mp hx).2
    simpa using this
  have hkl : (r.filter (· ∈ seen)).length ≤ 10 := Nat.le_trans (List.length_filter_le _ _) hr
  generalize r.filter (· ∈ seen) = kept at hk hkl
  have hbig : (r.map D.int).length ≤ big := by rw [List.length_map, big_eq]; omega
  infer_instance
  rw [if_pos hbig]
  infer_instance
  -- behind the draws of losses
  have tail : ∀ (kept : List Int) (s3 : S) (x6 : Option Slot), (∀ x ∈ kept, x ∈ seen) → kept.length ≤ 10 → At (n + 17) s3 m → ((sSeq (sIf (qAnd (qB (e2 oEqP (eCall f__law_draw (eAll [(eV 0), (eC (.int 3))])) (eC (.int 0)))) (qB (e2 oNeP (eV 3) (eTup (eAll []))))) (sApp 5 (eCall f__law_of (eAll [(eV 0), (eV 3)]))) sPass) (sRet (eTup (eAll [(eV 3), (eV 4), (eN oTupL (eAll [(eSl (eW 5) eNo (eAt (eC (.int 8))))])), (eCall f__law_of (eAll [(eV 0), (eLst (eAll [(eC (.str "done")), (eC (.str "done")), (eC (.str "never"))]))]))])))) [some (.val (.ref m)), some (.val (.int many)), some (.val (row r)), some (.val (row seen)), some (.val (.int loss)), some (.own (.lst (kept.map D.int))), x6] s3).To (fun _ s' => ∃ e : Ent, D.non = e.d ∧ e.Ok many ∧ At (n + 20) s' m) (fun v s' => ∃ e : Ent, v = e.d ∧ e.Ok many ∧ At (n + 20) s' m) := by
    intro kept s3 x6 hk hkl a3
    have fin : ∀ (kept : List Int) (s4 : S), (∀ x ∈ kept, x ∈ seen) → At (n + 19) s4 m → (f__law_of [.ref m, .lst [.str "done", .str "done", .str "never"]] s4).To fun a s => ∃ e : Ent, D.tup [row seen, .int loss, .tup (cut (kept.map D.int) none (some 8)), a] = e.d ∧ e.Ok many ∧ At (n + 20) s m := by
      intro kept s4 hk a4
      refine (of_To (xs := [.str "done", .str "done", .str "never"]) a4 (by omega) (by simp) (by simp) (.inl rfl)).mono ?_
      rintro v s5 ⟨hv, a5⟩
      obtain ⟨w, rfl, hw⟩ : ∃ w : Str, v = .str w ∧ (w = "done" ∨ w = "never") := by
        simp only [List.mem_cons, List.mem_nil_iff, or_false] at hv
        rcases hv with rfl | rfl | rfl
        · exact ⟨_, rfl, .inl rfl⟩
        · exact ⟨_, rfl, .inl rfl⟩
        · exact ⟨_, rfl, .inr rfl⟩
      and_intros
      refine ⟨⟨seen, loss, kept.take 8, w⟩, ?_, ⟨hinc, hs, hsl, hl0, hl1, fun x hx => hk x (List.mem_of_mem_take hx), ?_, hw⟩, a5⟩
      · show D.tup _ = D.tup [row seen, .int loss, row (kept.take 8), .str w]
        have := cut_take (kept.map D.int) 8
        rw [show ((8 : Nat) : Int) = 8 from rfl] at this
        rw [this, ← List.map_take]
      · show (kept.take 8).length ≤ 8
        rw [List.length_take]
        omega
    rw [sSeq_To]
    simp only [sIf_ap, qAnd_ap, qB_ap, e2_ap, eCall_ap, eAll_cons, eAll_nil, eV_ap, eC_ap, List.getElem?_cons_zero, List.getElem?_cons_succ, bind_ok, RTo_toR, To_bind]
    refine (draw_eq a3 (by omega) (by decide) (by decide)).mono ?_
    rintro v s4 ⟨i, rfl, _, _, a4⟩
    simp only [eqP_int, opt_some, To_ok]
    cases q : (i == 0) with
    | false =>
      and_intros
      exact fin kept s4 hk (a4.le (by omega))
    | true =>
      and_intros
      have e5 := neP_intsT s4 seen []
      rw [List.map_nil] at e5
      rw [e5]
      and_intros
      by_cases hse : seen = []
      · simp only [decide_eq_true hse]
        and_intros
        exact fin kept s4 hk (a4.le (by omega))
      · simp only [decide_eq_false hse]
        and_intros
        refine (of_To (xs := seen.map D.int) a4 (by omega) (by simpa using hse) (by rw [List.length_map]; omega) (.inr rfl)).mono ?_
        rintro v s5 ⟨hv, a5⟩
        obtain ⟨y, hy, rfl⟩ := List.mem_map.mp hv
        have hlt : (kept.map D.int).length < big := by rw [List.length_map, big_eq]; omega
        rw [if_pos hlt]
        and_intros
        have := fin (kept ++ [y]) s5 (fun x hx => by
          rcases List.mem_append.mp hx with hx | hx
          · exact hk x hx
          · rw [List.mem_singleton.mp hx]
            exact hy) (a5.le (by omega))
        rw [List.map_append] at this
        exact this
  rw [sSeq_To]
  infer_instance
  by_cases hl : 0 < loss
  · simp only [decide_eq_true hl]
    infer_instance
    rw [sSeq_To]
    infer_instance
    refine Res.To.mono (lcL_To2 (J := fun rest acc s' => ∃ (rs xs : List Int), rest = rs.map D.int ∧ acc = xs.map D.int ∧ (∀ x ∈ rs, x ∈ seen) ∧ (∀ x ∈ xs, x ∈ seen) ∧ xs.length + rs.length ≤ 10 ∧ rs.length ≤ 10 ∧ At (n + 17 - rs.length) s' m) (kept.map D.int) [] s2 ?h ⟨kept, [], rfl, rfl, hk, (fun _ z => nomatch z), by simpa using hkl, hkl, a2.le (by omega)⟩) ?_
    case h =>
      rintro d rest acc s' ⟨rs, xs, hrest, rfl, h1, h2, h3, h4, a'⟩
      cases rs with
      | nil => cases hrest
      | cons x rs =>
        injection hrest with ha hb
        subst ha hb
        rw [List.length_cons] at h3 h4 a'
        refine ⟨_, rfl, ?_⟩
        and_intros
        refine (draw_eq a' (by omega) (by decide) (by decide)).mono ?_
        rintro r s2 ⟨i, rfl, hi0, hi1, a2⟩
        and_intros
        by_cases hp : 0 < i
        · simp only [decide_eq_true hp]
          and_intros
          refine ⟨rs, xs ++ [x], by first | rfl | trivial, by simp, fun y hy => h1 y (List.mem_cons_of_mem _ hy), fun y hy => ?_, by simp; omega, by omega, a2.le (by omega)⟩
          rcases List.mem_append.mp hy with hy | hy
          · exact h2 y hy
          · rw [List.mem_singleton.mp hy]
            exact h1 x List.mem_cons_self
        · simp only [decide_eq_false hp]
          and_intros
          exact ⟨rs, xs, by first | rfl | trivial, by first | rfl | trivial, fun y hy => h1 y (List.mem_cons_of_mem _ hy), h2, by omega, by omega, a2.le (by omega)⟩
    rintro ys s' ⟨rs, xs, hrest, hacc, h1, h2, h3, h4, a'⟩
    have hrs : rs = [] := by
      cases rs with
      | nil => rfl
      | cons _ _ => cases hrest
    subst hrs
    rw [List.nil_append] at hacc
    subst hacc
    have hb2 : (kept.map D.int).length ≤ big := by rw [List.length_map, big_eq]; omega
    rw [if_pos hb2]
    simp only [To_ok, own_lst, RTo_nx, List.set_cons_succ, List.set_cons_zero]
    exact tail xs s' none h2 (by simpa using h3) (a'.le (by simp))
  · simp only [decide_eq_false hl]
    infer_instance
    exact tail kept s2 none hk hkl (a2.le (by omega))
end
end K58
set_option linter.all false
set_option autoImplicit false
set_option maxRecDepth 10000
/-! K58m7: odd things; rows. -/
namespace K58
open PySem Wd
local macro_rules | `(tactic| subst_vars) => `(tactic| try simp only [sSeq_ap, sIf_ap, sPass_ap, sAsg_ap, sRet_ap, sExpr_ap, sOwn_ap, sFrz_ap, sApp_ap, sDputR_ap, sPar2_ap, sPut_ap, sFor_ap, sRaise_ap, qB_ap, qAnd_ap, qOr_ap, qNot_ap, qT_ap, e1_ap, e2_ap, eN_ap, eV_ap, eW_ap, eC_ap, eNil_ap, eAll_nil, eAll_cons, eTup_ap, eLst_ap, eIf_ap, eAnd_ap, eOr_ap, eNot_ap, eChain_ap, eNo_ap, eAt_ap, eSl_ap, eCall_ap, eNew_ap, eCb_ap, eLam_ap, eLr_ap, iAny_ap, iRange1_ap, iEnum2_ap, iZipT_ap, eLc_ap, eDc2_ap, wipeE_nil, wipeE_cons, put_nm, put_tp, puts_nil, puts_cons, bind_ok, bind_exc, bind_bad, toR_ok, toR_exc, toR_bad, opt_some, opt_none, look_non, look_bl, look_int, look_str, look_tup, look_lst, look_dct, d_lst, d_dct, own_lst, own_dct, oAdd_int, oSub_int, oNeg_int, oLt_int, oLe_int, oGt_int, oGe_int, oIsN_ap, oNotN_ap, isNon_non, isNon_int, isNon_tup, oNotB_bl, oIsB_bl, oIx_tup, oIx_lst, oSl_tup, oSl_lst, oLen_tup, oLen_lst, oInt_int, oMin_int, oMax_int, oTupL_lst, oTupL_tup, oLstL_lst, oLstL_tup, oIsa_ap, oRevT_tup, oAllB_lst, oAnyB_lst, To_ok, To_bad, To_exc, To_bind, RTo_nx, RTo_rt, RTo_bad, RTo_ex, RTo_toR, List.map_cons, List.map_nil, List.length_cons, List.length_nil, List.cons_append, List.nil_append, Nat.zero_add, Nat.reduceAdd, Nat.reduceSub, List.replicate_succ, List.replicate_zero, List.getElem?_cons_zero, List.getElem?_cons_succ, List.set_cons_zero, List.set_cons_succ, if_true, if_false, Bool.false_eq_true, Bool.not_true, Bool.not_false, Option.map_some, Option.map_none])
local macro_rules | `(tactic| infer_instance) => `(tactic| try simp only [sIf_ap, sPass_ap, sAsg_ap, sRet_ap, sExpr_ap, sOwn_ap, sFrz_ap, sApp_ap, sDputR_ap, sPar2_ap, sPut_ap, sFor_ap, sRaise_ap, qB_ap, qAnd_ap, qOr_ap, qNot_ap, qT_ap, e1_ap, e2_ap, eN_ap, eV_ap, eW_ap, eC_ap, eNil_ap, eAll_nil, eAll_cons, eTup_ap, eLst_ap, eIf_ap, eAnd_ap, eOr_ap, eNot_ap, eChain_ap, eNo_ap, eAt_ap, eSl_ap, eCall_ap, eNew_ap, eCb_ap, eLam_ap, eLr_ap, iAny_ap, iRange1_ap, iEnum2_ap, iZipT_ap, eLc_ap, eDc2_ap, wipeE_nil, wipeE_cons, put_nm, put_tp, puts_nil, puts_cons, bind_ok, bind_exc, bind_bad, toR_ok, toR_exc, toR_bad, opt_some, opt_none, look_non, look_bl, look_int, look_str, look_tup, look_lst, look_dct, d_lst, d_dct, own_lst, own_dct, oAdd_int, oSub_int, oNeg_int, oLt_int, oLe_int, oGt_int, oGe_int, oIsN_ap, oNotN_ap, isNon_non, isNon_int, isNon_tup, oNotB_bl, oIsB_bl, oIx_tup, oIx_lst, oSl_tup, oSl_lst, oLen_tup, oLen_lst, oInt_int, oMin_int, oMax_int, oTupL_lst, oTupL_tup, oLstL_lst, oLstL_tup, oIsa_ap, oRevT_tup, oAllB_lst, oAnyB_lst, To_ok, To_bad, To_exc, To_bind, RTo_nx, RTo_rt, RTo_bad, RTo_ex, RTo_toR, List.map_cons, List.map_nil, List.length_cons, List.length_nil, List.cons_append, List.nil_append, Nat.zero_add, Nat.reduceAdd, Nat.reduceSub, List.replicate_succ, List.replicate_zero, List.getElem?_cons_zero, List.getElem?_cons_succ, List.set_cons_zero, List.set_cons_succ, if_true, if_false, Bool.false_eq_true, Bool.not_true, Bool.not_false, Option.map_some, Option.map_none])
local macro_rules | `(tactic| and_intros) => `(tactic| try simp only [sSeq_To, sIf_ap, sPass_ap, sAsg_ap, sRet_ap, sExpr_ap, sOwn_ap, sFrz_ap, sApp_ap, sDputR_ap, sPar2_ap, sPut_ap, sFor_ap, sRaise_ap, qB_ap, qAnd_ap, qOr_ap, qNot_ap, qT_ap, e1_ap, e2_ap, eN_ap, eV_ap, eW_ap, eC_ap, eNil_ap, eAll_nil, eAll_cons, eTup_ap, eLst_ap, eIf_ap, eAnd_ap, eOr_ap, eNot_ap, eChain_ap, eNo_ap, eAt_ap, eSl_ap, eCall_ap, eNew_ap, eCb_ap, eLam_ap, eLr_ap, iAny_ap, iRange1_ap, iEnum2_ap, iZipT_ap, eLc_ap, eDc2_ap, wipeE_nil, wipeE_cons, put_nm, put_tp, puts_nil, puts_cons, bind_ok, bind_exc, bind_bad, toR_ok, toR_exc, toR_bad, opt_some, opt_none, look_non, look_bl, look_int, look_str, look_tup, look_lst, look_dct, d_lst, d_dct, own_lst, own_dct, oAdd_int, oSub_int, oNeg_int, oLt_int, oLe_int, oGt_int, oGe_int, oIsN_ap, oNotN_ap, isNon_non, isNon_int, isNon_tup, oNotB_bl, oIsB_bl, oIx_tup, oIx_lst, oSl_tup, oSl_lst, oLen_tup, oLen_lst, oInt_int, oMin_int, oMax_int, oTupL_lst, oTupL_tup, oLstL_lst, oLstL_tup, oIsa_ap, oRevT_tup, oAllB_lst, oAnyB_lst, To_ok, To_bad, To_exc, To_bind, RTo_nx, RTo_rt, RTo_bad, RTo_ex, RTo_toR, List.map_cons, List.map_nil, List.length_cons, List.length_nil, List.cons_append, List.nil_append, Nat.zero_add, Nat.reduceAdd, Nat.reduceSub, List.replicate_succ, List.replicate_zero, List.getElem?_cons_zero, List.getElem?_cons_succ, List.set_cons_zero, List.set_cons_succ, if_true, if_false, Bool.false_eq_true, Bool.not_true, Bool.not_false, Option.map_some, Option.map_none])
/-! ### sizes -/
structure Cp (c : D) : Prop where
  f : fineT c = true
  r : c.rok = true
  dp : c.rdp ≤ 1
  sz : c.rsz ≤ 1500
theorem cp_row {ns : List Int} (hl : ns.length ≤ 9) (h : ∀ i ∈ ns, i.natAbs ≤ 100) : Cp (row ns) := by
  refine ⟨?_, ?_, ?_, ?_⟩
  · show ((ns.map D.int).all fine && decide ((ns.map D.int).length < 64)) = true
    rw [Bool.and_eq_true, List.all_eq_true]
    refine ⟨fun x hx => ?_, decide_eq_true (by rw [List.length_map]; omega)⟩
    obtain ⟨i, _, rfl⟩ := List.mem_map.mp hx
    rfl
  · unfold D.rok
    exact roks_ints h
  · unfold D.rdp
    rw [rdps_ints]
    exact Nat.le_refl _
  · unfold D.rsz
    have := rszs_ints h
    omega
theorem cp_lst {ns : List Int} (hl : ns.length ≤ 9) (h : ∀ i ∈ ns, i.natAbs ≤ 100) : Cp (.lst (ns.map D.int)) := by
  refine ⟨rfl, ?_, ?_, ?_⟩
  · unfold D.rok
    exact roks_ints h
  · unfold D.rdp
    rw [rdps_ints]
    exact Nat.le_refl _
  · unfold D.rsz
    have := rszs_ints h
    omega
theorem cp_int {i : Int} (h : i.natAbs ≤ 100) : Cp (.int i) := by
  refine ⟨rfl, ?_, Nat.zero_le _, ?_⟩
  · unfold D.rok
    refine decide_eq_true ?_
    have : i.natAbs.log2 ≤ i.natAbs := Nat.log2_le_self _
    omega
  · unfold D.rsz
    rw [if_pos h]
    decide
structure NiceE (e : D) : Prop where
  t : tameE e
  r : e.rok = true
  dp : e.rdp ≤ 3
  sz : e.rsz ≤ 5000
theorem word_ok {d : D} (h : wordT d) : d.rok = true ∧ d.rdp ≤ 1 ∧ d.rsz ≤ 20 := by
  rcases h with rfl | rfl | rfl | rfl
  · exact ⟨rfl, by decide, by decide⟩
  · exact ⟨by decide +kernel, by decide, by decide +kernel⟩
  · exact ⟨by decide +kernel, by decide, by decide +kernel⟩
  · exact ⟨by decide +kernel, by decide, by decide +kernel⟩
theorem nice4 {a b c d : D} (ha : Cp a) (hb : Cp b) (hc : Cp c) (hd : wordT d) : NiceE (.tup [a, b, c, d]) := by
  obtain ⟨h1, h2, h3⟩ := word_ok hd
  refine ⟨⟨ha.f, fineT_fine hb.f, hc.f, hd⟩, ?_, ?_, ?_⟩
  · simp [D.rok, D.roks, ha.r, hb.r, hc.r, h1]
  · have h4 := ha.dp
    have h5 := hb.dp
    have h6 := hc.dp
    simp only [D.rdp, D.rdps]
    omega
  · have h4 := ha.sz
    have h5 := hb.sz
    have h6 := hc.sz
    simp only [D.rsz, D.rszs]
    omega
structure NiceX (x : D) : Prop where
  t : tameL x
  r : x.rok = true
  dp : x.rdp ≤ 5
  sz : x.rsz ≤ 300000
theorem niceT {es : List D} (h : ∀ e ∈ es, NiceE e) (hl : es.length ≤ 40) : NiceX (.tup es) := by
  refine ⟨fun e he => (h e he).t, ?_, ?_, ?_⟩
  · unfold D.rok
    exact roks_iff.mpr fun e he => (h e he).r
  · have := rdps_le (B := 3) fun e he => (h e he).dp
    unfold D.rdp
    omega
  · have := rszs_le (B := 5000) fun e he => (h e he).sz
    have h2 : es.length * (5000 + 2) ≤ 40 * 5002 := Nat.mul_le_mul_right _ hl
    unfold D.rsz
    omega
theorem niceL {es : List D} (h : ∀ e ∈ es, NiceE e) (hl : es.length ≤ 40) : NiceX (.lst es) := by
  have := niceT h hl
  refine ⟨trivial, ?_, ?_, ?_⟩
  · have := this.r
    unfold D.rok at this ⊢
    exact this
  · have := this.dp
    unfold D.rdp at this ⊢
    exact this
  · have := this.sz
    unfold D.rsz at this ⊢
    exact this
section
variable {s : S} {m n : Nat} {many : Int}
theorem abs_of {many x : Int} (h : 0 ≤ x ∧ x < many) (h1 : many ≤ 6) : x.natAbs ≤ 100 := by omega
theorem ent_nice {e : Ent} (h : e.Ok many) (h1 : many ≤ 6) : NiceE e.d := by
  refine nice4 (cp_row (Nat.le_trans h.sl (by decide)) fun i hi => abs_of (h.s i hi) h1) (cp_int (by have := h.l0; have := h.l1; omega)) (cp_row (Nat.le_trans h.dl (by decide)) fun i hi => abs_of (h.s i (h.d i hi)) h1) ?_
  rcases h.w with e | e
  · rw [e]; exact .inr (.inl rfl)
  · rw [e]; exact .inr (.inr (.inl rfl))
theorem wordT_ok {e : Ent} (h : e.Ok many) : wordT (.str e.w) := by
  rcases h.w with e | e
  · rw [e]; exact .inr (.inl rfl)
  · rw [e]; exact .inr (.inr (.inl rfl))
theorem ent_ok {e : Ent} (h : e.Ok many) : entOk many e.d = true := by
  have hs : ∀ x ∈ e.seen, 0 ≤ x ∧ x ≤ many - 1 := fun x hx => by have := h.s x hx; omega
  have e1 : isL (row e.seen) (many - 1) = true := by rw [isL_ints hs]; exact h.i
  have e2 : isW (.int e.loss) 0 2 = true := by
    show (decide (0 ≤ e.loss) && decide (e.loss ≤ 2)) = true
    rw [decide_eq_true h.l0, decide_eq_true h.l1]
    rfl
  have e3 : isR (row e.due) (many - 1) = true := isR_of fun x hx => hs x (h.d x hx)
  have e4 : len8 (row e.due) = true := decide_eq_true (by rw [List.length_map]; exact h.dl)
  have e5 : sub (row e.due) (row e.seen) = true := by
    unfold sub
    rw [intsOf_map, intsOf_map, List.all_eq_true]
    exact fun x hx => decide_eq_true (h.d x hx)
  have e6 : wordOk (.str e.w) = true := by
    rcases h.w with e | e <;> rw [e] <;> rfl
  show (isL (row e.seen) (many - 1) && (isW (.int e.loss) 0 2 && (isR (row e.due) (many - 1) && (len8 (row e.due) && (sub (row e.due) (row e.seen) && wordOk (.str e.w)))))) = true
  rw [e1, e2, e3, e4, e5, e6]
  rfl
theorem log_ok : ∀ {es : List Ent}, (∀ e ∈ es, e.Ok many) → firstBad many (es.map Ent.d) = none
  | [], _ => rfl
  | e :: es, h => by
    rw [List.map_cons, firstBad, ent_ok (h e List.mem_cons_self), if_pos rfl, log_ok fun e he => h e (List.mem_cons_of_mem _ he)]
    rfl
theorem log_part {es : List Ent} (h : ∀ e ∈ es, e.Ok many) (hl : es.length ≤ 8) : partOf many (.tup (es.map Ent.d)) = none := by
  show (if 8 < (es.map Ent.d).length then some (D.str "form") else (firstBad many (es.map Ent.d)).map fun j => .int (j : Nat)) = none
  rw [if_neg (by rw [List.length_map]; omega), log_ok h]
  rfl
theorem show_eq {es : List Ent} {e : Ent} {k : Nat} {r : List Int} (h1 : 1 ≤ many) (h2 : many ≤ 6) (h : ∀ e ∈ es, e.Ok many) (hl : es.length ≤ 8) (hk : es[k]? = some e) (hr : ∀ x ∈ r, 0 ≤ x ∧ x < many) (hrl : r.length ≤ 60) :
    f_does_show [.int many, .tup (es.map Ent.d), .int k, row r] s = .ok (.bl (shL e.seen e.loss e.due r)) s := by
  have he := h e (List.mem_of_getElem? hk)
  have hkl := (List.getElem?_eq_some_iff.mp hk).1
  unfold f_does_show b_does_show
  rw [runB_ap]
  subst_vars
  rw [need_log_eq h1 h2 (x := .tup (es.map Ent.d)) (fun x hx => by
    obtain ⟨e, he, rfl⟩ := List.mem_map.mp hx
    exact (ent_nice (h e he) h2).t), log_part h hl]
  subst_vars
  have e1 : f_need_number [.tup (es.map Ent.d), .int k] s = .ok .non s := by
    unfold f_need_number b_need_number
    rw [runB_ap]
    subst_vars
    rw [whole_eq rfl]
    subst_vars
    have : isW (.int (k : Int)) 0 (((es.map Ent.d).length : Int) - 1) = true := by
      show (decide (0 ≤ (k : Int)) && decide ((k : Int) ≤ ((es.map Ent.d).length : Int) - 1)) = true
      rw [List.length_map, decide_eq_true (by omega), decide_eq_true (by omega)]
      rfl
    rw [this]
    rfl
  rw [e1]
  subst_vars
  have hf : fineT (row r) = true := by
    show ((r.map D.int).all fine && decide ((r.map D.int).length < 64)) = true
    rw [Bool.and_eq_true, List.all_eq_true]
    refine ⟨fun x hx => ?_, decide_eq_true (by rw [List.length_map]; omega)⟩
    obtain ⟨i, _, rfl⟩ := List.mem_map.mp hx
    rfl
  rw [row_eq hf, isR_of fun x hx => by have := hr x hx; omega]
  subst_vars
  have h400 : ¬ (400 : Int) < ((r.map D.int).length : Int) := by rw [List.length_map]; omega
  simp only [decide_eq_false h400]
  subst_vars
  have e2 : atL (es.map Ent.d) (k : Int) = some e.d := by
    unfold atL ixI
    rw [if_pos (by omega), if_pos (by rw [List.length_map]; omega)]
    simp [hk]
  rw [e2]
  subst_vars
  have e3 := showsP_eq (s := s) (seen := e.seen) (loss := e.loss) (due := e.due) (w := e.w) (r := r) (by omega) he.dl he.l0 he.l1
  rw [shows_same he.l0] at e3
  have e4 : e.d = ent e.seen e.loss e.due e.w := rfl
  rw [e4, e3]
  rfl
/-! ### odd things -/
theorem mem9 {x : D} {xs : List D} (h : x ∈ (List.replicate 9 xs).flatten) : x ∈ xs := by
  obtain ⟨l, hl, hx⟩ := List.mem_flatten.mp h
  rw [(List.mem_replicate.mp hl).2] at hx
  exact hx
theorem nice_flat {e : D} (h : e = .non ∨ e = .tup [] ∨ e = .int 5) : NiceE e := by
  rcases h with rfl | rfl | rfl
  · exact ⟨trivial, rfl, by decide, by decide⟩
  · exact ⟨trivial, rfl, by decide, by decide⟩
  · exact ⟨trivial, by decide, by decide, by decide⟩
theorem nice3 {a b c : D} (ha : Cp a) (hb : Cp b) (hc : Cp c) : NiceE (.tup [a, b, c]) := by
  refine ⟨trivial, ?_, ?_, ?_⟩
  · simp [D.rok, D.roks, ha.r, hb.r, hc.r]
  · have h4 := ha.dp
    have h5 := hb.dp
    have h6 := hc.dp
    simp only [D.rdp, D.rdps]
    omega
  · have h4 := ha.sz
    have h5 := hb.sz
    have h6 := hc.sz
    simp only [D.rsz, D.rszs]
    omega
theorem nice5 {a b c d : D} (ha : Cp a) (hb : Cp b) (hc : Cp c) (hd : wordT d) : NiceE (.tup [a, b, c, d, .int 0]) := by
  obtain ⟨h1, h2, h3⟩ := word_ok hd
  have h0 : (D.int 0).rok = true := by decide
  refine ⟨trivial, ?_, ?_, ?_⟩
  · simp [D.rok, D.roks, ha.r, hb.r, hc.r, h1]
  · have h4 := ha.dp
    have h5 := hb.dp
    have h6 := hc.dp
    simp only [D.rdp, D.rdps]
    omega
  · have h4 := ha.sz
    have h5 := hb.sz
    have h6 := hc.sz
    have h7 : (D.int 0).rsz ≤ 102 := by decide
    simp only [D.rsz, D.rszs] at h7 ⊢
    omega
theorem cp_bl (b : Bool) : Cp (.bl b) := ⟨rfl, rfl, Nat.zero_le _, by cases b <;> decide⟩
theorem cp_non : Cp .non := ⟨rfl, rfl, Nat.zero_le _, by decide⟩
theorem cp_tbl (b : Bool) : Cp (.tup [.bl b]) := ⟨rfl, by cases b <;> decide, by cases b <;> decide, by cases b <;> decide⟩
theorem odds_To {e0 : Ent} {es : List Ent} (a : At n s m) (hn : n < 10000000) (h1 : 1 ≤ many) (h2 : many ≤ 6) (h : ∀ e ∈ e0 :: es, e.Ok many) (hl : es.length ≤ 3) :
    (f__law_odds [.ref m, .int many, .tup ((e0 :: es).map Ent.d)] s).To fun r s' => ∃ xs, r = .lst xs ∧ (∀ x ∈ xs, NiceX x) ∧ At (n + 19) s' m := by
  unfold f__law_odds b__law_odds
  apply runB_To
  have hE : ∀ e ∈ (e0 :: es).map Ent.d, NiceE e := fun x hx => by
    obtain ⟨e, he, rfl⟩ := List.mem_map.mp hx
    exact ent_nice (h e he) h2
  have hlen : ((e0 :: es).map Ent.d).length ≤ 4 := by rw [List.length_map, List.length_cons]; omega
  have hlen0 : ((e0 :: es).map Ent.d) ≠ [] := by simp
  have h0 := h e0 List.mem_cons_self
  have eA : atL ((e0 :: es).map Ent.d) 0 = some (.tup [row e0.seen, .int e0.loss, row e0.due, .str e0.w]) := by
    unfold atL ixI
    rw [if_pos (by decide), if_pos (by rw [List.length_map, List.length_cons]; omega)]
    rfl
  generalize hL : (e0 :: es).map Ent.d = L at hE hlen hlen0 eA
  have hMul : ∀ s : S, oMulP s (.tup L) (.int 9) = some (.tup (List.replicate 9 L).flatten) := fun s => by
    have : oRepT s (.tup L) (.int 9) = some (.tup (List.replicate 9 L).flatten) := by
      unfold oRepT
      simp only [look_tup]
      rw [if_pos ⟨hlen0, by omega, by decide, by decide⟩]
      rfl
    exact this
  have hA1 : ∀ s : S, oAdd s (.tup L) (.tup [.int 5]) = some (.tup (L ++ [.int 5])) := fun s => by
    rw [oAdd_tup, if_pos (by rw [big_eq]; simp; omega)]
  have hA2 : ∀ s : S, oAdd s (.tup [.tup []]) (.tup L) = some (.tup (.tup [] :: L)) := fun s => by
    rw [oAdd_tup, if_pos (by rw [big_eq]; simp; omega)]
    rfl
  have hS : ∀ i ∈ e0.seen, i.natAbs ≤ 100 := fun i hi => abs_of (h0.s i hi) h2
  have hD : ∀ i ∈ e0.due, i.natAbs ≤ 100 := fun i hi => hS i (h0.d i hi)
  have cS := cp_row (Nat.le_trans h0.sl (by decide)) hS
  have cD := cp_row (Nat.le_trans h0.dl (by decide)) hD
  have cL : Cp (.int e0.loss) := cp_int (by have := h0.l0; have := h0.l1; omega)
  have hW := wordT_ok h0
  have hA3 : ∀ s : S, oAdd s (row e0.due) (.tup [.int many]) = some (row (e0.due ++ [many])) := fun s => by
    rw [oAdd_tup, if_pos (by rw [big_eq, List.length_map]; have := h0.dl; simp; omega)]
    simp
  have hA4 : ∀ s : S, oAdd s (.tup [row e0.seen, .int e0.loss, row e0.due, .str e0.w]) (.tup [.int 0]) = some (.tup [row e0.seen, .int e0.loss, row e0.due, .str e0.w, .int 0]) := fun s => rfl
  have hR9 : ∀ s : S, oRepT s (.tup [.int 0]) (.int 9) = some (row (List.replicate 9 0)) := fun s => rfl
  have hR8 : ∀ s : S, oRepT s (.tup [.int 0]) (.int 8) = some (row (List.replicate 8 0)) := fun s => rfl
  have hC3 : cut [row e0.seen, .int e0.loss, row e0.due, .str e0.w] none (some 3) = [row e0.seen, .int e0.loss, row e0.due] := rfl
  have hAdd : ∀ (s : S) (xs ys : List D), xs.length ≤ 30 → ys.length ≤ 30 → oAdd s (.lst xs) (.lst ys) = some (.lst (xs ++ ys)) := fun s xs ys a b => by
    rw [oAdd_lst, if_pos (by rw [big_eq]; omega)]
  rw [sSeq_To]
  infer_instance
  simp only [hMul, hA1, hA2, opt_some, bind_ok, To_ok]
  infer_instance
  rw [sSeq_To]
  infer_instance
  rw [eA]
  infer_instance
  rw [sSeq_To]
  infer_instance
  rw [sSeq_To]
  infer_instance
  rw [eA]
  infer_instance
  rw [hC3, hAdd _ _ _ (by simp) (by simp)]
  infer_instance
  rw [sSeq_To]
  infer_instance
  rw [hA3]
  infer_instance
  rw [hAdd _ _ _ (by simp) (by simp)]
  infer_instance
  rw [sSeq_To]
  infer_instance
  rw [eA]
  infer_instance
  rw [hA4]
  infer_instance
  rw [hAdd _ _ _ (by simp) (by simp)]
  infer_instance
  rw [sSeq_To]
  infer_instance
  rw [hR9]
  infer_instance
  rw [hAdd _ _ _ (by simp) (by simp)]
  infer_instance
  rw [sSeq_To]
  infer_instance
  rw [hR8]
  infer_instance
  rw [hAdd _ _ _ (by simp) (by simp)]
  infer_instance
  rw [sSeq_To]
  infer_instance
  refine R.To.mono (forL_To (I := fun ds l s' => ∃ (x9 y4 y5 y6 y7 y8 : Option Slot) (found : List D), (∀ d ∈ ds, NiceE d) ∧ (∀ x ∈ found, NiceX x) ∧ found.length + ds.length ≤ 40 ∧ ds.length ≤ 19 ∧ At (n + 19 - ds.length) s' m ∧ l = [some (.val (.ref m)), some (.val (.int many)), some (.val (.tup L)), some (.own (.lst found)), y4, y5, y6, y7, y8, x9]) (T := fun _ _ => False) ?h _ _ _ ⟨_, _, _, _, _, _, _, ?odds, ?found, by simp, by simp, a.le (by simp only [List.length_cons, List.length_nil]; omega), rfl⟩) ?_ fun _ _ z => z.elim
  case h =>
    rintro d ds l s' ⟨x9, y4, y5, y6, y7, y8, found, h3, h4, h5, h6, a', rfl⟩
    rw [List.length_cons] at h5 h6 a'
    refine ⟨_, rfl, ?_⟩
    infer_instance
    refine (draw_eq a' (by omega) (by omega) (by omega)).mono ?_
    rintro v s2 ⟨i, rfl, hi0, hi1, a2⟩
    infer_instance
    have ei : i = ((i.toNat : Nat) : Int) := by omega
    rw [ei, cut_take]
    have htl : (L.take i.toNat).length ≤ 4 := by rw [List.length_take]; omega
    rw [oAdd_tup, if_pos (by rw [big_eq]; simp; omega)]
    infer_instance
    rw [if_pos (by rw [big_eq]; omega)]
    infer_instance
    refine ⟨_, y4, y5, y6, y7, y8, found ++ [.tup (L.take i.toNat ++ [d])], fun x hx => h3 x (List.mem_cons_of_mem _ hx), fun x hx => ?_, by simp; omega, by omega, a2.le (by omega), by first | rfl | trivial⟩
    rcases List.mem_append.mp hx with hx | hx
    · exact h4 x hx
    · rw [List.mem_singleton.mp hx]
      refine niceT (fun e he => ?_) (by simp; omega)
      rcases List.mem_append.mp he with he | he
      · exact hE e (List.mem_of_mem_take he)
      · rw [List.mem_singleton.mp he]
        exact h3 d List.mem_cons_self
  case odds =>
    have cM : Cp (row [many]) := cp_row (by simp) fun i hi => by rw [List.mem_singleton.mp hi]; omega
    have c0 : Cp (row [0]) := cp_row (by simp) fun i hi => by rw [List.mem_singleton.mp hi]; decide
    have cE : Cp (row []) := cp_row (by simp) fun i hi => nomatch hi
    have c00 : Cp (row [0, 0]) := cp_row (by simp) fun i hi => by
      simp only [List.mem_cons, List.mem_nil_iff, or_false, or_self] at hi
      rw [hi]; decide
    have c9 : Cp (row (List.replicate 9 0)) := cp_row (by simp) fun i hi => by rw [(List.mem_replicate.mp hi).2]; decide
    have c8 : Cp (row (List.replicate 8 0)) := cp_row (by simp) fun i hi => by rw [(List.mem_replicate.mp hi).2]; decide
    have cR : Cp (.tup (e0.seen.map D.int).reverse) := by
      rw [← List.map_reverse]
      exact cp_row (by rw [List.length_reverse]; exact Nat.le_trans h0.sl (by decide)) fun i hi => hS i (List.mem_reverse.mp hi)
    have cDM : Cp (row (e0.due ++ [many])) := cp_row (by have := h0.dl; simp; omega) fun i hi => by
      rcases List.mem_append.mp hi with hi | hi
      · exact hD i hi
      · rw [List.mem_singleton.mp hi]; omega
    intro d hd
    simp only [List.mem_cons, List.mem_nil_iff, or_false] at hd
    rcases hd with rfl | rfl | rfl | rfl | rfl | rfl | rfl | rfl | rfl | rfl | rfl | rfl | rfl | rfl | rfl | rfl | rfl | rfl | rfl
    · exact nice4 (cp_lst (Nat.le_trans h0.sl (by decide)) hS) cL cD hW
    · exact nice4 cR cL cD hW
    · exact nice4 cS (cp_int (by decide)) cD hW
    · exact nice4 cS (cp_int (by decide)) cD hW
    · exact nice4 cS (cp_bl true) cD hW
    · exact nice4 cS cL (cp_lst (Nat.le_trans h0.dl (by decide)) hD) hW
    · exact nice3 cS cL cD
    · exact nice4 cS cL cD (.inr (.inr (.inr rfl)))
    · exact nice4 cS cL cDM hW
    · exact nice4 cS cL cD (.inl rfl)
    · exact nice5 cS cL cD hW
    · exact nice4 cS cp_non cD hW
    · exact nice4 cE cL c0 hW
    · exact nice4 cM cL cE hW
    · exact nice4 c00 cL cE hW
    · exact nice4 (cp_tbl true) cL cE hW
    · exact nice4 c0 cL c9 hW
    · exact nice4 c0 cL c8 hW
    · exact nice4 c0 cL (cp_tbl false) hW
  case found =>
    intro x hx
    simp only [List.mem_cons, List.mem_nil_iff, or_false] at hx
    rcases hx with rfl | rfl | rfl | rfl | rfl | rfl | rfl | rfl | rfl
    · exact niceT hE (by omega)
    · exact ⟨trivial, rfl, by decide, by decide⟩
    · exact niceT (fun _ z => nomatch z) (by simp)
    · exact niceL hE (by omega)
    · exact ⟨trivial, by decide +kernel, by decide, by decide +kernel⟩
    · exact niceT (fun e he => by rw [List.mem_singleton.mp he]; exact nice_flat (.inl rfl)) (by simp)
    · refine niceT (fun e he => ?_) (by simp; omega)
      rcases List.mem_append.mp he with he | he
      · exact hE e he
      · rw [List.mem_singleton.mp he]
        exact nice_flat (.inr (.inr rfl))
    · refine niceT (fun e he => hE e (mem9 he)) ?_
      rw [List.length_flatten]
      simp
      omega
    · refine niceT (fun e he => ?_) (by simp; omega)
      rcases List.mem_cons.mp he with rfl | he
      · exact nice_flat (.inr (.inl rfl))
      · exact hE e he
  rintro l s' ⟨x9, y4, y5, y6, y7, y8, found, h3, h4, h5, h6, a', rfl⟩
  and_intros
  exact ⟨found, rfl, h4, a'⟩
end
end K58
set_option linter.all false
set_option autoImplicit false
set_option maxRecDepth 10000
/-! K58m8: the law's own run. -/
namespace K58
open PySem Wd
local macro_rules | `(tactic| subst_vars) => `(tactic| try simp only [sSeq_ap, sIf_ap, sPass_ap, sAsg_ap, sRet_ap, sExpr_ap, sOwn_ap, sFrz_ap, sApp_ap, sDputR_ap, sPar2_ap, sPut_ap, sFor_ap, sRaise_ap, qB_ap, qAnd_ap, qOr_ap, qNot_ap, qT_ap, e1_ap, e2_ap, eN_ap, eV_ap, eW_ap, eC_ap, eNil_ap, eAll_nil, eAll_cons, eTup_ap, eLst_ap, eIf_ap, eAnd_ap, eOr_ap, eNot_ap, eChain_ap, eNo_ap, eAt_ap, eSl_ap, eCall_ap, eNew_ap, eCb_ap, eLam_ap, eLr_ap, iAny_ap, iRange1_ap, iEnum2_ap, iZipT_ap, eLc_ap, eDc2_ap, wipeE_nil, wipeE_cons, put_nm, put_tp, puts_nil, puts_cons, bind_ok, bind_exc, bind_bad, toR_ok, toR_exc, toR_bad, opt_some, opt_none, look_non, look_bl, look_int, look_str, look_tup, look_lst, look_dct, d_lst, d_dct, own_lst, own_dct, oAdd_int, oSub_int, oNeg_int, oLt_int, oLe_int, oGt_int, oGe_int, oIsN_ap, oNotN_ap, isNon_non, isNon_int, isNon_tup, oNotB_bl, oIsB_bl, oIx_tup, oIx_lst, oSl_tup, oSl_lst, oLen_tup, oLen_lst, oInt_int, oMin_int, oMax_int, oTupL_lst, oTupL_tup, oLstL_lst, oLstL_tup, oIsa_ap, oRevT_tup, oAllB_lst, oAnyB_lst, To_ok, To_bad, To_exc, To_bind, RTo_nx, RTo_rt, RTo_bad, RTo_ex, RTo_toR, List.map_cons, List.map_nil, List.length_cons, List.length_nil, List.cons_append, List.nil_append, Nat.zero_add, Nat.reduceAdd, Nat.reduceSub, List.replicate_succ, List.replicate_zero, List.getElem?_cons_zero, List.getElem?_cons_succ, List.set_cons_zero, List.set_cons_succ, if_true, if_false, Bool.false_eq_true, Bool.not_true, Bool.not_false, Option.map_some, Option.map_none])
local macro_rules | `(tactic| infer_instance) => `(tactic| try simp only [sIf_ap, sPass_ap, sAsg_ap, sRet_ap, sExpr_ap, sOwn_ap, sFrz_ap, sApp_ap, sDputR_ap, sPar2_ap, sPut_ap, sFor_ap, sRaise_ap, qB_ap, qAnd_ap, qOr_ap, qNot_ap, qT_ap, e1_ap, e2_ap, eN_ap, eV_ap, eW_ap, eC_ap, eNil_ap, eAll_nil, eAll_cons, eTup_ap, eLst_ap, eIf_ap, eAnd_ap, eOr_ap, eNot_ap, eChain_ap, eNo_ap, eAt_ap, eSl_ap, eCall_ap, eNew_ap, eCb_ap, eLam_ap, eLr_ap, iAny_ap, iRange1_ap, iEnum2_ap, iZipT_ap, eLc_ap, eDc2_ap, wipeE_nil, wipeE_cons, put_nm, put_tp, puts_nil, puts_cons, bind_ok, bind_exc, bind_bad, toR_ok, toR_exc, toR_bad, opt_some, opt_none, look_non, look_bl, look_int, look_str, look_tup, look_lst, look_dct, d_lst, d_dct, own_lst, own_dct, oAdd_int, oSub_int, oNeg_int, oLt_int, oLe_int, oGt_int, oGe_int, oIsN_ap, oNotN_ap, isNon_non, isNon_int, isNon_tup, oNotB_bl, oIsB_bl, oIx_tup, oIx_lst, oSl_tup, oSl_lst, oLen_tup, oLen_lst, oInt_int, oMin_int, oMax_int, oTupL_lst, oTupL_tup, oLstL_lst, oLstL_tup, oIsa_ap, oRevT_tup, oAllB_lst, oAnyB_lst, To_ok, To_bad, To_exc, To_bind, RTo_nx, RTo_rt, RTo_bad, RTo_ex, RTo_toR, List.map_cons, List.map_nil, List.length_cons, List.length_nil, List.cons_append, List.nil_append, Nat.zero_add, Nat.reduceAdd, Nat.reduceSub, List.replicate_succ, List.replicate_zero, List.getElem?_cons_zero, List.getElem?_cons_succ, List.set_cons_zero, List.set_cons_succ, if_true, if_false, Bool.false_eq_true, Bool.not_true, Bool.not_false, Option.map_some, Option.map_none])
local macro_rules | `(tactic| and_intros) => `(tactic| try simp only [sSeq_To, sIf_ap, sPass_ap, sAsg_ap, sRet_ap, sExpr_ap, sOwn_ap, sFrz_ap, sApp_ap, sDputR_ap, sPar2_ap, sPut_ap, sFor_ap, sRaise_ap, qB_ap, qAnd_ap, qOr_ap, qNot_ap, qT_ap, e1_ap, e2_ap, eN_ap, eV_ap, eW_ap, eC_ap, eNil_ap, eAll_nil, eAll_cons, eTup_ap, eLst_ap, eIf_ap, eAnd_ap, eOr_ap, eNot_ap, eChain_ap, eNo_ap, eAt_ap, eSl_ap, eCall_ap, eNew_ap, eCb_ap, eLam_ap, eLr_ap, iAny_ap, iRange1_ap, iEnum2_ap, iZipT_ap, eLc_ap, eDc2_ap, wipeE_nil, wipeE_cons, put_nm, put_tp, puts_nil, puts_cons, bind_ok, bind_exc, bind_bad, toR_ok, toR_exc, toR_bad, opt_some, opt_none, look_non, look_bl, look_int, look_str, look_tup, look_lst, look_dct, d_lst, d_dct, own_lst, own_dct, oAdd_int, oSub_int, oNeg_int, oLt_int, oLe_int, oGt_int, oGe_int, oIsN_ap, oNotN_ap, isNon_non, isNon_int, isNon_tup, oNotB_bl, oIsB_bl, oIx_tup, oIx_lst, oSl_tup, oSl_lst, oLen_tup, oLen_lst, oInt_int, oMin_int, oMax_int, oTupL_lst, oTupL_tup, oLstL_lst, oLstL_tup, oIsa_ap, oRevT_tup, oAllB_lst, oAnyB_lst, To_ok, To_bad, To_exc, To_bind, RTo_nx, RTo_rt, RTo_bad, RTo_ex, RTo_toR, List.map_cons, List.map_nil, List.length_cons, List.length_nil, List.cons_append, List.nil_append, Nat.zero_add, Nat.reduceAdd, Nat.reduceSub, List.replicate_succ, List.replicate_zero, List.getElem?_cons_zero, List.getElem?_cons_succ, List.set_cons_zero, List.set_cons_succ, if_true, if_false, Bool.false_eq_true, Bool.not_true, Bool.not_false, Option.map_some, Option.map_none])
section
variable {s : S} {m n : Nat} {many : Int}
theorem told_repr (s : S) (b : Bool) : ∃ z, oReprP s [.lst [.bl b, .bl b]] = some (.str z) := ⟨_, repr_ok (by cases b <;> decide) (by cases b <;> decide) (by cases b <;> decide)⟩
theorem shL_longer {seen due r more : List Int} {loss : Int} {k : Nat} (h : ∀ x ∈ more, x ∉ seen) : shL seen loss due (r.take k ++ more ++ r.drop k) = shL seen loss due r := by
  have e : (r.take k ++ more ++ r.drop k).filter (· ∈ seen) = r.filter (· ∈ seen) := by
    rw [List.filter_append, List.filter_append]
    have : more.filter (· ∈ seen) = [] := by
      rw [List.filter_eq_nil_iff]
      intro x hx
      simpa using h x hx
    rw [this, List.append_nil, ← List.filter_append, List.take_append_drop]
  unfold shL
  rw [e]
theorem one_show {es : List Ent} {e : Ent} {k : Nat} {r : List Int} {n : Nat} (a : At n s m) (hn : n < 1000000) (h1 : 1 ≤ many) (h2 : many ≤ 6) (h : ∀ e ∈ es, e.Ok many) (hl : es.length ≤ 4) (hk : es[k]? = some e) (hr : ∀ x ∈ r, 0 ≤ x ∧ x < many) (hrl : r.length ≤ 11) (rows : D) (x7 x8 x9 x10 x11 x12 x13 : Option Slot) :
    ((sSeq (sAsg 7 (eCall f__law_shows (eAll [(eV 5), (eV 6)]))) (sSeq (sAsg 8 (eLst (eAll [(eCall f_does_show (eAll [(eV 1), (eV 2), (eV 4), (eV 6)])), (eCall f_does_show (eAll [(eV 1), (eV 2), (eV 4), (eV 6)]))]))) (sSeq (sIf (qB (e2 oNeP (eN oReprP (eAll [(eV 8)])) (eN oReprP (eAll [(eLst (eAll [(eV 7), (eV 7)]))])))) (sRet (eC (.bl false))) sPass) (sSeq (sAsg 9 (eLc [10] (.nm 10) (iRange1 (eV 1)) (qB (e2 oNotIn (eV 10) (e2 oIx (eV 5) (eC (.int 0))))) (eV 10))) (sSeq (sAsg 11 (eCall f__law_draw (eAll [(eV 0), (e2 oAdd (eN oLen (eAll [(eV 6)])) (eC (.int 1)))]))) (sSeq (sAsg 12 (e2 oAdd (e2 oAdd (eSl (eV 6) eNo (eAt (eV 11))) (eN oTupL (eAll [(eSl (eV 9) eNo (eAt (eC (.int 1))))]))) (eSl (eV 6) (eAt (eV 11)) eNo))) (sSeq (sIf (qB (e2 oNeP (eCall f_does_show (eAll [(eV 1), (eV 2), (eV 4), (eV 12)])) (eV 7))) (sRet (eC (.bl false))) sPass) (sSeq (sAsg 13 (eTup (eAll [(e2 oIx (eV 5) (eC (.int 0))), (eC (.int 2)), (e2 oIx (eV 5) (eC (.int 2))), (e2 oIx (eV 5) (eC (.int 3)))]))) (sIf (qAnd (qB (eV 7)) (qB (e2 oNotB (eCall f_does_show (eAll [(eV 1), (eTup (eAll [(eV 13)])), (eC (.int 0)), (eV 6)])) (eC (.bl true))))) (sRet (eC (.bl false))) sPass))))))))) [some (.val (.ref m)), some (.val (.int many)), some (.val (.tup (es.map Ent.d))), some (.val rows), some (.val (.int (k : Int))), some (.val e.d), some (.val (row r)), x7, x8, x9, x10, x11, x12, x13] s).To
      (fun l' s' => At (n + 1) s' m ∧ ∃ y7 y8 y9 y10 y11 y12 y13, l' = [some (.val (.ref m)), some (.val (.int many)), some (.val (.tup (es.map Ent.d))), some (.val rows), some (.val (.int (k : Int))), some (.val e.d), some (.val (row r)), y7, y8, y9, y10, y11, y12, y13]) (fun _ _ => False) := by
  have he := h e (List.mem_of_getElem? hk)
  have sh : ∀ (r : List Int) (s : S), (∀ x ∈ r, 0 ≤ x ∧ x < many) → r.length ≤ 60 → f_does_show [.int many, .tup (es.map Ent.d), .int (k : Int), row r] s = .ok (.bl (shL e.seen e.loss e.due r)) s := fun r s a b => show_eq h1 h2 h (by omega) hk a b
  have sl := shows_eq (s := s) (seen := e.seen) (loss := e.loss) (due := e.due) (w := e.w) (r := r) (by omega) (Nat.le_trans he.dl (by decide))
  have ed : e.d = ent e.seen e.loss e.due e.w := rfl
  rw [← ed] at sl
  rw [sSeq_To]
  infer_instance
  rw [sl]
  infer_instance
  rw [sSeq_To]
  infer_instance
  rw [sh r s hr (by omega)]
  infer_instance
  rw [sh r s hr (by omega)]
  infer_instance
  generalize hb : shL e.seen e.loss e.due r = b
  rw [sSeq_To]
  infer_instance
  obtain ⟨z, hz⟩ := told_repr s b
  simp only [hz, opt_some, To_ok, neP_str, beq_self_eq_true, Bool.not_true]
  infer_instance
  rw [sSeq_To]
  infer_instance
  have hmr : many < 1000000 ∧ -1000000 < many := by omega
  rw [if_pos hmr]
  infer_instance
  have hmore : ∀ l1 : Wd.Env, l1.length = 14 → l1[5]? = some (some (.val e.d)) → lcL (.nm 10) (qB (e2 oNotIn (eV 10) (e2 oIx (eV 5) (eC (.int 0))))) (eV 10) (upto 0 many.toNat) l1 s = .ok ((((List.range many.toNat).map fun (i : Nat) => (i : Int)).filter fun x => decide (x ∉ e.seen)).map D.int) s := by
    intro l1 g1 g5
    have eu : upto 0 many.toNat = ((List.range many.toNat).map fun (i : Nat) => (i : Int)).map D.int := by
      rw [upto_eq, List.map_map]
      apply List.map_congr_left
      intro i _
      simp
    rw [eu, lcL_pure (fun d => match d with | .int x => decide (x ∉ e.seen) | _ => false) id]
    · simp [List.filter_map, Function.comp_def]
    · intro d hd
      obtain ⟨i, _, rfl⟩ := List.mem_map.mp hd
      have h8 : (l1.set 10 (some (.val (.int i))))[10]? = some (some (.val (.int i))) := by rw [List.getElem?_set_self (by omega)]
      have h2' : (l1.set 10 (some (.val (.int i))))[5]? = some (some (.val e.d)) := by rw [List.getElem?_set_ne (by decide)]; exact g5
      refine ⟨_, rfl, ?_, fun _ => ?_⟩
      · simp only [qB_ap, e2_ap, eV_ap, eC_ap, h8, h2', bind_ok, opt_some]
        rw [ed]
        unfold ent
        simp only [oIx_tup, at0, opt_some, bind_ok, notin_ints, decide_not]
      · simp only [eV_ap, h8]
        rfl
  rw [hmore _ rfl rfl]
  generalize hmo : (((List.range many.toNat).map fun (i : Nat) => (i : Int)).filter fun x => decide (x ∉ e.seen)) = more
  have hm1 : ∀ x ∈ more, x ∉ e.seen ∧ 0 ≤ x ∧ x < many := by
    intro x hx
    rw [← hmo] at hx
    obtain ⟨h3, h4⟩ := List.mem_filter.mp hx
    obtain ⟨i, h5, rfl⟩ := List.mem_map.mp h3
    have := List.mem_range.mp h5
    exact ⟨by simpa using h4, by omega, by omega⟩
  have hbig : (upto 0 many.toNat).length ≤ big := by
    rw [upto_eq, List.length_map, List.length_range, big_eq]
    omega
  infer_instance
  rw [if_pos hbig]
  infer_instance
  rw [sSeq_To]
  infer_instance
  refine (draw_eq a (by omega) (by omega) (by rw [List.length_map]; omega)).mono ?_
  rintro v s2 ⟨i, rfl, hi0, hi1, a2⟩
  infer_instance
  rw [sSeq_To]
  infer_instance
  have ei : i = ((i.toNat : Nat) : Int) := by omega
  have c1 := cut_take (more.map D.int) 1
  rw [show ((1 : Nat) : Int) = 1 from rfl] at c1
  rw [ei, cut_take, c1, cut_drop, ← List.map_take, ← List.map_take, ← List.map_drop]
  have hl1 : (r.take i.toNat).length ≤ 11 := by rw [List.length_take]; omega
  have hl2 : (more.take 1).length ≤ 1 := by rw [List.length_take]; omega
  have hl3 : (r.drop i.toNat).length ≤ 11 := by rw [List.length_drop]; omega
  rw [oAdd_tup, if_pos (by rw [List.length_map, List.length_map, big_eq]; omega), ← List.map_append]
  infer_instance
  rw [oAdd_tup, if_pos (by rw [List.length_map, List.length_map, List.length_append, big_eq]; omega), ← List.map_append]
  infer_instance
  have hlong : ∀ x ∈ r.take i.toNat ++ more.take 1 ++ r.drop i.toNat, 0 ≤ x ∧ x < many := by
    intro x hx
    rcases List.mem_append.mp hx with hx | hx
    · rcases List.mem_append.mp hx with hx | hx
      · exact hr x (List.mem_of_mem_take hx)
      · exact (hm1 x (List.mem_of_mem_take hx)).2
    · exact hr x (List.mem_of_mem_drop hx)
  rw [sSeq_To]
  infer_instance
  have sh2 := sh (r.take i.toNat ++ more.take 1 ++ r.drop i.toNat) s2 hlong (by rw [List.length_append, List.length_append]; omega)
  rw [shL_longer fun x hx => (hm1 x (List.mem_of_mem_take hx)).1, hb] at sh2
  rw [sh2]
  infer_instance
  simp only [neP_bl, opt_some, To_ok, beq_self_eq_true, Bool.not_true]
  infer_instance
  rw [sSeq_To]
  rw [ed]
  unfold ent
  infer_instance
  simp only [at0, at2, at3, opt_some, bind_ok]
  infer_instance
  cases b with
  | false =>
    infer_instance
    exact ⟨a2, _, _, _, _, _, _, _, by first | rfl | trivial⟩
  | true =>
    infer_instance
    have hw : ∀ x ∈ [Ent.mk e.seen 2 e.due e.w], x.Ok many := fun x hx => by
      rw [List.mem_singleton.mp hx]
      exact ⟨he.i, he.s, he.sl, by show (0 : Int) ≤ 2; decide, by show (2 : Int) ≤ 2; decide, he.d, he.dl, he.w⟩
    have sh3 := show_eq (s := s2) (k := 0) h1 h2 hw (by simp) rfl hr (by omega)
    rw [shL_mono (l1 := e.loss) (l2 := 2) he.l1 hb] at sh3
    have ew : [Ent.mk e.seen 2 e.due e.w].map Ent.d = [D.tup [row e.seen, .int 2, row e.due, .str e.w]] := rfl
    rw [ew] at sh3
    have sh3 : f_does_show [.int many, .tup [D.tup [row e.seen, .int 2, row e.due, .str e.w]], .int 0, row r] s2 = .ok (.bl true) s2 := sh3
    rw [sh3]
    infer_instance
    simp only [decide_true]
    infer_instance
    exact ⟨a2, _, _, _, _, _, _, _, by first | rfl | trivial⟩
theorem rows_right_To {es : List Ent} {rows : List (List Int)} (a : At n s m) (hn : n < 100000) (h1 : 1 ≤ many) (h2 : many ≤ 6) (h : ∀ e ∈ es, e.Ok many) (hl : es.length ≤ 4) (hr : ∀ r ∈ rows, (∀ x ∈ r, 0 ≤ x ∧ x < many) ∧ r.length ≤ 11) (hrl : rows.length ≤ 6) :
    (f__law_rows_right [.ref m, .int many, .tup (es.map Ent.d), .lst (rows.map row)] s).To fun v s' => v = .bl true ∧ At (n + 24) s' m := by
  unfold f__law_rows_right b__law_rows_right
  apply runB_To
  rw [sSeq_To]
  infer_instance
  refine R.To.mono (forL_To (I := fun ds l s' => ∃ (k : Nat) (rest : List Ent) (x4 x5 x6 x7 x8 x9 x10 x11 x12 x13 : Option Slot), ds = enumL (k : Int) (rest.map Ent.d) ∧ es.drop k = rest ∧ At (n + 24 - rest.length * 6) s' m ∧ rest.length ≤ 4 ∧ l = [some (.val (.ref m)), some (.val (.int many)), some (.val (.tup (es.map Ent.d))), some (.val (.lst (rows.map row))), x4, x5, x6, x7, x8, x9, x10, x11, x12, x13]) (T := fun _ _ => False) ?h _ _ _ ⟨0, es, _, _, _, _, _, _, _, _, _, _, rfl, rfl, a.le (by omega), hl, rfl⟩) ?_ fun _ _ z => z.elim
  case h =>
    rintro d ds l s' ⟨k, rest, x4, x5, x6, x7, x8, x9, x10, x11, x12, x13, hds, hrest, a', hrl4, rfl⟩
    cases rest with
    | nil => cases hds
    | cons e rest =>
      rw [List.map_cons, enumL] at hds
      injection hds with ha hb
      subst ha hb
      have hk : es[k]? = some e := by
        have : (es.drop k)[0]? = some e := by rw [hrest]; rfl
        rw [List.getElem?_drop] at this
        exact this
      have hrest2 : es.drop (k + 1) = rest := by
        rw [← List.drop_drop, hrest]
        rfl
      rw [List.length_cons] at a' hrl4
      refine ⟨_, rfl, ?_⟩
      infer_instance
      refine R.To.mono (forL_To (I := fun ds l s' => ∃ (rs : List (List Int)) (x6 x7 x8 x9 x10 x11 x12 x13 : Option Slot), ds = rs.map row ∧ (∀ r ∈ rs, r ∈ rows) ∧ At (n + 24 - rest.length * 6 - rs.length) s' m ∧ rs.length ≤ 6 ∧ l = [some (.val (.ref m)), some (.val (.int many)), some (.val (.tup (es.map Ent.d))), some (.val (.lst (rows.map row))), some (.val (.int (k : Int))), some (.val e.d), x6, x7, x8, x9, x10, x11, x12, x13]) (T := fun _ _ => False) ?h2 _ _ _ ⟨rows, _, _, _, _, _, _, _, _, rfl, fun _ z => z, a'.le (by omega), hrl, rfl⟩) ?_ fun _ _ z => z.elim
      case h2 =>
        rintro d ds l s' ⟨rs, x6, x7, x8, x9, x10, x11, x12, x13, hds, hrs, a2, hrl6, rfl⟩
        cases rs with
        | nil => cases hds
        | cons r rs =>
          injection hds with ha hb
          subst ha hb
          rw [List.length_cons] at a2 hrl6
          refine ⟨_, rfl, ?_⟩
          obtain ⟨g1, g2⟩ := hr r (hrs r List.mem_cons_self)
          refine R.To.mono (one_show a2 (by omega) h1 h2 h hl hk g1 g2 _ _ _ _ _ _ _ _) ?_ fun _ _ z => z
          rintro l s3 ⟨a3, y7, y8, y9, y10, y11, y12, y13, rfl⟩
          exact ⟨rs, _, y7, y8, y9, y10, y11, y12, y13, rfl, fun r hr' => hrs r (List.mem_cons_of_mem _ hr'), a3.le (by omega), by omega, rfl⟩
      rintro l s3 ⟨rs, x6, x7, x8, x9, x10, x11, x12, x13, hds, hrs, a2, hrl6, rfl⟩
      refine ⟨k + 1, rest, _, _, _, _, _, _, _, _, _, _, ?_, hrest2, a2.le (by omega), by omega, rfl⟩
      rw [show ((k + 1 : Nat) : Int) = (k : Int) + 1 by omega]
  rintro l s3 ⟨k, rest, x4, x5, x6, x7, x8, x9, x10, x11, x12, x13, hds, hrest, a', hrl4, rfl⟩
  infer_instance
  exact ⟨trivial, a'.le (by omega)⟩
theorem bad_lt {many : Int} : ∀ {xs : List D} {j : Nat}, firstBad many xs = some j → j < xs.length
  | [], _, h => by cases h
  | x :: xs, j, h => by
    unfold firstBad at h
    split at h
    · obtain ⟨i, hi, rfl⟩ := Option.map_eq_some_iff.mp h
      have := bad_lt hi
      rw [List.length_cons]
      omega
    · cases h
      simp
/-- what is heard -/
def hrd (many : Int) (x : D) : D := match partOf many x with
  | none => .lst [x]
  | some p => p
/-- .. may be shown -/
theorem heard_repr (s : S) {x : D} (h : NiceX x) : oReprP s [hrd many x] = some (.str (hrd many x).show) := by
  have form : oReprP s [D.str "form"] = some (.str (D.str "form").show) := repr_ok (by decide +kernel) (by decide) (by decide +kernel)
  have lone : oReprP s [D.lst [x]] = some (.str (D.lst [x]).show) := repr_ok (by simp [D.rok, D.roks, h.r]) (by have := h.dp; simp only [D.rdp, D.rdps]; omega) (by have := h.sz; simp only [D.rsz, D.rszs]; omega)
  unfold hrd
  cases x with
  | tup xs =>
    by_cases h8 : 8 < xs.length
    · have e : partOf many (.tup xs) = some (.str "form") := if_pos h8
      rw [e]
      exact form
    · have e : partOf many (.tup xs) = (firstBad many xs).map fun j => .int (j : Nat) := if_neg h8
      rw [e]
      cases q : firstBad many xs with
      | none => exact lone
      | some j =>
        have hj := bad_lt q
        have c := cp_int (i := (j : Int)) (by omega)
        exact repr_ok (x := .int (j : Int)) c.r (by have := c.dp; omega) (by have := c.sz; omega)
  | _ => exact form
theorem nice_repr (s : S) {x : D} (h : NiceX x) : oReprP s [x] = some (.str x.show) := repr_ok h.r (by have := h.dp; omega) (by have := h.sz; omega)
theorem kept_repr (s : S) {es : List Ent} {rows : List (List Int)} (h2 : many ≤ 6) (h : ∀ e ∈ es, e.Ok many) (hl : es.length ≤ 4) (hr : ∀ r ∈ rows, (∀ x ∈ r, 0 ≤ x ∧ x < many) ∧ r.length ≤ 10) (hrl : rows.length ≤ 4) : oReprP s [.lst [.tup (es.map Ent.d), .lst (rows.map row)]] = some (.str (D.lst [.tup (es.map Ent.d), .lst (rows.map row)]).show) := by
  have n1 : NiceX (.tup (es.map Ent.d)) := niceT (fun x hx => by
    obtain ⟨e, he, rfl⟩ := List.mem_map.mp hx
    exact ent_nice (h e he) h2) (by rw [List.length_map]; omega)
  have n2 : ∀ r ∈ rows, (row r).rok = true ∧ (row r).rdp ≤ 1 ∧ (row r).rsz ≤ 1500 := fun r hr' => by
    obtain ⟨g1, g2⟩ := hr r hr'
    have g3 : ∀ i ∈ r, i.natAbs ≤ 100 := fun i hi => abs_of (g1 i hi) h2
    refine ⟨by unfold D.rok; exact roks_ints g3, by unfold D.rdp; rw [rdps_ints]; exact Nat.le_refl _, ?_⟩
    have := rszs_ints g3
    unfold D.rsz
    omega
  have n3 : (D.lst (rows.map row)).rok = true := by
    unfold D.rok
    rw [roks_iff]
    intro x hx
    obtain ⟨r, hr', rfl⟩ := List.mem_map.mp hx
    exact (n2 r hr').1
  have n4 : (D.lst (rows.map row)).rdp ≤ 2 := by
    have := rdps_le (B := 1) (xs := rows.map row) fun x hx => by
      obtain ⟨r, hr', rfl⟩ := List.mem_map.mp hx
      exact (n2 r hr').2.1
    unfold D.rdp
    omega
  have n5 : (D.lst (rows.map row)).rsz ≤ 6100 := by
    have := rszs_le (B := 1500) (xs := rows.map row) fun x hx => by
      obtain ⟨r, hr', rfl⟩ := List.mem_map.mp hx
      exact (n2 r hr').2.2
    rw [List.length_map] at this
    have h3 : rows.length * (1500 + 2) ≤ 4 * 1502 := Nat.mul_le_mul_right _ hrl
    unfold D.rsz
    omega
  refine repr_ok ?_ ?_ ?_
  · simp only [D.rok, D.roks] at n1 n3 ⊢
    have h3 := n1.r
    simp only [D.rok] at h3
    rw [h3, n3]
    rfl
  · have := n1.dp
    simp only [D.rdp, D.rdps] at this n4 ⊢
    omega
  · have := n1.sz
    simp only [D.rsz, D.rszs] at this n5 ⊢
    omega
theorem right_To (a : At n s m) (hn : n < 1000) : (f__law_right [.ref m] s).To fun v s' => v = .bl true := by
  unfold f__law_right b__law_right
  apply runB_To
  rw [sSeq_To]
  infer_instance
  refine (draw_eq a (by omega) (by decide) (by decide)).mono ?_
  rintro v s1 ⟨i, rfl, hi0, hi1, a1⟩
  infer_instance
  generalize hm : (1 : Int) + i = many
  have h1 : 1 ≤ many := by omega
  have h2 : many ≤ 6 := by omega
  rw [sSeq_To]
  infer_instance
  rw [if_pos (by decide)]
  infer_instance
  refine Res.To.mono (lcL_To2 (J := fun rest acc s' => ∃ (j : Int) (k : Nat) (rows : List (List Int)), rest = upto j k ∧ acc = rows.map row ∧ (∀ r ∈ rows, (∀ x ∈ r, 0 ≤ x ∧ x < many) ∧ r.length ≤ 10) ∧ rows.length + k = 4 ∧ At (n + 1 + rows.length * 11) s' m) (upto 0 (Int.toNat 4)) [] s1 ?h ⟨0, 4, [], rfl, rfl, (fun _ z => nomatch z), rfl, a1⟩) ?_
  case h =>
    rintro d rest acc s' ⟨j, k, rows, hrest, rfl, h3, h4, a'⟩
    cases k with
    | zero => cases hrest
    | succ k =>
      rw [upto_succ] at hrest
      injection hrest with ha hb
      subst ha hb
      refine ⟨_, rfl, ?_⟩
      infer_instance
      refine (row_To a' (by omega) (by omega) h2).mono ?_
      rintro v s2 ⟨r, rfl, g1, g2, a2⟩
      refine ⟨j + 1, k, rows ++ [r], by first | rfl | trivial, by simp, fun x hx => ?_, by simp; omega, a2.le (by simp; omega)⟩
      rcases List.mem_append.mp hx with hx | hx
      · exact h3 x hx
      · rw [List.mem_singleton.mp hx]
        exact ⟨g1, g2⟩
  rintro v s2 ⟨j, k, rows, hrest, hacc, hrows, hk4, a2⟩
  have hk : k = 0 := by
    cases k with
    | zero => rfl
    | succ k => rw [upto_succ] at hrest; cases hrest
  subst hk
  rw [List.nil_append] at hacc
  subst hacc
  have hrl : rows.length = 4 := by omega
  rw [if_pos (by decide)]
  infer_instance
  rw [sSeq_To]
  infer_instance
  rw [sSeq_To]
  infer_instance
  refine (draw_eq a2 (by omega) (by decide) (by decide)).mono ?_
  rintro v s3 ⟨c, rfl, hc0, hc1, a3⟩
  infer_instance
  rw [if_pos (by omega)]
  infer_instance
  refine R.To.mono (forL_To (I := fun ds l s' => ∃ (j : Int) (k : Nat) (es : List Ent) (x3 x5 : Option Slot), ds = upto j k ∧ es.length + k = (1 + c).toNat ∧ (∀ e ∈ es, e.Ok many) ∧ At (n + 60 + es.length * 30) s' m ∧ l = [some (.val (.ref m)), some (.val (.int many)), some (.val (.lst (rows.map row))), x3, some (.val (.tup (es.map Ent.d))), x5, none, none, none, none]) (T := fun _ _ => False) ?h2 (upto 0 (1 + c).toNat) _ _ ⟨0, (1 + c).toNat, [], _, _, rfl, by simp, (fun _ z => nomatch z), a3.le (by simp; omega), rfl⟩) ?_ fun _ _ z => z.elim
  case h2 =>
    rintro d ds l s' ⟨j, k, es, x3, x5, hrest, hlen, hes, a', rfl⟩
    cases k with
    | zero => cases hrest
    | succ k =>
      rw [upto_succ] at hrest
      injection hrest with ha hb
      subst ha hb
      refine ⟨_, rfl, ?_⟩
      rw [sSeq_To]
      infer_instance
      refine (of_To (xs := rows.map row) a' (by omega) (by intro z; have := congrArg List.length z; rw [List.length_map, hrl] at this; cases this) (by rw [List.length_map]; omega) (.inl rfl)).mono ?_
      rintro v s4 ⟨hv, a4⟩
      obtain ⟨r, hr, rfl⟩ := List.mem_map.mp hv
      infer_instance
      refine (entry_To a4 (by omega) (by omega) h2 (hrows r hr).2).mono ?_
      rintro v s5 ⟨e, rfl, he, a5⟩
      infer_instance
      rw [oAdd_tup, if_pos (by rw [List.length_map, big_eq]; simp; omega)]
      infer_instance
      refine ⟨j + 1, k, es ++ [e], _, _, by first | rfl | trivial, by simp; omega, fun x hx => ?_, a5.le (by simp; omega), by rw [List.map_append]; rfl⟩
      rcases List.mem_append.mp hx with hx | hx
      · exact hes x hx
      · rw [List.mem_singleton.mp hx]
        exact he
  rintro l s4 ⟨j, k, es, x3, x5, hrest, hlen, hes, a4, rfl⟩
  have hk : k = 0 := by
    cases k with
    | zero => rfl
    | succ k => rw [upto_succ] at hrest; cases hrest
  subst hk
  have hel : es.length ≤ 4 := by omega
  have hel0 : 0 < es.length := by omega
  have hz := fun s : S => kept_repr (many := many) s h2 hes hel hrows (by omega)
  generalize (D.lst [.tup (es.map Ent.d), .lst (rows.map row)]).show = z at hz
  obtain ⟨e0, es', rfl⟩ : ∃ e0 es', es = e0 :: es' := by
    cases es with
    | nil => simp at hel0
    | cons e0 es' => exact ⟨e0, es', rfl⟩
  have h0 := hes e0 List.mem_cons_self
  have eA : atL ((e0 :: es').map Ent.d) 0 = some (.tup [row e0.seen, .int e0.loss, row e0.due, .str e0.w]) := by
    unfold atL ixI
    rw [if_pos (by decide), if_pos (by rw [List.length_map, List.length_cons]; omega)]
    rfl
  have hrows2 : ∀ s : S, oAdd s (.lst (rows.map row)) (.lst [row e0.due, .tup []]) = some (.lst ((rows ++ [e0.due, []]).map row)) := fun s => by
    rw [oAdd_lst, if_pos (by rw [List.length_map, big_eq]; simp; omega), List.map_append]
    rfl
  rw [sSeq_To]
  simp only [sAsg_ap, eN_ap, eAll_cons, eAll_nil, eLst_ap, eV_ap, List.getElem?_cons_zero, List.getElem?_cons_succ, bind_ok, hz, opt_some, RTo_toR, To_ok, RTo_nx, List.set_cons_zero, List.set_cons_succ]
  rw [sSeq_To]
  simp only [sIf_ap, qNot_ap, qB_ap, eCall_ap, eAll_cons, eAll_nil, eLst_ap, eTup_ap, e2_ap, eV_ap, eC_ap, List.getElem?_cons_zero, List.getElem?_cons_succ, bind_ok, oIx_tup, eA, at2, opt_some, hrows2, RTo_toR, To_bind]
  refine (rows_right_To a4 (by omega) h1 h2 hes hel (rows := rows ++ [e0.due, []]) (fun r hr => ?_) (by simp; omega)).mono ?_
  · rcases List.mem_append.mp hr with hr | hr
    · exact ⟨(hrows r hr).1, by have := (hrows r hr).2; omega⟩
    · simp only [List.mem_cons, List.mem_nil_iff, or_false] at hr
      rcases hr with rfl | rfl
      · exact ⟨fun x hx => h0.s x (h0.d x hx), by have := h0.dl; omega⟩
      · exact ⟨(fun x hx => nomatch hx), by simp⟩
  rintro v s5 ⟨rfl, a5⟩
  infer_instance
  rw [sSeq_To]
  infer_instance
  refine (odds_To a5 (by omega) h1 h2 hes (by rw [List.length_cons] at hel; omega)).mono ?_
  rintro v s6 ⟨xs, rfl, hxs, a6⟩
  infer_instance
  refine R.To.mono (forL_To (I := fun ds l s' => (∀ x ∈ ds, NiceX x) ∧ ∃ (x7 x8 x9 : Option Slot), l = [some (.val (.ref m)), some (.val (.int many)), some (.val (.lst (rows.map row))), x3, some (.val (.tup ((e0 :: es').map Ent.d))), x5, some (.val (.str z)), x7, x8, x9]) (T := fun _ _ => False) ?h3 xs _ _ ⟨hxs, _, _, _, rfl⟩) ?_ fun _ _ z => z.elim
  case h3 =>
    rintro d ds l s' ⟨hds, x7, x8, x9, rfl⟩
    have hd := hds d List.mem_cons_self
    refine ⟨_, rfl, ?_⟩
    have e1 := nice_repr s' hd
    have e2 := due_eq (s := s') (many := many) hd.t
    have e3 := heard_eq (s := s') h1 h2 hd.t
    have e4 := heard_repr (many := many) s' hd
    have e2 : f__law_due [.int many, d] s' = .ok (hrd many d) s' := e2
    have e3 : f__law_heard (fun s' => f_need_log [.int many, d] s') s' = .ok (hrd many d) s' := e3
    rw [sSeq_To]
    infer_instance
    rw [e1]
    infer_instance
    rw [e2]
    infer_instance
    rw [e3]
    infer_instance
    rw [e4]
    infer_instance
    rw [e4]
    infer_instance
    simp only [neP_str, opt_some, bind_ok, To_ok, beq_self_eq_true, Bool.not_true]
    infer_instance
    rw [e1]
    simp only [neP_str, opt_some, bind_ok, To_ok, beq_self_eq_true, Bool.not_true]
    infer_instance
    exact ⟨fun x hx => hds x (List.mem_cons_of_mem _ hx), _, _, _, by first | rfl | trivial⟩
  rintro l s7 ⟨_, x7, x8, x9, rfl⟩
  infer_instance
  have hz7 := hz s7
  simp only [List.map_cons] at hz7
  rw [hz7]
  infer_instance
  rw [eqP_str]
  simp
theorem law_true : ∀ ns : List Int, ns.length ≤ 63 → (∀ z ∈ ns, Builtin.Int.intBits z ≤ 1048576) → ∃ s', f_law [.lst (ns.map D.int)] [] = .ok (.bl true) s' := by
  intro ns hl _
  have key : (f_law [.lst (ns.map D.int)] []).To fun v _ => v = .bl true := by
    unfold f_law b_law
    have hh := hand_right
    generalize f__law_hand_right = hr at hh ⊢
    apply runB_To
    rw [sSeq_To]
    infer_instance
    have hmin : (if (4 : Int) < ((ns.map D.int).length : Int) then (4 : Int) else ((ns.map D.int).length : Int)) ≤ 4 ∧ 0 ≤ (if (4 : Int) < ((ns.map D.int).length : Int) then (4 : Int) else ((ns.map D.int).length : Int)) := by
      split <;> omega
    generalize hq : (if (4 : Int) < ((ns.map D.int).length : Int) then (4 : Int) else ((ns.map D.int).length : Int)) = q at hmin
    rw [if_pos (by omega)]
    infer_instance
    refine R.To.mono (forL_To (I := fun ds l s' => ∃ (j k : Nat) (x1 : Option Slot), ds = upto (j : Int) k ∧ j + k ≤ 5 ∧ l = [some (.val (.lst (ns.map D.int))), x1]) (T := fun _ _ => False) ?h _ _ _ ⟨0, (1 + q).toNat, _, rfl, by omega, rfl⟩) ?_ fun _ _ z => z.elim
    case h =>
      rintro d ds l s' ⟨j, k, x1, hds, hjk, rfl⟩
      cases k with
      | zero => cases hds
      | succ k =>
        rw [upto_succ] at hds
        injection hds with ha hb
        subst ha hb
        refine ⟨_, rfl, ?_⟩
        infer_instance
        refine (show (f__law_begun [.lst (ns.map D.int), .int (j : Int)] s').To _ from (begun_To hl (by omega)).mono ?_)
        rintro v s2 ⟨rfl, a⟩
        infer_instance
        refine (right_To a (by omega)).mono ?_
        rintro v s3 rfl
        infer_instance
        exact ⟨j + 1, k, _, by rw [show ((j + 1 : Nat) : Int) = (j : Int) + 1 by omega], by omega, by first | rfl | trivial⟩
    rintro l s7 ⟨j, k, x1, hds, hjk, rfl⟩
    first | exact To_of (hh s7) rfl | (infer_instance; exact To_of (hh s7) rfl)
  obtain ⟨v, s', e, rfl⟩ := key.ex
  exact ⟨s', e⟩
end
end K58
theorem PySem.Challenge.cw_worksward_k58_whole_entries_shown_holds : PySem.Challenge.rw_worksward_k58_whole_entries_shown.Holds := by
  exact K58.holds K58.law_true
