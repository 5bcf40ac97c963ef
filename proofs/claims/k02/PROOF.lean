import PyProof.Rows.All
import Wide.All
import OpenK.AllK
import Wide.FinOn
import KE.KStateDown
import HandS.ForMost
import HandS.Flow
import HandS.IsInst
import HandS.Wide
import HandS.TupAny
import HandS.TupMul
import HandS.More
import HandS.Conv
import HandS.Zip
import HandS.OwnEq
import HandS.DictEq
import HandS.DeepEq
import HandS.Deep
import PyProof.StrOps2
import HandS.RaiseMore
import PyProof.Rows.SortShellAny
import HandS.RaiseOp
import HandS.StrMore
import HandS.SetFor
import KE.KDictCopyH
import HandS.TupLe
import KE.KDictZip
import HandS.RevRange
import HandS.Rev
import HandS.MapObj
import HandS.SortKw
import HandS.Strs
import HandS.Style
import HandS.Codes
import HandS.Head0
import HandS.Head1
import HandS.Head2
import HandS.HeadEnd
import HandS.HeadHook1
import HandS.HeadHook2
import HandS.HeadHook3
import PySem.Challenge.RW_leastforge_k02_size_and_depth
set_option linter.all false
namespace MP
/-- values: kls is a list that is only read (the script) -/
inductive D where
  | non | bl (b : Bool) | int (i : Int) | str (x : List Char) | tup (xs : List D) | kls (xs : List D) | ref (n : Nat)
deriving Inhabited, Repr
/-- keys of dicts -/
inductive Kk where
  | i (n : Int) | s (x : List Char)
deriving DecidableEq, Repr
/-- what stands in the store: a list, a dict, a dict that is walked, an instance -/
inductive O where
  | lst (xs : List D) | dct (kvs : List (Kk × D)) | fdc (kvs : List (Kk × D)) | ins (c : Nat) (fs : List (Nat × D))
deriving Inhabited, Repr
abbrev Sto := List O
abbrev Fr := List (Option D)
/-- answers: a value; an exception of the class c; none -/
inductive R (α : Type) where
  | ok (a : α) | ex (c : Nat) (st : Sto) | no
def R.bind {α β : Type} (x : R α) (f : α → R β) : R β := match x with
  | .ok a => f a
  | .ex c st => .ex c st
  | .no => .no
abbrev RD := R (D × Sto)
def R.of {α : Type} : Option α → R α
  | some a => .ok a
  | none => .no
@[simp] theorem R.bind_ok {α β : Type} (a : α) (f : α → R β) : (R.ok a).bind f = f a := rfl
@[simp] theorem R.bind_no {α β : Type} (f : α → R β) : (R.no : R α).bind f = .no := rfl
@[simp] theorem R.bind_ex {α β : Type} (c : Nat) (st : Sto) (f : α → R β) : (R.ex c st : R α).bind f = .ex c st := rfl
@[simp] theorem R.of_some {α : Type} (a : α) : R.of (some a) = .ok a := rfl
@[simp] theorem R.of_none {α : Type} : R.of (none : Option α) = .no := rfl
/-- the largest length of a list or text -/
def SZ : Nat := 1000000
/-- the most turns of a while -/
def WF : Nat := 1000000
inductive Op where
  | add | sub | mul | mod | fdiv | modN | fdivN | pow | eq | ne | lt | le | gt | ge | mem | nmem | eqt | net
deriving DecidableEq, Repr
/-- what isinstance asks -/
inductive Ty where
  | int | bool | str | tuple | list | dict | cls (c : Nat)
deriving DecidableEq, Repr
/-- built-in functions by values -/
inductive Bi where
  | len | int | str | tuple | list | max2 | min2 | abs | ord | sum | maxl | minl | any | all | sorted | dict | lenset
deriving DecidableEq, Repr
/-- methods of built-in types -/
inductive Bm where
  | append | pop | popAt | extend | clear | reverse | remove | partition | split | join | get | keys | values | items | find | startswith | update
deriving DecidableEq, Repr
mutual
inductive E where
  | v (i : Nat)
  | c (d : D)
  | op (o : Op) (a b : E)
  | neg (a : E)
  | not (a : E)
  | and (a b : E)
  | or (a b : E)
  | ife (c a b : E)
  | chain (o o' : Op) (a b c : E)
  | isN (a : E)
  | notN (a : E)
  | isB (a : E) (neg b : Bool)
  | tup (es : Es)
  | lst (es : Es)
  | dic (kvs : Es)
  | call (f : Nat) (es : Es) (ds : List D)
  | make (c f : Nat) (es : Es) (ds : List D)
  | meth (m : Nat) (o : E) (es : Es)
  | fld (o : E) (f : Nat)
  | ix (a b : E)
  | sl (a : E) (lo hi : Eo)
  | bi (b : Bi) (es : Es)
  | isi (a : E) (t : Ty)
  | bm (m : Bm) (o : E) (es : Es)
  | lc (tg : Tg) (it : It) (ifs : Es) (elt : E) (own : List Nat)
  | kix (kvs : List (List Char × D)) (k : E)
  | kget (kvs : List (List Char × D)) (k d : E)
  | kmem (kvs : List (List Char × D)) (neg : Bool) (k : E)
  | tzip (a b : E)
  | maxd (a : E) (d : Int)
  | rvs (a : E)
  | pick (fs : List Nat) (k : E) (es : Es)
  | lens (a : E)
  | isc (a : E) (c : Nat)
inductive Es where
  | nil | cons (e : E) (r : Es)
inductive Eo where
  | no | so (e : E)
/-- targets of names -/
inductive Tg where
  | v (i : Nat) | tup (ts : Tgs)
inductive Tgs where
  | nil | cons (t : Tg) (r : Tgs)
/-- what a for walks -/
inductive It where
  | any (e : E) | range1 (e : E) | range2 (a b : E) | enum (e : E) | zip (a b : E) | items (e : E) | values (e : E) | rev (e : E) | revr (e : E) | ezip (a b : E)
end
mutual
inductive S where
  | set (t : Tg) (e : E)
  | par (i j : Nat) (a b : E)
  | setu (ts : Tgs) (e : E)
  | setix (o i e : E)
  | setfld (o : E) (f : Nat) (e : E)
  | augfld (o : E) (f : Nat) (e : E)
  | ex (e : E)
  | ret (e : E)
  | retn
  | ife (c : E) (a b : Ss)
  | forr (t : Tg) (it : It) (b : Ss)
  | whl (c : E) (b : Ss)
  | pass
  | raise (c : Nat)
  | nev
inductive Ss where
  | nil | cons (s : S) (r : Ss)
end
/-- a def: how many parameters, how many names, the body -/
structure FD where
  np : Nat
  nn : Nat
  body : Ss
/-- the program: its defs; mth c m: the def of a class's method, with the defaults of its last parameters -/
structure Prog where
  fns : List FD
  mth : List (List (Nat × Nat × List D))
  bases : List (List Nat)
def truthF (st : Sto) : D → Option Bool
  | .non => some false
  | .bl b => some b
  | .int i => some (i != 0)
  | .str x => if x.length ≤ SZ then some (!x.isEmpty) else none
  | .tup xs => some (!xs.isEmpty)
  | .kls xs => some (!xs.isEmpty)
  | .ref n => match st[n]? with
    | some (.lst xs) => some (!xs.isEmpty)
    | some (.dct kvs) => some (!kvs.isEmpty)
    | _ => none
/-- trees of data for == -/
inductive T where
  | non | bl (b : Bool) | int (i : Int) | str (x : List Char) | lst (xs : List T) | tup (xs : List T)
deriving Inhabited, Repr
mutual
def T.eqv : T → T → Bool
  | .non, .non => true
  | .bl a, .bl b => a == b
  | .bl a, .int j => (if a then 1 else 0) == j
  | .int i, .bl b => i == (if b then 1 else 0)
  | .int i, .int j => i == j
  | .str x, .str y => x == y
  | .lst xs, .lst ys => T.eqvs xs ys
  | .tup xs, .tup ys => T.eqvs xs ys
  | _, _ => false
def T.eqvs : List T → List T → Bool
  | [], [] => true
  | x :: xs, y :: ys => T.eqv x y && T.eqvs xs ys
  | _, _ => false
end
mutual
def treeF (st : Sto) : Nat → D → Option T
  | _, .non => some .non
  | _, .bl b => some (.bl b)
  | _, .int i => some (.int i)
  | _, .str x => some (.str x)
  | 0, _ => none
  | n + 1, .tup xs => (treesF st n xs).map .tup
  | n + 1, .kls xs => (treesF st n xs).map .lst
  | n + 1, .ref r => match st[r]? with
    | some (.lst xs) => (treesF st n xs).map .lst
    | _ => none
def treesF (st : Sto) : Nat → List D → Option (List T)
  | _, [] => some []
  | n, x :: xs => match treeF st n x, treesF st n xs with
    | some t, some ts => some (t :: ts)
    | _, _ => none
end
def eqT (st : Sto) (x y : D) : Option Bool :=
  match treeF st 60 x, treeF st 60 y with
  | some a, some b => some (T.eqv a b)
  | _, _ => none
def idxF (n : Nat) (i : Int) : Option Nat := if 0 ≤ i then (if i < n then some i.toNat else none) else if -(n : Int) ≤ i then some (i + n).toNat else none
def atF {α : Type} (xs : List α) (i : Int) : Option α := (idxF xs.length i).bind fun j => xs[j]?
def slIx (n d : Nat) : Option Int → Nat
  | none => d
  | some v => if v < 0 then (v + (n : Int)).toNat else min v.toNat n
def cutF {α : Type} (xs : List α) (lo hi : Option Int) : List α := (xs.drop (slIx xs.length 0 lo)).take (slIx xs.length xs.length hi - slIx xs.length 0 lo)
/-- the items of a list or tuple -/
def seqF (st : Sto) : D → Option (List D)
  | .tup xs => some xs
  | .kls xs => some xs
  | .ref n => match st[n]? with
    | some (.lst xs) => some xs
    | _ => none
  | _ => none
def keyF : D → Option Kk
  | .int i => some (.i i)
  | .str x => some (.s x)
  | _ => none
def keyD : Kk → D
  | .i n => .int n
  | .s x => .str x
def getK (kvs : List (Kk × D)) (k : Kk) : Option D := (kvs.find? fun kv => decide (kv.1 = k)).map (·.2)
def putK (kvs : List (Kk × D)) (k : Kk) (v : D) : List (Kk × D) :=
  if (kvs.any fun kv => decide (kv.1 = k)) = true then kvs.map (fun kv => if kv.1 = k then (kv.1, v) else kv) else kvs ++ [(k, v)]
/-- a dict's pairs put into another -/
def mrgK (kvs ws : List (Kk × D)) : List (Kk × D) := ws.foldl (fun acc kv => putK acc kv.1 kv.2) kvs
def dropK (kvs : List (Kk × D)) (k : Kk) : List (Kk × D) := kvs.filter fun kv => decide (kv.1 ≠ k)
/-- the pairs of one dict found in another, alike or not -/
def eqKs (st : Sto) (kb : List (Kk × D)) : List (Kk × D) → Option Bool
  | [] => some true
  | (k, v) :: r => match getK kb k with
    | none => some false
    | some y => match eqT st v y, eqKs st kb r with
      | some a, some b => some (a && b)
      | _, _ => none
def eqD (st : Sto) (x y : D) : Option Bool := match x, y with
  | .ref n, .ref m => match st[n]?, st[m]? with
    | some (.dct a), some (.dct b) => if a.length = b.length then eqKs st b a else some false
    | _, _ => none
  | _, _ => none
def eqF (st : Sto) (x y : D) : Option Bool := match eqT st x y with
  | some b => some b
  | none => eqD st x y
/-- dicts, or other things, in a row, pair by pair alike -/
def eqDs (st : Sto) : List D → List D → Bool
  | [], [] => true
  | x :: xs, y :: ys => decide (eqF st x y = some true) && eqDs st xs ys
  | _, _ => false
/-- == of tuples of dicts that are alike; else as == -/
def eqG (st : Sto) (x y : D) : Option Bool := match eqF st x y with
  | some b => some b
  | none => match x, y with
    | .tup xs, .tup ys => if eqDs st xs ys = true then some true else none
    | _, _ => none
/-- keys and values in turn -/
def pairF : List D → Option (List (Kk × D))
  | [] => some []
  | k :: d :: r => match keyF k, pairF r with
    | some k, some l => some ((k, d) :: l)
    | _, _ => none
  | _ => none
def dictF (st : Sto) (n : Nat) : Option (List (Kk × D)) := match st[n]? with
  | some (.dct kvs) => some kvs
  | some (.fdc kvs) => some kvs
  | _ => none
/-- the items of a list -/
def listF (st : Sto) : D → Option (List D)
  | .kls xs => some xs
  | .ref n => match st[n]? with
    | some (.lst xs) => some xs
    | _ => none
  | _ => none
def flatF : D → Bool
  | .non => true
  | .bl _ => true
  | .int _ => true
  | .str _ => true
  | _ => false
/-- == of flat things -/
def eqS : D → D → Bool
  | .non, .non => true
  | .bl a, .bl b => a == b
  | .bl a, .int b => (if a then 1 else 0) == b
  | .int a, .bl b => a == (if b then 1 else 0)
  | .int a, .int b => a == b
  | .str a, .str b => a == b
  | _, _ => false
def memF (st : Sto) (x y : D) : Option Bool := match y with
  | .str b => match x with
    | .str [c] => some (decide (c ∈ b))
    | _ => none
  | .ref n => match dictF st n with
    | some kvs => (keyF x).map fun k => (getK kvs k).isSome
    | none => memL st x y
  | _ => memL st x y
where memL (st : Sto) (x y : D) : Option Bool := match y with
  | .tup xs => if flatF x && xs.all flatF then some (xs.any fun z => eqS z x) else (match treeF st 50 x, treesF st 50 xs with
      | some t, some ts => some (ts.any fun z => T.eqv z t)
      | _, _ => none)
  | _ => match listF st y with
    | some xs => if flatF x && xs.all flatF then some (xs.any fun z => eqS z x) else (match treeF st 50 x, treesF st 50 xs with
      | some t, some ts => some (ts.any fun z => T.eqv z t)
      | _, _ => none)
    | none => none
def cmpS : List Char → List Char → Bool
  | _, [] => false
  | [], _ :: _ => true
  | a :: x, b :: y => if a.toNat < b.toNat then true else if a.toNat = b.toNat then cmpS x y else false
def newF (st : Sto) (o : O) : RD := .ok (.ref st.length, st ++ [o])
def opF (o : Op) (x y : D) (st : Sto) : RD := match o with
  | .add => match x, y with
    | .int i, .int j => .ok (.int (i + j), st)
    | .str a, .str b => if a.length + b.length ≤ SZ then .ok (.str (a ++ b), st) else .no
    | .tup a, .tup b => if a.length + b.length ≤ SZ then .ok (.tup (a ++ b), st) else .no
    | .ref a, .ref b => match st[a]?, st[b]? with
      | some (.lst xs), some (.lst ys) => if xs.length + ys.length ≤ SZ then newF st (.lst (xs ++ ys)) else .no
      | _, _ => .no
    | _, _ => .no
  | .sub => match x, y with
    | .int i, .int j => .ok (.int (i - j), st)
    | _, _ => .no
  | .mul => match x, y with
    | .int i, .int j => if i.natAbs.log2 + j.natAbs.log2 < 1000000 then .ok (.int (i * j), st) else .no
    | .str a, .int j => if 0 ≤ j ∧ j ≤ 100000 ∧ a.length * j.toNat ≤ SZ then .ok (.str (List.replicate j.toNat a).flatten, st) else .no
    | .tup a, .int j => if a ≠ [] ∧ 2 ≤ j ∧ j ≤ 1000 ∧ a.length ≤ 1000 then .ok (.tup (List.replicate j.toNat a).flatten, st) else .no
    | .ref a, .int j => match st[a]? with
      | some (.lst xs) => if 0 ≤ j ∧ j ≤ 100000 ∧ xs.length * j.toNat ≤ SZ then newF st (.lst (List.replicate j.toNat xs).flatten) else .no
      | _ => .no
    | _, _ => .no
  | .mod => match x, y with
    | .int i, .int j => if 0 < j then .ok (.int (i % j), st) else .no
    | _, _ => .no
  | .fdiv => match x, y with
    | .int i, .int j => if 0 < j ∧ j.natAbs.log2 < 9000 then .ok (.int (i / j), st) else .no
    | _, _ => .no
  | .modN => match x, y with
    | .int i, .int j => if j ≠ 0 then .ok (.int (i.fmod j), st) else .no
    | _, _ => .no
  | .fdivN => match x, y with
    | .int i, .int j => if j ≠ 0 ∧ j.natAbs.log2 < 9000 then .ok (.int (i.fdiv j), st) else .no
    | _, _ => .no
  | .pow => match x, y with
    | .int i, .int j => if 0 ≤ j ∧ j ≤ 1000000 ∧ i.natAbs < 2 ^ 64 then .ok (.int (i ^ j.toNat), st) else .no
    | _, _ => .no
  | .eq => (R.of (eqF st x y)).bind fun b => .ok (.bl b, st)
  | .ne => (R.of (eqF st x y)).bind fun b => .ok (.bl (!b), st)
  | .lt => match x, y with
    | .int i, .int j => .ok (.bl (decide (i < j)), st)
    | .str a, .str b => .ok (.bl (cmpS a b), st)
    | _, _ => .no
  | .le => match x, y with
    | .int i, .int j => .ok (.bl (decide (i ≤ j)), st)
    | .str a, .str b => .ok (.bl (!cmpS b a), st)
    | _, _ => .no
  | .gt => match x, y with
    | .int i, .int j => .ok (.bl (decide (j < i)), st)
    | .str a, .str b => .ok (.bl (cmpS b a), st)
    | _, _ => .no
  | .ge => match x, y with
    | .int i, .int j => .ok (.bl (decide (j ≤ i)), st)
    | .str a, .str b => .ok (.bl (!cmpS a b), st)
    | _, _ => .no
  | .mem => (R.of (memF st x y)).bind fun b => .ok (.bl b, st)
  | .nmem => (R.of (memF st x y)).bind fun b => .ok (.bl (!b), st)
  | .eqt => (R.of (eqG st x y)).bind fun b => .ok (.bl b, st)
  | .net => (R.of (eqG st x y)).bind fun b => .ok (.bl (!b), st)
def fldN : List (Nat × D) → Nat → Option D
  | [], _ => none
  | (g, d) :: r, f => if g = f then some d else fldN r f
def putN (f : Nat) (d : D) : List (Nat × D) → List (Nat × D)
  | [] => [(f, d)]
  | (g, e) :: r => if g = f then (g, d) :: r else (g, e) :: putN f d r
def fldF (st : Sto) (o : D) (f : Nat) : Option D := match o with
  | .ref n => match st[n]? with
    | some (.ins _ fs) => fldN fs f
    | _ => none
  | _ => none
def setFldF (st : Sto) (o : D) (f : Nat) (d : D) : Option Sto := match o with
  | .ref n => match st[n]? with
    | some (.ins c fs) => if fs.length < 500 then some (st.set n (.ins c (putN f d fs))) else none
    | _ => none
  | _ => none
def ixF (st : Sto) (x y : D) : Option D := match x with
  | .str a => match y with
    | .int i => if a.length ≤ SZ then (atF a i).map fun c => .str [c] else none
    | _ => none
  | .tup xs => match y with
    | .int i => atF xs i
    | _ => none
  | .kls xs => match y with
    | .int i => atF xs i
    | _ => none
  | .ref n => match st[n]? with
    | some (.lst xs) => match y with
      | .int i => atF xs i
      | _ => none
    | some (.dct kvs) => (keyF y).bind (getK kvs)
    | some (.fdc kvs) => (keyF y).bind (getK kvs)
    | _ => none
  | _ => none
def setIxF (st : Sto) (x y d : D) : Option Sto := match x with
  | .ref n => match st[n]? with
    | some (.lst xs) => match y with
      | .int i => (idxF xs.length i).map fun j => st.set n (.lst (xs.set j d))
      | _ => none
    | some (.dct kvs) => match keyF y with
      | some k => if kvs.length < SZ then some (st.set n (.dct (putK kvs k d))) else none
      | none => none
    | _ => none
  | _ => none
/-- x[::-1] -/
def revF (st : Sto) (x : D) : RD := match x with
  | .str a => if a.length ≤ SZ then .ok (.str a.reverse, st) else .no
  | .kls xs => newF st (.lst xs.reverse)
  | .ref n => match st[n]? with
    | some (.lst xs) => newF st (.lst xs.reverse)
    | _ => .no
  | _ => .no
/-- how many unlike texts -/
def dedS : List (List Char) → List (List Char)
  | [] => []
  | x :: r => if x ∈ r then dedS r else x :: dedS r
def slF (st : Sto) (x : D) (lo hi : Option Int) : RD := match x with
  | .str a => if a.length ≤ SZ then .ok (.str (cutF a lo hi), st) else .no
  | .tup xs => .ok (.tup (cutF xs lo hi), st)
  | .kls xs => newF st (.lst (cutF xs lo hi))
  | .ref n => match st[n]? with
    | some (.lst xs) => newF st (.lst (cutF xs lo hi))
    | _ => .no
  | _ => .no
def isiF (P : Prog) (st : Sto) (x : D) (t : Ty) : Option Bool := match x with
  | .non => match t with | .cls _ => none | _ => some false
  | .bl _ => match t with | .cls _ => none | .int => some true | .bool => some true | _ => some false
  | .int _ => match t with | .cls _ => none | .int => some true | _ => some false
  | .str _ => match t with | .cls _ => none | .str => some true | _ => some false
  | .tup _ => match t with | .cls _ => none | .tuple => some true | _ => some false
  | .kls _ => match t with | .cls _ => none | .list => some true | _ => some false
  | .ref n => match st[n]? with
    | some (.lst _) => (match t with | .cls _ => none | .list => some true | _ => some false)
    | some (.dct _) => (match t with | .cls _ => none | .dict => some true | _ => some false)
    | _ => none
def partF (c : Char) : List Char → Option (List Char × List Char)
  | [] => none
  | x :: r => if x = c then some ([], r) else (partF c r).map fun p => (x :: p.1, p.2)
def splitF (c : Char) : List Char → List (List Char)
  | [] => [[]]
  | x :: r => if x = c then [] :: splitF c r else match splitF c r with
    | [] => [[x]]
    | y :: ys => (x :: y) :: ys
def joinF (s : List Char) : List (List Char) → List Char
  | [] => []
  | [x] => x
  | x :: y :: r => x ++ s ++ joinF s (y :: r)
def strsF : List D → Option (List (List Char))
  | [] => some []
  | .str x :: r => (strsF r).map (x :: ·)
  | _ => none
def intsF : List D → Option (List Int)
  | [] => some []
  | .int x :: r => (intsF r).map (x :: ·)
  | _ => none
def blsF : List D → Option (List Bool)
  | [] => some []
  | .bl x :: r => (blsF r).map (x :: ·)
  | _ => none
def digF (n : Nat) : List Char := Nat.toDigits 10 n
def showI : Int → List Char
  | .ofNat n => digF n
  | .negSucc n => '-' :: digF (n + 1)
/-- a text of figures as a number -/
def isDig (c : Char) : Bool := decide (48 ≤ c.toNat) && decide (c.toNat ≤ 57)
def valF (cs : List Char) : Nat := cs.foldl (fun n c => n * 10 + (c.toNat - 48)) 0
def intF : List Char → Option Int
  | [] => none
  | c :: r => if c = '-' then (if (r.all isDig && !r.isEmpty) = true then some (-(valF r : Int)) else none) else if (c :: r).all isDig = true then some (valF (c :: r)) else none
/-- where the sign c stands first from k on -/
def findF (c : Char) : Nat → List Char → Int
  | _, [] => -1
  | k, x :: r => if x = c then k else findF c (k + 1) r
def insS (x : List Char) : List (List Char) → List (List Char)
  | [] => [x]
  | y :: r => if cmpS y x then y :: insS x r else x :: y :: r
def sortS : List (List Char) → List (List Char)
  | [] => []
  | x :: r => insS x (sortS r)
def maxI : List Int → Option Int
  | [] => none
  | x :: r => some (r.foldl (fun a b => if b > a then b else a) x)
def minI : List Int → Option Int
  | [] => none
  | x :: r => some (r.foldl (fun a b => if b < a then b else a) x)
def biF (b : Bi) (xs : List D) (st : Sto) : RD := match b, xs with
  | .len, [x] => match x with
    | .str a => if a.length ≤ SZ then .ok (.int a.length, st) else .no
    | .ref n => match st[n]? with
      | some (.lst ys) => .ok (.int ys.length, st)
      | some (.dct kvs) => .ok (.int kvs.length, st)
      | _ => .no
    | .tup ys => .ok (.int ys.length, st)
    | .kls ys => .ok (.int ys.length, st)
    | _ => .no
  | .int, [x] => match x with
    | .int i => .ok (.int i, st)
    | .bl k => .ok (.int (if k then 1 else 0), st)
    | .str a => if a.length ≤ 640 then (match intF a with
      | some n => .ok (.int n, st)
      | none => .no) else .no
    | _ => .no
  | .str, [x] => match x with
    | .int i => if i.natAbs.log2 < 1900 then .ok (.str (showI i), st) else .no
    | .str a => .ok (.str a, st)
    | _ => .no
  | .tuple, [x] => match seqF st x with
    | some ys => .ok (.tup ys, st)
    | none => .no
  | .list, [x] => match seqF st x with
    | some ys => newF st (.lst ys)
    | none => match x with
      | .ref n => match dictF st n with
        | some kvs => newF st (.lst (kvs.map fun kv => keyD kv.1))
        | none => .no
      | _ => .no
  | .max2, [.int i, .int j] => .ok (.int (if j > i then j else i), st)
  | .min2, [.int i, .int j] => .ok (.int (if j < i then j else i), st)
  | .abs, [.int i] => .ok (.int (if i < 0 then -i else i), st)
  | .ord, [.str [c]] => .ok (.int c.toNat, st)
  | .sum, [x] => match (listF st x).bind intsF with
    | some ns => .ok (.int ns.sum, st)
    | none => .no
  | .maxl, [x] => match ((listF st x).bind intsF).bind maxI with
    | some m => .ok (.int m, st)
    | none => .no
  | .minl, [x] => match ((listF st x).bind intsF).bind minI with
    | some m => .ok (.int m, st)
    | none => .no
  | .any, [x] => match (listF st x).bind blsF with
    | some bs => .ok (.bl (bs.any id), st)
    | none => .no
  | .all, [x] => match (listF st x).bind blsF with
    | some bs => .ok (.bl (bs.all id), st)
    | none => .no
  | .sorted, [x] => match x with
    | .ref n => match dictF st n with
      | some kvs => match strsF (kvs.map fun kv => keyD kv.1) with
        | some ss => if ss.length ≤ 100000 then newF st (.lst ((sortS ss).map .str)) else .no
        | none => .no
      | none => match (listF st x).bind strsF with
        | some ss => if ss.length ≤ 100000 then newF st (.lst ((sortS ss).map .str)) else .no
        | none => .no
    | _ => .no
  | .dict, [x] => match x with
    | .ref n => match dictF st n with
      | some kvs => newF st (.dct kvs)
      | none => .no
    | _ => .no
  | _, _ => .no
/-- kinds of things that have methods of their own -/
inductive Kd where
  | s | l | d
deriving DecidableEq, Repr
def kindF (st : Sto) : D → Option Kd
  | .str _ => some .s
  | .ref n => match st[n]? with
    | some (.lst _) => some .l
    | some (.dct _) => some .d
    | some (.fdc _) => some .d
    | _ => none
  | _ => none
def lstF (st : Sto) (n : Nat) : Option (List D) := match st[n]? with
  | some (.lst xs) => some xs
  | _ => none
def dctF (st : Sto) (n : Nat) : Option (List (Kk × D)) := match st[n]? with
  | some (.dct xs) => some xs
  | _ => none
/-- a list's methods -/
def lmF (m : Bm) (n : Nat) (ys : List D) (xs : List D) (st : Sto) : RD := match m, xs with
  | .append, [d] => if ys.length < SZ then .ok (.non, st.set n (.lst (ys ++ [d]))) else .no
  | .pop, [] => match ys[ys.length - 1]? with
    | some d => .ok (d, st.set n (.lst ys.dropLast))
    | none => .no
  | .pop, [.int i] => if i = 0 then (match ys with
    | d :: r => .ok (d, st.set n (.lst r))
    | [] => .no) else .no
  | .extend, [.ref k] => match lstF st k with
    | some zs => if ys.length + zs.length ≤ SZ then .ok (.non, st.set n (.lst (ys ++ zs))) else .no
    | none => .no
  | .clear, [] => .ok (.non, st.set n (.lst []))
  | .reverse, [] => .ok (.non, st.set n (.lst ys.reverse))
  | .remove, [.str x] => match strsF ys with
    | some ss => if x ∈ ss then .ok (.non, st.set n (.lst ((ss.erase x).map .str))) else .no
    | none => .no
  | _, _ => .no
/-- a dict's methods -/
def dmF (m : Bm) (n : Nat) (xs : List D) (st : Sto) : RD := match m, xs with
  | .get, [k] => match dictF st n, keyF k with
    | some kvs, some k => .ok ((getK kvs k).getD .non, st)
    | _, _ => .no
  | .get, [k, d] => match dictF st n, keyF k with
    | some kvs, some k => .ok ((getK kvs k).getD d, st)
    | _, _ => .no
  | .pop, [k] => match dctF st n, keyF k with
    | some kvs, some k => (match getK kvs k with
      | some d => .ok (d, st.set n (.dct (dropK kvs k)))
      | none => .no)
    | _, _ => .no
  | .pop, [k, d] => match dctF st n, keyF k with
    | some kvs, some k => (match getK kvs k with
      | some e => .ok (e, st.set n (.dct (dropK kvs k)))
      | none => .ok (d, st))
    | _, _ => .no
  | .clear, [] => match dctF st n with
    | some _ => .ok (.non, st.set n (.dct []))
    | none => .no
  | .update, [.ref k] => match dctF st n, dctF st k with
    | some kvs, some ws => if n ≠ k ∧ kvs.length + ws.length ≤ SZ then .ok (.non, st.set n (.dct (mrgK kvs ws))) else .no
    | _, _ => .no
  | _, _ => .no
/-- a text's methods -/
def headIs (c : Char) : List Char → Bool
  | x :: _ => decide (x = c)
  | [] => false
def smF (m : Bm) (a : List Char) (xs : List D) (st : Sto) : RD := match m, xs with
  | .partition, [.str [c]] => if a.length ≤ SZ then (match partF c a with
      | some p => .ok (.tup [.str p.1, .str [c], .str p.2], st)
      | none => .ok (.tup [.str a, .str [], .str []], st)) else .no
  | .split, [.str [c]] => if a.length + 2 ≤ SZ ∧ c.toNat < 256 then newF st (.lst ((splitF c a).map .str)) else .no
  | .join, [x] => match (seqF st x).bind strsF with
    | some ys => if (ys.map (·.length)).sum + ys.length * a.length ≤ SZ then .ok (.str (joinF a ys), st) else .no
    | none => .no
  | .startswith, [.str [c]] => .ok (.bl (headIs c a), st)
  | .find, [.str [c]] => if a.length ≤ SZ then .ok (.int (findF c 0 a), st) else .no
  | .find, [.str [c], .int i] => if a.length ≤ SZ ∧ 0 ≤ i then .ok (.int (findF c i.toNat (a.drop i.toNat)), st) else .no
  | _, _ => .no
def bmF (k : Kd) (m : Bm) (o : D) (xs : List D) (st : Sto) : RD := match k, o with
  | .s, .str a => smF m a xs st
  | .l, .ref n => match lstF st n with
    | some ys => lmF m n ys xs st
    | none => .no
  | .d, .ref n => dmF m n xs st
  | _, _ => .no
def getKk (kvs : List (List Char × D)) (k : List Char) : Option D := (kvs.find? fun kv => decide (kv.1 = k)).map (·.2)
structure Wk where
  ds : List D
  ok : Sto → Bool
mutual
def D.beq : D → D → Bool
  | .non, .non => true
  | .bl a, .bl b => a == b
  | .int i, .int j => i == j
  | .str x, .str y => x == y
  | .tup xs, .tup ys => D.beqs xs ys
  | .kls xs, .kls ys => D.beqs xs ys
  | .ref n, .ref m => n == m
  | _, _ => false
def D.beqs : List D → List D → Bool
  | [], [] => true
  | x :: xs, y :: ys => D.beq x y && D.beqs xs ys
  | _, _ => false
end
def stands (n : Nat) (xs : List D) (st : Sto) : Bool := match st[n]? with
  | some (.lst ys) => D.beqs xs ys
  | _ => false
def standsD (x : D) (xs : List D) (st : Sto) : Bool := match x with
  | .ref n => stands n xs st
  | _ => true
def rangeF (lo : Int) (n : Nat) : List D := (List.range n).map fun (k : Nat) => D.int (lo + k)
def enumF : Nat → List D → List D
  | _, [] => []
  | k, x :: r => .tup [.int k, x] :: enumF (k + 1) r
def zipF : List D → List D → List D
  | x :: xs, y :: ys => .tup [x, y] :: zipF xs ys
  | _, _ => []
def signsF (x : List Char) : List D := x.map fun c => .str [c]
mutual
def tgF : Tg → D → Fr → Option Fr
  | .v i, d, fr => some (fr.set i (some d))
  | .tup ts, d, fr => match d with
    | .tup ds => tgsF ts ds fr
    | _ => none
def tgsF : Tgs → List D → Fr → Option Fr
  | .nil, [], fr => some fr
  | .cons t r, d :: ds, fr => match tgF t d fr with
    | some fr => tgsF r ds fr
    | none => none
  | _, _, _ => none
end
/-- a list's items set to names -/
def tglF (ts : Tgs) (d : D) (st : Sto) (fr : Fr) : Option Fr := match d with
  | .ref n => match st[n]? with
    | some (.lst ds) => tgsF ts ds fr
    | _ => none
  | _ => none
def wipeF (fr : Fr) : List Nat → Fr
  | [] => fr
  | v :: vs => (wipeF fr vs).set v none
abbrev Cf := Nat → List D → Sto → RD
section
variable (P : Prog) (cf mf : Cf)
def findM (c m : Nat) : Option (Nat × List D) := match P.mth[c]? with
  | some ms => (ms.find? fun p => p.1 == m).map (·.2)
  | none => none
/-- the defaults that fill up -/
def dflF (f : Nat) (ds : List D) (n : Nat) : List D := match P.fns[f]? with
  | some fd => ds.drop (ds.length - (fd.np - n))
  | none => []
def clsF (st : Sto) (o : D) : Option Nat := match o with
  | .ref n => match st[n]? with
    | some (.ins c _) => some c
    | _ => none
  | _ => none
/-- a name, a field of a name, .. : what evaluates to the same while a dict is locked -/
def pathE : E → Bool
  | .v _ => true
  | .fld e _ => pathE e
  | _ => false
/-- turns of a comprehension -/
def lcF (ok : Sto → Bool) (turn : D → Sto → R (Option D × Sto)) : List D → List D → Sto → R (List D × Sto)
  | [], acc, st => if ok st then .ok (acc, st) else .no
  | d :: ds, acc, st => if ok st then (turn d st).bind fun p => match p.1 with
      | some y => if acc.length < SZ then lcF ok turn ds (acc ++ [y]) p.2 else .no
      | none => lcF ok turn ds acc p.2
    else .no
mutual
def evE : E → Fr → Sto → RD
  | .v i, fr, st => match fr[i]? with
    | some (some d) => .ok (d, st)
    | _ => .no
  | .c d, _, st => .ok (d, st)
  | .op o a b, fr, st => (evE a fr st).bind fun p => (evE b fr p.2).bind fun q => opF o p.1 q.1 q.2
  | .neg a, fr, st => (evE a fr st).bind fun p => match p.1 with
    | .int i => .ok (.int (-i), p.2)
    | _ => .no
  | .not a, fr, st => (evE a fr st).bind fun p => match truthF p.2 p.1 with
    | some b => .ok (.bl (!b), p.2)
    | none => .no
  | .and a b, fr, st => (evE a fr st).bind fun p => match truthF p.2 p.1 with
    | some true => evE b fr p.2
    | some false => .ok p
    | none => .no
  | .or a b, fr, st => (evE a fr st).bind fun p => match truthF p.2 p.1 with
    | some true => .ok p
    | some false => evE b fr p.2
    | none => .no
  | .ife c a b, fr, st => (evE c fr st).bind fun p => match truthF p.2 p.1 with
    | some true => evE a fr p.2
    | some false => evE b fr p.2
    | none => .no
  | .chain o o' a b c, fr, st => (evE a fr st).bind fun p => (evE b fr p.2).bind fun q => (opF o p.1 q.1 q.2).bind fun r => match r.1 with
    | .bl true => (evE c fr r.2).bind fun s => opF o' q.1 s.1 s.2
    | .bl false => .ok r
    | _ => .no
  | .isN a, fr, st => (evE a fr st).bind fun p => .ok (.bl (match p.1 with | .non => true | _ => false), p.2)
  | .notN a, fr, st => (evE a fr st).bind fun p => .ok (.bl (match p.1 with | .non => false | _ => true), p.2)
  | .isB a neg b, fr, st => (evE a fr st).bind fun p => match p.1 with
    | .bl c => .ok (.bl (if neg then !(decide (c = b)) else decide (c = b)), p.2)
    | _ => .no
  | .tup es, fr, st => (evEs es fr st).bind fun p => if p.1.length ≤ SZ then .ok (.tup p.1, p.2) else .no
  | .lst es, fr, st => (evEs es fr st).bind fun p => if p.1.length ≤ SZ then newF p.2 (.lst p.1) else .no
  | .dic es, fr, st => (evEs es fr st).bind fun p => match pairF p.1 with
    | some kvs => if kvs.length ≤ 15 then newF p.2 (.dct (kvs.foldl (fun acc kv => putK acc kv.1 kv.2) [])) else .no
    | none => .no
  | .call f es ds, fr, st => (evEs es fr st).bind fun p => cf f (p.1 ++ ds) p.2
  | .make c f es ds, fr, st => (evEs es fr st).bind fun p => (mf f (.ref p.2.length :: (p.1 ++ ds)) (p.2 ++ [.ins c []])).bind fun q => match q.1 with
    | .non => .ok (.ref p.2.length, q.2)
    | _ => .no
  | .meth m o es, fr, st => (evE o fr st).bind fun p => match clsF p.2 p.1 with
    | some c => match findM P c m with
      | some fd => (evEs es fr p.2).bind fun q => cf fd.1 (p.1 :: (q.1 ++ dflF P fd.1 fd.2 (q.1.length + 1))) q.2
      | none => .no
    | none => .no
  | .fld o f, fr, st => (evE o fr st).bind fun p => (R.of (fldF p.2 p.1 f)).bind fun d => .ok (d, p.2)
  | .ix a b, fr, st => (evE a fr st).bind fun p => (evE b fr p.2).bind fun q => (R.of (ixF q.2 p.1 q.1)).bind fun d => .ok (d, q.2)
  | .sl a lo hi, fr, st => (evE a fr st).bind fun p => (evEo lo fr p.2).bind fun q => (evEo hi fr q.2).bind fun r => slF r.2 p.1 q.1 r.1
  | .bi b es, fr, st => (evEs es fr st).bind fun p => biF b p.1 p.2
  | .isi a t, fr, st => (evE a fr st).bind fun p => (R.of (isiF P p.2 p.1 t)).bind fun b => .ok (.bl b, p.2)
  | .bm m o es, fr, st => (evE o fr st).bind fun p => match kindF p.2 p.1 with
    | some k => (evEs es fr p.2).bind fun q => bmF k m p.1 q.1 q.2
    | none => .no
  | .lc tg it ifs elt own, fr, st => (evIt it fr st).bind fun w =>
      (lcF w.1.ok (fun d st => match tgF tg d (wipeF fr own) with
        | some fr2 => (evIfs ifs fr2 st).bind fun p => if p.1 then (evE elt fr2 p.2).bind fun q => .ok (some q.1, q.2) else .ok (none, p.2)
        | none => .no) w.1.ds [] w.2.1).bind fun q => newF (w.2.2 q.2) (.lst q.1)
  | .kix kvs k, fr, st => (evE k fr st).bind fun p => match p.1 with
    | .str x => (R.of (getKk kvs x)).bind fun d => .ok (d, p.2)
    | _ => .no
  | .kget kvs k d, fr, st => (evE k fr st).bind fun p => (evE d fr p.2).bind fun q => match p.1 with
    | .str x => .ok ((getKk kvs x).getD q.1, q.2)
    | _ => .no
  | .kmem kvs neg k, fr, st => (evE k fr st).bind fun p => match p.1 with
    | .str x => .ok (.bl (if neg then !(getKk kvs x).isSome else (getKk kvs x).isSome), p.2)
    | _ => .no
  | .tzip a b, fr, st => (evE a fr st).bind fun p => (evE b fr p.2).bind fun q => match listF q.2 p.1, listF q.2 q.1 with
    | some xs, some ys => .ok (.tup (zipF xs ys), q.2)
    | _, _ => .no
  | .maxd a d, fr, st => (evE a fr st).bind fun p => match (listF p.2 p.1).bind intsF with
    | some ns => .ok (.int ((maxI ns).getD d), p.2)
    | none => .no
  | .rvs a, fr, st => (evE a fr st).bind fun p => revF p.2 p.1
  | .pick fs k es, fr, st => (evE k fr st).bind fun p => match p.1 with
    | .int i => match atF fs i with
      | some f => (evEs es fr p.2).bind fun q => cf f q.1 q.2
      | none => .no
    | _ => .no
  | .lens a, fr, st => (evE a fr st).bind fun p => match (seqF p.2 p.1).bind strsF with
    | some ss => if ss.length ≤ 4000 then .ok (.int (dedS ss).length, p.2) else .no
    | none => .no
  | .isc a c, fr, st => (evE a fr st).bind fun p => if clsF p.2 p.1 = some c then .ok (.bl true, p.2) else .no
def evEs : Es → Fr → Sto → R (List D × Sto)
  | .nil, _, st => .ok ([], st)
  | .cons e r, fr, st => (evE e fr st).bind fun p => (evEs r fr p.2).bind fun q => .ok (p.1 :: q.1, q.2)
def evEo : Eo → Fr → Sto → R (Option Int × Sto)
  | .no, _, st => .ok (none, st)
  | .so e, fr, st => (evE e fr st).bind fun p => match p.1 with
    | .int i => .ok (some i, p.2)
    | _ => .no
def evIfs : Es → Fr → Sto → R (Bool × Sto)
  | .nil, _, st => .ok (true, st)
  | .cons e r, fr, st => (evE e fr st).bind fun p => match truthF p.2 p.1 with
    | some true => evIfs r fr p.2
    | some false => .ok (false, p.2)
    | none => .no
/-- what is walked; the store while it is walked; what is done to the store behind -/
def evIt : It → Fr → Sto → R (Wk × Sto × (Sto → Sto))
  | .any e, fr, st => (evE e fr st).bind fun p => match p.1 with
    | .tup ds => .ok (⟨ds, fun _ => true⟩, p.2, id)
    | .kls ds => .ok (⟨ds, fun _ => true⟩, p.2, id)
    | .str x => .ok (⟨signsF x, fun _ => true⟩, p.2, id)
    | .ref n => match p.2[n]? with
      | some (.lst ds) => .ok (⟨ds, stands n ds⟩, p.2, id)
      | some (.dct kvs) => if pathE e then .ok (⟨kvs.map fun kv => keyD kv.1, fun _ => true⟩, p.2.set n (.fdc kvs), fun st => st.set n (.dct kvs)) else .no
      | _ => .no
    | _ => .no
  | .range1 e, fr, st => (evE e fr st).bind fun p => match p.1 with
    | .int j => if -(2 ^ 62) ≤ j ∧ j < 2 ^ 62 then .ok (⟨rangeF 0 j.toNat, fun _ => true⟩, p.2, id) else .no
    | _ => .no
  | .range2 a b, fr, st => (evE a fr st).bind fun p => (evE b fr p.2).bind fun q => match p.1, q.1 with
    | .int i, .int j => if -(2 ^ 62) ≤ i ∧ i < 2 ^ 62 ∧ -(2 ^ 62) ≤ j ∧ j < 2 ^ 62 then .ok (⟨rangeF i (j - i).toNat, fun _ => true⟩, q.2, id) else .no
    | _, _ => .no
  | .enum e, fr, st => (evE e fr st).bind fun p => match p.1 with
    | .kls ds => .ok (⟨enumF 0 ds, fun _ => true⟩, p.2, id)
    | .ref n => match p.2[n]? with
      | some (.lst ds) => .ok (⟨enumF 0 ds, stands n ds⟩, p.2, id)
      | _ => .no
    | _ => .no
  | .zip a b, fr, st => (evE a fr st).bind fun p => (evE b fr p.2).bind fun q => match listF q.2 p.1, listF q.2 q.1 with
    | some xs, some ys => .ok (⟨zipF xs ys, fun s => standsD p.1 xs s && standsD q.1 ys s⟩, q.2, id)
    | _, _ => match p.1, q.1 with
      | .tup xs, .tup ys => .ok (⟨zipF xs ys, fun _ => true⟩, q.2, id)
      | _, _ => .no
  | .items e, fr, st => (evE e fr st).bind fun p => match p.1 with
    | .ref n => match p.2[n]? with
      | some (.dct kvs) => if pathE e then .ok (⟨kvs.map fun kv => .tup [keyD kv.1, kv.2], fun _ => true⟩, p.2.set n (.fdc kvs), fun st => st.set n (.dct kvs)) else .no
      | _ => .no
    | _ => .no
  | .values e, fr, st => (evE e fr st).bind fun p => match p.1 with
    | .ref n => match p.2[n]? with
      | some (.dct kvs) => if pathE e then .ok (⟨kvs.map fun kv => kv.2, fun _ => true⟩, p.2.set n (.fdc kvs), fun st => st.set n (.dct kvs)) else .no
      | _ => .no
    | _ => .no
  | .rev e, fr, st => (evE e fr st).bind fun p => match p.1 with
    | .ref n => match p.2[n]? with
      | some (.lst ds) => .ok (⟨ds.reverse, stands n ds⟩, p.2, id)
      | _ => .no
    | _ => .no
  | .ezip a b, fr, st => (evE a fr st).bind fun p => (evE b fr p.2).bind fun q => match listF q.2 p.1, listF q.2 q.1 with
    | some xs, some ys => .ok (⟨enumF 0 (zipF xs ys), fun s => standsD p.1 xs s && standsD q.1 ys s⟩, q.2, id)
    | _, _ => .no
  | .revr e, fr, st => (evE e fr st).bind fun p => match p.1 with
    | .int j => if -(2 ^ 62) ≤ j ∧ j < 2 ^ 62 then .ok (⟨(rangeF 0 j.toNat).reverse, fun _ => true⟩, p.2, id) else .no
    | _ => .no
end
/-- how a statement ends -/
inductive C where
  | nx (fr : Fr) (st : Sto) | rt (d : D) (st : Sto) | ex (c : Nat) (fr : Fr) (st : Sto) | no
def R.stm {α : Type} (fr : Fr) (x : R α) (f : α → C) : C := match x with
  | .ok a => f a
  | .ex c st => .ex c fr st
  | .no => .no
@[simp] theorem R.stm_ok {α : Type} (fr : Fr) (a : α) (f : α → C) : (R.ok a).stm fr f = f a := rfl
@[simp] theorem R.stm_no {α : Type} (fr : Fr) (f : α → C) : (R.no : R α).stm fr f = .no := rfl
def C.seq (x : C) (f : Fr → Sto → C) : C := match x with
  | .nx fr st => f fr st
  | .rt d st => .rt d st
  | .ex c fr st => .ex c fr st
  | .no => .no
@[simp] theorem C.seq_nx (fr : Fr) (st : Sto) (f : Fr → Sto → C) : (C.nx fr st).seq f = f fr st := rfl
@[simp] theorem C.seq_rt (d : D) (st : Sto) (f : Fr → Sto → C) : (C.rt d st).seq f = .rt d st := rfl
@[simp] theorem C.seq_no (f : Fr → Sto → C) : C.no.seq f = .no := rfl
/-- behind a walk: what was locked is as it was -/
def C.un (u : Sto → Sto) : C → C
  | .nx fr st => .nx fr (u st)
  | .rt d st => .rt d (u st)
  | .ex c fr st => .ex c fr (u st)
  | .no => .no
/-- turns of a for -/
def forF (ok : Sto → Bool) (turn : D → Fr → Sto → C) : List D → Fr → Sto → C
  | [], fr, st => if ok st then .nx fr st else .no
  | d :: ds, fr, st => if ok st then (turn d fr st).seq (forF ok turn ds) else .no
/-- turns of a while -/
def whlF (test : Fr → Sto → R (Bool × Sto)) (turn : Fr → Sto → C) : Nat → Fr → Sto → C
  | 0, _, _ => .no
  | n + 1, fr, st => (test fr st).stm fr fun p => if p.1 then (turn fr p.2).seq (whlF test turn n) else .nx fr p.2
def testF (x : RD) : R (Bool × Sto) := x.bind fun p => (R.of (truthF p.2 p.1)).bind fun b => .ok (b, p.2)
mutual
def evS : S → Fr → Sto → C
  | .set t e, fr, st => (evE P cf mf e fr st).stm fr fun p => match tgF t p.1 fr with
    | some fr => .nx fr p.2
    | none => .no
  | .par i j a b, fr, st => (evE P cf mf a fr st).stm fr fun p => (evE P cf mf b fr p.2).stm fr fun q => .nx ((fr.set i (some p.1)).set j (some q.1)) q.2
  | .setu ts e, fr, st => (evE P cf mf e fr st).stm fr fun p => match tglF ts p.1 p.2 fr with
    | some fr => .nx fr p.2
    | none => .no
  | .setix o i e, fr, st => (evE P cf mf e fr st).stm fr fun p => (evE P cf mf o fr p.2).stm fr fun q => (evE P cf mf i fr q.2).stm fr fun r =>
    match setIxF r.2 q.1 r.1 p.1 with
    | some st => .nx fr st
    | none => .no
  | .setfld o f e, fr, st => (evE P cf mf e fr st).stm fr fun p => (evE P cf mf o fr p.2).stm fr fun q => match setFldF q.2 q.1 f p.1 with
    | some st => .nx fr st
    | none => .no
  | .augfld o f e, fr, st => (evE P cf mf o fr st).stm fr fun p => (R.of (fldF p.2 p.1 f)).stm fr fun x => (evE P cf mf e fr p.2).stm fr fun q =>
    match x, q.1 with
    | .int i, .int j => if clsF q.2 p.1 = clsF p.2 p.1 then (match setFldF q.2 p.1 f (.int (i + j)) with
      | some st => .nx fr st
      | none => .no) else .no
    | _, _ => .no
  | .ex e, fr, st => (evE P cf mf e fr st).stm fr fun p => .nx fr p.2
  | .ret e, fr, st => (evE P cf mf e fr st).stm fr fun p => .rt p.1 p.2
  | .retn, _, st => .rt .non st
  | .ife c a b, fr, st => (testF (evE P cf mf c fr st)).stm fr fun p => if p.1 then evSs a fr p.2 else evSs b fr p.2
  | .forr t it b, fr, st => (evIt P cf mf it fr st).stm fr fun w => (forF w.1.ok (fun d fr st => match tgF t d fr with
      | some fr => evSs b fr st
      | none => .no) w.1.ds fr w.2.1).un w.2.2
  | .whl c b, fr, st => whlF (fun fr st => testF (evE P cf mf c fr st)) (fun fr st => evSs b fr st) WF fr st
  | .pass, fr, st => .nx fr st
  | .raise c, fr, st => .ex c fr st
  | .nev, _, _ => .no
def evSs : Ss → Fr → Sto → C
  | .nil, fr, st => .nx fr st
  | .cons s r, fr, st => (evS s fr st).seq fun fr st => evSs r fr st
end
def startF (nn : Nat) (ds : List D) : Fr := ds.map some ++ List.replicate (nn - ds.length) none
/-- a def runs -/
def runF (f : Nat) (ds : List D) (st : Sto) : RD := match P.fns[f]? with
  | some fd => if ds.length = fd.np then (match evSs P cf mf fd.body (startF fd.nn ds) st with
    | .nx _ st => .ok (.non, st)
    | .rt d st => .ok (d, st)
    | .ex c _ st => .ex c st
    | .no => .no) else .no
  | none => .no
end
def noF : Cf := fun _ _ _ => .no
/-- calls, and makings (one floor lower), n floors deep -/
def callP (P : Prog) : Nat → Cf × Cf
  | 0 => (noF, noF)
  | n + 1 => (runF P (callP P n).1 (callP P n).2, (callP P n).1)
def callF (P : Prog) (n : Nat) : Cf := (callP P n).1
def makeF (P : Prog) (n : Nat) : Cf := (callP P n).2
theorem callF_succ (P : Prog) (n : Nat) : callF P (n + 1) = runF P (callF P n) (makeF P n) := rfl
end MP
set_option Elab.async false
set_option maxRecDepth 100000
namespace MP
open PySem PySem.Spec PyProof.Rows L2
def toS (x : List Char) : Str := ⟨(x.map Char.toNat).toArray⟩
theorem char_inj : ∀ {a b : Char}, a.toNat = b.toNat → a = b := fun {a b} h => Char.toNat_inj.mp h
theorem map_char_inj : ∀ {x y : List Char}, x.map Char.toNat = y.map Char.toNat → x = y
  | [], [], _ => rfl
  | [], _ :: _, h => by cases h
  | _ :: _, [], h => by cases h
  | a :: x, b :: y, h => by
    rw [List.map_cons, List.map_cons] at h
    injection h with h1 h2
    rw [char_inj h1, map_char_inj h2]
theorem toS_inj {x y : List Char} (h : toS x = toS y) : x = y := by
  have e : (toS x).cps.toList = (toS y).cps.toList := by rw [h]
  exact map_char_inj (by simpa [toS] using e)
theorem toS_len (x : List Char) : (toS x).length = x.length := by simp [toS, Str.length]
theorem toS_app (x y : List Char) : toS (x ++ y) = toS x ++ toS y := by
  show (⟨_⟩ : Str) = ⟨_⟩
  simp [toS]
def toK : Kk → Key
  | .i n => .inl n
  | .s x => .inr (toS x)
theorem toK_inj : ∀ {a b : Kk}, toK a = toK b → a = b
  | .i a, .i b, h => by injection h with h; rw [h]
  | .s a, .s b, h => by injection h with h; rw [toS_inj h]
  | .i a, .s b, h => by cases h
  | .s a, .i b, h => by cases h
/-- a list that is only read: known to the object, or written -/
def SqK (K : PySem.W.Frag) (H : Hp) (a : Addr) (xs : List V) : Prop := (∃ o, H a = some (.frz o (.lst xs))) ∨ SqL K (fun _ => none) a xs
theorem SqK.sq {K : PySem.W.Frag} {H : Hp} {a : Addr} {xs : List V} (h : SqK K H a xs) : SqL K H a xs := by
  rcases h with ⟨o, h⟩ | h
  · exact .inl (.inr ⟨o, h⟩)
  · rcases h with (h | ⟨o, h⟩) | h
    · cases h
    · cases h
    · exact .inr h
mutual
inductive Rep (K : PySem.W.Frag) (ρ : List Addr) (H : Hp) : D → V → Prop where
  | non : Rep K ρ H .non .non
  | bl (b : Bool) : Rep K ρ H (.bl b) (.bl b)
  | int (i : Int) : Rep K ρ H (.int i) (.int i)
  | str (x : List Char) : Rep K ρ H (.str x) (.str (toS x))
  | tup {a : Addr} {ds : List D} {vs : List V} : SqT K H a vs → Reps K ρ H ds vs → Rep K ρ H (.tup ds) (.ref a)
  | kls {a : Addr} {ds : List D} {vs : List V} : SqK K H a vs → Reps K ρ H ds vs → Rep K ρ H (.kls ds) (.ref a)
  | ref {n : Nat} {a : Addr} : ρ[n]? = some a → Rep K ρ H (.ref n) (.ref a)
inductive Reps (K : PySem.W.Frag) (ρ : List Addr) (H : Hp) : List D → List V → Prop where
  | nil : Reps K ρ H [] []
  | cons {d : D} {v : V} {ds : List D} {vs : List V} : Rep K ρ H d v → Reps K ρ H ds vs → Reps K ρ H (d :: ds) (v :: vs)
end
section
variable {K : PySem.W.Frag} {ρ ρ1 ρ2 : List Addr} {H H1 H2 : Hp}
theorem Reps.len : ∀ {ds : List D} {vs : List V}, Reps K ρ H ds vs → ds.length = vs.length
  | _, _, .nil => rfl
  | _, _, .cons _ t => congrArg Nat.succ t.len
theorem Reps.app : ∀ {ds es : List D} {vs us : List V}, Reps K ρ H ds vs → Reps K ρ H es us → Reps K ρ H (ds ++ es) (vs ++ us)
  | _, _, _, _, .nil, h => h
  | _, _, _, _, .cons r t, h => .cons r (t.app h)
theorem Reps.get : ∀ {ds : List D} {vs : List V} {i : Nat} {d : D}, Reps K ρ H ds vs → ds[i]? = some d → ∃ v, vs[i]? = some v ∧ Rep K ρ H d v
  | _, _, _, _, .nil, e => by simp at e
  | _, _, 0, _, .cons r _, e => by simp at e; subst e; exact ⟨_, rfl, r⟩
  | _, _, i + 1, _, .cons _ t, e => by
    obtain ⟨v, h1, h2⟩ := Reps.get (i := i) t (by simpa using e)
    exact ⟨v, by simpa using h1, h2⟩
theorem Reps.get' : ∀ {ds : List D} {vs : List V} {i : Nat} {v : V}, Reps K ρ H ds vs → vs[i]? = some v → ∃ d, ds[i]? = some d ∧ Rep K ρ H d v
  | _, _, _, _, .nil, e => by simp at e
  | _, _, 0, _, .cons r _, e => by simp at e; subst e; exact ⟨_, rfl, r⟩
  | _, _, i + 1, _, .cons _ t, e => by
    obtain ⟨v, h1, h2⟩ := Reps.get' (i := i) t (by simpa using e)
    exact ⟨v, by simpa using h1, h2⟩
theorem Reps.set {d : D} {v : V} (r : Rep K ρ H d v) : ∀ {ds : List D} {vs : List V} (i : Nat), Reps K ρ H ds vs → Reps K ρ H (ds.set i d) (vs.set i v)
  | _, _, _, .nil => .nil
  | _, _, 0, .cons _ t => .cons r t
  | _, _, i + 1, .cons q t => .cons q (Reps.set r i t)
theorem Reps.drop : ∀ {ds : List D} {vs : List V} (n : Nat), Reps K ρ H ds vs → Reps K ρ H (ds.drop n) (vs.drop n)
  | _, _, 0, r => r
  | _, _, _ + 1, .nil => .nil
  | _, _, n + 1, .cons _ t => Reps.drop n t
theorem Reps.take : ∀ {ds : List D} {vs : List V} (n : Nat), Reps K ρ H ds vs → Reps K ρ H (ds.take n) (vs.take n)
  | _, _, 0, _ => .nil
  | _, _, _ + 1, .nil => .nil
  | _, _, n + 1, .cons r t => .cons r (Reps.take n t)
theorem Reps.rev : ∀ {ds : List D} {vs : List V}, Reps K ρ H ds vs → Reps K ρ H ds.reverse vs.reverse
  | _, _, .nil => .nil
  | _, _, .cons r t => by
    rw [List.reverse_cons, List.reverse_cons]
    exact (Reps.rev t).app (.cons r .nil)
theorem Reps.dropLast : ∀ {ds : List D} {vs : List V}, Reps K ρ H ds vs → Reps K ρ H ds.dropLast vs.dropLast := fun {ds vs} r => by
  rw [List.dropLast_eq_take, List.dropLast_eq_take, r.len]
  exact r.take _
theorem Reps.rep (m : Nat) {ds : List D} {vs : List V} (r : Reps K ρ H ds vs) : Reps K ρ H (List.replicate m ds).flatten (List.replicate m vs).flatten := by
  induction m with
  | zero => exact .nil
  | succ m ih =>
    rw [List.replicate_succ, List.replicate_succ, List.flatten_cons, List.flatten_cons]
    exact r.app ih
end
/-- a later heap: the numbers stand, new ones are at new places, what is not ours stands, tuples and read lists stand -/
structure Ext (ρ : List Addr) (H : Hp) (ρ' : List Addr) (H' : Hp) : Prop where
  more : ∃ r, ρ' = ρ ++ r ∧ ∀ a ∈ r, a ∉ ρ → H a = none
  rest : ∀ a o, H a = some o → a ∉ ρ → H' a = some o
  tups : ∀ a xs, H a = some (.tup xs) → H' a = some (.tup xs)
  frzs : ∀ a ob xs, H a = some (.frz ob (.lst xs)) → H' a = some (.frz ob (.lst xs))
  frzt : ∀ a ob xs, H a = some (.frz ob (.tup xs)) → H' a = some (.frz ob (.tup xs))
  frzd : ∀ a ob kvs, H a = some (.frz ob (.dK kvs)) → H' a = some (.frz ob (.dK kvs))
section
variable {K : PySem.W.Frag} {ρ ρ1 ρ2 : List Addr} {H H1 H2 : Hp}
theorem Ext.refl : Ext ρ H ρ H := ⟨⟨[], by simp, by simp⟩, fun _ _ h _ => h, fun _ _ h => h, fun _ _ _ h => h, fun _ _ _ h => h, fun _ _ _ h => h⟩
theorem Ext.trans (a : Ext ρ H ρ1 H1) (b : Ext ρ1 H1 ρ2 H2) : Ext ρ H ρ2 H2 := by
  obtain ⟨r, e, hr⟩ := a.more
  obtain ⟨r2, e2, hr2⟩ := b.more
  have out : ∀ c o, H c = some o → c ∉ ρ → c ∉ ρ1 := fun c o h n hc => by
    rw [e] at hc
    rcases List.mem_append.mp hc with z | z
    · exact n z
    · rw [hr c z n] at h; cases h
  refine ⟨⟨r ++ r2, by rw [e2, e, List.append_assoc], fun c hc n => ?_⟩, fun c o h n => b.rest c o (a.rest c o h n) (out c o h n), fun c xs h => b.tups c xs (a.tups c xs h), fun c o xs h => b.frzs c o xs (a.frzs c o xs h), fun c o xs h => b.frzt c o xs (a.frzt c o xs h), fun c o xs h => b.frzd c o xs (a.frzd c o xs h)⟩
  rcases List.mem_append.mp hc with hc | hc
  · exact hr c hc n
  · cases q : H c with
    | none => rfl
    | some o =>
      have h1 := a.rest c o q n
      rw [hr2 c hc (out c o q n)] at h1
      cases h1
theorem Ext.ix (a : Ext ρ H ρ1 H1) {n : Nat} {c : Addr} (h : ρ[n]? = some c) : ρ1[n]? = some c := by
  obtain ⟨r, e, _⟩ := a.more
  rw [e, List.getElem?_append_left]
  · exact h
  · exact (List.getElem?_eq_some_iff.mp h).1
theorem Ext.sqT (a : Ext ρ H ρ1 H1) {c : Addr} {xs : List V} (h : SqT K H c xs) : SqT K H1 c xs := by
  rcases h with (h | ⟨o, h⟩) | h
  · exact .inl (.inl (a.tups _ _ h))
  · exact .inl (.inr ⟨o, a.frzt _ _ _ h⟩)
  · exact .inr h
theorem Ext.sqK (a : Ext ρ H ρ1 H1) {c : Addr} {xs : List V} (h : SqK K H c xs) : SqK K H1 c xs := by
  rcases h with ⟨o, h⟩ | h
  · exact .inl ⟨o, a.frzs _ _ _ h⟩
  · exact .inr h
mutual
theorem Rep.ext (a : Ext ρ H ρ1 H1) : ∀ {d : D} {v : V}, Rep K ρ H d v → Rep K ρ1 H1 d v
  | _, _, .non => .non
  | _, _, .bl b => .bl b
  | _, _, .int i => .int i
  | _, _, .str x => .str x
  | _, _, .tup h r => .tup (a.sqT h) (Reps.ext a r)
  | _, _, .kls h r => .kls (a.sqK h) (Reps.ext a r)
  | _, _, .ref h => .ref (a.ix h)
theorem Reps.ext (a : Ext ρ H ρ1 H1) : ∀ {ds : List D} {vs : List V}, Reps K ρ H ds vs → Reps K ρ1 H1 ds vs
  | _, _, .nil => .nil
  | _, _, .cons h t => .cons (Rep.ext a h) (Reps.ext a t)
end
end
def KVs (K : PySem.W.Frag) (ρ : List Addr) (H : Hp) : List (Kk × D) → List (Key × V) → Prop := Paired fun p q => q.1 = toK p.1 ∧ Rep K ρ H p.2 q.2
/-- what names the numbers of attributes and classes are -/
structure Nm where
  fld : List Str
  cls : Nat → Option Addr
def FSs (N : Nm) (K : PySem.W.Frag) (ρ : List Addr) (H : Hp) : List (Nat × D) → List (Str × V) → Prop := Paired fun p q => N.fld[p.1]? = some q.1 ∧ Rep K ρ H p.2 q.2
def OAt (N : Nm) (K : PySem.W.Frag) (ρ : List Addr) (H : Hp) (a : Addr) : O → Prop
  | .lst ds => ∃ vs, H a = some (.lst vs) ∧ Reps K ρ H ds vs
  | .dct kvs => ∃ ws, H a = some (.dK ws) ∧ KVs K ρ H kvs ws
  | .fdc kvs => ∃ o ws, H a = some (.frz o (.dK ws)) ∧ KVs K ρ H kvs ws
  | .ins c fs => ∃ C dx gs, N.cls c = some C ∧ H a = some (.ins C dx gs) ∧ FSs N K ρ H fs gs
structure Rl (N : Nm) (K : PySem.W.Frag) (ρ : List Addr) (st : Sto) (H : Hp) : Prop where
  len : ρ.length = st.length
  nd : ρ.Nodup
  at_ : ∀ (n : Nat) (a : Addr) (o : O), ρ[n]? = some a → st[n]? = some o → OAt N K ρ H a o
/-- the frame -/
structure Rf (K : PySem.W.Frag) (ρ : List Addr) (H : Hp) (fr : Fr) (σ : L2.St) : Prop where
  len : fr.length = σ.length
  at_ : ∀ (i : Nat) d, fr[i]? = some (some d) → ∃ v, σ[i]? = some (some v) ∧ Rep K ρ H d v
section
variable {N : Nm} {K : PySem.W.Frag} {ρ ρ1 ρ2 : List Addr} {H H1 H2 : Hp} {st st1 : Sto} {fr : Fr} {σ : L2.St}
theorem pairedMap {α β : Type} {F G : α → β → Prop} (f : ∀ a b, F a b → G a b) : ∀ {l₁ : List α} {l₂ : List β}, Paired F l₁ l₂ → Paired G l₁ l₂
  | _, _, .nil => .nil
  | _, _, .cons r t => .cons (f _ _ r) (pairedMap f t)
theorem KVs.ext (a : Ext ρ H ρ1 H1) {ks : List (Kk × D)} {ws : List (Key × V)} (h : KVs K ρ H ks ws) : KVs K ρ1 H1 ks ws := pairedMap (fun _ _ z => ⟨z.1, z.2.ext a⟩) h
theorem FSs.ext (a : Ext ρ H ρ1 H1) {ks : List (Nat × D)} {ws : List (Str × V)} (h : FSs N K ρ H ks ws) : FSs N K ρ1 H1 ks ws := pairedMap (fun _ _ z => ⟨z.1, z.2.ext a⟩) h
theorem Rf.ext (a : Ext ρ H ρ1 H1) (h : Rf K ρ H fr σ) : Rf K ρ1 H1 fr σ := ⟨h.len, fun i d e => let ⟨v, h1, h2⟩ := h.at_ i d e; ⟨v, h1, h2.ext a⟩⟩
theorem OAt.some {a : Addr} {o : O} (h : OAt N K ρ H a o) : ∃ u, H a = some u ∧ (∀ xs, u ≠ .tup xs) ∧ (∀ ob xs, u ≠ .frz ob (.lst xs)) ∧ (∀ ob xs, u ≠ .frz ob (.tup xs)) := by
  cases o with
  | lst ds => obtain ⟨vs, e, _⟩ := h; exact ⟨_, e, by simp, by simp, by simp⟩
  | dct ds => obtain ⟨vs, e, _⟩ := h; exact ⟨_, e, by simp, by simp, by simp⟩
  | fdc ds => obtain ⟨o, vs, e, _⟩ := h; exact ⟨_, e, by simp, by simp, by simp⟩
  | ins c fs => obtain ⟨C, dx, vs, _, e, _⟩ := h; exact ⟨_, e, by simp, by simp, by simp⟩
theorem Rl.ix (R : Rl N K ρ st H) {n : Nat} {o : O} (h : st[n]? = some o) : ∃ a, ρ[n]? = some a ∧ OAt N K ρ H a o := by
  have l : n < ρ.length := by rw [R.len]; exact (List.getElem?_eq_some_iff.mp h).1
  exact ⟨ρ[n], List.getElem?_eq_getElem l, R.at_ n _ o (List.getElem?_eq_getElem l) h⟩
theorem Rl.mem (R : Rl N K ρ st H) {a : Addr} (h : a ∈ ρ) : ∃ (n : Nat) (o : O), ρ[n]? = some a ∧ st[n]? = some o ∧ OAt N K ρ H a o := by
  obtain ⟨n, hn, e⟩ := List.mem_iff_getElem.mp h
  have l : n < st.length := by rw [← R.len]; exact hn
  refine ⟨n, st[n], by rw [List.getElem?_eq_getElem hn, e], List.getElem?_eq_getElem l, R.at_ n a _ (by rw [List.getElem?_eq_getElem hn, e]) (List.getElem?_eq_getElem l)⟩
/-- a thing laid outside of the store -/
theorem Rl.lay (R : Rl N K ρ st H) {p : Addr} {u : HO} (hp : H p = none) : Ext ρ H ρ (upd H p u) ∧ Rl N K ρ st (upd H p u) := by
  have e : Ext ρ H ρ (upd H p u) := ⟨⟨[], by simp, by simp⟩, fun a o h _ => by rw [upd_ne (ne_of_none h hp)]; exact h, fun a xs h => by rw [upd_ne (ne_of_none h hp)]; exact h,
    fun a ob xs h => by rw [upd_ne (ne_of_none h hp)]; exact h, fun a ob xs h => by rw [upd_ne (ne_of_none h hp)]; exact h, fun a ob xs h => by rw [upd_ne (ne_of_none h hp)]; exact h⟩
  refine ⟨e, R.len, R.nd, fun n a o h1 h2 => ?_⟩
  have h := R.at_ n a o h1 h2
  cases o with
  | lst ds => obtain ⟨vs, h, r⟩ := h; exact ⟨vs, by rw [upd_ne (ne_of_none h hp)]; exact h, r.ext e⟩
  | dct ds => obtain ⟨vs, h, r⟩ := h; exact ⟨vs, by rw [upd_ne (ne_of_none h hp)]; exact h, r.ext e⟩
  | fdc ds => obtain ⟨o, vs, h, r⟩ := h; exact ⟨o, vs, by rw [upd_ne (ne_of_none h hp)]; exact h, r.ext e⟩
  | ins c fs => obtain ⟨C, dx, vs, hc, h, r⟩ := h; exact ⟨C, dx, vs, hc, by rw [upd_ne (ne_of_none h hp)]; exact h, r.ext e⟩
/-- a thing outside of the store changes, which is no tuple and no read list -/
theorem Rl.out (R : Rl N K ρ st H) {p : Addr} {u u' : HO} (hp : p ∉ ρ) (h0 : H p = some u) (h1 : ∀ xs, u ≠ .tup xs) (h2 : ∀ ob xs, u ≠ .frz ob (.lst xs)) (h3 : ∀ ob xs, u ≠ .frz ob (.tup xs)) : Rl N K ρ st (upd H p u') := by
  have ne : ∀ a o, H a = some o → o ≠ u → a ≠ p := fun a o h z e => by subst e; rw [h0] at h; exact z (Option.some.inj h).symm
  have ext : ∀ {d : D} {v : V}, Rep K ρ H d v → Rep K ρ (upd H p u') d v := by
    have sqT : ∀ {c : Addr} {xs : List V}, SqT K H c xs → SqT K (upd H p u') c xs := fun {c xs} h => by
      rcases h with (h | ⟨o, h⟩) | h
      · exact .inl (.inl (by rw [upd_ne (ne _ _ h (Ne.symm (h1 _)))]; exact h))
      · exact .inl (.inr ⟨o, by rw [upd_ne (ne _ _ h (Ne.symm (h3 _ _)))]; exact h⟩)
      · exact .inr h
    have sqK : ∀ {c : Addr} {xs : List V}, SqK K H c xs → SqK K (upd H p u') c xs := fun {c xs} h => by
      rcases h with ⟨o, h⟩ | h
      · exact .inl ⟨o, by rw [upd_ne (ne _ _ h (Ne.symm (h2 _ _)))]; exact h⟩
      · exact .inr h
    intro d v r
    exact Rep.rec (K := K) (ρ := ρ) (H := H) (motive_1 := fun d v _ => Rep K ρ (upd H p u') d v) (motive_2 := fun ds vs _ => Reps K ρ (upd H p u') ds vs)
      .non .bl .int .str (fun h _ ih => .tup (sqT h) ih) (fun h _ ih => .kls (sqK h) ih) .ref .nil (fun _ _ i1 i2 => .cons i1 i2) r
  have exts : ∀ {ds : List D} {vs : List V}, Reps K ρ H ds vs → Reps K ρ (upd H p u') ds vs := by
    intro ds
    induction ds with
    | nil => intro vs r; cases r; exact .nil
    | cons d ds ih => intro vs r; cases r with | cons r t => exact .cons (ext r) (ih t)
  refine ⟨R.len, R.nd, fun n a o e1 e2 => ?_⟩
  have h := R.at_ n a o e1 e2
  have np : a ≠ p := fun z => hp (z ▸ List.mem_of_getElem? e1)
  cases o with
  | lst ds => obtain ⟨vs, h, r⟩ := h; exact ⟨vs, by rw [upd_ne np]; exact h, exts r⟩
  | dct ds => obtain ⟨vs, h, r⟩ := h; exact ⟨vs, by rw [upd_ne np]; exact h, pairedMap (fun _ _ z => ⟨z.1, ext z.2⟩) r⟩
  | fdc ds => obtain ⟨o, vs, h, r⟩ := h; exact ⟨o, vs, by rw [upd_ne np]; exact h, pairedMap (fun _ _ z => ⟨z.1, ext z.2⟩) r⟩
  | ins c fs => obtain ⟨C, dx, vs, hc, h, r⟩ := h; exact ⟨C, dx, vs, hc, by rw [upd_ne np]; exact h, pairedMap (fun _ _ z => ⟨z.1, ext z.2⟩) r⟩
mutual
theorem Rep.grow (r : List Addr) : ∀ {d : D} {v : V}, Rep K ρ H d v → Rep K (ρ ++ r) H d v
  | _, _, .non => .non
  | _, _, .bl b => .bl b
  | _, _, .int i => .int i
  | _, _, .str x => .str x
  | _, _, .tup h q => .tup h (Reps.grow r q)
  | _, _, .kls h q => .kls h (Reps.grow r q)
  | _, _, .ref (n := n) h => .ref (by rw [List.getElem?_append_left (List.getElem?_eq_some_iff.mp h).1]; exact h)
theorem Reps.grow (r : List Addr) : ∀ {ds : List D} {vs : List V}, Reps K ρ H ds vs → Reps K (ρ ++ r) H ds vs
  | _, _, .nil => .nil
  | _, _, .cons h t => .cons (Rep.grow r h) (Reps.grow r t)
end
theorem OAt.grow (r : List Addr) {a : Addr} {o : O} (h : OAt N K ρ H a o) : OAt N K (ρ ++ r) H a o := by
  cases o with
  | lst ds => obtain ⟨vs, h, q⟩ := h; exact ⟨vs, h, q.grow r⟩
  | dct ds => obtain ⟨vs, h, q⟩ := h; exact ⟨vs, h, pairedMap (fun _ _ z => ⟨z.1, z.2.grow r⟩) q⟩
  | fdc ds => obtain ⟨o, vs, h, q⟩ := h; exact ⟨o, vs, h, pairedMap (fun _ _ z => ⟨z.1, z.2.grow r⟩) q⟩
  | ins c fs => obtain ⟨C, dx, vs, hc, h, q⟩ := h; exact ⟨C, dx, vs, hc, h, pairedMap (fun _ _ z => ⟨z.1, z.2.grow r⟩) q⟩
/-- a thing that stands outside becomes the store's next -/
theorem Rl.grow (R : Rl N K ρ st H) {p : Addr} {o : O} (hp : p ∉ ρ) (new : OAt N K (ρ ++ [p]) H p o) : Rl N K (ρ ++ [p]) (st ++ [o]) H := by
  refine ⟨by rw [List.length_append, List.length_append, R.len]; rfl, ?_, fun n a o' h1 h2 => ?_⟩
  · rw [List.nodup_append]
    exact ⟨R.nd, by simp, fun a ha b hb e => hp (by rw [List.mem_singleton] at hb; rw [← hb, ← e]; exact ha)⟩
  · by_cases hn : n < st.length
    · rw [List.getElem?_append_left (by rw [R.len]; exact hn)] at h1
      rw [List.getElem?_append_left hn] at h2
      exact (R.at_ n a o' h1 h2).grow _
    · have hl : n < (st ++ [o]).length := (List.getElem?_eq_some_iff.mp h2).1
      rw [List.length_append] at hl
      have e : n = st.length := by simp at hl; omega
      subst e
      rw [List.getElem?_append_right (by rw [R.len]; exact Nat.le_refl _), R.len, Nat.sub_self] at h1
      rw [List.getElem?_append_right (Nat.le_refl _), Nat.sub_self] at h2
      cases h1
      cases h2
      exact new
theorem Ext.fresh {p : Addr} {u : HO} (hp : H p = none) (e : Ext ρ (upd H p u) ρ1 H1) (r0 : List Addr) (h0 : ∀ a ∈ r0, a = p) : Ext ρ H (ρ1 ++ r0) H1 := by
  obtain ⟨r, e1, hr⟩ := e.more
  refine ⟨⟨r ++ r0, by rw [e1, List.append_assoc], fun a ha n => ?_⟩, fun a o h n => e.rest a o (by rw [upd_ne (ne_of_none h hp)]; exact h) n, fun a xs h => e.tups a xs (by rw [upd_ne (ne_of_none h hp)]; exact h),
    fun a ob xs h => e.frzs a ob xs (by rw [upd_ne (ne_of_none h hp)]; exact h), fun a ob xs h => e.frzt a ob xs (by rw [upd_ne (ne_of_none h hp)]; exact h), fun a ob xs h => e.frzd a ob xs (by rw [upd_ne (ne_of_none h hp)]; exact h)⟩
  rcases List.mem_append.mp ha with ha | ha
  · have z := hr a ha n
    by_cases q : a = p
    · rw [q]; exact hp
    · rw [upd_ne q] at z; exact z
  · rw [h0 a ha]; exact hp
theorem Rl.notIn (R : Rl N K ρ st H) {p : Addr} (hp : H p = none) : p ∉ ρ := fun h => by
  obtain ⟨n, o, _, _, q⟩ := R.mem h
  obtain ⟨u, e, _⟩ := q.some
  rw [hp] at e; cases e
/-- a new object of the store -/
theorem Rl.new (R : Rl N K ρ st H) {p : Addr} {u : HO} {o : O} (hp : H p = none) (new : OAt N K (ρ ++ [p]) (upd H p u) p o) : Ext ρ H (ρ ++ [p]) (upd H p u) ∧ Rl N K (ρ ++ [p]) (st ++ [o]) (upd H p u) := by
  obtain ⟨e, R2⟩ := R.lay (u := u) hp
  exact ⟨Ext.fresh hp Ext.refl [p] (by simp), R2.grow (R.notIn hp) new⟩
/-- an object of the store written -/
theorem Rl.put (R : Rl N K ρ st H) {n : Nat} {a : Addr} {o o' : O} {u : HO} (ha : ρ[n]? = some a) (ho : st[n]? = some o) (hf : ∀ ob kvs, H a ≠ some (.frz ob (.dK kvs)))
    (new : (∀ {d : D} {v : V}, Rep K ρ H d v → Rep K ρ (upd H a u) d v) → OAt N K ρ (upd H a u) a o') : Ext ρ H ρ (upd H a u) ∧ Rl N K ρ (st.set n o') (upd H a u) := by
  obtain ⟨w, hw, w1, w2, w3⟩ := (R.at_ n a o ha ho).some
  have ne : ∀ c x, H c = some x → x ≠ w → c ≠ a := fun c x h z e => by subst e; rw [hw] at h; exact z (Option.some.inj h).symm
  have e : Ext ρ H ρ (upd H a u) := ⟨⟨[], by simp, by simp⟩, fun c x h n' => by rw [upd_ne (fun z => n' (by rw [z]; exact List.mem_of_getElem? ha))]; exact h, fun c xs h => by rw [upd_ne (ne _ _ h (Ne.symm (w1 _)))]; exact h,
    fun c ob xs h => by rw [upd_ne (ne _ _ h (Ne.symm (w2 _ _)))]; exact h, fun c ob xs h => by rw [upd_ne (ne _ _ h (Ne.symm (w3 _ _)))]; exact h, fun c ob kvs h => by rw [upd_ne (fun z => hf ob kvs (by rw [← z]; exact h))]; exact h⟩
  refine ⟨e, by rw [List.length_set]; exact R.len, R.nd, fun m c x h1 h2 => ?_⟩
  have ln : n < st.length := (List.getElem?_eq_some_iff.mp ho).1
  by_cases hm : n = m
  · subst hm
    rw [ha] at h1; cases h1
    rw [List.getElem?_set_self ln] at h2; cases h2
    exact new fun r => r.ext e
  · rw [List.getElem?_set_ne hm] at h2
    have nc : c ≠ a := fun z => by
      subst z
      obtain ⟨l1, e1⟩ := List.getElem?_eq_some_iff.mp h1
      obtain ⟨l2, e2⟩ := List.getElem?_eq_some_iff.mp ha
      exact hm ((List.getElem_inj R.nd).mp (e2.trans e1.symm))
    have h := R.at_ m c x h1 h2
    cases x with
    | lst ds => obtain ⟨vs, h, r⟩ := h; exact ⟨vs, by rw [upd_ne nc]; exact h, r.ext e⟩
    | dct ds => obtain ⟨vs, h, r⟩ := h; exact ⟨vs, by rw [upd_ne nc]; exact h, r.ext e⟩
    | fdc ds => obtain ⟨o, vs, h, r⟩ := h; exact ⟨o, vs, by rw [upd_ne nc]; exact h, r.ext e⟩
    | ins c' fs => obtain ⟨C, dx, vs, hc, h, r⟩ := h; exact ⟨C, dx, vs, hc, by rw [upd_ne nc]; exact h, r.ext e⟩
/-- behind something that stood outside for a while, at a new place -/
theorem Ext.fin {p : Addr} {u u' : HO} (hp : H p = none) (e : Ext ρ (upd H p u) ρ1 H1) (r0 : List Addr) (h0 : ∀ a ∈ r0, a = p) : Ext ρ H (ρ1 ++ r0) (upd H1 p u') := by
  have f := Ext.fresh hp e r0 h0
  refine ⟨f.more, fun a o h n => ?_, fun a xs h => ?_, fun a ob xs h => ?_, fun a ob xs h => ?_, fun a ob xs h => ?_⟩
  · rw [upd_ne (ne_of_none h hp)]; exact f.rest a o h n
  · rw [upd_ne (ne_of_none h hp)]; exact f.tups a xs h
  · rw [upd_ne (ne_of_none h hp)]; exact f.frzs a ob xs h
  · rw [upd_ne (ne_of_none h hp)]; exact f.frzt a ob xs h
  · rw [upd_ne (ne_of_none h hp)]; exact f.frzd a ob xs h
/-- what stands outside stays outside -/
theorem Ext.outside {p : Addr} {u : HO} (e : Ext ρ H ρ1 H1) (hp : H p = some u) (hn : p ∉ ρ) : p ∉ ρ1 ∧ H1 p = some u := by
  refine ⟨fun h => ?_, e.rest p u hp hn⟩
  obtain ⟨r, e1, hr⟩ := e.more
  rw [e1] at h
  rcases List.mem_append.mp h with h | h
  · exact hn h
  · rw [hr p h hn] at hp; cases hp
end
end MP
set_option maxHeartbeats 1000000
namespace MP
open PySem PySem.Spec PyProof.Rows L2
theorem sz_line : SZ ≤ sizeLine := by rw [sizeLine_eq]; decide
theorem R.bind_eq {α β : Type} {x : R α} {f : α → R β} {b : β} (h : x.bind f = .ok b) : ∃ a, x = .ok a ∧ f a = .ok b := by
  cases x with
  | ok a => exact ⟨a, rfl, h⟩
  | ex c st => cases h
  | no => cases h
theorem R.of_eq {α : Type} {x : Option α} {b : α} (h : R.of x = .ok b) : x = some b := by
  cases x with
  | some a => cases h; rfl
  | none => cases h
/-- what is wanted behind a value -/
def Post (N : Nm) (K : PySem.W.Frag) (ρ : List Addr) (H : Hp) (d : D) (st : Sto) (Q : VK) : Prop := ∀ ρ' H' v, Ext ρ H ρ' H' → Rl N K ρ' st H' → Rep K ρ' H' d v → Q v H'
section
variable {N : Nm} {K : PySem.W.Frag} {ρ ρ1 : List Addr} {H H1 : Hp} {st st1 : Sto} {d : D} {Q : VK} {ds : List D} {vs : List V}
theorem Post.after (P : Post N K ρ H d st Q) (E : Ext ρ H ρ1 H1) : Post N K ρ1 H1 d st Q := fun ρ' H' v e r q => P ρ' H' v (E.trans e) r q
theorem Post.here (P : Post N K ρ H d st Q) (R : Rl N K ρ st H) {v : V} (r : Rep K ρ H d v) : Q v H := P ρ H v Ext.refl R r
theorem Post.tup (P : Post N K ρ H (.tup ds) st Q) (R : Rl N K ρ st H) (r : Reps K ρ H ds vs) : ∀ p, H p = none → Q (.ref p) (upd H p (.tup vs)) := fun p hp => by
  obtain ⟨e, R2⟩ := R.lay (u := .tup vs) hp
  exact P _ _ _ e R2 (.tup (.inl (.inl upd_same)) (r.ext e))
theorem Rl.top (R : Rl N K ρ st H) {p : Addr} : (ρ ++ [p])[st.length]? = some p := by
  rw [List.getElem?_append_right (by rw [R.len]; exact Nat.le_refl _), R.len, Nat.sub_self]; rfl
theorem Post.lst (P : Post N K ρ H (.ref st.length) (st ++ [.lst ds]) Q) (R : Rl N K ρ st H) (r : Reps K ρ H ds vs) : ∀ p, H p = none → Q (.ref p) (upd H p (.lst vs)) := fun p hp => by
  have e0 : Ext ρ H (ρ ++ [p]) (upd H p (.lst vs)) := Ext.fresh hp Ext.refl [p] (by simp)
  obtain ⟨e, R2⟩ := R.new (u := .lst vs) (o := .lst ds) hp ⟨vs, upd_same, r.ext e0⟩
  exact P _ _ _ e R2 (.ref R.top)
theorem Post.dct {kvs : List (Kk × D)} {ws : List (Key × V)} (P : Post N K ρ H (.ref st.length) (st ++ [.dct kvs]) Q) (R : Rl N K ρ st H) (r : KVs K ρ H kvs ws) : ∀ p, H p = none → Q (.ref p) (upd H p (.dK ws)) := fun p hp => by
  have e0 : Ext ρ H (ρ ++ [p]) (upd H p (.dK ws)) := Ext.fresh hp Ext.refl [p] (by simp)
  obtain ⟨e, R2⟩ := R.new (u := .dK ws) (o := .dct kvs) hp ⟨ws, upd_same, r.ext e0⟩
  exact P _ _ _ e R2 (.ref R.top)
end
def Op2Ok (X : Cx) (N : Nm) (F : Value → Value → Sem Value) (g : D → D → Sto → RD) : Prop :=
  ∀ (ρ : List Addr) (st : Sto) (H : Hp) (dx dy : D) (x y : V) (d : D) (st' : Sto), Rl N X.K ρ st H → Rep X.K ρ H dx x → Rep X.K ρ H dy y → g dx dy st = .ok (d, st') →
    ∃ r : R2, OpR X F r ∧ ∀ Q : VK, Post N X.K ρ H d st' Q → r x y H Q
def rAny (X : Cx) (F : Value → Value → Sem Value) : R2 := fun x y H Q => ∃ r : R2, OpR X F r ∧ r x y H Q
theorem opR_any {X : Cx} {F : Value → Value → Sem Value} : OpR X F (rAny X F) := fun pins s σ H x y v u Q I rx ry ⟨_, h, q⟩ => h pins s σ H x y v u Q I rx ry q
section
variable {X : Cx} {N : Nm}
theorem seq_at {ρ : List Addr} {st : Sto} {H : Hp} {d : D} {v : V} {xs : List D} (R : Rl N X.K ρ st H) (r : Rep X.K ρ H d v) (h : seqF st d = some xs) : ∃ a vs, v = .ref a ∧ Reps X.K ρ H xs vs ∧ (SqL X.K H a vs ∨ SqT X.K H a vs) := by
  cases r with
  | tup h1 h2 => cases h; exact ⟨_, _, rfl, h2, .inr h1⟩
  | kls h1 h2 => cases h; exact ⟨_, _, rfl, h2, .inl h1.sq⟩
  | @ref n a h1 =>
    simp only [seqF] at h
    cases q : st[n]? with
    | none => rw [q] at h; cases h
    | some o =>
      rw [q] at h
      cases o with
      | lst ys =>
        cases h
        obtain ⟨vs, e, r⟩ := R.at_ _ _ _ h1 q
        exact ⟨_, _, rfl, r, .inl (.inl (.inl e))⟩
      | _ => cases h
  | _ => cases h
theorem lst_at {ρ : List Addr} {st : Sto} {H : Hp} {n : Nat} {v : V} {xs : List D} (R : Rl N X.K ρ st H) (r : Rep X.K ρ H (.ref n) v) (h : st[n]? = some (.lst xs)) : ∃ a vs, v = .ref a ∧ ρ[n]? = some a ∧ H a = some (.lst vs) ∧ Reps X.K ρ H xs vs := by
  cases r with
  | ref h1 =>
    obtain ⟨vs, e, r⟩ := R.at_ _ _ _ h1 h
    exact ⟨_, _, rfl, h1, e, r⟩
theorem dct_at {ρ : List Addr} {st : Sto} {H : Hp} {n : Nat} {v : V} {xs : List (Kk × D)} (R : Rl N X.K ρ st H) (r : Rep X.K ρ H (.ref n) v) (h : st[n]? = some (.dct xs)) : ∃ a vs, v = .ref a ∧ ρ[n]? = some a ∧ H a = some (.dK vs) ∧ KVs X.K ρ H xs vs := by
  cases r with
  | ref h1 =>
    obtain ⟨vs, e, r⟩ := R.at_ _ _ _ h1 h
    exact ⟨_, _, rfl, h1, e, r⟩
theorem dict_at {ρ : List Addr} {st : Sto} {H : Hp} {n : Nat} {v : V} {xs : List (Kk × D)} (R : Rl N X.K ρ st H) (r : Rep X.K ρ H (.ref n) v) (h : dictF st n = some xs) : ∃ a vs, v = .ref a ∧ ρ[n]? = some a ∧ Rd H a (.dK vs) ∧ KVs X.K ρ H xs vs := by
  unfold dictF at h
  cases q : st[n]? with
  | none => rw [q] at h; cases h
  | some o =>
    rw [q] at h
    cases r with
    | ref h1 =>
      cases o with
      | dct ys =>
        cases h
        obtain ⟨vs, e, r⟩ := R.at_ _ _ _ h1 q
        exact ⟨_, _, rfl, h1, .inl e, r⟩
      | fdc ys =>
        cases h
        obtain ⟨o, vs, e, r⟩ := R.at_ _ _ _ h1 q
        exact ⟨_, _, rfl, h1, .inr ⟨o, e⟩, r⟩
      | _ => cases h
mutual
def toP : T → PyData
  | .non => .none
  | .bl b => .bool b
  | .int i => .int i
  | .str x => .str (toS x)
  | .lst xs => .list (toPs xs)
  | .tup xs => .tuple (toPs xs)
def toPs : List T → List PyData
  | [] => []
  | x :: xs => toP x :: toPs xs
end
theorem toS_beq (x y : List Char) : (toS x == toS y) = (x == y) := by
  by_cases h : x = y
  · subst h; simp
  · rw [beq_eq_false_iff_ne.mpr h, beq_eq_false_iff_ne.mpr fun e => h (toS_inj e)]
mutual
theorem eqv_toP : ∀ (a b : T), PyData.eqv (toP a) (toP b) = T.eqv a b
  | .non, b => by cases b <;> simp [toP, PyData.eqv, T.eqv]
  | .bl x, b => by cases b <;> simp [toP, PyData.eqv, T.eqv]
  | .int x, b => by cases b <;> simp [toP, PyData.eqv, T.eqv]
  | .str x, b => by cases b <;> simp [toP, PyData.eqv, T.eqv, toS_beq]
  | .lst x, b => by cases b <;> simp [toP, PyData.eqv, T.eqv, eqvs_toP]
  | .tup x, b => by cases b <;> simp [toP, PyData.eqv, T.eqv, eqvs_toP]
theorem eqvs_toP : ∀ (a b : List T), PyData.eqvAll (toPs a) (toPs b) = T.eqvs a b
  | [], b => by cases b <;> simp [toPs, PyData.eqvAll, T.eqvs]
  | x :: xs, b => by cases b <;> simp [toPs, PyData.eqvAll, T.eqvs, eqv_toP, eqvs_toP]
end
theorem strOk_toS (x : List Char) : PyData.strOk (toS x) = true := by
  unfold PyData.strOk toS
  rw [List.all_toArray, List.all_eq_true]
  intro c hc
  obtain ⟨k, _, rfl⟩ := List.mem_map.mp hc
  have h := k.valid
  have e : k.toNat = k.val.toNat := rfl
  simp only [UInt32.isValidChar, Nat.isValidChar] at h
  rw [decide_eq_true_eq]
  omega
mutual
theorem lay_toP : ∀ a : T, PyData.canLay0 (toP a) = true
  | .non => by simp [toP, PyData.canLay0]
  | .bl x => by simp [toP, PyData.canLay0]
  | .int x => by simp [toP, PyData.canLay0]
  | .str x => by simp [toP, PyData.canLay0, strOk_toS]
  | .lst x => by simp [toP, PyData.canLay0, lays_toP]
  | .tup x => by simp [toP, PyData.canLay0, lays_toP]
theorem lays_toP : ∀ a : List T, PyData.canLayAll0 (toPs a) = true
  | [] => by simp [toPs, PyData.canLayAll0]
  | x :: xs => by simp [toPs, PyData.canLayAll0, lay_toP, lays_toP]
end
theorem trees_one {ρ : List Addr} {st : Sto} {H : Hp} {n : Nat} (one : ∀ (d : D) (v : V) (t : T), Rep X.K ρ H d v → treeF st n d = some t → Dp X.K H v (toP t) ∧ (toP t).depth ≤ n) :
    ∀ (ds : List D) (vs : List V) (ts : List T), Reps X.K ρ H ds vs → treesF st n ds = some ts → DpAll X.K H vs (toPs ts) ∧ PyData.depthAll (toPs ts) ≤ n := by
  intro ds
  induction ds with
  | nil =>
    intro vs ts r h
    cases r
    rw [treesF] at h
    cases h
    exact ⟨.nil, by simp [toPs, PyData.depthAll]⟩
  | cons d ds ih =>
    intro vs ts r h
    cases r with
    | cons r1 r2 =>
      rw [treesF] at h
      cases q1 : treeF st n d with
      | none => rw [q1] at h; cases h
      | some t =>
        cases q2 : treesF st n ds with
        | none => rw [q1, q2] at h; cases h
        | some us =>
          rw [q1, q2] at h
          cases h
          obtain ⟨a1, a2⟩ := one d _ t r1 q1
          obtain ⟨b1, b2⟩ := ih _ us r2 q2
          exact ⟨.cons a1 b1, by simp only [toPs, PyData.depthAll]; omega⟩
theorem tree_of {ρ : List Addr} {st : Sto} {H : Hp} (R : Rl N X.K ρ st H) : ∀ (n : Nat) (d : D) (v : V) (t : T), Rep X.K ρ H d v → treeF st n d = some t → Dp X.K H v (toP t) ∧ (toP t).depth ≤ n := by
  intro n
  induction n with
  | zero =>
    intro d v t r h
    cases r <;> simp [treeF] at h <;> (subst h; simp only [toP]; exact ⟨by constructor, by simp [PyData.depth]⟩)
  | succ n ih =>
    have ih := trees_one ih
    intro d v t r h
    cases r with
    | non => rw [treeF] at h; cases h; simp only [toP]; exact ⟨by constructor, by simp [PyData.depth]⟩
    | bl => rw [treeF] at h; cases h; simp only [toP]; exact ⟨by constructor, by simp [PyData.depth]⟩
    | int => rw [treeF] at h; cases h; simp only [toP]; exact ⟨by constructor, by simp [PyData.depth]⟩
    | str => rw [treeF] at h; cases h; simp only [toP]; exact ⟨by constructor, by simp [PyData.depth]⟩
    | tup h1 h2 =>
      rw [treeF] at h
      obtain ⟨ts, e, rfl⟩ := Option.map_eq_some_iff.mp h
      obtain ⟨a, b⟩ := ih _ _ _ h2 e
      simp only [toP]
      exact ⟨.tup h1 a, by simp only [PyData.depth]; omega⟩
    | kls h1 h2 =>
      rw [treeF] at h
      obtain ⟨ts, e, rfl⟩ := Option.map_eq_some_iff.mp h
      obtain ⟨a, b⟩ := ih _ _ _ h2 e
      simp only [toP]
      exact ⟨.lst h1.sq a, by simp only [PyData.depth]; omega⟩
    | @ref m a h1 =>
      rw [treeF] at h
      cases q : st[m]? with
      | none => rw [q] at h; cases h
      | some o =>
        rw [q] at h
        cases o with
        | lst ys =>
          obtain ⟨ts, e, rfl⟩ := Option.map_eq_some_iff.mp h
          obtain ⟨vs, ha, rs⟩ := R.at_ _ _ _ h1 q
          obtain ⟨a, b⟩ := ih _ _ _ rs e
          simp only [toP]
          exact ⟨.lst (.inl (.inl ha)) a, by simp only [PyData.depth]; omega⟩
        | _ => cases h
theorem trees_of {ρ : List Addr} {st : Sto} {H : Hp} (R : Rl N X.K ρ st H) (n : Nat) : ∀ (ds : List D) (vs : List V) (ts : List T), Reps X.K ρ H ds vs → treesF st n ds = some ts → DpAll X.K H vs (toPs ts) ∧ PyData.depthAll (toPs ts) ≤ n := trees_one (tree_of R n)
theorem shaped_toP {t : T} (h : (toP t).depth ≤ 64) : SeqAt.shaped (toP t) = true := by
  unfold SeqAt.shaped
  rw [lay_toP, decide_eq_true h]; rfl
theorem flat_of {ρ : List Addr} {H : Hp} {d : D} {v : V} (r : Rep X.K ρ H d v) (h : flatF d = true) : flatV v = true := by
  cases r <;> first | rfl | cases h
theorem flats_of {ρ : List Addr} {H : Hp} : ∀ {ds : List D} {vs : List V}, Reps X.K ρ H ds vs → ds.all flatF = true → vs.all flatV = true
  | _, _, .nil, _ => rfl
  | _, _, .cons r t, h => by
    rw [List.all_cons, Bool.and_eq_true] at h
    rw [List.all_cons, flat_of r h.1, flats_of t h.2]; rfl
theorem eqS_of {ρ : List Addr} {H : Hp} {d e : D} {v u : V} (r : Rep X.K ρ H d v) (q : Rep X.K ρ H e u) (h : flatF d = true) (h' : flatF e = true) : eqV v u = eqS d e := by
  cases r <;> first | (cases h; done) | (cases q <;> first | (cases h'; done) | rfl | simp [eqV, eqS, toS_beq])
theorem inV_of {ρ : List Addr} {H : Hp} {d : D} {v : V} (r : Rep X.K ρ H d v) (h : flatF d = true) : ∀ {ds : List D} {vs : List V}, Reps X.K ρ H ds vs → ds.all flatF = true → inV v vs = ds.any fun z => eqS z d
  | _, _, .nil, _ => rfl
  | _, _, .cons q t, h' => by
    rw [List.all_cons, Bool.and_eq_true] at h'
    have ih := inV_of r h t h'.2
    unfold inV at ih ⊢
    rw [List.any_cons, List.any_cons, ih, eqS_of q r h'.1 h]
theorem any_toP (t : T) : ∀ ts : List T, ((toPs ts).any fun z => PyData.eqv z (toP t)) = ts.any fun z => T.eqv z t
  | [] => rfl
  | x :: xs => by rw [toPs, List.any_cons, List.any_cons, eqv_toP, any_toP t xs]
end
end MP
namespace MP
open GQ PySem PySem.SeqAt
open AutoSeq1 (wpAny_loadPart')
open MeetsSeq MeetsSeq2 MeetsSeq3 SeqRoads2
section
variable {prog : Program} {w : World} {A : Around} {R : Result → Shared → Prop}
theorem tuple_neG (l b : Addr) (items items2 : Array Value) (n n2 : Nat) (dd dd2 : Option Addr) (sl sl2 : Array (Option Value)) (hsz : items.size = items2.size) (I : Nat → Shared → Prop)
    (turn : ∀ i (h1 : i < items.size) (h2 : i < items2.size) s, I i s → wpAny (model prog w) A.in1 (eqBool items[i] items2[i]) (fun r s' => r = true ∧ I (i + 1) s') (fun e s' => R (.error e) s') s)
    (fin : ∀ s, I items.size s → R (.ok (.ret (.bool false))) s) {s : Shared} (hl1 : s.heap.get? l = some { cls := .type "tuple", dict := dd, data := .seq items n, slots := sl }) (hb1 : s.heap.get? b = some { cls := .type "tuple", dict := dd2, data := .seq items2 n2, slots := sl2 }) (h : I 0 s) :
    wpAny (model prog w) A.in1 (Builtin.«tuple.__ne__» ⟨[.ref l, .ref b], []⟩) (FinOf prog w A R) (fun e s' => R (.error e) s') s := by
  have f2 := AutoSeq1.sub_tuple_tuple
  have hZ : (items.toList.zip items2.toList).length = items.size := by simp [hsz]
  have h0 := h
  obtain ⟨hp, g, d, tk, os⟩ := s
  wp_walk using wpAny_loadPart' hl1, wpAny_loadPart' hb1, wpAny_forIn_list _ (fun rest b s' => b.1 = none ∧ ∃ i, rest = (items.toList.zip items2.toList).drop i ∧ i ≤ items.size ∧ I i s') _
  case turn =>
    rintro ⟨y, x⟩ rest b s' ⟨hb', i, hz, hi, hI⟩
    have hlt : i < (items.toList.zip items2.toList).length := by
      rcases Nat.lt_or_ge i (items.toList.zip items2.toList).length with h' | h'
      · exact h'
      · rw [List.drop_of_length_le h'] at hz; cases hz
    have h1 : i < items.size := hZ ▸ hlt
    have h2 : i < items2.size := hsz ▸ h1
    rw [List.drop_eq_getElem_cons hlt] at hz
    injection hz with hyx hrest
    have hy : y = items[i] := by have := congrArg Prod.fst hyx; simpa using this
    have hx : x = items2[i] := by have := congrArg Prod.snd hyx; simpa using this
    subst hy hx
    refine wpAny_bind (wpAny_mono (turn i h1 h2 s' hI) (fun r s2 q2 => ?_) fun _ _ x => x)
    obtain ⟨hr, q2⟩ := q2
    subst hr
    wp_walk
    exact ⟨rfl, i + 1, hrest, h1, q2⟩
  case fin =>
    rintro ⟨b1, b2⟩ s' ⟨hb', i, hz, hi, hI⟩
    simp only at hb'
    subst hb'
    have hge : items.size ≤ i := by
      rcases Nat.lt_or_ge i (items.toList.zip items2.toList).length with h' | h'
      · rw [List.drop_eq_getElem_cons h'] at hz; cases hz
      · exact hZ ▸ h'
    have hi' : i = items.size := by omega
    have hR : R (.ok (.ret (.bool false))) s' := fin s' (hi' ▸ hI)
    wp_walk
    simpa [Builtin.Tuple.tupleCompareSizes, hsz] using hR
  case h =>
    exact ⟨rfl, 0, rfl, Nat.zero_le _, h0⟩
end
section
variable {prog : Program} {w : World} {A : Around} {E : Value → Shared → Prop} {s : Shared}
theorem rc_tupN {l b : Addr} {items items2 : Array Value} {Q : Value → Shared → Prop} (hsz : items.size = items2.size) (hu : A.units < cLine) (I : Nat → Shared → Prop)
    (hl : s.heap.IsTuple l items) (hb : s.heap.IsTuple b items2)
    (turn : ∀ i (h1 : i < items.size) (h2 : i < items2.size) s, I i s → wpAny (model prog w) A.in1 (eqBool items[i] items2[i]) (fun r s' => r = true ∧ I (i + 1) s') E s)
    (fin : ∀ s, I items.size s → Q (.bool false) s) (h : I 0 s) : wpAny (model prog w) A (richCompare .NotEq (.ref l) (.ref b)) Q E s := by
  obtain ⟨⟨cls, dd, data, sl⟩, ho, hc, n, hd⟩ := id hl
  obtain ⟨⟨cls2, dd2, data2, sl2⟩, ho2, hc2, n2, hd2⟩ := id hb
  simp only at hc hd hc2 hd2
  subst hc hd hc2 hd2
  refine wpAny_richCompare_same_room (op := .NotEq) ⟨_, ho, rfl⟩ ⟨_, ho2, rfl⟩ F.slot_tuple_ne (call_here F.slot_tuple_ne ⟨_, ho, rfl⟩ F.entry_tuple_ne (F.args_tuple_ne_2 _ _) ?_) hu
  exact tuple_neG (R := wants (fun v s' => v ≠ .notImplemented ∧ Q v s') E) l b items items2 n n2 dd dd2 sl sl2 hsz I turn (fun s' q => ⟨(fun x => nomatch x), fin s' q⟩) ho ho2 h
end
end MP
namespace MP
open PySem PySem.Spec PyProof.Rows L2
section
variable {prog : Program} {w : World} {K : Type} [DecidableEq K] {knd : KeyKind prog w K} {A : Around} {s : Shared} {a b : Addr} {ka kb : List (K × Value)} {r : Bool}
/-- != of two dicts: as == goes, by the other slot -/
theorem rc_ne (ha : (a == sysModules) = false) (hb : (b == sysModules) = false) (da : Heap.DictOf knd s.heap a ka) (db : Heap.DictOf knd s.heap b kb) (hu : A.units < cLine) (hits : ka.length = kb.length → PySem.W.KeqHitsP prog w A.in1 s kb ka r) (E Q : Value → Shared → Prop)
    (h : Q (Value.bool (!(ka.length == kb.length && r))) s) : wpAny (model prog w) A (richCompare CmpOp.NotEq (Value.ref a) (Value.ref b)) Q E s := by
  refine wpAny_richCompare_same_room da.typeIs db.typeIs PySem.F.slot_dict_ne ?_ hu
  refine wpAny_call_entry PySem.F.slot_dict_ne da.typeIs PySem.F.entry_dict_ne ?_ (PySem.F.args_dict_ne_2 _ _)
  refine id (wpAny_bind (id (wpAny_bind (wpAny_notOrdered_dict da.typeIs (id (wpAny_pure (wpAny_bind (wpAny_isInstance db.typeIs PySem.F.sub_dict_dict ?_))))))))
  simp only [Bool.not_true, Bool.false_eq_true, if_false]
  refine wpAny_bind (wpAny_pure (wpAny_bind (wpAny_pure (wpAny_bind (PySem.W.samePairsP ha hb da db hits (wpAny_pure ⟨_, rfl, (by intro x; cases x), ?_⟩))))))
  cases e : (ka.length == kb.length && r) with
  | true => rw [e] at h; exact h
  | false => rw [e] at h; exact h
end
/-- the pairs of one dict found in another, alike or not -/
inductive EqK (K : PySem.W.Frag) (H : Hp) (kb : List (Key × V)) : List (Key × V) → Bool → Prop where
  | nil : EqK K H kb [] true
  | miss {k : Key} {v : V} {r : List (Key × V)} : valV kb k = none → EqK K H kb ((k, v) :: r) false
  | hit {k : Key} {v y : V} {d e : PyData} {r : List (Key × V)} {c : Bool} : valV kb k = some y → Dp K H v d → Dp K H y e → SeqAt.shaped d = true → SeqAt.shaped e = true → EqK K H kb r c → EqK K H kb ((k, v) :: r) (d.eqv e && c)
theorem paired_len {α β : Type} {F : α → β → Prop} : ∀ {l : List α} {m : List β}, Paired F l m → l.length = m.length
  | _, _, .nil => rfl
  | _, _, .cons _ t => congrArg Nat.succ (paired_len t)
section
variable {X : Cx} {pins : List (Addr × Obj)} {σ : L2.St} {H : Hp} {s : Shared}
theorem EqK.hitsA {A : Around} (I : L2.Inv X pins σ H s) (hu : A.in1.units + 64 < cLine) {kb : List (Key × V)} {vb : List (Key × Value)} (hb : KV kb vb) : ∀ {ka : List (Key × V)} {c : Bool} {va : List (Key × Value)}, EqK X.K H kb ka c → KV ka va → PySem.W.KeqHitsP X.prog X.w A.in1 s vb va c
  | _, _, _, .nil, .nil => .nil
  | _, _, (k', u) :: va, .miss h, .cons ⟨hk, _⟩ _ => by
    cases hk
    have := KV.val hb k'
    rw [h] at this
    refine .miss ?_
    revert this
    cases valueAt vb k' with
    | none => exact fun _ => rfl
    | some v => intro h; cases h
  | _, _, (k', u) :: va, .hit h d1 d2 s1 s2 t, .cons ⟨hk, ru⟩ z => by
    cases hk
    have := KV.val hb k'
    rw [h] at this
    revert this
    cases e : valueAt vb k' with
    | none => intro h; cases h
    | some v =>
      intro hv
      obtain ⟨as, r1⟩ := Dp.reads I _ _ _ d1 ru
      obtain ⟨bs, r2⟩ := Dp.reads I _ _ _ d2 hv
      exact .hit e (PySem.W.keq_at r1 r2 s1 s2 hu).eqP (EqK.hitsA I hu hb t z)
theorem EqK.hits (I : L2.Inv X pins σ H s) (hu : X.A.in1.units + 64 < cLine) {kb : List (Key × V)} {vb : List (Key × Value)} (hb : KV kb vb) {ka : List (Key × V)} {c : Bool} {va : List (Key × Value)} (h : EqK X.K H kb ka c) (ha : KV ka va) : PySem.W.KeqHitsP X.prog X.w X.A.in1 s vb va c := EqK.hitsA I hu hb h ha
def rEqK (K : PySem.W.Frag) (neg : Bool) : R2 := fun x y H Q => ∃ a b ka kb c, x = .ref a ∧ y = .ref b ∧ H a = some (.dK ka) ∧ H b = some (.dK kb) ∧ (ka.length = kb.length → EqK K H kb ka c) ∧ Q (.bl (if neg = true then !(ka.length == kb.length && c) else (ka.length == kb.length && c))) H
end
theorem op_eqK {X : Cx} (hu : X.A.units + 65 < cLine) : OpR X (compareOp .Eq) (rEqK X.K false) := by
  intro pins s σ H x y v u Q I rx ry h
  obtain ⟨a, b, ka, kb, c, rfl, rfl, ea, eb, hk, q⟩ := h
  obtain rfl : v = Value.ref a := rx
  obtain rfl : u = Value.ref b := ry
  obtain ⟨l1, m1, va, kva, da⟩ := dk_of I.hok ea
  obtain ⟨l2, m2, vb, kvb, db⟩ := dk_of I.hok eb
  have e1 := paired_len kva
  have e2 := paired_len kvb
  have h1 : X.A.in1.units = X.A.units + 1 := rfl
  show wpAny (model X.prog X.w) X.A (richCompare .Eq (Value.ref a) (Value.ref b)) _ _ s
  refine PySem.W.rcP_dicts (r := c) m1 m2 da db (by omega) (fun e => (hk (by omega)).hits I (by omega) kvb kva) _ _ ?_
  rw [← e1, ← e2]
  exact ⟨.bl _, H, I, rfl, q⟩
theorem op_neK {X : Cx} (hu : X.A.units + 65 < cLine) : OpR X (compareOp .NotEq) (rEqK X.K true) := by
  intro pins s σ H x y v u Q I rx ry h
  obtain ⟨a, b, ka, kb, c, rfl, rfl, ea, eb, hk, q⟩ := h
  obtain rfl : v = Value.ref a := rx
  obtain rfl : u = Value.ref b := ry
  obtain ⟨l1, m1, va, kva, da⟩ := dk_of I.hok ea
  obtain ⟨l2, m2, vb, kvb, db⟩ := dk_of I.hok eb
  have e1 := paired_len kva
  have e2 := paired_len kvb
  have h1 : X.A.in1.units = X.A.units + 1 := rfl
  show wpAny (model X.prog X.w) X.A (richCompare .NotEq (Value.ref a) (Value.ref b)) _ _ s
  refine rc_ne (r := c) m1 m2 da db (by omega) (fun e => (hk (by omega)).hits I (by omega) kvb kva) _ _ ?_
  rw [← e1, ← e2]
  exact ⟨.bl _, H, I, rfl, q⟩
/-- two dicts, or two other things, that are alike -/
def EqDs (K : PySem.W.Frag) (H : Hp) (x y : V) : Prop := (∃ a b ka kb c, x = .ref a ∧ y = .ref b ∧ H a = some (.dK ka) ∧ H b = some (.dK kb) ∧ (ka.length = kb.length → EqK K H kb ka c) ∧ (ka.length == kb.length && c) = true) ∨ ∃ d e, Dp K H x d ∧ Dp K H y e ∧ SeqAt.shaped d = true ∧ SeqAt.shaped e = true ∧ d.eqv e = true
theorem EqDs.run {X : Cx} {pins : List (Addr × Obj)} {σ : L2.St} {H : Hp} {s : Shared} {A : Around} (I : L2.Inv X pins σ H s) (hu : A.units + 65 < cLine) : ∀ (x y : V) (v u : Value), EqDs X.K H x y → RelV x v → RelV y u → SeqAt.EqP X.prog X.w A s v u true := by
  intro x y v u h rx ry
  rcases h with h | ⟨d, e, p1, p2, s1, s2, q⟩
  · obtain ⟨a, b, ka, kb, c, rfl, rfl, ea, eb, hk, q⟩ := h
    obtain rfl : v = Value.ref a := rx
    obtain rfl : u = Value.ref b := ry
    by_cases e : a = b
    · subst e
      exact (SeqAt.EqAt.same _).eqP
    · obtain ⟨l1, m1, va, kva, da⟩ := dk_of I.hok ea
      obtain ⟨l2, m2, vb, kvb, db⟩ := dk_of I.hok eb
      have e1 := paired_len kva
      have e2 := paired_len kvb
      have h1 : A.in1.units = A.units + 1 := rfl
      refine SeqAt.eqP_refs e fun E Q hq => ?_
      refine PySem.W.rcP_dicts (r := c) m1 m2 da db (by omega) (fun e => (hk (by omega)).hitsA I (by omega) kvb kva) _ _ ?_
      rw [← e1, ← e2, q]
      exact hq
  · obtain ⟨as, r1⟩ := Dp.reads I _ _ _ p1 rx
    obtain ⟨bs, r2⟩ := Dp.reads I _ _ _ p2 ry
    have : SeqAt.EqP X.prog X.w A s v u (d.eqv e) := (SeqAt.eqAt_reads d e A s v u as bs r1 r2 (SeqAt.canLay_of_shaped s1) (SeqAt.canLay_of_shaped s2) (SeqAt.room_of_shaped s1 (by omega))).eqP
    rw [q] at this
    exact this
/-- two tuples of dicts that are alike -/
def rEqDs (K : PySem.W.Frag) : R2 := fun x y H Q => ∃ a b xs ys, x = .ref a ∧ y = .ref b ∧ SqT K H a xs ∧ SqT K H b ys ∧ Paired (EqDs K H) xs ys ∧ Q (.bl true) H
theorem op_eqDs {X : Cx} (hu : X.A.units + 66 < cLine) : OpR X (compareOp .Eq) (rEqDs X.K) := by
  intro pins s σ H x y v u Q I rx ry h
  obtain ⟨a, b, xs, ys, rfl, rfl, ha, hb, hp, q⟩ := h
  obtain rfl : v = Value.ref a := rx
  obtain rfl : u = Value.ref b := ry
  obtain ⟨us, r1, p1, _⟩ := I.tuple ha
  obtain ⟨ws, r2, p2, _⟩ := I.tuple hb
  have hsz : us.toArray.size = ws.toArray.size := by
    rw [List.size_toArray, List.size_toArray, ← r1.length, ← r2.length]
    exact paired_len hp
  show wpAny (model X.prog X.w) X.A (richCompare .Eq (Value.ref a) (Value.ref b)) _ _ s
  refine GQ.rc_tupG hsz (by omega) (fun _ s' => s' = s) p1 p2 (fun j h1 h2 s' e => ?_) (fun s' e => ?_) rfl
  · subst e
    have k := items_run (EqDs.run I (A := X.A.in1) (by have h1 : X.A.in1.units = X.A.units + 1 := rfl; omega)) hp r1 r2 j (by simpa using h1) (by simpa using h2)
    have k2 : SeqAt.EqP X.prog X.w X.A.in1 s' us.toArray[j] ws.toArray[j] true := by simpa using k
    exact k2 _ _ ⟨rfl, rfl⟩
  · subst e
    exact ⟨.bl true, H, I, rfl, q⟩
/-- != of two tuples of dicts that are alike -/
def rNeDs (K : PySem.W.Frag) : R2 := fun x y H Q => ∃ a b xs ys, x = .ref a ∧ y = .ref b ∧ SqT K H a xs ∧ SqT K H b ys ∧ Paired (EqDs K H) xs ys ∧ Q (.bl false) H
theorem op_neDs {X : Cx} (hu : X.A.units + 66 < cLine) : OpR X (compareOp .NotEq) (rNeDs X.K) := by
  intro pins s σ H x y v u Q I rx ry h
  obtain ⟨a, b, xs, ys, rfl, rfl, ha, hb, hp, q⟩ := h
  obtain rfl : v = Value.ref a := rx
  obtain rfl : u = Value.ref b := ry
  obtain ⟨us, r1, p1, _⟩ := I.tuple ha
  obtain ⟨ws, r2, p2, _⟩ := I.tuple hb
  have hsz : us.toArray.size = ws.toArray.size := by
    rw [List.size_toArray, List.size_toArray, ← r1.length, ← r2.length]
    exact paired_len hp
  show wpAny (model X.prog X.w) X.A (richCompare .NotEq (Value.ref a) (Value.ref b)) _ _ s
  refine rc_tupN hsz (by omega) (fun _ s' => s' = s) p1 p2 (fun j h1 h2 s' e => ?_) (fun s' e => ?_) rfl
  · subst e
    have k := items_run (EqDs.run I (A := X.A.in1) (by have h1 : X.A.in1.units = X.A.units + 1 := rfl; omega)) hp r1 r2 j (by simpa using h1) (by simpa using h2)
    have k2 : SeqAt.EqP X.prog X.w X.A.in1 s' us.toArray[j] ws.toArray[j] true := by simpa using k
    exact k2 _ _ ⟨rfl, rfl⟩
  · subst e
    exact ⟨.bl false, H, I, rfl, q⟩
end MP
namespace MP
open PySem PySem.Spec PyProof.Rows L2
section
variable {X : Cx} {N : Nm}
theorem ok_sub : Op2Ok X N (binaryOp .Sub) (opF .sub) := by
  intro ρ st H dx dy x y d st' R rx ry h
  cases rx <;> cases ry <;> simp only [opF, reduceCtorEq] at h
  cases h
  exact ⟨_, op_sub, fun Q P => ⟨_, _, rfl, rfl, P.here R (.int _)⟩⟩
theorem ok_mod : Op2Ok X N (binaryOp .Mod) (opF .mod) := by
  intro ρ st H dx dy x y d st' R rx ry h
  cases rx <;> cases ry <;> simp only [opF, reduceCtorEq] at h
  split at h
  · rename_i h0
    cases h
    exact ⟨_, op_mod, fun Q P => ⟨_, _, rfl, rfl, h0, P.here R (.int _)⟩⟩
  · cases h
theorem ok_fdiv : Op2Ok X N (binaryOp .FloorDiv) (opF .fdiv) := by
  intro ρ st H dx dy x y d st' R rx ry h
  cases rx <;> cases ry <;> simp only [opF, reduceCtorEq] at h
  split at h
  · rename_i h0
    cases h
    exact ⟨_, op_fdivW, fun Q P => ⟨_, _, rfl, rfl, h0, P.here R (.int _)⟩⟩
  · cases h
theorem op_fdivNW : OpR X (binaryOp .FloorDiv) (rI (fun _ j => j ≠ 0 ∧ j.natAbs.log2 < 9000) fun i j => .int (i.fdiv j)) := opI fun i j _ _ _ _ _ hc q => floordiv_int hc.1 q (.inl (PyProof.noPylong_of_log2 hc.2))
theorem ok_modN : Op2Ok X N (binaryOp .Mod) (opF .modN) := by
  intro ρ st H dx dy x y d st' R rx ry h
  cases rx <;> cases ry <;> simp only [opF, reduceCtorEq] at h
  split at h
  · rename_i h0
    cases h
    exact ⟨_, op_modN, fun Q P => ⟨_, _, rfl, rfl, h0, P.here R (.int _)⟩⟩
  · cases h
theorem ok_fdivN : Op2Ok X N (binaryOp .FloorDiv) (opF .fdivN) := by
  intro ρ st H dx dy x y d st' R rx ry h
  cases rx <;> cases ry <;> simp only [opF, reduceCtorEq] at h
  split at h
  · rename_i h0
    cases h
    exact ⟨_, op_fdivNW, fun Q P => ⟨_, _, rfl, rfl, h0, P.here R (.int _)⟩⟩
  · cases h
theorem ok_pow : Op2Ok X N (binaryOp .Pow) (opF .pow) := by
  intro ρ st H dx dy x y d st' R rx ry h
  cases rx <;> cases ry <;> simp only [opF, reduceCtorEq] at h
  split at h
  · rename_i h0
    cases h
    exact ⟨_, op_pow, fun Q P => ⟨_, _, rfl, rfl, h0, P.here R (.int _)⟩⟩
  · cases h
theorem fold_rep (l : List Nat) : ∀ (k : Nat) (acc : List Nat), List.foldl (fun x1 x2 => x1 ++ x2) acc.toArray (List.replicate k l.toArray) = (acc ++ (List.replicate k l).flatten).toArray
  | 0, acc => by simp
  | k + 1, acc => by
    have e : acc.toArray ++ l.toArray = (acc ++ l).toArray := by simp
    have e2 : (acc ++ l) ++ (List.replicate k l).flatten = acc ++ (List.replicate (k + 1) l).flatten := by
      rw [List.replicate_succ, List.flatten_cons, List.append_assoc]
    rw [← e2, ← fold_rep l k (acc ++ l), ← e, List.replicate_succ, List.foldl_cons]
theorem fold_str (x : Str) (k : Nat) : (⟨(List.replicate k x.cps).foldl (· ++ ·) #[]⟩ : Str) = ⟨(List.replicate k x.cps.toList).flatten.toArray⟩ := by
  have h := fold_rep x.cps.toList k []
  rw [List.nil_append] at h
  rw [← h]
theorem len_rep (l : List Nat) (k : Nat) : (List.replicate k l).flatten.length = k * l.length := by simp
theorem rep_str {x : Str} {n : Int} (h0 : 0 ≤ n) (h1 : n ≤ 100000) (h2 : x.length * n.toNat ≤ 1000000) :
    OpR X (binaryOp .Mult) (fun v u H Q => v = .str x ∧ u = .int n ∧ Q (.str ⟨(List.replicate n.toNat x.cps.toList).flatten.toArray⟩) H) := by
  intro pins s σ H vx vy v u Q I rx ry h
  obtain ⟨rfl, rfl, q⟩ := h
  obtain ⟨t, rfl⟩ := (show ∃ t, v = Value.str x t from rx)
  obtain ⟨t2, rfl⟩ := (show ∃ t, u = Value.int n t from ry)
  have hl : x.length * n.toNat ≤ 1000000 := h2
  have fin : ∀ (u : Str) (k : Nat), u = ⟨(List.replicate n.toNat x.cps.toList).flatten.toArray⟩ → EP X pins σ Q (.str u k) { s with toks := s.toks + 1 } := by
    intro u k e
    subst e
    exact ⟨_, H, I.tok _, show RelV (.str _) _ from ⟨k, rfl⟩, q⟩
  have fin0 : ∀ (u : Str) (k : Nat), u = ⟨(List.replicate n.toNat x.cps.toList).flatten.toArray⟩ → EP X pins σ Q (.str u k) s := by
    intro u k e
    subst e
    exact ⟨_, H, I, show RelV (.str _) _ from ⟨k, rfl⟩, q⟩
  refine PySem.P.mul_str (by rw [decide_eq_false (by omega), decide_eq_false (by omega)]; rfl) (fun h3 h4 => ?_) (fun _ _ => ?_) ?_
  · have hn : 0 < n := by omega
    have hl2 : (x.length : Int) * n ≤ 1000000 := by
      have : ((x.length * n.toNat : Nat) : Int) = (x.length : Int) * n := by rw [Int.natCast_mul, Int.toNat_of_nonneg (by omega)]
      omega
    have : (x.length : Int) ≤ (2 ^ 63 - 1) / n := by
      rw [Int.le_ediv_iff_mul_le hn]; omega
    omega
  · unfold Builtin.Str.tooLong
    rw [sizeLine_eq]
    exact decide_eq_false (by omega)
  · split
    · rename_i h3
      refine ⟨by decide, fin _ _ ?_⟩
      have e : n = 0 := by omega
      subst e
      rfl
    · split
      · rename_i h3 h4
        refine fin0 _ _ ?_
        rw [Bool.or_eq_true] at h4
        rcases h4 with h4 | h4
        · have e : n = 1 := by simpa using h4
          subst e
          simp
        · have e : x.cps = #[] := by simpa [Str.length] using h4
          obtain ⟨c⟩ := x
          cases e
          simp
      · refine ⟨?_, fin _ _ (fold_str x _)⟩
        rw [fold_str, sizeLine_eq]
        show (List.replicate n.toNat x.cps.toList).flatten.toArray.size ≤ _
        rw [List.size_toArray, len_rep]
        have e : x.cps.toList.length = x.length := by simp [Str.length]
        rw [e, Nat.mul_comm]
        omega
theorem toS_rep (l : List Char) (k : Nat) : toS (List.replicate k l).flatten = ⟨(List.replicate k (toS l).cps.toList).flatten.toArray⟩ := by
  simp [toS]
theorem ok_mul : Op2Ok X N (binaryOp .Mult) (opF .mul) := by
  intro ρ st H dx dy x y d st' R rx ry h
  cases rx <;> cases ry <;> simp only [opF, reduceCtorEq] at h
  · split at h
    · rename_i h0
      cases h
      exact ⟨_, op_mulW, fun Q P => ⟨_, _, rfl, rfl, h0, P.here R (.int _)⟩⟩
    · cases h
  · split at h
    · rename_i l j h0
      cases h
      refine ⟨_, rep_str (x := toS l) h0.1 h0.2.1 (by rw [toS_len]; exact h0.2.2), fun Q P => ⟨rfl, rfl, ?_⟩⟩
      rw [← toS_rep]
      exact P.here R (.str _)
    · cases h
  · split at h
    · rename_i a ds vs h1 h2 j h0
      cases h
      refine ⟨_, op_repT, fun Q P => ⟨_, _, _, rfl, rfl, h1, ?_, h0.2.1, h0.2.2.1, by rw [← h2.len]; exact h0.2.2.2, P.tup R (h2.rep _)⟩⟩
      intro e
      subst e
      cases h2
      exact h0.1 rfl
    · cases h
  · rename_i a ra j
    split at h
    · rename_i xs hs
      split at h
      · rename_i h0
        cases h
        have hz := sz_line
        obtain ⟨p, vs, e, _, h2, r⟩ := lst_at R (.ref ra) hs
        cases e
        exact ⟨_, op_rep, fun Q P => ⟨_, _, _, rfl, rfl, h2, by omega, by omega, by rw [← r.len]; omega, P.lst R (r.rep _)⟩⟩
      · cases h
    · cases h
theorem ok_add : Op2Ok X N (binaryOp .Add) (opF .add) := by
  intro ρ st H dx dy x y d st' R rx ry h
  have hz := sz_line
  cases rx <;> cases ry <;> simp only [opF, reduceCtorEq] at h
  · cases h
    exact ⟨_, op_add, fun Q P => ⟨_, _, rfl, rfl, P.here R (.int _)⟩⟩
  · split at h
    · rename_i h0
      cases h
      exact ⟨_, op_add_str, fun Q P => ⟨_, _, rfl, rfl, by rw [toS_len, toS_len]; omega, by rw [← toS_app]; exact P.here R (.str _)⟩⟩
    · cases h
  · split at h
    · rename_i a ds vs h1 h2 b es us h3 h4 h0
      cases h
      refine ⟨_, op_catA, fun Q P => ⟨_, _, _, _, rfl, rfl, h1, h3, by rw [← h2.len, ← h4.len]; omega, fun e => ?_, fun _ e => ?_, fun _ _ => P.tup R (h2.app h4)⟩⟩
      · subst e
        cases h2
        exact P.here R (.tup h3 h4)
      · subst e
        cases h4
        rw [List.append_nil] at P
        exact P.here R (.tup h1 h2)
    · cases h
  · rename_i n a h1 m b h2
    split at h
    · rename_i xs ys q1 q2
      split at h
      · rename_i h0
        cases h
        obtain ⟨vs, e1, r1⟩ := R.at_ _ _ _ h1 q1
        obtain ⟨us, e2, r2⟩ := R.at_ _ _ _ h2 q2
        exact ⟨_, op_cat, fun Q P => ⟨_, _, _, _, rfl, rfl, e1, e2, by rw [← r1.len, ← r2.len]; omega, P.lst R (r1.app r2)⟩⟩
      · cases h
    · cases h
theorem room65 {X : Cx} {k : Nat} (hr : Room k X.A) : X.A.units + 65 < cLine := by have := hr.un; omega
theorem cmpS_lt : ∀ (x y : List Char), decide ((x.map Char.toNat) < (y.map Char.toNat)) = cmpS x y
  | [], [] => by simp [cmpS]
  | [], b :: y => by simp [cmpS]
  | a :: x, [] => by simp [cmpS]
  | a :: x, b :: y => by
    rw [List.map_cons, List.map_cons, cmpS, ← cmpS_lt x y]
    by_cases h1 : a.toNat < b.toNat
    · rw [if_pos h1]
      exact decide_eq_true (List.cons_lt_cons_iff.mpr (.inl h1))
    · rw [if_neg h1]
      by_cases h2 : a.toNat = b.toNat
      · rw [if_pos h2]
        by_cases h3 : x.map Char.toNat < y.map Char.toNat
        · rw [decide_eq_true h3]
          exact decide_eq_true (List.cons_lt_cons_iff.mpr (.inr ⟨h2, h3⟩))
        · rw [decide_eq_false h3]
          refine decide_eq_false fun z => ?_
          rcases List.cons_lt_cons_iff.mp z with z | z
          · exact h1 z
          · exact h3 z.2
      · rw [if_neg h2]
        refine decide_eq_false fun z => ?_
        rcases List.cons_lt_cons_iff.mp z with z | z
        · exact h1 z
        · exact h2 z.1
theorem toS_list (x : List Char) : (toS x).cps.toList = x.map Char.toNat := by simp [toS]
theorem ok_lt : Op2Ok X N (compareOp .Lt) (opF .lt) := by
  intro ρ st H dx dy x y d st' R rx ry h
  cases rx <;> cases ry <;> simp only [opF, reduceCtorEq] at h <;> cases h
  · exact ⟨_, op_lt, fun Q P => ⟨_, _, rfl, rfl, P.here R (.bl _)⟩⟩
  · exact ⟨_, op_lt_str, fun Q P => ⟨_, _, rfl, rfl, by rw [toS_list, toS_list, cmpS_lt]; exact P.here R (.bl _)⟩⟩
theorem ok_le : Op2Ok X N (compareOp .LtE) (opF .le) := by
  intro ρ st H dx dy x y d st' R rx ry h
  cases rx <;> cases ry <;> simp only [opF, reduceCtorEq] at h <;> cases h
  · exact ⟨_, op_le, fun Q P => ⟨_, _, rfl, rfl, P.here R (.bl _)⟩⟩
  · exact ⟨_, op_le_str, fun Q P => ⟨_, _, rfl, rfl, by rw [toS_list, toS_list, cmpS_lt]; exact P.here R (.bl _)⟩⟩
theorem ok_gt : Op2Ok X N (compareOp .Gt) (opF .gt) := by
  intro ρ st H dx dy x y d st' R rx ry h
  cases rx <;> cases ry <;> simp only [opF, reduceCtorEq] at h <;> cases h
  · exact ⟨_, op_gt, fun Q P => ⟨_, _, rfl, rfl, P.here R (.bl _)⟩⟩
  · exact ⟨_, op_gt_str, fun Q P => ⟨_, _, rfl, rfl, by rw [toS_list, toS_list, cmpS_lt]; exact P.here R (.bl _)⟩⟩
theorem ok_ge : Op2Ok X N (compareOp .GtE) (opF .ge) := by
  intro ρ st H dx dy x y d st' R rx ry h
  cases rx <;> cases ry <;> simp only [opF, reduceCtorEq] at h <;> cases h
  · exact ⟨_, op_ge, fun Q P => ⟨_, _, rfl, rfl, P.here R (.bl _)⟩⟩
  · exact ⟨_, op_ge_str, fun Q P => ⟨_, _, rfl, rfl, by rw [toS_list, toS_list, cmpS_lt]; exact P.here R (.bl _)⟩⟩
theorem keyF_of {ρ : List Addr} {H : Hp} {d : D} {v : V} {k : Kk} (r : Rep X.K ρ H d v) (h : keyF d = some k) : v = kV (toK k) := by
  cases r <;> simp [keyF] at h <;> subst h <;> rfl
theorem rep_keyD {ρ : List Addr} {H : Hp} (k : Kk) : Rep X.K ρ H (keyD k) (kV (toK k)) := by
  cases k
  · exact .int _
  · exact .str _
theorem toK_dec (a b : Kk) : decide (toK a = toK b) = decide (a = b) := by
  by_cases h : a = b
  · subst h; simp
  · rw [decide_eq_false h, decide_eq_false fun e => h (toK_inj e)]
theorem KVs.val {ρ : List Addr} {H : Hp} {k : Kk} : ∀ {kvs : List (Kk × D)} {ws : List (Key × V)}, KVs X.K ρ H kvs ws →
    (∀ d, getK kvs k = some d → ∃ v, valV ws (toK k) = some v ∧ Rep X.K ρ H d v) ∧ (getK kvs k = none → valV ws (toK k) = none)
  | _, _, .nil => ⟨fun _ h => by simp [getK] at h, fun _ => rfl⟩
  | _, _, .cons (a := p) (b := q) r t => by
    obtain ⟨i1, i2⟩ := KVs.val (k := k) t
    by_cases h : p.1 = k
    · have e : q.1 = toK k := by rw [r.1, h]
      refine ⟨fun d hd => ?_, fun hd => ?_⟩
      · rw [valV_pos e]
        simp [getK, List.find?_cons, h] at hd
        subst hd
        exact ⟨_, rfl, r.2⟩
      · simp [getK, List.find?_cons, h] at hd
    · have e : ¬ q.1 = toK k := by rw [r.1]; exact fun z => h (toK_inj z)
      have e2 : ∀ l, getK (p :: l) k = getK l k := fun l => by simp [getK, List.find?_cons, h]
      rw [valV_neg e, e2]
      exact ⟨i1, i2⟩
theorem eqT_of {ρ : List Addr} {st : Sto} {H : Hp} {dx dy : D} {x y : V} {b : Bool} (R : Rl N X.K ρ st H) (rx : Rep X.K ρ H dx x) (ry : Rep X.K ρ H dy y) (e : eqT st dx dy = some b) :
    ∃ d1 d2, Dp X.K H x d1 ∧ Dp X.K H y d2 ∧ SeqAt.shaped d1 = true ∧ SeqAt.shaped d2 = true ∧ d1.eqv d2 = b := by
  unfold eqT at e
  split at e
  · rename_i ta tb ea eb
    cases e
    obtain ⟨p1, p2⟩ := tree_of R 60 _ _ _ rx ea
    obtain ⟨q1, q2⟩ := tree_of R 60 _ _ _ ry eb
    exact ⟨_, _, p1, q1, shaped_toP (by omega), shaped_toP (by omega), eqv_toP _ _⟩
  · cases e
theorem eqKs_of {ρ : List Addr} {st : Sto} {H : Hp} (R : Rl N X.K ρ st H) {kb : List (Kk × D)} {wb : List (Key × V)} (hb : KVs X.K ρ H kb wb) : ∀ {ka : List (Kk × D)} {wa : List (Key × V)} {c : Bool}, KVs X.K ρ H ka wa → eqKs st kb ka = some c → EqK X.K H wb wa c
  | _, _, _, .nil, e => by
    cases e
    exact .nil
  | (k, v) :: r, (k', u) :: z, c, .cons ⟨hk, rv⟩ t, e => by
    dsimp only at hk rv
    subst hk
    obtain ⟨i1, i2⟩ := hb.val (k := k)
    rw [eqKs] at e
    cases q : getK kb k with
    | none =>
      rw [q] at e
      cases e
      exact .miss (i2 q)
    | some y =>
      rw [q] at e
      obtain ⟨y', e2, ry⟩ := i1 y q
      dsimp only at e
      split at e
      · rename_i a b ea eb
        cases e
        obtain ⟨d1, d2, p1, p2, s1, s2, rfl⟩ := eqT_of R rv ry ea
        exact .hit e2 p1 p2 s1 s2 (eqKs_of R hb t eb)
      · cases e
theorem KVs.len {ρ : List Addr} {H : Hp} {K : PySem.W.Frag} {ka : List (Kk × D)} {wa : List (Key × V)} (h : KVs K ρ H ka wa) : ka.length = wa.length := paired_len h
theorem eqD_of {ρ : List Addr} {st : Sto} {H : Hp} {dx dy : D} {x y : V} {c : Bool} (R : Rl N X.K ρ st H) (rx : Rep X.K ρ H dx x) (ry : Rep X.K ρ H dy y) (e : eqD st dx dy = some c) :
    ∃ a b ka kb c', x = .ref a ∧ y = .ref b ∧ H a = some (.dK ka) ∧ H b = some (.dK kb) ∧ (ka.length = kb.length → EqK X.K H kb ka c') ∧ (ka.length == kb.length && c') = c := by
  cases rx <;> cases ry <;> simp only [eqD, reduceCtorEq] at e
  rename_i n a h1 m b h2
  cases q1 : st[n]? with
  | none => rw [q1] at e; simp at e
  | some o1 =>
    cases q2 : st[m]? with
    | none => rw [q1, q2] at e; cases o1 <;> simp at e
    | some o2 =>
      rw [q1, q2] at e
      cases o1 <;> (try (exfalso; simp at e; done))
      cases o2 <;> (try (exfalso; simp at e; done))
      rename_i ka kb
      replace e : (if ka.length = kb.length then eqKs st kb ka else some false) = some c := e
      obtain ⟨wa, ea, ra⟩ := R.at_ _ _ _ h1 q1
      obtain ⟨wb, eb, rb⟩ := R.at_ _ _ _ h2 q2
      have la := ra.len
      have lb := rb.len
      split at e
      · rename_i hl
        refine ⟨a, b, wa, wb, c, rfl, rfl, ea, eb, fun _ => eqKs_of R rb ra e, ?_⟩
        rw [show (wa.length == wb.length) = true from beq_iff_eq.mpr (by omega)]
        rfl
      · rename_i hl
        cases e
        refine ⟨a, b, wa, wb, false, rfl, rfl, ea, eb, fun z => absurd (by omega) hl, Bool.and_false _⟩
theorem ok_eq {k : Nat} (hr : Room k X.A) : Op2Ok X N (compareOp .Eq) (opF .eq) := by
  intro ρ st H dx dy x y d st' R rx ry h
  simp only [opF] at h
  obtain ⟨b, e, h⟩ := MP.R.bind_eq h
  cases h
  have e := MP.R.of_eq e
  unfold eqF at e
  split at e
  · rename_i b' eT
    cases e
    obtain ⟨d1, d2, p1, q1, s1, s2, rfl⟩ := eqT_of R rx ry eT
    exact ⟨_, op_eqD hr.units, fun Q P => ⟨_, _, p1, q1, s1, s2, P.here R (.bl _)⟩⟩
  · obtain ⟨a, b', ka, kb, c, rfl, rfl, ea, eb, hk, rfl⟩ := eqD_of R rx ry e
    exact ⟨_, op_eqK (room65 hr), fun Q P => ⟨_, _, _, _, _, rfl, rfl, ea, eb, hk, P.here R (.bl _)⟩⟩
theorem eqDs_of {ρ : List Addr} {st : Sto} {H : Hp} (R : Rl N X.K ρ st H) : ∀ {xs ys : List D} {vs us : List V}, Reps X.K ρ H xs vs → Reps X.K ρ H ys us → eqDs st xs ys = true → Paired (EqDs X.K H) vs us
  | _, _, _, _, .nil, .nil, _ => .nil
  | _, _, _, _, .nil, .cons _ _, h => by simp [eqDs] at h
  | _, _, _, _, .cons _ _, .nil, h => by simp [eqDs] at h
  | _, _, _, _, .cons r t, .cons r' t', h => by
    simp only [eqDs, Bool.and_eq_true, decide_eq_true_eq] at h
    refine .cons ?_ (eqDs_of R t t' h.2)
    have h1 := h.1
    unfold eqF at h1
    split at h1
    · rename_i b' eT
      cases h1
      obtain ⟨d1, d2, p1, q1, s1, s2, e⟩ := eqT_of R r r' eT
      exact .inr ⟨d1, d2, p1, q1, s1, s2, e⟩
    · obtain ⟨a, b, ka, kb, c, e1, e2, ea, eb, hk, q⟩ := eqD_of R r r' h1
      exact .inl ⟨a, b, ka, kb, c, e1, e2, ea, eb, hk, q⟩
theorem ok_eqt {k : Nat} (hr : Room k X.A) : Op2Ok X N (compareOp .Eq) (opF .eqt) := by
  intro ρ st H dx dy x y d st' R rx ry h
  simp only [opF] at h
  obtain ⟨b, e, h⟩ := MP.R.bind_eq h
  have e := MP.R.of_eq e
  unfold eqG at e
  split at e
  · rename_i b' e2
    cases e
    exact ok_eq hr ρ st H dx dy x y d st' R rx ry (by simp only [opF, e2, MP.R.of_some, MP.R.bind_ok]; exact h)
  · cases h
    split at e
    · rename_i xs ys
      split at e
      · rename_i hd
        cases e
        cases rx with
        | tup s1 t1 =>
          cases ry with
          | tup s2 t2 => exact ⟨_, op_eqDs (by have := hr.un; omega), fun Q P => ⟨_, _, _, _, rfl, rfl, s1, s2, eqDs_of R t1 t2 hd, P.here R (.bl _)⟩⟩
      · cases e
    · cases e
theorem ok_ne {k : Nat} (hr : Room k X.A) : Op2Ok X N (compareOp .NotEq) (opF .ne) := by
  intro ρ st H dx dy x y d st' R rx ry h
  simp only [opF] at h
  obtain ⟨b, e, h⟩ := MP.R.bind_eq h
  cases h
  have e := MP.R.of_eq e
  unfold eqF at e
  split at e
  · rename_i b' eT
    cases e
    obtain ⟨d1, d2, p1, q1, s1, s2, rfl⟩ := eqT_of R rx ry eT
    exact ⟨_, op_neD hr.units, fun Q P => ⟨_, _, p1, q1, s1, s2, P.here R (.bl _)⟩⟩
  · obtain ⟨a, b', ka, kb, c, rfl, rfl, ea, eb, hk, rfl⟩ := eqD_of R rx ry e
    exact ⟨_, op_neK (room65 hr), fun Q P => ⟨_, _, _, _, _, rfl, rfl, ea, eb, hk, P.here R (.bl _)⟩⟩
theorem ok_net {k : Nat} (hr : Room k X.A) : Op2Ok X N (compareOp .NotEq) (opF .net) := by
  intro ρ st H dx dy x y d st' R rx ry h
  simp only [opF] at h
  obtain ⟨b, e, h⟩ := MP.R.bind_eq h
  have e := MP.R.of_eq e
  unfold eqG at e
  split at e
  · rename_i b' e2
    cases e
    exact ok_ne hr ρ st H dx dy x y d st' R rx ry (by simp only [opF, e2, MP.R.of_some, MP.R.bind_ok]; exact h)
  · cases h
    split at e
    · rename_i xs ys
      split at e
      · rename_i hd
        cases e
        cases rx with
        | tup s1 t1 =>
          cases ry with
          | tup s2 t2 => exact ⟨_, op_neDs (by have := hr.un; omega), fun Q P => ⟨_, _, _, _, rfl, rfl, s1, s2, eqDs_of R t1 t2 hd, P.here R (.bl _)⟩⟩
      · cases e
    · cases e
theorem KVs.some_eq {ρ : List Addr} {H : Hp} {k : Kk} {kvs : List (Kk × D)} {ws : List (Key × V)} (h : KVs X.K ρ H kvs ws) : (valV ws (toK k)).isSome = (getK kvs k).isSome := by
  obtain ⟨i1, i2⟩ := h.val (k := k)
  cases e : getK kvs k with
  | none => rw [i2 e]; rfl
  | some d => obtain ⟨v, h, _⟩ := i1 d e; rw [h]; rfl
theorem dget_of {H : Hp} {a : Addr} {ws : List (Key × V)} {k : Key} (h : Rd H a (.dK ws)) : DGet H a (kV k) (valV ws k) := .inl ⟨ws, k, h, rfl, rfl⟩
theorem op_in_dict (hu : X.A.units + 1 < cLine) : OpR X (compareOp .In) (fun x y H Q => ∃ a o, y = .ref a ∧ DGet H a x o ∧ Q (.bl o.isSome) H) := by
  intro pins s σ H x y v u Q I rx ry h
  obtain ⟨a, o, rfl, g, q⟩ := h
  obtain rfl : u = Value.ref a := ry
  exact d_in hu I g rx fun s' I' => ⟨.bl _, H, I', rfl, q⟩
theorem op_notin_dict (hu : X.A.units + 1 < cLine) : OpR X (compareOp .NotIn) (fun x y H Q => ∃ a o, y = .ref a ∧ DGet H a x o ∧ Q (.bl (!o.isSome)) H) := by
  intro pins s σ H x y v u Q I rx ry h
  obtain ⟨a, o, rfl, g, q⟩ := h
  obtain rfl : u = Value.ref a := ry
  exact d_notIn hu I g rx fun s' I' => ⟨.bl _, H, I', rfl, q⟩
theorem char_mem (c : Char) (x : List Char) : decide (c.toNat ∈ (toS x).cps.toList) = decide (c ∈ x) := by
  rw [toS_list]
  by_cases h : c ∈ x
  · rw [decide_eq_true h]
    exact decide_eq_true (List.mem_map_of_mem h)
  · rw [decide_eq_false h]
    refine decide_eq_false fun z => ?_
    obtain ⟨k, hk, e⟩ := List.mem_map.mp z
    exact h (char_inj e ▸ hk)
theorem list_at {ρ : List Addr} {st : Sto} {H : Hp} {d : D} {v : V} {xs : List D} (R : Rl N X.K ρ st H) (r : Rep X.K ρ H d v) (h : listF st d = some xs) : ∃ a vs, v = .ref a ∧ Reps X.K ρ H xs vs ∧ SqL X.K H a vs := by
  cases r with
  | kls h1 h2 => cases h; exact ⟨_, _, rfl, h2, h1.sq⟩
  | @ref n a h1 =>
    simp only [listF] at h
    cases q : st[n]? with
    | none => rw [q] at h; cases h
    | some o =>
      rw [q] at h
      cases o with
      | lst ys =>
        cases h
        obtain ⟨vs, e, r⟩ := R.at_ _ _ _ h1 q
        exact ⟨_, _, rfl, r, .inl (.inl e)⟩
      | _ => cases h
  | _ => cases h
/-- in, of a tuple of things -/
theorem op_inT (hu : X.A.units + 65 < cLine) : OpR X (compareOp .In) (fun x y H Q => ∃ d ds, Dp X.K H x d ∧ Dp X.K H y (.tuple ds) ∧ SeqAt.shaped d = true ∧ SeqAt.shaped (.tuple ds) = true ∧ Q (.bl (ds.any fun z => PyData.eqv z d)) H) := by
  intro pins s σ H x y v u Q I rx ry h
  obtain ⟨d, ds, hd, he, sd, se, q⟩ := h
  obtain ⟨as, r1⟩ := Dp.reads I d x v hd rx
  obtain ⟨bs, r2⟩ := Dp.reads I (.tuple ds) y u he ry
  exact SeqAt.in_tuple_reads r2 r1 (SeqAt.canLay_of_shaped se) (SeqAt.canLay_of_shaped sd) (room_in_shaped sd hu) ⟨.bl _, H, I, rfl, q⟩
theorem op_notInT (hu : X.A.units + 65 < cLine) : OpR X (compareOp .NotIn) (fun x y H Q => ∃ d ds, Dp X.K H x d ∧ Dp X.K H y (.tuple ds) ∧ SeqAt.shaped d = true ∧ SeqAt.shaped (.tuple ds) = true ∧ Q (.bl (!ds.any fun z => PyData.eqv z d)) H) := by
  intro pins s σ H x y v u Q I rx ry h
  obtain ⟨d, ds, hd, he, sd, se, q⟩ := h
  obtain ⟨as, r1⟩ := Dp.reads I d x v hd rx
  obtain ⟨bs, r2⟩ := Dp.reads I (.tuple ds) y u he ry
  exact SeqAt.notIn_tuple_reads r2 r1 (SeqAt.canLay_of_shaped se) (SeqAt.canLay_of_shaped sd) (room_in_shaped sd hu) ⟨.bl _, H, I, rfl, q⟩
theorem memL_cases {ρ : List Addr} {st : Sto} {H : Hp} {dx dy : D} {x y : V} {b : Bool} (R : Rl N X.K ρ st H) (rx : Rep X.K ρ H dx x) (ry : Rep X.K ρ H dy y) (h : memF.memL st dx dy = some b) :
    (∃ p xs, y = .ref p ∧ (SqL X.K H p xs ∨ SqT X.K H p xs) ∧ flatV x = true ∧ xs.all flatV = true ∧ b = inV x xs) ∨
    (∃ d ds, Dp X.K H x d ∧ Dp X.K H y (.list ds) ∧ SeqAt.shaped d = true ∧ SeqAt.shaped (.list ds) = true ∧ b = ds.any fun z => PyData.eqv z d) ∨
    (∃ d ds, Dp X.K H x d ∧ Dp X.K H y (.tuple ds) ∧ SeqAt.shaped d = true ∧ SeqAt.shaped (.tuple ds) = true ∧ b = ds.any fun z => PyData.eqv z d) := by
  have lists : (match listF st dy with
    | some xs => if flatF dx && xs.all flatF then some (xs.any fun z => eqS z dx) else (match treeF st 50 dx, treesF st 50 xs with
      | some t, some ts => some (ts.any fun z => T.eqv z t)
      | _, _ => none)
    | none => none) = some b → (∃ p xs, y = .ref p ∧ (SqL X.K H p xs ∨ SqT X.K H p xs) ∧ flatV x = true ∧ xs.all flatV = true ∧ b = inV x xs) ∨
    (∃ d ds, Dp X.K H x d ∧ Dp X.K H y (.list ds) ∧ SeqAt.shaped d = true ∧ SeqAt.shaped (.list ds) = true ∧ b = ds.any fun z => PyData.eqv z d) ∨
    (∃ d ds, Dp X.K H x d ∧ Dp X.K H y (.tuple ds) ∧ SeqAt.shaped d = true ∧ SeqAt.shaped (.tuple ds) = true ∧ b = ds.any fun z => PyData.eqv z d) := by
    intro h
    split at h
    · rename_i xs q
      obtain ⟨a, vs, e, rs, hs⟩ := list_at R ry q
      subst e
      by_cases hf : (flatF dx && xs.all flatF) = true
      · rw [if_pos hf] at h
        cases h
        rw [Bool.and_eq_true] at hf
        exact .inl ⟨a, vs, rfl, .inl hs, flat_of rx hf.1, flats_of rs hf.2, (inV_of rx hf.1 rs hf.2).symm⟩
      · rw [if_neg hf] at h
        split at h
        · rename_i t ts e1 e2
          cases h
          obtain ⟨p1, p2⟩ := tree_of R 50 _ _ _ rx e1
          obtain ⟨q1, q2⟩ := trees_of R 50 _ _ _ rs e2
          refine .inr (.inl ⟨_, _, p1, .lst hs q1, shaped_toP (by omega), ?_, (any_toP t ts).symm⟩)
          have := shaped_toP (t := .lst ts) (by simp only [toP, PyData.depth]; omega)
          simpa only [toP] using this
        · cases h
    · cases h
  unfold memF.memL at h
  cases ry with
  | tup h1 h2 =>
    dsimp only at h
    split at h
    · rename_i hf
      cases h
      rw [Bool.and_eq_true] at hf
      exact .inl ⟨_, _, rfl, .inr h1, flat_of rx hf.1, flats_of h2 hf.2, (inV_of rx hf.1 h2 hf.2).symm⟩
    · split at h
      · rename_i t ts e1 e2
        cases h
        obtain ⟨p1, p2⟩ := tree_of R 50 _ _ _ rx e1
        obtain ⟨q1, q2⟩ := trees_of R 50 _ _ _ h2 e2
        refine .inr (.inr ⟨_, _, p1, .tup h1 q1, shaped_toP (by omega), ?_, (any_toP t ts).symm⟩)
        have := shaped_toP (t := .tup ts) (by simp only [toP, PyData.depth]; omega)
        simpa only [toP] using this
      · cases h
  | _ => exact lists h
theorem mem_cases {ρ : List Addr} {st : Sto} {H : Hp} {dx dy : D} {x y : V} {b : Bool} (R : Rl N X.K ρ st H) (rx : Rep X.K ρ H dx x) (ry : Rep X.K ρ H dy y) (h : memF st dx dy = some b) :
    (∃ (c : Nat) (z : Str), x = .str ⟨#[c]⟩ ∧ y = .str z ∧ b = decide (c ∈ z.cps.toList)) ∨
    (∃ a o, y = .ref a ∧ DGet H a x o ∧ b = o.isSome) ∨
    (∃ p xs, y = .ref p ∧ (SqL X.K H p xs ∨ SqT X.K H p xs) ∧ flatV x = true ∧ xs.all flatV = true ∧ b = inV x xs) ∨
    (∃ d ds, Dp X.K H x d ∧ Dp X.K H y (.list ds) ∧ SeqAt.shaped d = true ∧ SeqAt.shaped (.list ds) = true ∧ b = ds.any fun z => PyData.eqv z d) ∨
    (∃ d ds, Dp X.K H x d ∧ Dp X.K H y (.tuple ds) ∧ SeqAt.shaped d = true ∧ SeqAt.shaped (.tuple ds) = true ∧ b = ds.any fun z => PyData.eqv z d) := by
  cases ry with
  | str z =>
    simp only [memF] at h
    split at h
    · rename_i c
      cases h
      cases rx
      exact .inl ⟨c.toNat, toS z, rfl, rfl, (char_mem c z).symm⟩
    · cases h
  | @ref n a h1 =>
    simp only [memF] at h
    split at h
    · rename_i kvs q
      obtain ⟨k, e, rfl⟩ := Option.map_eq_some_iff.mp h
      obtain ⟨a', ws, e1, _, rd, kv⟩ := dict_at R (.ref h1) q
      cases e1
      refine .inr (.inl ⟨_, valV ws (toK k), rfl, ?_, kv.some_eq.symm⟩)
      rw [keyF_of rx e]
      exact dget_of rd
    · exact .inr (.inr (memL_cases R rx (.ref h1) h))
  | non => exact .inr (.inr (memL_cases R rx Rep.non h))
  | bl k => exact .inr (.inr (memL_cases R rx (Rep.bl k) h))
  | int k => exact .inr (.inr (memL_cases R rx (Rep.int k) h))
  | tup h1 h2 => exact .inr (.inr (memL_cases R rx (.tup h1 h2) h))
  | kls h1 h2 => exact .inr (.inr (memL_cases R rx (.kls h1 h2) h))
theorem ok_mem {k : Nat} (hr : Room k X.A) : Op2Ok X N (compareOp .In) (opF .mem) := by
  intro ρ st H dx dy x y d st' R rx ry h
  simp only [opF] at h
  obtain ⟨b, e, h⟩ := MP.R.bind_eq h
  cases h
  have e := MP.R.of_eq e
  have hu := room65 hr
  rcases mem_cases R rx ry e with ⟨c, z, rfl, rfl, rfl⟩ | ⟨a, o, rfl, g, rfl⟩ | ⟨p, xs, rfl, hs, f1, f2, rfl⟩ | ⟨t, ds, h1, h2, h3, h4, rfl⟩ | ⟨t, ds, h1, h2, h3, h4, rfl⟩
  · exact ⟨_, op_in_sign, fun Q P => ⟨_, _, rfl, rfl, P.here R (.bl _)⟩⟩
  · exact ⟨_, op_in_dict (by omega), fun Q P => ⟨_, _, rfl, g, P.here R (.bl _)⟩⟩
  · exact ⟨_, op_in_seq, fun Q P => ⟨_, _, rfl, hs, f1, f2, P.here R (.bl _)⟩⟩
  · exact ⟨_, op_inD hu, fun Q P => ⟨_, _, h1, h2, h3, h4, P.here R (.bl _)⟩⟩
  · exact ⟨_, op_inT hu, fun Q P => ⟨_, _, h1, h2, h3, h4, P.here R (.bl _)⟩⟩
theorem ok_nmem {k : Nat} (hr : Room k X.A) : Op2Ok X N (compareOp .NotIn) (opF .nmem) := by
  intro ρ st H dx dy x y d st' R rx ry h
  simp only [opF] at h
  obtain ⟨b, e, h⟩ := MP.R.bind_eq h
  cases h
  have e := MP.R.of_eq e
  have hu := room65 hr
  rcases mem_cases R rx ry e with ⟨c, z, rfl, rfl, rfl⟩ | ⟨a, o, rfl, g, rfl⟩ | ⟨p, xs, rfl, hs, f1, f2, rfl⟩ | ⟨t, ds, h1, h2, h3, h4, rfl⟩ | ⟨t, ds, h1, h2, h3, h4, rfl⟩
  · exact ⟨_, op_notIn_sign, fun Q P => ⟨_, _, rfl, rfl, P.here R (.bl _)⟩⟩
  · exact ⟨_, op_notin_dict (by omega), fun Q P => ⟨_, _, rfl, g, P.here R (.bl _)⟩⟩
  · exact ⟨_, op_notIn_seq, fun Q P => ⟨_, _, rfl, hs, f1, f2, P.here R (.bl _)⟩⟩
  · exact ⟨_, op_notInD hu, fun Q P => ⟨_, _, h1, h2, h3, h4, P.here R (.bl _)⟩⟩
  · exact ⟨_, op_notInT hu, fun Q P => ⟨_, _, h1, h2, h3, h4, P.here R (.bl _)⟩⟩
end
end MP
namespace MP
open PySem PySem.Spec PyProof.Rows L2
def CallOk (X : Cx) (N : Nm) (f : Value) (g : List D → Sto → RD) : Prop :=
  ∀ (ρ : List Addr) (st : Sto) (H : Hp) (ds : List D) (vs : List V) (d : D) (st' : Sto), Rl N X.K ρ st H → Reps X.K ρ H ds vs → g ds st = .ok (d, st') →
    ∃ r : List V → Hp → VK → Prop, CallR X f r ∧ ∀ Q : VK, Post N X.K ρ H d st' Q → r vs H Q
section
variable {X : Cx} {N : Nm} {ρ : List Addr} {H : Hp}
theorem ints_of : ∀ {ds : List D} {vs : List V} {ns : List Int}, Reps X.K ρ H ds vs → intsF ds = some ns → vs = ns.map V.int
  | _, _, _, .nil, h => by cases h; rfl
  | _, _, _, .cons r t, h => by
    cases r <;> simp [intsF] at h
    obtain ⟨l, e, rfl⟩ := h
    rw [List.map_cons, ← ints_of t e]
theorem bls_of : ∀ {ds : List D} {vs : List V} {ns : List Bool}, Reps X.K ρ H ds vs → blsF ds = some ns → vs = ns.map V.bl
  | _, _, _, .nil, h => by cases h; rfl
  | _, _, _, .cons r t, h => by
    cases r <;> simp [blsF] at h
    obtain ⟨l, e, rfl⟩ := h
    rw [List.map_cons, ← bls_of t e]
theorem strs_of : ∀ {ds : List D} {vs : List V} {ns : List (List Char)}, Reps X.K ρ H ds vs → strsF ds = some ns → vs = (ns.map toS).map V.str
  | _, _, _, .nil, h => by cases h; rfl
  | _, _, _, .cons r t, h => by
    cases r <;> simp [strsF] at h
    obtain ⟨l, e, rfl⟩ := h
    rw [List.map_cons, List.map_cons, ← strs_of t e]
theorem reps_strs : ∀ (ns : List (List Char)), Reps X.K ρ H (ns.map D.str) ((ns.map toS).map V.str)
  | [] => .nil
  | x :: r => .cons (.str x) (reps_strs r)
theorem reps1 {ds : List D} {d : D} {vs : List V} (r : Reps X.K ρ H (d :: []) vs) : ∃ v, vs = [v] ∧ Rep X.K ρ H d v := by
  cases r with
  | cons r t => cases t; exact ⟨_, rfl, r⟩
theorem reps2 {d e : D} {vs : List V} (r : Reps X.K ρ H [d, e] vs) : ∃ v u, vs = [v, u] ∧ Rep X.K ρ H d v ∧ Rep X.K ρ H e u := by
  cases r with
  | cons r t =>
    cases t with
    | cons q t => cases t; exact ⟨_, _, rfl, r, q⟩
theorem ok_len : CallOk X N (.builtin "len") (biF .len) := by
  intro ρ st H ds vs d st' R rs h
  have hz := sz_line
  match ds, h with
  | [x], h =>
    obtain ⟨v, rfl, r⟩ := reps1 (ds := []) rs
    cases r with
    | str a =>
      simp only [biF] at h
      split at h
      · cases h
        refine ⟨_, call_len_str, fun Q P => ⟨_, rfl, by rw [toS_len]; omega, ?_⟩⟩
        rw [toS_len]
        exact P.here R (.int _)
      · cases h
    | tup h1 h2 =>
      simp only [biF] at h
      cases h
      exact ⟨_, call_len_seq, fun Q P => ⟨_, _, rfl, .inr h1, by rw [← h2.len]; exact P.here R (.int _)⟩⟩
    | kls h1 h2 =>
      simp only [biF] at h
      cases h
      exact ⟨_, call_len_seq, fun Q P => ⟨_, _, rfl, .inl h1.sq, by rw [← h2.len]; exact P.here R (.int _)⟩⟩
    | @ref n a h1 =>
      simp only [biF] at h
      split at h
      · rename_i q
        cases h
        obtain ⟨vs, e, rr⟩ := R.at_ _ _ _ h1 q
        exact ⟨_, call_len_seq, fun Q P => ⟨_, _, rfl, .inl (.inl (.inl e)), by rw [← rr.len]; exact P.here R (.int _)⟩⟩
      · rename_i q
        cases h
        obtain ⟨vs, e, rr⟩ := R.at_ _ _ _ h1 q
        exact ⟨_, call_lenD, fun Q P => ⟨_, _, rfl, e, by rw [← Paired.length rr]; exact P.here R (.int _)⟩⟩
      · cases h
    | _ => simp [biF] at h
  | [], h => simp [biF] at h
  | _ :: _ :: _, h => simp [biF] at h
theorem toS_cps (x : List Char) : (toS x).cps.toList = x.map Char.toNat := by simp [toS]
theorem digits_all {cs : List Char} (h : cs.all isDig = true) : NumText.AllDigits (cs.map Char.toNat) := by
  intro c hc
  obtain ⟨d, hd, rfl⟩ := List.mem_map.mp hc
  have := List.all_eq_true.mp h d hd
  rw [isDig, Bool.and_eq_true, decide_eq_true_eq, decide_eq_true_eq] at this
  exact this
theorem digits_val (cs : List Char) : NumText.digitsVal (cs.map Char.toNat) = valF cs := by
  unfold NumText.digitsVal valF
  rw [List.foldl_map]
theorem intF_ok {a : List Char} {n : Int} (hl : a.length ≤ 640) (h : intF a = some n) : intText? (toS a) = some n := by
  have hl2 : (toS a).length ≤ 4300 := by rw [toS_len]; omega
  cases a with
  | nil => cases h
  | cons c r =>
    rw [intF] at h
    split at h
    · rename_i hc
      split at h
      · rename_i hd
        cases h
        rw [Bool.and_eq_true] at hd
        rw [← digits_val]
        refine intText_neg ?_ (digits_all hd.1) ?_ hl2
        · rw [toS_cps, hc]; rfl
        · intro e
          rw [List.map_eq_nil_iff] at e
          rw [e] at hd
          exact absurd hd.2 (by simp)
      · cases h
    · split at h
      · rename_i hd
        cases h
        rw [← digits_val, ← toS_cps]
        exact intText_digits (by rw [toS_cps]; exact digits_all hd) (by rw [toS_cps]; simp) hl2
      · cases h
theorem ok_int : CallOk X N (.type "int") (biF .int) := by
  intro ρ st H ds vs d st' R rs h
  match ds, h with
  | [x], h =>
    obtain ⟨v, rfl, r⟩ := reps1 (ds := []) rs
    cases r with
    | bl b => simp only [biF] at h; cases h; exact ⟨_, call_int1, fun Q P => .inr ⟨_, rfl, P.here R (.int _)⟩⟩
    | int i => simp only [biF] at h; cases h; exact ⟨_, call_int1, fun Q P => .inl ⟨_, rfl, P.here R (.int _)⟩⟩
    | str a =>
      simp only [biF] at h
      split at h
      · rename_i hl
        split at h
        · rename_i n e
          cases h
          exact ⟨_, call_int_str, fun Q P => ⟨_, _, rfl, intF_ok hl e, by rw [toS_len]; exact hl, P.here R (.int _)⟩⟩
        · cases h
      · cases h
    | _ => simp [biF] at h
  | [], h => simp [biF] at h
  | _ :: _ :: _, h => simp [biF] at h
theorem toS_ofString (s : String) : Str.ofString s = toS s.toList := by rw [Str.ofString_eq_toList]; rfl
theorem showI_ok (i : Int) : Str.ofString (toString i) = toS (showI i) := by
  rw [toS_ofString]
  congr 1
  cases i with
  | ofNat n =>
    show (toString n).toList = digF n
    show (Nat.repr n).toList = _
    simp [Nat.repr, digF]
  | negSucc n =>
    show ("-" ++ toString (Nat.succ n)).toList = '-' :: digF (n + 1)
    rw [String.toList_append]
    show _ ++ (Nat.repr (n + 1)).toList = _
    simp [Nat.repr, digF]
theorem ok_str : CallOk X N (.type "str") (biF .str) := by
  intro ρ st H ds vs d st' R rs h
  match ds, h with
  | [x], h =>
    obtain ⟨v, rfl, r⟩ := reps1 (ds := []) rs
    cases r <;> simp only [biF, reduceCtorEq] at h
    · split at h
      · rename_i h0
        cases h
        exact ⟨_, call_str_int, fun Q P => ⟨_, rfl, by omega, by rw [showI_ok]; exact P.here R (.str _)⟩⟩
      · cases h
    · cases h
      exact ⟨_, SkE.call_str_str, fun Q P => ⟨_, rfl, P.here R (.str _)⟩⟩
  | [], h => simp [biF] at h
  | _ :: _ :: _, h => simp [biF] at h
theorem ok_tuple : CallOk X N (.type "tuple") (biF .tuple) := by
  intro ρ st H ds vs d st' R rs h
  match ds, h with
  | [x], h =>
    obtain ⟨v, rfl, r⟩ := reps1 (ds := []) rs
    simp only [biF] at h
    split at h
    · rename_i ys q
      cases h
      obtain ⟨a, us, rfl, rr, hs⟩ := seq_at R r q
      rcases hs with hs | hs
      · exact ⟨_, call_tuple_of, fun Q P => ⟨_, _, rfl, .inl ⟨hs, P.tup R rr⟩⟩⟩
      · exact ⟨_, call_tuple_of, fun Q P => ⟨_, _, rfl, .inr ⟨hs, P.here R (.tup hs rr)⟩⟩⟩
    · cases h
  | [], h => simp [biF] at h
  | _ :: _ :: _, h => simp [biF] at h
theorem reps_keys : ∀ {kvs : List (Kk × D)} {ws : List (Key × V)}, KVs X.K ρ H kvs ws → Reps X.K ρ H (kvs.map fun kv => keyD kv.1) (ws.map fun kv => kV kv.1)
  | _, _, .nil => .nil
  | _, _, .cons (a := p) (b := q) r t => by
    rw [List.map_cons, List.map_cons, r.1]
    exact .cons (rep_keyD _) (reps_keys t)
theorem ok_list (hc : X.calm = true) : CallOk X N (.type "list") (biF .list) := by
  intro ρ st H ds vs d st' R rs h
  match ds, h with
  | [x], h =>
    obtain ⟨v, rfl, r⟩ := reps1 (ds := []) rs
    simp only [biF] at h
    split at h
    · rename_i ys q
      cases h
      obtain ⟨a, us, rfl, rr, hs⟩ := seq_at R r q
      exact ⟨_, call_list_of, fun Q P => ⟨_, _, rfl, hs, P.lst R rr⟩⟩
    · cases r with
      | @ref n a h1 =>
        simp only at h
        split at h
        · rename_i kvs q
          cases h
          obtain ⟨b, ws, e, _, rd, kv⟩ := dict_at R (.ref h1) q
          cases e
          exact ⟨_, call_listD hc, fun Q P => ⟨_, _, rfl, rd, P.lst R (reps_keys kv)⟩⟩
        · cases h
      | _ => simp at h
  | [], h => simp [biF] at h
  | _ :: _ :: _, h => simp [biF] at h
theorem ok_dict : CallOk X N (.type "dict") (biF .dict) := by
  intro ρ st H ds vs d st' R rs h
  match ds, h with
  | [x], h =>
    obtain ⟨v, rfl, r⟩ := reps1 (ds := []) rs
    cases r <;> simp only [biF, reduceCtorEq] at h
    rename_i n a h1
    split at h
    · rename_i kvs q
      cases h
      obtain ⟨b, ws, e, _, rd, kv⟩ := dict_at R (.ref h1) q
      cases e
      exact ⟨_, call_dictD, fun Q P => ⟨_, _, rfl, rd, P.dct R kv⟩⟩
    · cases h
  | [], h => simp [biF] at h
  | _ :: _ :: _, h => simp [biF] at h
theorem ok_max2 (hc : X.calm = true) : CallOk X N (.builtin "max") (biF .max2) := by
  intro ρ st H ds vs d st' R rs h
  match ds, h with
  | [x, y], h =>
    obtain ⟨v, u, rfl, r, q⟩ := reps2 rs
    cases r <;> cases q <;> simp only [biF, reduceCtorEq] at h
    cases h
    exact ⟨_, call_max2 hc, fun Q P => ⟨_, _, rfl, P.here R (.int _)⟩⟩
  | [], h => simp [biF] at h
  | [_], h => simp [biF] at h
  | _ :: _ :: _ :: _, h => simp [biF] at h
theorem ok_min2 (hc : X.calm = true) : CallOk X N (.builtin "min") (biF .min2) := by
  intro ρ st H ds vs d st' R rs h
  match ds, h with
  | [x, y], h =>
    obtain ⟨v, u, rfl, r, q⟩ := reps2 rs
    cases r <;> cases q <;> simp only [biF, reduceCtorEq] at h
    cases h
    exact ⟨_, call_min2 hc, fun Q P => ⟨_, _, rfl, P.here R (.int _)⟩⟩
  | [], h => simp [biF] at h
  | [_], h => simp [biF] at h
  | _ :: _ :: _ :: _, h => simp [biF] at h
theorem ok_abs : CallOk X N (.builtin "abs") (biF .abs) := by
  intro ρ st H ds vs d st' R rs h
  match ds, h with
  | [x], h =>
    obtain ⟨v, rfl, r⟩ := reps1 (ds := []) rs
    cases r <;> simp only [biF, reduceCtorEq] at h
    cases h
    exact ⟨_, call_abs, fun Q P => ⟨_, rfl, P.here R (.int _)⟩⟩
  | [], h => simp [biF] at h
  | _ :: _ :: _, h => simp [biF] at h
theorem ok_ord : CallOk X N (.builtin "ord") (biF .ord) := by
  intro ρ st H ds vs d st' R rs h
  match ds, h with
  | [.str [c]], h =>
    obtain ⟨v, rfl, r⟩ := reps1 (ds := []) rs
    cases r
    simp only [biF] at h
    cases h
    exact ⟨_, call_ord, fun Q P => ⟨_, rfl, by rw [toS_len]; rfl, P.here R (.int _)⟩⟩
  | [], h => simp [biF] at h
  | _ :: _ :: _, h => simp [biF] at h
  | [.str []], h => simp [biF] at h
  | [.str (_ :: _ :: _)], h => simp [biF] at h
  | [.non], h => simp [biF] at h
  | [.bl _], h => simp [biF] at h
  | [.int _], h => simp [biF] at h
  | [.tup _], h => simp [biF] at h
  | [.kls _], h => simp [biF] at h
  | [.ref _], h => simp [biF] at h
theorem bind_some {α β : Type} {x : Option α} {f : α → Option β} {b : β} (h : x.bind f = some b) : ∃ a, x = some a ∧ f a = some b := by
  cases x with
  | none => cases h
  | some a => exact ⟨a, rfl, h⟩
theorem ok_sum (hc : X.calm = true) : CallOk X N (.builtin "sum") (biF .sum) := by
  intro ρ st H ds vs d st' R rs h
  match ds, h with
  | [x], h =>
    obtain ⟨v, rfl, r⟩ := reps1 (ds := []) rs
    simp only [biF] at h
    split at h
    · rename_i ns q
      cases h
      obtain ⟨xs, e, q⟩ := bind_some q
      obtain ⟨a, us, rfl, rr, hs⟩ := list_at R r e
      rw [ints_of rr q] at hs
      exact ⟨_, cr_sum hc, fun Q P => ⟨_, _, rfl, hs, P.here R (.int _)⟩⟩
    · cases h
  | [], h => simp [biF] at h
  | _ :: _ :: _, h => simp [biF] at h
theorem fold_max : ∀ (r : List Int) (x m : Int), (∀ y ∈ x :: r, y ≤ m) → m ∈ x :: r → r.foldl (fun a b => if b > a then b else a) x = m
  | [], x, m, h, hm => by
    have : m = x := by simpa using hm
    rw [this]; rfl
  | y :: r, x, m, h, hm => by
    rw [List.foldl_cons]
    refine fold_max r _ m (fun z hz => ?_) ?_
    · rcases List.mem_cons.mp hz with e | e
      · rw [e]
        split
        · exact h y (by simp)
        · exact h x (by simp)
      · exact h z (by simp [e])
    · have hx := h x (by simp)
      have hy := h y (by simp)
      rcases List.mem_cons.mp hm with e | e
      · subst e
        have : ¬ y > m := by omega
        rw [if_neg this]; exact List.mem_cons_self
      · rcases List.mem_cons.mp e with e | e
        · subst e
          by_cases hgt : m > x
          · rw [if_pos hgt]; exact List.mem_cons_self
          · have : x = m := by omega
            rw [if_neg hgt, this]; exact List.mem_cons_self
        · exact List.mem_cons_of_mem _ e
theorem fold_min : ∀ (r : List Int) (x m : Int), (∀ y ∈ x :: r, m ≤ y) → m ∈ x :: r → r.foldl (fun a b => if b < a then b else a) x = m
  | [], x, m, h, hm => by
    have : m = x := by simpa using hm
    rw [this]; rfl
  | y :: r, x, m, h, hm => by
    rw [List.foldl_cons]
    refine fold_min r _ m (fun z hz => ?_) ?_
    · rcases List.mem_cons.mp hz with e | e
      · rw [e]
        split
        · exact h y (by simp)
        · exact h x (by simp)
      · exact h z (by simp [e])
    · have hx := h x (by simp)
      have hy := h y (by simp)
      rcases List.mem_cons.mp hm with e | e
      · subst e
        have : ¬ y < m := by omega
        rw [if_neg this]; exact List.mem_cons_self
      · rcases List.mem_cons.mp e with e | e
        · subst e
          by_cases hgt : m < x
          · rw [if_pos hgt]; exact List.mem_cons_self
          · have : x = m := by omega
            rw [if_neg hgt, this]; exact List.mem_cons_self
        · exact List.mem_cons_of_mem _ e
theorem ok_maxl (hc : X.calm = true) : CallOk X N (.builtin "max") (biF .maxl) := by
  intro ρ st H ds vs d st' R rs h
  match ds, h with
  | [x], h =>
    obtain ⟨v, rfl, r⟩ := reps1 (ds := []) rs
    simp only [biF] at h
    split at h
    · rename_i m q
      cases h
      obtain ⟨ns, q, hm⟩ := bind_some q
      obtain ⟨xs, e, q⟩ := bind_some q
      obtain ⟨a, us, rfl, rr, hs⟩ := list_at R r e
      rw [ints_of rr q] at hs
      cases ns with
      | nil => cases hm
      | cons y ns =>
        simp only [maxI] at hm
        cases hm
        refine ⟨_, cr_max hc, fun Q P => ⟨_, _, rfl, hs, by simp, fun m h1 h2 => ?_⟩⟩
        rw [fold_max ns y m h2 h1] at P
        exact P.here R (.int _)
    · cases h
  | [], h => simp [biF] at h
  | _ :: _ :: _, h => simp [biF] at h
theorem ok_minl (hc : X.calm = true) : CallOk X N (.builtin "min") (biF .minl) := by
  intro ρ st H ds vs d st' R rs h
  match ds, h with
  | [x], h =>
    obtain ⟨v, rfl, r⟩ := reps1 (ds := []) rs
    simp only [biF] at h
    split at h
    · rename_i m q
      cases h
      obtain ⟨ns, q, hm⟩ := bind_some q
      obtain ⟨xs, e, q⟩ := bind_some q
      obtain ⟨a, us, rfl, rr, hs⟩ := list_at R r e
      rw [ints_of rr q] at hs
      cases ns with
      | nil => cases hm
      | cons y ns =>
        simp only [minI] at hm
        cases hm
        refine ⟨_, cr_min hc, fun Q P => ⟨_, _, rfl, hs, by simp, fun m h1 h2 => ?_⟩⟩
        rw [fold_min ns y m h2 h1] at P
        exact P.here R (.int _)
    · cases h
  | [], h => simp [biF] at h
  | _ :: _ :: _, h => simp [biF] at h
theorem ok_any (hc : X.calm = true) : CallOk X N (.builtin "any") (biF .any) := by
  intro ρ st H ds vs d st' R rs h
  match ds, h with
  | [x], h =>
    obtain ⟨v, rfl, r⟩ := reps1 (ds := []) rs
    simp only [biF] at h
    split at h
    · rename_i ns q
      cases h
      obtain ⟨xs, e, q⟩ := bind_some q
      obtain ⟨a, us, rfl, rr, hs⟩ := list_at R r e
      rw [bls_of rr q] at hs
      exact ⟨_, cr_any hc, fun Q P => ⟨_, _, rfl, hs, P.here R (.bl _)⟩⟩
    · cases h
  | [], h => simp [biF] at h
  | _ :: _ :: _, h => simp [biF] at h
theorem ok_all (hc : X.calm = true) : CallOk X N (.builtin "all") (biF .all) := by
  intro ρ st H ds vs d st' R rs h
  match ds, h with
  | [x], h =>
    obtain ⟨v, rfl, r⟩ := reps1 (ds := []) rs
    simp only [biF] at h
    split at h
    · rename_i ns q
      cases h
      obtain ⟨xs, e, q⟩ := bind_some q
      obtain ⟨a, us, rfl, rr, hs⟩ := list_at R r e
      rw [bls_of rr q] at hs
      exact ⟨_, cr_all hc, fun Q P => ⟨_, _, rfl, hs, P.here R (.bl _)⟩⟩
    · cases h
  | [], h => simp [biF] at h
  | _ :: _ :: _, h => simp [biF] at h
theorem cmpS_irr : ∀ x : List Char, cmpS x x = false
  | [] => rfl
  | a :: x => by simp [cmpS, cmpS_irr x]
theorem cmpS_trans : ∀ {x y z : List Char}, cmpS x y = true → cmpS y z = true → cmpS x z = true
  | _, [], _, h, _ => by cases ‹List Char› <;> simp [cmpS] at h
  | _, _ :: _, [], _, h => by simp [cmpS] at h
  | [], _ :: _, _ :: _, _, _ => rfl
  | a :: x, b :: y, c :: z, h1, h2 => by
    simp only [cmpS] at h1 h2 ⊢
    by_cases e1 : a.toNat < b.toNat
    · by_cases e2 : b.toNat < c.toNat
      · rw [if_pos (by omega)]
      · rw [if_neg e2] at h2
        by_cases e3 : b.toNat = c.toNat
        · rw [if_pos (by omega)]
        · rw [if_neg e3] at h2; cases h2
    · rw [if_neg e1] at h1
      by_cases e1' : a.toNat = b.toNat
      · rw [if_pos e1'] at h1
        by_cases e2 : b.toNat < c.toNat
        · rw [if_pos (by omega)]
        · rw [if_neg e2] at h2
          by_cases e3 : b.toNat = c.toNat
          · rw [if_pos e3] at h2
            rw [if_neg (by omega), if_pos (by omega)]
            exact cmpS_trans h1 h2
          · rw [if_neg e3] at h2; cases h2
      · rw [if_neg e1'] at h1; cases h1
theorem cmpS_tri : ∀ (x y : List Char), cmpS x y = false → cmpS y x = false → x = y
  | [], [], _, _ => rfl
  | [], _ :: _, h, _ => by simp [cmpS] at h
  | _ :: _, [], _, h => by simp [cmpS] at h
  | a :: x, b :: y, h1, h2 => by
    simp only [cmpS] at h1 h2
    by_cases e1 : a.toNat < b.toNat
    · rw [if_pos e1] at h1; cases h1
    · by_cases e2 : b.toNat < a.toNat
      · rw [if_pos e2] at h2; cases h2
      · have e : a.toNat = b.toNat := by omega
        rw [if_neg e1, if_pos e] at h1
        rw [if_neg e2, if_pos e.symm] at h2
        rw [char_inj e, cmpS_tri x y h1 h2]
/-- not behind -/
def leS (x y : List Char) : Prop := cmpS y x = false
theorem leS_trans {x y z : List Char} (h1 : leS x y) (h2 : leS y z) : leS x z := by
  unfold leS at *
  cases h : cmpS z x with
  | false => rfl
  | true =>
    cases h3 : cmpS x y with
    | true => rw [cmpS_trans h h3] at h2; cases h2
    | false =>
      have e := cmpS_tri x y h3 h1
      subst e
      rw [h] at h2; cases h2
theorem insS_perm (x : List Char) : ∀ l, (insS x l).Perm (x :: l)
  | [] => .refl _
  | y :: r => by
    unfold insS
    split
    · exact (List.Perm.cons y (insS_perm x r)).trans (.swap _ _ _)
    · exact .refl _
theorem sortS_perm : ∀ l, (sortS l).Perm l
  | [] => .refl _
  | x :: r => (insS_perm x _).trans (.cons x (sortS_perm r))
theorem insS_sorted (x : List Char) : ∀ l, l.Pairwise leS → (insS x l).Pairwise leS
  | [], _ => by simp [insS]
  | y :: r, h => by
    obtain ⟨h1, h2⟩ := List.pairwise_cons.mp h
    unfold insS
    by_cases e : cmpS y x = true
    · rw [if_pos e]
      refine List.pairwise_cons.mpr ⟨fun z hz => ?_, insS_sorted x r h2⟩
      rcases List.mem_cons.mp ((insS_perm x r).subset hz) with e2 | e2
      · subst e2
        unfold leS
        cases h4 : cmpS z y with
        | false => rfl
        | true =>
          have := cmpS_trans e h4
          rw [cmpS_irr] at this; cases this
      · exact h1 z e2
    · rw [if_neg e]
      have exy : leS x y := by simpa [leS] using e
      refine List.pairwise_cons.mpr ⟨fun z hz => ?_, h⟩
      rcases List.mem_cons.mp hz with e2 | e2
      · subst e2; exact exy
      · exact leS_trans exy (h1 z e2)
theorem sortS_sorted : ∀ l, (sortS l).Pairwise leS
  | [] => .nil
  | x :: r => insS_sorted x _ (sortS_sorted r)
theorem sortS_uniq {l m : List (List Char)} (hp : m.Perm l) (hs : m.Pairwise leS) : m = sortS l :=
  List.Perm.eq_of_pairwise (le := leS) (fun a b _ _ h1 h2 => cmpS_tri a b h2 h1) hs (sortS_sorted l) (hp.trans (sortS_perm l).symm)
theorem lt_cmpS : ∀ (x y : List Char), ltCps (x.map Char.toNat) (y.map Char.toNat) = cmpS x y
  | [], [] => rfl
  | [], _ :: _ => rfl
  | _ :: _, [] => rfl
  | a :: x, b :: y => by
    rw [List.map_cons, List.map_cons, ltCps, cmpS, lt_cmpS x y]
    by_cases h1 : a.toNat < b.toNat
    · rw [if_pos h1, decide_eq_true h1]; rfl
    · rw [if_neg h1, decide_eq_false h1]
      by_cases h2 : a.toNat = b.toNat
      · rw [if_pos h2, beq_iff_eq.mpr h2]; rfl
      · rw [if_neg h2, beq_eq_false_iff_ne.mpr h2]; rfl
theorem rising_of : ∀ (m : List (List Char)) (x : List Char), risingS (toS x) (m.map toS) = true → (x :: m).Pairwise leS
  | [], x, _ => by simp
  | y :: m, x, h => by
    rw [List.map_cons, risingS, Bool.and_eq_true] at h
    have h2 := rising_of m y h.2
    have hxy : leS x y := by
      have e : ltCps (toS y).cps.toList (toS x).cps.toList = cmpS y x := by
        rw [toS_list, toS_list, lt_cmpS]
      unfold leS
      rw [← e]
      simpa using h.1
    refine List.pairwise_cons.mpr ⟨fun z hz => ?_, h2⟩
    rcases List.mem_cons.mp hz with e2 | e2
    · subst e2; exact hxy
    · exact leS_trans hxy ((List.pairwise_cons.mp h2).1 z e2)
theorem sorted_of {m : List (List Char)} (h : sortedS (m.map toS) = true) : m.Pairwise leS := by
  cases m with
  | nil => exact .nil
  | cons x m => exact rising_of m x h
theorem perm_toS {ys : List Str} {ss : List (List Char)} (h : ys.Perm (ss.map toS)) (hs : sortedS ys = true) : ys = (sortS ss).map toS := by
  have : ∃ m : List (List Char), ys = m.map toS ∧ m.Perm ss := by
    have key : ∀ {a b : List Str}, a.Perm b → ∀ ss : List (List Char), b = ss.map toS → ∃ m : List (List Char), a = m.map toS ∧ m.Perm ss := by
      intro a b h
      induction h with
      | nil => intro ss e; cases ss with
        | nil => exact ⟨[], rfl, .refl _⟩
        | cons => cases e
      | cons x _ ih =>
        intro ss e
        cases ss with
        | nil => cases e
        | cons s ss =>
          rw [List.map_cons] at e
          injection e with e1 e2
          obtain ⟨m, h1, h2⟩ := ih ss e2
          exact ⟨s :: m, by rw [List.map_cons, h1, e1], .cons s h2⟩
      | swap x y l =>
        intro ss e
        match ss, e with
        | s :: t :: ss, e =>
          rw [List.map_cons, List.map_cons] at e
          injection e with e1 e2
          injection e2 with e2 e3
          exact ⟨t :: s :: ss, by rw [List.map_cons, List.map_cons, e1, e2, e3], .swap _ _ _⟩
      | trans _ _ i1 i2 =>
        intro ss e
        obtain ⟨m, h1, h2⟩ := i2 ss e
        obtain ⟨n, h3, h4⟩ := i1 m h1
        exact ⟨n, h3, h4.trans h2⟩
    exact key h ss rfl
  obtain ⟨m, e, hp⟩ := this
  subst e
  rw [sortS_uniq hp (sorted_of hs)]
theorem keys_str : ∀ {kvs : List (Kk × D)} {ws : List (Key × V)} {ss : List (List Char)}, KVs X.K ρ H kvs ws → strsF (kvs.map fun kv => keyD kv.1) = some ss → ws.map (·.1) = (ss.map toS).map Sum.inr
  | _, _, _, .nil, h => by cases h; rfl
  | _, _, _, .cons (a := p) (b := q) r t, h => by
    obtain ⟨k, d⟩ := p
    cases k with
    | i n => simp [keyD, strsF] at h
    | s x =>
      simp [keyD, strsF] at h
      obtain ⟨l, e, rfl⟩ := h
      rw [List.map_cons, List.map_cons, List.map_cons, keys_str t e, r.1]
      rfl
/-- sorted(xs), texts, any length -/
theorem cr_sortedSA : CallR X (.builtin "sorted") (fun vs H Q => ∃ (a : Addr) (xs : List Str), vs = [V.ref a] ∧ SqL X.K H a (xs.map V.str) ∧ xs.length ≤ 100000 ∧ ∀ (ys : List Str) (p : Addr), ys.Perm xs → sortedS ys = true → H p = none → Q (.ref p) (upd H p (.lst (ys.map V.str)))) := by
  intro pins s σ H vs us Q I r h
  obtain ⟨a, xs, rfl, hs, h64, q⟩ := h
  obtain ⟨its, rv, hl, _⟩ := I.list hs
  rw [Vals.ref1 r]
  have hlen0 := rv.length
  rw [List.length_map] at hlen0
  have hz : xs.length ≤ sizeLine := by rw [sizeLine_eq]; omega
  refine PyProof.Rows.sorted_strsAny hl.isList rv.strs (by rw [← hlen0]; exact hz) fun out ys h1 h2 h3 => ?_
  obtain ⟨ep, he'⟩ := PyProof.Rows.sortedAll_at s.heap its out
  have hlen : (ys.map V.str).length ≤ sizeLine := by rw [List.length_map, h2.length_eq]; exact hz
  exact ⟨.ref _, upd H (s.heap.objs.size + 1) (.lst (ys.map V.str)), I.laid (t' := s.toks) (fun _ _ => PyProof.Rows.sortedAll_old) (Nat.le_succ _) ⟨hlen, out.toList, ep, vals_of_strs h1, he'⟩, rfl, q ys _ h2 h3 (I.hok.fresh (Nat.le_succ _))⟩
/-- sorted(d), keys texts, any length -/
theorem call_sortedDA (hcalm : X.calm = true) : CallR X (.builtin "sorted") (fun xs H Q => ∃ (a : Addr) (kvs : List (Key × V)) (ks : List Str), xs = [.ref a] ∧ Rd H a (.dK kvs) ∧ kvs.map (·.1) = ks.map Sum.inr ∧ ks.length ≤ 100000 ∧
    ∀ ys p, ys.Perm ks → sortedS ys = true → H p = none → Q (.ref p) (upd H p (.lst (ys.map V.str)))) := by
  intro pins s σ H xs us Q I r q
  obtain ⟨a, kvs, ks, ex, hd, hks, h64, q⟩ := q
  have hz : ks.length ≤ sizeLine := by rw [sizeLine_eq]; omega
  subst ex
  obtain ⟨u, eu, rx⟩ := vals1 r
  subst eu
  cases rx
  obtain ⟨z, lo, vs, rel, dd⟩ := dk_rd I.hok hd
  obtain ⟨ep, hat⟩ := dd.dictAt
  have hkeys : vs.map (·.1) = ks.map Sum.inr := rel.keys.symm.trans hks
  have hl : vs.length = ks.length := by
    have e := congrArg List.length hkeys
    rw [List.length_map, List.length_map] at e
    exact e
  have h16 : vs.length ≤ sizeLine := by rw [hl]; exact hz
  refine Calls.call_function_entry PyProof.Rows.kind_sorted PyProof.Rows.plain_sorted PyProof.Rows.entry_sorted (PyProof.Rows.args_sorted1 _) ?_
  unfold Builtin.«sorted»
  refine wpAny_bind (m := checkCount "sorted" 1 1 _) (wpAny_pure ?_)
  refine wpAny_bind (PySem.W.kdu_collect (A := X.A.in1) (PySem.W.kdl_dict (knd := mixKind X.prog X.w) (kvs := vs) (ep := ep) lo) (I.ok.hd hcalm) hat h16 fun h' tk acc hk hacc => ?_)
  have hal : acc.toList.length = ks.length := by rw [Array.length_toList, hacc.1, hl]
  have hS : StrsAre acc.toList ks := strs_at hal fun j v e => by
    obtain ⟨k, x, e1, e2⟩ := hacc.2 j v (by rw [← Array.getElem?_toList]; exact e)
    have e3 : (vs.map (·.1))[j]? = some k := by rw [List.getElem?_map, e1]; all_goals rfl
    rw [hkeys, List.getElem?_map] at e3
    cases e4 : ks[j]? with
    | none => rw [e4] at e3; cases e3
    | some y =>
      rw [e4] at e3
      have e5 : Sum.inr y = k := Option.some.inj e3
      subst e5
      obtain ⟨t, ev⟩ := Value.isStrOf_shape (x := y) (v := v) e2
      exact ⟨y, t, rfl, ev⟩
  have I1 : Inv X pins σ H { s with heap := h', toks := tk } := I.kept hk
  refine wpAny_bind (wpAny_newList ?_ (by rw [hal]; exact hz))
  have hoL : (h'.push (seqObj "list" acc.toList.toArray 0)).get? h'.objs.size = some (seqObj "list" acc.toList.toArray 0) := Heap.get?_push_size _ rfl
  show wpAny _ _ _ _ _ { s with heap := h'.push (seqObj "list" acc.toList.toArray 0), toks := tk }
  refine wpAny_bind (wpAny_holding (wpAny_call_entry PyProof.Rows.slot_list_sort ⟨_, hoL, rfl⟩ PyProof.Rows.entry_list_sort
    (PyProof.Rows.list_sort_treeKAny strKind_oneLt (s := { s with heap := h'.push (seqObj "list" acc.toList.toArray 0), toks := tk }) hoL hS.keysOf (fun v₁ v₂ rest e => keyKind_strs (by rw [← e]; exact hS)) (by rw [hal]; exact hz) fun st' hp hs => ⟨_, rfl, ?_⟩)
    (PyProof.Rows.args_list_sort _)))
  obtain ⟨ys, g1, g2, g3⟩ := sorted_out_str hS hp hs
  obtain ⟨e', he'⟩ := PyProof.Rows.sortedHeap_at (vs := acc.toList) (out := (arrOf st').map (·.2)) hoL
  have hlen : (ys.map V.str).length ≤ sizeLine := by
    rw [List.length_map, g2.length_eq]
    exact hz
  refine wpAny_pure ⟨_, rfl, .ref h'.objs.size, upd H h'.objs.size (.lst (ys.map V.str)), I1.laid (t' := tk) (fun b u e => ?_) (Nat.le_refl _)
    (show ObjOk X.prog X.w _ _ _ (.lst (ys.map V.str)) from ⟨hlen, ((arrOf st').map (·.2)).toList, e', vals_of_strs g1, by rw [Array.toArray_toList]; exact he'⟩), rfl, q ys _ g2 g3 (I1.hok.fresh (Nat.le_refl _))⟩
  have hb : b < h'.objs.size := Heap.lt_size e
  rw [PyProof.Rows.sortedHeap_old (Nat.ne_of_lt hb) (by rw [size_push']; exact Nat.lt_succ_of_lt hb)]
  exact Heap.get?_push_of_some _ e
theorem ok_sorted (hc : X.calm = true) : CallOk X N (.builtin "sorted") (biF .sorted) := by
  intro ρ st H ds vs d st' R rs h
  match ds, h with
  | [x], h =>
    obtain ⟨v, rfl, r⟩ := reps1 (ds := []) rs
    cases r with
    | @ref n a h1 =>
      simp only [biF] at h
      split at h
      · rename_i kvs q
        split at h
        · rename_i ss e
          split at h
          · rename_i h64
            cases h
            obtain ⟨b, ws, eb, _, rd, kv⟩ := dict_at R (.ref h1) q
            cases eb
            refine ⟨_, call_sortedDA hc, fun Q P => ⟨_, _, ss.map toS, rfl, rd, keys_str kv e, by rw [List.length_map]; exact h64, fun ys p hp hs hn => ?_⟩⟩
            rw [perm_toS hp hs]
            exact P.lst R (reps_strs _) p hn
          · cases h
        · cases h
      · split at h
        · rename_i ss e
          split at h
          · rename_i h64
            cases h
            obtain ⟨xs, e1, e2⟩ := bind_some e
            obtain ⟨b, us, eb, rr, hs⟩ := list_at R (.ref h1) e1
            cases eb
            rw [strs_of rr e2] at hs
            refine ⟨_, cr_sortedSA, fun Q P => ⟨_, ss.map toS, rfl, hs, by rw [List.length_map]; exact h64, fun ys p hp hs hn => ?_⟩⟩
            rw [perm_toS hp hs]
            exact P.lst R (reps_strs _) p hn
          · cases h
        · cases h
    | _ => simp [biF] at h
  | [], h => simp [biF] at h
  | _ :: _ :: _, h => simp [biF] at h
end
end MP
namespace MP
open PySem PySem.Spec PyProof.Rows L2
section
variable {X : Cx} {N : Nm}
def IxOk (X : Cx) (N : Nm) : Prop :=
  ∀ (ρ : List Addr) (st : Sto) (H : Hp) (dx dy : D) (x y : V) (d : D), Rl N X.K ρ st H → Rep X.K ρ H dx x → Rep X.K ρ H dy y → ixF st dx dy = some d →
    ∃ r : R2, IxR X r ∧ ∀ Q : VK, Post N X.K ρ H d st Q → r x y H Q
theorem ix_dict (hu : X.A.units + 1 < cLine) : IxR X (fun x y H Q => ∃ a v, x = .ref a ∧ DGet H a y (some v) ∧ Q v H) := by
  intro value slice pins s σ H x y v u Q I rx ry h hs
  obtain ⟨a, r, rfl, g, q⟩ := h
  obtain rfl : v = Value.ref a := rx
  exact tail_any (dict_typeIs I g) PySem.F.slot_dict_getitem.lookup (d_getItem hu I g ry fun w' s' I' r' => ⟨r, H, I', r', q⟩) hs
theorem idx_ix (n : Nat) (i : Int) : idxF n i = ixN n i := rfl
theorem at_reps {ρ : List Addr} {H : Hp} {ds : List D} {vs : List V} {i : Int} {d : D} (r : Reps X.K ρ H ds vs) (h : atF ds i = some d) : ∃ v, atI vs i = some v ∧ Rep X.K ρ H d v := by
  obtain ⟨j, e1, e2⟩ := bind_some h
  obtain ⟨v, e3, e4⟩ := r.get e2
  refine ⟨v, ?_, e4⟩
  unfold atI
  rw [← r.len, ← idx_ix, e1]
  exact e3
theorem at_str {x : List Char} {i : Int} {c : Char} (h : atF x i = some c) : atI (toS x).cps.toList i = some c.toNat := by
  obtain ⟨j, e1, e2⟩ := bind_some h
  unfold atI
  rw [toS_list, List.length_map, ← idx_ix, e1]
  show (x.map Char.toNat)[j]? = _
  rw [List.getElem?_map, e2]; rfl
theorem ok_ix {k : Nat} (hr : Room k X.A) : IxOk X N := by
  intro ρ st H dx dy x y d R rx ry h
  have hz := sz_line
  have hu := room65 hr
  cases rx with
  | str a =>
    cases ry <;> simp only [ixF, reduceCtorEq] at h
    split at h
    · obtain ⟨c, e, rfl⟩ := Option.map_eq_some_iff.mp h
      refine ⟨_, ix_str, fun Q P => ⟨_, _, _, rfl, rfl, by rw [toS_len]; omega, at_str e, P.here R (.str [c])⟩⟩
    · cases h
  | tup h1 h2 =>
    cases ry <;> simp only [ixF, reduceCtorEq] at h
    obtain ⟨v, e, r⟩ := at_reps h2 h
    exact ⟨_, ix_tup, fun Q P => ⟨_, _, _, _, rfl, rfl, h1, e, P.here R r⟩⟩
  | kls h1 h2 =>
    cases ry <;> simp only [ixF, reduceCtorEq] at h
    obtain ⟨v, e, r⟩ := at_reps h2 h
    exact ⟨_, ix_list, fun Q P => ⟨_, _, _, _, rfl, rfl, h1.sq, e, P.here R r⟩⟩
  | @ref n a h1 =>
    have dic : ∀ (kvs : List (Kk × D)), dictF st n = some kvs → ((keyF dy).bind (getK kvs)) = some d → ∃ r : R2, IxR X r ∧ ∀ Q : VK, Post N X.K ρ H d st Q → r (.ref a) y H Q := by
      intro kvs q h
      obtain ⟨k, e1, e2⟩ := bind_some h
      obtain ⟨b, ws, e, _, rd, kv⟩ := dict_at R (.ref h1) q
      cases e
      obtain ⟨v, e3, r⟩ := kv.val.1 d e2
      refine ⟨_, ix_dict (by omega), fun Q P => ⟨_, v, rfl, ?_, P.here R r⟩⟩
      rw [keyF_of ry e1, ← e3]
      exact dget_of rd
    simp only [ixF] at h
    split at h
    · rename_i xs q
      cases ry <;> simp only [reduceCtorEq] at h
      obtain ⟨vs, e, rs⟩ := R.at_ _ _ _ h1 q
      obtain ⟨v, e2, r⟩ := at_reps rs h
      exact ⟨_, ix_list, fun Q P => ⟨_, _, _, _, rfl, rfl, .inl (.inl e), e2, P.here R r⟩⟩
    · rename_i q
      exact dic _ (by unfold dictF; rw [q]) h
    · rename_i q
      exact dic _ (by unfold dictF; rw [q]) h
    · cases h
  | _ => simp [ixF] at h
def SlOk (X : Cx) (N : Nm) : Prop :=
  ∀ (ρ : List Addr) (st : Sto) (H : Hp) (dx : D) (x : V) (lo hi : Option Int) (d : D) (st' : Sto), Rl N X.K ρ st H → Rep X.K ρ H dx x → slF st dx lo hi = .ok (d, st') →
    ∃ r, SlR X r ∧ ∀ Q : VK, Post N X.K ρ H d st' Q → r x lo hi H Q
theorem slIx_eq (n d : Nat) (o : Option Int) : slIx n d o = HT.sIx n d o := by
  cases o <;> rfl
theorem cut_reps {ρ : List Addr} {H : Hp} {ds : List D} {vs : List V} (r : Reps X.K ρ H ds vs) (lo hi : Option Int) : Reps X.K ρ H (cutF ds lo hi) (cutV vs lo hi) := by
  unfold cutF cutV
  rw [slIx_eq, slIx_eq, r.len]
  exact (r.drop _).take _
theorem cut_str (x : List Char) (lo hi : Option Int) : cutS (toS x) lo hi = toS (cutF x lo hi) := by
  unfold cutS cutF toS
  simp only [Str.length, List.size_toArray, List.length_map, slIx_eq, List.map_take, List.map_drop]
theorem ok_sl : SlOk X N := by
  intro ρ st H dx x lo hi d st' R rx h
  have hz := sz_line
  cases rx with
  | str a =>
    simp only [slF] at h
    split at h
    · cases h
      exact ⟨_, sl_str, fun Q P => ⟨_, rfl, by rw [toS_len]; omega, by rw [cut_str]; exact P.here R (.str _)⟩⟩
    · cases h
  | @tup a ds vs h1 h2 =>
    simp only [slF] at h
    cases h
    refine ⟨_, sl_tupA, fun Q P => ⟨_, _, rfl, h1, fun hw => ?_, fun _ => P.tup R (cut_reps h2 lo hi)⟩⟩
    refine P.here R (.tup h1 ?_)
    have : cutF ds lo hi = ds := by
      unfold cutF
      rw [slIx_eq, slIx_eq, h2.len, hw.1, hw.2, ← h2.len, List.drop_zero, Nat.sub_zero, List.take_length]
    rw [this]
    exact h2
  | kls h1 h2 =>
    simp only [slF, newF] at h
    cases h
    exact ⟨_, sl_list, fun Q P => ⟨_, _, rfl, h1.sq, P.lst R (cut_reps h2 lo hi)⟩⟩
  | @ref n a h1 =>
    simp only [slF, newF] at h
    split at h
    · rename_i xs q
      cases h
      obtain ⟨vs, e, rs⟩ := R.at_ _ _ _ h1 q
      exact ⟨_, sl_list, fun Q P => ⟨_, _, rfl, .inl (.inl e), P.lst R (cut_reps rs lo hi)⟩⟩
    · cases h
  | _ => simp [slF] at h
def tyS : Ty → Option String
  | .int => some "int" | .bool => some "bool" | .str => some "str" | .tuple => some "tuple" | .list => some "list" | .dict => some "dict" | .cls _ => none
theorem ok_isi {P : Prog} {ρ : List Addr} {st : Sto} {H : Hp} {dx : D} {x : V} {t : Ty} {T : String} {b : Bool} (R : Rl N X.K ρ st H) (rx : Rep X.K ρ H dx x) (hT : tyS t = some T) (h : isiF P st dx t = some b) :
    ∀ Q : VK, Q (.bl b) H → rIsi X.K [x, .ty T] H Q := by
  have key : ∃ a : String, TyX X.K H x (.type a) ∧ kitB a T = some b := by
    cases rx with
    | non => exact ⟨"NoneType", .base .non, by cases t <;> simp [isiF, tyS] at h hT <;> subst h hT <;> decide +kernel⟩
    | bl k => exact ⟨"bool", .base (.bl k), by cases t <;> simp [isiF, tyS] at h hT <;> subst h hT <;> decide +kernel⟩
    | int k => exact ⟨"int", .base (.int k), by cases t <;> simp [isiF, tyS] at h hT <;> subst h hT <;> decide +kernel⟩
    | str k => exact ⟨"str", .base (.str _), by cases t <;> simp [isiF, tyS] at h hT <;> subst h hT <;> decide +kernel⟩
    | tup h1 h2 =>
      refine ⟨"tuple", ?_, by cases t <;> simp [isiF, tyS] at h hT <;> subst h hT <;> decide +kernel⟩
      rcases h1 with (h1 | ⟨o, h1⟩) | ⟨o, its, n, hk, hc, _⟩
      · exact .base (.tup h1)
      · exact .fTuple h1
      · exact .kTuple hk hc
    | kls h1 h2 =>
      refine ⟨"list", ?_, by cases t <;> simp [isiF, tyS] at h hT <;> subst h hT <;> decide +kernel⟩
      rcases h1.sq with (h1 | ⟨o, h1⟩) | ⟨o, its, n, hk, hc, _⟩
      · exact .base (.lst h1)
      · exact .base (.frz h1)
      · exact .kList hk hc
    | @ref n a h1 =>
      simp only [isiF] at h
      split at h
      · rename_i xs q
        obtain ⟨vs, e, rs⟩ := R.at_ _ _ _ h1 q
        exact ⟨"list", .base (.lst e), by cases t <;> simp [tyS] at h hT <;> subst h hT <;> decide +kernel⟩
      · rename_i xs q
        obtain ⟨vs, e, rs⟩ := R.at_ _ _ _ h1 q
        exact ⟨"dict", .base (.dK e), by cases t <;> simp [tyS] at h hT <;> subst h hT <;> decide +kernel⟩
      · cases h
  obtain ⟨a, ta, kb⟩ := key
  exact fun Q q => ⟨_, _, _, _, b, rfl, .ty T, ta, kit_ty kb, q⟩
end
end MP
namespace MP
open PySem PySem.Spec PyProof.Rows L2
def tyK : Kd → String
  | .s => "str" | .l => "list" | .d => "dict"
/-- a method of a built-in type by values -/
structure MtOk (X : Cx) (N : Nm) (k : Kd) (m : Bm) (name : Str) (id : String) : Prop where
  pa : PlainAttrs (tyK k)
  slot : Slot (tyK k) name id
  ty : typeOf (.builtin id) = pure (.type "method_descriptor")
  go : ∀ (ρ : List Addr) (st : Sto) (H : Hp) (o : D) (x : V) (ds : List D) (vs : List V) (d : D) (st' : Sto), Rl N X.K ρ st H → Rep X.K ρ H o x → Reps X.K ρ H ds vs → bmF k m o ds st = .ok (d, st') →
    ∃ r, MtR X id r ∧ ∀ Q : VK, Post N X.K ρ H d st' Q → r x vs H Q
theorem pa_k (k : Kd) : PlainAttrs (tyK k) := by
  cases k
  · exact PySem.F.plainAttrs_str
  · exact PySem.F.plainAttrs_list
  · exact PySem.F.plainAttrs_dict
section
variable {X : Cx} {N : Nm} {ρ : List Addr} {H : Hp}
theorem kind_is {st : Sto} {o : D} {x : V} {k : Kd} {pins : List (Addr × Obj)} {σ : L2.St} {s : Shared} {u : Value} (R : Rl N X.K ρ st H) (r : Rep X.K ρ H o x) (h : kindF st o = some k) (I : Inv X pins σ H s) (ru : RelV x u) :
    s.TypeIs u (tyK k) ∧ ∀ a, u = .ref a → ∃ ob, s.heap.get? a = some ob ∧ ob.dict = none := by
  cases r with
  | str x =>
    simp only [kindF] at h
    cases h
    exact tyV_is I ru (T := "str") rfl
  | @ref n a h1 =>
    simp only [kindF] at h
    split at h
    · rename_i q
      cases h
      obtain ⟨vs, e, rs⟩ := R.at_ _ _ _ h1 q
      exact tyV_is I ru (T := "list") (.inl ⟨rfl, vs, .inl (.inl e)⟩)
    · rename_i q
      cases h
      obtain ⟨vs, e, rs⟩ := R.at_ _ _ _ h1 q
      cases ru
      obtain ⟨a1, a2, _⟩ := isD_at I (.inl ⟨vs, .inl e⟩)
      exact ⟨a1, a2⟩
    · rename_i q
      cases h
      obtain ⟨o, vs, e, rs⟩ := R.at_ _ _ _ h1 q
      cases ru
      obtain ⟨a1, a2, _⟩ := isD_at I (.inl ⟨vs, .inr ⟨o, e⟩⟩)
      exact ⟨a1, a2⟩
    · cases h
  | _ => simp [kindF] at h
theorem lst_of {st : Sto} {n : Nat} {x : V} {ys : List D} (R : Rl N X.K ρ st H) (r : Rep X.K ρ H (.ref n) x) (h : lstF st n = some ys) : ∃ a vs, x = .ref a ∧ ρ[n]? = some a ∧ H a = some (.lst vs) ∧ Reps X.K ρ H ys vs ∧ st[n]? = some (.lst ys) := by
  unfold lstF at h
  split at h
  · rename_i q
    cases h
    obtain ⟨a, vs, e1, e2, e3, e4⟩ := lst_at R r q
    exact ⟨a, vs, e1, e2, e3, e4, q⟩
  · cases h
theorem Reps.mapR {K : PySem.W.Frag} {ρ ρ1 : List Addr} {H H1 : Hp} (g : ∀ {d : D} {v : V}, Rep K ρ H d v → Rep K ρ1 H1 d v) : ∀ {ds : List D} {vs : List V}, Reps K ρ H ds vs → Reps K ρ1 H1 ds vs
  | _, _, .nil => .nil
  | _, _, .cons r t => .cons (g r) (Reps.mapR g t)
theorem Post.put {st : Sto} {n : Nat} {a : Addr} {o : O} {ds : List D} {vs : List V} {d : D} {Q : VK} {v : V} (P : Post N X.K ρ H d (st.set n (.lst ds)) Q) (R : Rl N X.K ρ st H) (ha : ρ[n]? = some a) (ho : st[n]? = some o) (rs : Reps X.K ρ H ds vs) (r : Rep X.K ρ H d v) (hf : ∀ ob kvs, H a ≠ some (.frz ob (.dK kvs))) :
    Q v (upd H a (.lst vs)) := by
  obtain ⟨e, R2⟩ := R.put (u := .lst vs) (o' := .lst ds) ha ho hf (fun g => ⟨vs, upd_same, rs.mapR g⟩)
  exact P _ _ _ e R2 (r.ext e)
theorem lm_of {m : Bm} {o : D} {ds : List D} {st st' : Sto} {d : D} {x : V} (R : Rl N X.K ρ st H) (r : Rep X.K ρ H o x) (h : bmF .l m o ds st = .ok (d, st')) :
    ∃ n a ys vs, x = .ref a ∧ ρ[n]? = some a ∧ H a = some (.lst vs) ∧ Reps X.K ρ H ys vs ∧ st[n]? = some (.lst ys) ∧ lmF m n ys ds st = .ok (d, st') := by
  cases r with
  | @ref n a h1 =>
    simp only [bmF] at h
    split at h
    · rename_i ys q
      obtain ⟨b, vs, e1, e2, e3, e4, e5⟩ := lst_of R (.ref h1) q
      cases e1
      exact ⟨n, a, ys, vs, rfl, h1, e3, e4, e5, h⟩
    · cases h
  | _ => simp [bmF] at h
theorem ok_append : MtOk X N .l .append "append" "list.append" := by
  refine ⟨pa_k _, PySem.F.slot_list_append, PySem.F.type_list_append, fun ρ st H o x ds us d st' R r rs h => ?_⟩
  have hz := sz_line
  obtain ⟨n, a, ys, vs, rfl, h1, e, rr, q, h⟩ := lm_of R r h
  match ds, h with
  | [y], h =>
    obtain ⟨v, rfl, ry⟩ := reps1 (ds := []) rs
    simp only [lmF] at h
    split at h
    · cases h
      exact ⟨_, mt_append, fun Q P => ⟨_, _, _, rfl, rfl, e, by rw [← rr.len]; omega, P.put R h1 q (rr.app (.cons ry .nil)) .non (by simp [e])⟩⟩
    · cases h
  | [], h => simp [lmF] at h
  | _ :: _ :: _, h => simp [lmF] at h
theorem ok_popl : MtOk X N .l .pop "pop" "list.pop" := by
  refine ⟨pa_k _, PySem.F.slot_list_pop, PySem.F.type_list_pop, fun ρ st H o x ds us d st' R r rs h => ?_⟩
  obtain ⟨n, a, ys, vs, rfl, h1, e, rr, q, h⟩ := lm_of R r h
  match ds, h with
  | [], h =>
    cases rs
    simp only [lmF] at h
    split at h
    · rename_i y hy
      cases h
      obtain ⟨v, e2, rv⟩ := rr.get hy
      exact ⟨_, mt_pop, fun Q P => ⟨_, _, _, rfl, rfl, e, by rw [← rr.len]; exact e2, P.put R h1 q rr.dropLast rv (by simp [e])⟩⟩
    · cases h
  | [.int i], h =>
    obtain ⟨v, rfl, ry⟩ := reps1 (ds := []) rs
    simp only [lmF] at h
    split at h
    · rename_i hi
      subst hi
      split at h
      · cases h
        cases ry
        cases rr with
        | @cons _ y1 _ vs1 r1 r2 =>
          exact ⟨_, mt_popAt, fun Q P => ⟨_, _, 0, 0, y1, rfl, rfl, e, by decide, by decide, by simp [seqIndex?], rfl, P.put R h1 q r2 r1 (by simp [e])⟩⟩
      · cases h
    · cases h
  | [.ref _], h => simp [lmF] at h
  | [.non], h => simp [lmF] at h
  | [.bl _], h => simp [lmF] at h
  | [.str _], h => simp [lmF] at h
  | [.tup _], h => simp [lmF] at h
  | [.kls _], h => simp [lmF] at h
  | _ :: _ :: _, h => simp [lmF] at h
theorem ok_extend : MtOk X N .l .extend "extend" "list.extend" := by
  refine ⟨pa_k _, PySem.F.slot_list_extend, PySem.F.type_list_extend, fun ρ st H o x ds us d st' R r rs h => ?_⟩
  have hz := sz_line
  obtain ⟨n, a, ys, vs, rfl, h1, e, rr, q, h⟩ := lm_of R r h
  match ds, h with
  | [.ref k], h =>
    obtain ⟨v, rfl, ry⟩ := reps1 (ds := []) rs
    simp only [lmF] at h
    split at h
    · rename_i zs hk
      obtain ⟨b, ws, e1, e2, e3, e4, e5⟩ := lst_of R ry hk
      subst e1
      split at h
      · cases h
        exact ⟨_, mt_extend, fun Q P => ⟨_, _, _, _, rfl, rfl, e, e3, by rw [← rr.len, ← e4.len]; omega, P.put R h1 q (rr.app e4) .non (by simp [e])⟩⟩
      · cases h
    · cases h
  | [], h => simp [lmF] at h
  | [.non], h => simp [lmF] at h
  | [.bl _], h => simp [lmF] at h
  | [.int _], h => simp [lmF] at h
  | [.str _], h => simp [lmF] at h
  | [.tup _], h => simp [lmF] at h
  | [.kls _], h => simp [lmF] at h
  | _ :: _ :: _, h => simp [lmF] at h
theorem ok_clear : MtOk X N .l .clear "clear" "list.clear" := by
  refine ⟨pa_k _, PySem.F.slot_list_clear, PySem.F.type_list_clear, fun ρ st H o x ds us d st' R r rs h => ?_⟩
  obtain ⟨n, a, ys, vs, rfl, h1, e, rr, q, h⟩ := lm_of R r h
  match ds, h with
  | [], h =>
    cases rs
    simp only [lmF] at h
    cases h
    exact ⟨_, mt_clear, fun Q P => ⟨_, _, rfl, rfl, e, P.put R h1 q .nil .non (by simp [e])⟩⟩
  | _ :: _, h => simp [lmF] at h
theorem ok_reverse : MtOk X N .l .reverse "reverse" "list.reverse" := by
  refine ⟨pa_k _, PySem.F.slot_list_reverse, PySem.F.type_list_reverse, fun ρ st H o x ds us d st' R r rs h => ?_⟩
  obtain ⟨n, a, ys, vs, rfl, h1, e, rr, q, h⟩ := lm_of R r h
  match ds, h with
  | [], h =>
    cases rs
    simp only [lmF] at h
    cases h
    exact ⟨_, mt_reverse, fun Q P => ⟨_, _, rfl, rfl, e, P.put R h1 q rr.rev .non (by simp [e])⟩⟩
  | _ :: _, h => simp [lmF] at h
def eqS1 (x : Str) (v : Value) : Bool := match v with
  | .str y _ => decide (y = x)
  | _ => false
theorem eqS1_gives {x : Str} {t : Tok} : ∀ {us : List Value} {ss : List Str}, Vals (ss.map V.str) us → ∀ y ∈ us, MeetsSeq.EqGives y (.str x t) (eqS1 x y)
  | [], [], _ => fun y hy => by cases hy
  | u :: us, s :: ss, h => fun y hy => by
    cases h with
    | cons r h =>
      obtain ⟨t', rfl⟩ := (show ∃ t, u = Value.str s t from r)
      rcases List.mem_cons.mp hy with e | e
      · rw [e]
        have h3 := SeqRoads2.EqGives.str s x t' t
        have h4 : (s.cps.toList == x.cps.toList) = eqS1 x (.str s t') := by
          show _ = decide (s = x)
          rw [Bool.eq_iff_iff, beq_iff_eq, decide_eq_true_eq]
          exact ⟨fun h => by cases s; cases x; simp only [Str.mk.injEq]; exact Array.toList_inj.mp h, fun h => by rw [h]⟩
        rw [h4] at h3
        exact h3
      · exact eqS1_gives h y e
  | [], _ :: _, h => by cases h
  | _ :: _, [], h => by cases h
theorem erase_mapS : ∀ (l : List Str) (j : Nat), (l.map V.str).eraseIdx j = (l.eraseIdx j).map V.str
  | [], j => by simp
  | a :: r, 0 => by simp
  | a :: r, j + 1 => by
    have ih := erase_mapS r j
    simp [ih]
theorem mt_removeS : MtM X "list.remove" (fun x xs H Q => ∃ (l : Addr) (ss : List Str) (k : Str) (j : Nat), x = .ref l ∧ xs = [.str k] ∧ H l = some (.lst (ss.map V.str)) ∧ ss[j]? = some k ∧ (∀ m : Nat, m < j → ss[m]? ≠ some k) ∧ Q .non (upd H l (.lst ((ss.eraseIdx j).map V.str)))) := by
  intro pins s σ H x xs v us Q I rx rxs h
  obtain ⟨l, ns, k, j, rfl, rfl, hH, hj, hno, q⟩ := h
  cases rx
  obtain ⟨u, rfl, ru⟩ := rxs.one
  obtain ⟨t, rfl⟩ := ru
  obtain ⟨z, its, n, r, hl, e⟩ := I.lstM hH
  have hi := eqS1_gives (x := k) (t := t) r
  rw [List.length_map] at hl z
  have hjn : j < ns.length := (List.getElem?_eq_some_iff.mp hj).1
  have hjl : j < its.toArray.size := by rw [List.size_toArray]; omega
  have atk : ∀ (m : Nat) (y : Str), ns[m]? = some y → ∃ t, its[m]? = some (.str y t) := fun m y hm => by
    obtain ⟨w, hw, rw_⟩ := r.get (i := m) (x := .str y) (by rw [List.getElem?_map, hm]; rfl)
    obtain ⟨t', rfl⟩ := (show ∃ t, w = Value.str y t from rw_)
    exact ⟨t', hw⟩
  refine call_meets PySem.F.slot_list_remove ⟨_, e, rfl⟩ PySem.F.entry_list_remove (PySem.F.args_list_remove_2 _ _)
    (MeetsSeq.list_remove l its.toArray n (.str k t) (eqS1 k) (fun y hy => hi y (by simpa using hy)) j hjl ?_ ?_ (by rw [List.size_toArray]; omega)) ⟨e, ?_⟩
  · obtain ⟨tj, hjt⟩ := atk j k hj
    obtain ⟨h1, h2⟩ := List.getElem?_eq_some_iff.mp hjt
    have e1 : its.toArray[j] = .str k tj := by simpa using h2
    rw [e1]
    exact decide_eq_true rfl
  · intro m hm hmj
    have hmn : m < ns.length := by omega
    obtain ⟨tm, hmt⟩ := atk m _ (List.getElem?_eq_getElem hmn)
    obtain ⟨h1, h2⟩ := List.getElem?_eq_some_iff.mp hmt
    have e1 : its.toArray[m] = .str ns[m] tm := by simpa using h2
    rw [e1]
    refine decide_eq_false fun e2 => hno m hmj ?_
    rw [List.getElem?_eq_getElem hmn, e2]
  · have rr := r.eraseIdx j
    rw [erase_mapS] at rr
    refine ⟨.non, _, I.lset (its' := its.eraseIdx j) (t' := s.toks) hH e ?_ rr ?_, rfl, q⟩
    · show its.toArray.eraseIdxIfInBounds j = (its.eraseIdx j).toArray
      rw [List.eraseIdxIfInBounds_toArray]
    · have z2 := len_erase ns j
      rw [List.length_map]
      omega
theorem erase_at : ∀ {ss : List (List Char)} {x : List Char}, x ∈ ss → ∃ j, ss[j]? = some x ∧ (∀ m, m < j → ss[m]? ≠ some x) ∧ ss.erase x = ss.eraseIdx j
  | [], x, h => by cases h
  | y :: ss, x, h => by
    by_cases e : y = x
    · subst e
      exact ⟨0, rfl, fun m hm => by omega, by simp⟩
    · have h2 : x ∈ ss := by
        rcases List.mem_cons.mp h with h | h
        · exact absurd h.symm e
        · exact h
      obtain ⟨j, h3, h4, h5⟩ := erase_at h2
      refine ⟨j + 1, by simpa using h3, fun m hm => ?_, ?_⟩
      · cases m with
        | zero => simpa using e
        | succ m => simpa using h4 m (by omega)
      · rw [List.erase_cons_tail (by simpa using e), h5, List.eraseIdx_cons_succ]
theorem ok_remove : MtOk X N .l .remove "remove" "list.remove" := by
  refine ⟨pa_k _, PySem.F.slot_list_remove, PySem.F.type_list_remove, fun ρ st H o x ds us d st' R r rs h => ?_⟩
  obtain ⟨n, a, ys, vs, rfl, h1, e, rr, q, h⟩ := lm_of R r h
  match ds, h with
  | [.str k], h =>
    obtain ⟨v, rfl, ry⟩ := reps1 (ds := []) rs
    cases ry
    simp only [lmF] at h
    split at h
    · rename_i ss hs
      split at h
      · rename_i hk
        cases h
        have hv := strs_of rr hs
        obtain ⟨j, j1, j2, j3⟩ := erase_at hk
        refine ⟨_, mt_removeS, fun Q P => ⟨a, ss.map toS, toS k, j, rfl, rfl, by rw [e, hv], by rw [List.getElem?_map, j1]; rfl, fun m hm hx => ?_, ?_⟩⟩
        · rw [List.getElem?_map] at hx
          obtain ⟨z, z1, z2⟩ := Option.map_eq_some_iff.mp hx
          rw [toS_inj z2] at z1
          exact j2 m hm z1
        · rw [j3] at P
          have rr2 : Reps X.K ρ H ((ss.eraseIdx j).map D.str) (((ss.map toS).eraseIdx j).map V.str) := by
            have em : ∀ (l : List (List Char)) (j : Nat), (l.map toS).eraseIdx j = (l.eraseIdx j).map toS := fun l => by
              induction l with
              | nil => intro j; simp
              | cons x l ih =>
                intro j
                cases j with
                | zero => simp
                | succ j => simp [ih]
            rw [em]
            exact reps_strs _
          exact P.put R h1 q rr2 .non (by simp [e])
      · cases h
    · cases h
  | [], h => simp [lmF] at h
  | [.non], h => simp [lmF] at h
  | [.bl _], h => simp [lmF] at h
  | [.int _], h => simp [lmF] at h
  | [.ref _], h => simp [lmF] at h
  | [.tup _], h => simp [lmF] at h
  | [.kls _], h => simp [lmF] at h
  | _ :: _ :: _, h => simp [lmF] at h
theorem dct_of {st : Sto} {n : Nat} {x : V} {ys : List (Kk × D)} (R : Rl N X.K ρ st H) (r : Rep X.K ρ H (.ref n) x) (h : dctF st n = some ys) : ∃ a vs, x = .ref a ∧ ρ[n]? = some a ∧ H a = some (.dK vs) ∧ KVs X.K ρ H ys vs ∧ st[n]? = some (.dct ys) := by
  unfold dctF at h
  split at h
  · rename_i q
    cases h
    obtain ⟨a, vs, e1, e2, e3, e4⟩ := dct_at R r q
    exact ⟨a, vs, e1, e2, e3, e4, q⟩
  · cases h
theorem Post.putD {st : Sto} {n : Nat} {a : Addr} {o : O} {ds : List (Kk × D)} {vs : List (Key × V)} {d : D} {Q : VK} {v : V} (P : Post N X.K ρ H d (st.set n (.dct ds)) Q) (R : Rl N X.K ρ st H) (ha : ρ[n]? = some a) (ho : st[n]? = some o) (rs : KVs X.K ρ H ds vs) (r : Rep X.K ρ H d v) (hf : ∀ ob kvs, H a ≠ some (.frz ob (.dK kvs))) :
    Q v (upd H a (.dK vs)) := by
  obtain ⟨e, R2⟩ := R.put (u := .dK vs) (o' := .dct ds) ha ho hf (fun g => ⟨vs, upd_same, pairedMap (fun _ _ z => ⟨z.1, g z.2⟩) rs⟩)
  exact P _ _ _ e R2 (r.ext e)
theorem KVs.drop {k : Kk} : ∀ {ds : List (Kk × D)} {vs : List (Key × V)}, KVs X.K ρ H ds vs → KVs X.K ρ H (MP.dropK ds k) (L2.dropK vs (toK k))
  | _, _, .nil => .nil
  | _, _, .cons (a := p) (b := q) r t => by
    have ih := KVs.drop (k := k) t
    unfold MP.dropK L2.dropK at ih ⊢
    rw [List.filter_cons, List.filter_cons, r.1]
    by_cases h : p.1 = k
    · rw [if_neg (by simp [h]), if_neg (by simp [h])]
      exact ih
    · rw [if_pos (by simp [h]), if_pos (by simp [show ¬ toK p.1 = toK k from fun z => h (toK_inj z)])]
      exact .cons r ih
theorem KVs.any {k : Kk} : ∀ {ds : List (Kk × D)} {vs : List (Key × V)}, KVs X.K ρ H ds vs → (vs.any fun kv => decide (kv.1 = toK k)) = ds.any fun kv => decide (kv.1 = k)
  | _, _, .nil => rfl
  | _, _, .cons (a := p) (b := q) r t => by rw [List.any_cons, List.any_cons, KVs.any t, r.1, toK_dec]
theorem KVs.put {k : Kk} {d : D} {v : V} {ds : List (Kk × D)} {vs : List (Key × V)} (h : KVs X.K ρ H ds vs) (r : Rep X.K ρ H d v) : KVs X.K ρ H (MP.putK ds k d) (L2.putK vs (toK k) v) := by
  unfold MP.putK L2.putK
  rw [h.any (k := k)]
  split
  · have : ∀ {ds : List (Kk × D)} {vs : List (Key × V)}, KVs X.K ρ H ds vs → KVs X.K ρ H (ds.map fun kv => if kv.1 = k then (kv.1, d) else kv) (vs.map fun kv => if kv.1 = toK k then (kv.1, v) else kv) := by
      intro ds vs h
      induction h with
      | nil => exact .nil
      | @cons p q _ _ r2 t ih =>
        rw [List.map_cons, List.map_cons]
        refine .cons ?_ ih
        by_cases e : p.1 = k
        · rw [if_pos e, if_pos (by rw [r2.1, e])]
          exact ⟨r2.1, r⟩
        · rw [if_neg e, if_neg (by rw [r2.1]; exact fun z => e (toK_inj z))]
          exact r2
    exact this h
  · have : ∀ {ds : List (Kk × D)} {vs : List (Key × V)}, KVs X.K ρ H ds vs → KVs X.K ρ H (ds ++ [(k, d)]) (vs ++ [(toK k, v)]) := by
      intro ds vs h
      induction h with
      | nil => exact .cons ⟨rfl, r⟩ .nil
      | cons r2 t ih => exact .cons r2 ih
    exact this h
theorem mt_get1 (hu : X.A.units + 1 < cLine) : MtR X "dict.get" (fun x xs H Q => ∃ a y o, x = .ref a ∧ xs = [y] ∧ DGet H a y o ∧ Q (o.getD .non) H) := by
  intro pins s σ H x xs v us Q I rx rs h
  obtain ⟨a, y, o, rfl, rfl, g, q⟩ := h
  obtain rfl : v = Value.ref a := rx
  obtain ⟨u, rfl, ru⟩ := vals1 rs
  exact d_get1 hu I g ru fun w' s' I' r' => ⟨_, H, I', r', q⟩
theorem mt_get2 (hu : X.A.units + 1 < cLine) : MtR X "dict.get" (fun x xs H Q => ∃ a y d o, x = .ref a ∧ xs = [y, d] ∧ DGet H a y o ∧ Q (o.getD d) H) := by
  intro pins s σ H x xs v us Q I rx rs h
  obtain ⟨a, y, d, o, rfl, rfl, g, q⟩ := h
  obtain rfl : v = Value.ref a := rx
  obtain ⟨u1, u2, rfl, r1, r2⟩ := vals2 rs
  exact d_get2 hu I g r1 r2 fun w' s' I' r' => ⟨_, H, I', r', q⟩
theorem mt_pop1 : MtR X "dict.pop" (fun x xs H Q => ∃ a kvs k v, x = .ref a ∧ xs = [kV k] ∧ H a = some (.dK kvs) ∧ valV kvs k = some v ∧ Q v (upd H a (.dK (L2.dropK kvs k)))) := by
  intro pins s σ H x xs v us Q I rx rs h
  obtain ⟨a, kvs, k, y, rfl, rfl, e, l, q⟩ := h
  obtain rfl : v = Value.ref a := rx
  obtain ⟨u, rfl, ru⟩ := vals1 rs
  exact d_pop I e ru l (.inl rfl) fun w' s' I' r' => ⟨_, _, I', r', q⟩
theorem mt_pop2 : MtR X "dict.pop" (fun x xs H Q => ∃ a kvs k d, x = .ref a ∧ xs = [kV k, d] ∧ H a = some (.dK kvs) ∧ (∀ v, valV kvs k = some v → Q v (upd H a (.dK (L2.dropK kvs k)))) ∧ (valV kvs k = none → Q d H)) := by
  intro pins s σ H x xs v us Q I rx rs h
  obtain ⟨a, kvs, k, y, rfl, rfl, e, q1, q2⟩ := h
  obtain rfl : v = Value.ref a := rx
  obtain ⟨u1, u2, rfl, r1, r2⟩ := vals2 rs
  cases l : valV kvs k with
  | some v => exact d_pop I e r1 l (.inr ⟨u2, rfl⟩) fun w' s' I' r' => ⟨_, _, I', r', q1 v l⟩
  | none => exact d_popD I e r1 l fun s' I' => ⟨_, _, I', r2, q2 l⟩
theorem dm_of {m : Bm} {o : D} {ds : List D} {st st' : Sto} {d : D} {x : V} (r : Rep X.K ρ H o x) (h : bmF .d m o ds st = .ok (d, st')) :
    ∃ n a, x = .ref a ∧ ρ[n]? = some a ∧ dmF m n ds st = .ok (d, st') := by
  cases r with
  | @ref n a h1 => exact ⟨n, a, rfl, h1, by simpa only [bmF] using h⟩
  | _ => simp [bmF] at h
theorem getD_of {k : Kk} {ds : List (Kk × D)} {vs : List (Key × V)} {d : D} {v : V} (h : KVs X.K ρ H ds vs) (r : Rep X.K ρ H d v) : Rep X.K ρ H ((getK ds k).getD d) ((valV vs (toK k)).getD v) := by
  obtain ⟨i1, i2⟩ := h.val (k := k)
  cases e : getK ds k with
  | none => rw [i2 e]; exact r
  | some y => obtain ⟨u, e2, r2⟩ := i1 y e; rw [e2]; exact r2
theorem ok_get {k : Nat} (hr : Room k X.A) : MtOk X N .d .get "get" "dict.get" := by
  refine ⟨pa_k _, PySem.F.slot_dict_get, PySem.F.type_dict_get, fun ρ st H o x ds us d st' R r rs h => ?_⟩
  have hu := room65 hr
  obtain ⟨n, a, rfl, h1, h⟩ := dm_of r h
  match ds, h with
  | [], h => simp [dmF] at h
  | [y], h =>
    obtain ⟨v, rfl, ry⟩ := reps1 (ds := []) rs
    simp only [dmF] at h
    split at h
    · rename_i kvs k q1 q2
      cases h
      obtain ⟨b, ws, e, _, rd, kv⟩ := dict_at R (.ref h1) q1
      cases e
      refine ⟨_, mt_get1 (by omega), fun Q P => ⟨a, v, _, rfl, rfl, ?_, P.here R (getD_of (k := k) kv .non)⟩⟩
      rw [keyF_of ry q2]
      exact dget_of rd
    · cases h
  | [y, z], h =>
    obtain ⟨v, u, rfl, ry, rz⟩ := reps2 rs
    simp only [dmF] at h
    split at h
    · rename_i kvs k q1 q2
      cases h
      obtain ⟨b, ws, e, _, rd, kv⟩ := dict_at R (.ref h1) q1
      cases e
      refine ⟨_, mt_get2 (by omega), fun Q P => ⟨a, v, u, _, rfl, rfl, ?_, P.here R (getD_of (k := k) kv rz)⟩⟩
      rw [keyF_of ry q2]
      exact dget_of rd
    · cases h
  | _ :: _ :: _ :: _, h => simp [dmF] at h
theorem ok_popd : MtOk X N .d .pop "pop" "dict.pop" := by
  refine ⟨pa_k _, PySem.F.slot_dict_pop, PySem.F.type_dict_pop, fun ρ st H o x ds us d st' R r rs h => ?_⟩
  obtain ⟨n, a, rfl, h1, h⟩ := dm_of r h
  match ds, h with
  | [], h => simp [dmF] at h
  | [y], h =>
    obtain ⟨v, rfl, ry⟩ := reps1 (ds := []) rs
    simp only [dmF] at h
    split at h
    · rename_i kvs k q1 q2
      obtain ⟨b, ws, e, _, ha, kv, q3⟩ := dct_of R (.ref h1) q1
      cases e
      split at h
      · rename_i y' q4
        cases h
        obtain ⟨w, e5, rw_⟩ := (kv.val (k := k)).1 _ q4
        exact ⟨_, mt_pop1, fun Q P => ⟨a, ws, toK k, w, rfl, by rw [keyF_of ry q2], ha, e5, P.putD R h1 q3 kv.drop rw_ (by simp [ha])⟩⟩
      · cases h
    · cases h
  | [y, z], h =>
    obtain ⟨v, u, rfl, ry, rz⟩ := reps2 rs
    simp only [dmF] at h
    split at h
    · rename_i kvs k q1 q2
      obtain ⟨b, ws, e, _, ha, kv, q3⟩ := dct_of R (.ref h1) q1
      cases e
      split at h
      · rename_i y' q4
        cases h
        obtain ⟨w, e5, rw_⟩ := (kv.val (k := k)).1 _ q4
        refine ⟨_, mt_pop2, fun Q P => ⟨a, ws, toK k, u, rfl, by rw [keyF_of ry q2], ha, fun w' hw => ?_, fun hw => by rw [e5] at hw; cases hw⟩⟩
        rw [e5] at hw
        cases hw
        exact P.putD R h1 q3 kv.drop rw_ (by simp [ha])
      · rename_i q4
        cases h
        refine ⟨_, mt_pop2, fun Q P => ⟨a, ws, toK k, u, rfl, by rw [keyF_of ry q2], ha, fun w' hw => ?_, fun hw => P.here R rz⟩⟩
        rw [(kv.val (k := k)).2 q4] at hw
        cases hw
    · cases h
  | _ :: _ :: _ :: _, h => simp [dmF] at h
/-- d.update(e) -/
theorem mrg_le (kvs ws : List (Key × V)) : (ws.foldl (fun acc kv => L2.putK acc kv.1 kv.2) kvs).length ≤ kvs.length + ws.length := by
  induction ws generalizing kvs with
  | nil => simp
  | cons w ws ih =>
    rw [List.foldl_cons, List.length_cons]
    have h1 := ih (L2.putK kvs w.1 w.2)
    have h2 : (L2.putK kvs w.1 w.2).length ≤ kvs.length + 1 := by
      unfold L2.putK
      split
      · rw [List.length_map]; omega
      · rw [List.length_append]; simp
    omega
theorem kv_mrg {ws : List (Key × V)} {us : List (Key × Value)} (r : KV ws us) : ∀ {kvs : List (Key × V)} {vs : List (Key × Value)}, KV kvs vs → KV (ws.foldl (fun acc kv => L2.putK acc kv.1 kv.2) kvs) (merged vs us) := by
  induction r with
  | nil => intro kvs vs h; exact h
  | @cons a b _ _ p t ih =>
    intro kvs vs h
    unfold merged
    rw [List.foldl_cons, List.foldl_cons, ← p.1]
    exact ih (h.put a.1 p.2)
theorem mt_update : MtR X "dict.update" (fun x xs H Q => ∃ a b kvs ws, x = .ref a ∧ xs = [.ref b] ∧ a ≠ b ∧ H a = some (.dK kvs) ∧ H b = some (.dK ws) ∧ kvs.length + ws.length ≤ sizeLine ∧ Q .non (upd H a (.dK (ws.foldl (fun acc kv => L2.putK acc kv.1 kv.2) kvs)))) := by
  intro pins s σ H x xs v us Q I rx rs h
  obtain ⟨a, b, kvs, ws, rfl, rfl, hne, e, e2, hz, q⟩ := h
  obtain rfl : v = Value.ref a := rx
  obtain ⟨u, rfl, ru⟩ := vals1 rs
  cases (show u = Value.ref b from ru)
  obtain ⟨z, hd, vs, rel, dd⟩ := dk_of I.hok e
  obtain ⟨z2, hd2, us, rel2, dd2⟩ := dk_of I.hok e2
  refine call_meetsIn PySem.F.slot_dict_update dd.typeIs PySem.F.entry_dict_update (PySem.F.args_dict_update_2 _ _) (meets_dict_update (mixKind X.prog X.w) a b hne hd2)
    ⟨vs, us, dd, dd2, by rw [← rel.length, ← rel2.length]; exact hz, fun h' dd' _ hs => ⟨.non, _, ?_, rfl, q⟩⟩
  have he : ∃ q, h'.get? a = some q := let ⟨q, _, _, hq, _⟩ := dd'; ⟨q, hq⟩
  exact d_write (t' := s.toks) I (by rw [e]; exact True.intro) hs he (dk_new (Nat.le_trans (mrg_le kvs ws) hz) hd (kv_mrg rel2 rel) dd')
theorem kvs_mrg {ρ : List Addr} {H : Hp} {ws : List (Kk × D)} {us : List (Key × V)} (r : KVs X.K ρ H ws us) : ∀ {kvs : List (Kk × D)} {vs : List (Key × V)}, KVs X.K ρ H kvs vs → KVs X.K ρ H (mrgK kvs ws) (us.foldl (fun acc kv => L2.putK acc kv.1 kv.2) vs) := by
  induction r with
  | nil => intro kvs vs h; exact h
  | @cons p q _ _ r t ih =>
    intro kvs vs h
    unfold mrgK
    rw [List.foldl_cons, List.foldl_cons, r.1]
    exact ih (h.put r.2)
/-- d.clear() -/
theorem mt_clearD : MtR X "dict.clear" (fun x xs H Q => ∃ a kvs, x = .ref a ∧ xs = [] ∧ H a = some (.dK kvs) ∧ Q .non (upd H a (.dK []))) := by
  intro pins s σ H x xs v us Q I rx rs h
  obtain ⟨a, kvs, rfl, rfl, e, q⟩ := h
  obtain rfl : v = Value.ref a := rx
  cases rs
  obtain ⟨z, hd, vs, rel, dd⟩ := dk_of I.hok e
  obtain ⟨es, ep, hr, hsz, _⟩ := dd.raw
  refine call_meetsIn PySem.F.slot_dict_clear dd.typeIs PySem.F.entry_dict_clear (PySem.F.args_dict_clear_1 _) (meets_dict_clear_raw a) ⟨es, ep, hr, by rw [hsz, ← rel.length]; exact z, fun h' hr' hs => ⟨.non, _, ?_, rfl, q⟩⟩
  have he : ∃ q, h'.get? a = some q := let ⟨q, hq, _⟩ := hr'; ⟨q, hq⟩
  obtain ⟨o, ho, hc, hdat⟩ := hr'
  exact d_write (t' := s.toks) I (by rw [e]; exact True.intro) hs he (dk_new (Nat.zero_le _) hd .nil ⟨o, #[], ep + 1, ho, hc, hdat, (by unfold PySem.KeysOf; simp), .nil, List.nodup_nil⟩)
theorem ok_clearD : MtOk X N .d .clear "clear" "dict.clear" := by
  refine ⟨pa_k _, PySem.F.slot_dict_clear, PySem.F.type_dict_clear, fun ρ st H o x ds us d st' R r rs h => ?_⟩
  obtain ⟨n, a, rfl, h1, h⟩ := dm_of r h
  match ds, h with
  | [], h =>
    cases rs
    simp only [dmF] at h
    split at h
    · rename_i kvs q1
      cases h
      obtain ⟨a', vs, e, _, ha, kv, q3⟩ := dct_of R (.ref h1) q1
      cases e
      exact ⟨_, mt_clearD, fun Q P => ⟨a, vs, rfl, rfl, ha, P.putD R h1 q3 .nil .non (by simp [ha])⟩⟩
    · cases h
  | _ :: _, h => simp [dmF] at h
theorem ok_update : MtOk X N .d .update "update" "dict.update" := by
  refine ⟨pa_k _, PySem.F.slot_dict_update, PySem.F.type_dict_update, fun ρ st H o x ds us d st' R r rs h => ?_⟩
  have hz := sz_line
  obtain ⟨n, a, rfl, h1, h⟩ := dm_of r h
  match ds, h with
  | [], h => simp [dmF] at h
  | [y], h =>
    obtain ⟨v, rfl, ry⟩ := reps1 (ds := []) rs
    cases ry with
    | @ref m b h2 =>
      simp only [dmF] at h
      split at h
      · rename_i kvs ws q1 q2
        split at h
        · rename_i hc
          cases h
          obtain ⟨a', vs, e, _, ha, kv, q3⟩ := dct_of R (.ref h1) q1
          cases e
          obtain ⟨b', us, e', _, hb, kv2, q4⟩ := dct_of R (.ref h2) q2
          cases e'
          have hab : a ≠ b := fun e => by
            subst e
            have hn : n = m := by
              have l1 := (List.getElem?_eq_some_iff.mp h1).1
              exact (List.getElem?_inj l1 R.nd).mp (h1.trans h2.symm)
            exact hc.1 hn
          refine ⟨_, mt_update, fun Q P => ⟨a, b, vs, us, rfl, rfl, hab, ha, hb, ?_, P.putD R h1 q3 (kvs_mrg kv2 kv) .non (by simp [ha])⟩⟩
          rw [← Paired.length kv, ← Paired.length kv2]
          omega
        · cases h
      · cases h
    | _ => simp [dmF] at h
  | _ :: _ :: _, h => simp [dmF] at h
theorem sm_of {m : Bm} {o : D} {ds : List D} {st st' : Sto} {d : D} {x : V} (r : Rep X.K ρ H o x) (h : bmF .s m o ds st = .ok (d, st')) : ∃ a, x = .str (toS a) ∧ smF m a ds st = .ok (d, st') := by
  cases r with
  | str a => exact ⟨a, rfl, by simpa only [bmF] using h⟩
  | _ => simp [bmF] at h
theorem pre1 (s c : Nat) (r : List Nat) : TL.pre [s] (c :: r) = decide (c = s) := by
  unfold TL.pre
  by_cases h : c = s
  · subst h; simp
  · rw [decide_eq_false h]
    simp [h]
theorem par_part (c : Char) : ∀ (x : List Char) (acc : List Nat), TL.par [c.toNat] acc (x.map Char.toNat) = (partF c x).map fun p => (acc ++ p.1.map Char.toNat, p.2.map Char.toNat)
  | [], acc => rfl
  | a :: x, acc => by
    rw [List.map_cons, TL.par, pre1, partF]
    by_cases h : a = c
    · subst h
      simp
    · have h2 : ¬ a.toNat = c.toNat := fun z => h (char_inj z)
      rw [if_neg (by simp [h2]), if_neg h, par_part c x]
      cases partF c x <;> simp
theorem splitF_ne (c : Char) (x : List Char) : splitF c x ≠ [] := by
  cases x with
  | nil => simp [splitF]
  | cons a x =>
    unfold splitF
    split
    · simp
    · split <;> simp
theorem spl_split (c : Char) : ∀ (x : List Char) (acc : List Nat), TL.spl [c.toNat] 0 acc (x.map Char.toNat) = (match splitF c x with | [] => [] | y :: ys => (acc ++ y.map Char.toNat) :: ys.map (·.map Char.toNat))
  | [], acc => by simp [splitF, TL.spl]
  | a :: x, acc => by
    rw [List.map_cons, TL.spl, pre1, splitF]
    by_cases h : a = c
    · subst h
      have ih := spl_split a x []
      simp
      rw [ih]
      cases q : splitF a x with
      | nil => exact absurd q (splitF_ne _ _)
      | cons y ys => simp
    · have h2 : ¬ a.toNat = c.toNat := fun z => h (char_inj z)
      rw [if_neg (by simp [h2]), if_neg h, spl_split c x]
      cases q : splitF c x with
      | nil => exact absurd q (splitF_ne _ _)
      | cons y ys => simp
theorem partition_of (x : List Char) (c : Char) : Txt.partition (toS x) (toS [c]) = (match partF c x with | some p => (toS p.1, toS [c], toS p.2) | none => (toS x, toS [], toS [])) := by
  rw [TL.partition_par _ _ (by simp [toS])]
  have e : TL.par (TL.tl (toS [c])) [] (TL.tl (toS x)) = TL.par [c.toNat] [] (x.map Char.toNat) := by simp [toS]
  rw [e, par_part]
  cases partF c x with
  | none => rfl
  | some p => simp [toS]
theorem split_of (x : List Char) (c : Char) (hc : c.toNat < 256) : Txt.split (toS x) (toS [c]) = (splitF c x).map toS := by
  have h := TL.split_spl (toS x) (toS [c]) (by simp [toS]) (TL.kind_ok (by simp [toS, hc]))
  have e : TL.spl (TL.tl (toS [c])) 0 [] (TL.tl (toS x)) = TL.spl [c.toNat] 0 [] (x.map Char.toNat) := by simp [toS]
  rw [e, spl_split] at h
  refine TL.map_tl_inj (h.trans ?_)
  cases q : splitF c x with
  | nil => rfl
  | cons y ys =>
    simp only [List.nil_append, List.map_cons, List.map_map]
    congr 1
theorem join_of (a : List Char) : ∀ ys : List (List Char), Str.join (toS a) (ys.map toS) = toS (joinF a ys)
  | [] => rfl
  | [x] => rfl
  | x :: y :: r => by
    have ih := join_of a (y :: r)
    rw [List.map_cons] at ih
    rw [List.map_cons, List.map_cons, Str.join, ih, joinF, toS_app, toS_app]
    simp
theorem sign_of {ds : List D} {us : List V} {m : Bm} {a : List Char} {st st' : Sto} {d : D} (hm : m = .partition ∨ m = .split) (rs : Reps X.K ρ H ds us) (h : smF m a ds st = .ok (d, st')) : ∃ c, ds = [.str [c]] ∧ us = [.str (toS [c])] := by
  match ds, h with
  | [], h => rcases hm with rfl | rfl <;> simp [smF] at h
  | _ :: _ :: _, h => rcases hm with rfl | rfl <;> simp [smF] at h
  | [.str [c]], h =>
    obtain ⟨v, rfl, r⟩ := reps1 (ds := []) rs
    cases r
    exact ⟨c, rfl, rfl⟩
  | [.str []], h => rcases hm with rfl | rfl <;> simp [smF] at h
  | [.str (_ :: _ :: _)], h => rcases hm with rfl | rfl <;> simp [smF] at h
  | [.non], h => rcases hm with rfl | rfl <;> simp [smF] at h
  | [.bl _], h => rcases hm with rfl | rfl <;> simp [smF] at h
  | [.int _], h => rcases hm with rfl | rfl <;> simp [smF] at h
  | [.tup _], h => rcases hm with rfl | rfl <;> simp [smF] at h
  | [.kls _], h => rcases hm with rfl | rfl <;> simp [smF] at h
  | [.ref _], h => rcases hm with rfl | rfl <;> simp [smF] at h
theorem ok_partition : MtOk X N .s .partition "partition" "str.partition" := by
  refine ⟨pa_k _, PySem.F.slot_str_partition, PySem.F.type_str_partition, fun ρ st H o x ds us d st' R r rs h => ?_⟩
  have hz := sz_line
  obtain ⟨a, rfl, h⟩ := sm_of r h
  obtain ⟨c, rfl, rfl⟩ := sign_of (.inl rfl) rs h
  simp only [smF] at h
  have hp := partition_of a c
  split at h
  · split at h
    · rename_i p q
      cases h
      rw [q] at hp
      refine ⟨_, mt_partition, fun Q P => ⟨_, _, rfl, rfl, by rw [toS_len]; rfl, by rw [toS_len]; omega, ?_⟩⟩
      rw [hp]
      exact P.tup R (.cons (.str _) (.cons (.str _) (.cons (.str _) .nil)))
    · rename_i q
      cases h
      rw [q] at hp
      refine ⟨_, mt_partition, fun Q P => ⟨_, _, rfl, rfl, by rw [toS_len]; rfl, by rw [toS_len]; omega, ?_⟩⟩
      rw [hp]
      exact P.tup R (.cons (.str _) (.cons (.str _) (.cons (.str _) .nil)))
  · cases h
theorem ok_split : MtOk X N .s .split "split" "str.split" := by
  refine ⟨pa_k _, PySem.F.slot_str_split, PySem.F.type_str_split, fun ρ st H o x ds us d st' R r rs h => ?_⟩
  have hz := sz_line
  obtain ⟨a, rfl, h⟩ := sm_of r h
  obtain ⟨c, rfl, rfl⟩ := sign_of (.inr rfl) rs h
  simp only [smF, newF] at h
  split at h
  · rename_i h0
    cases h
    refine ⟨_, mt_split, fun Q P => ⟨_, _, rfl, rfl, by rw [toS_len]; rfl, by rw [toS_len]; omega, ?_⟩⟩
    rw [split_of a c h0.2]
    exact P.lst R (reps_strs _)
  · cases h
theorem ok_join : MtOk X N .s .join "join" "str.join" := by
  refine ⟨pa_k _, PySem.F.slot_str_join, PySem.F.type_str_join, fun ρ st H o x ds us d st' R r rs h => ?_⟩
  have hz : SZ ≤ 16777216 := by decide
  obtain ⟨a, rfl, h⟩ := sm_of r h
  match ds, h with
  | [], h => simp [smF] at h
  | [y], h =>
    obtain ⟨v, rfl, ry⟩ := reps1 (ds := []) rs
    simp only [smF] at h
    split at h
    · rename_i ys q
      split at h
      · rename_i h0
        cases h
        obtain ⟨xs, q1, q2⟩ := bind_some q
        obtain ⟨p, vs, rfl, rr, hs⟩ := seq_at R ry q1
        rw [strs_of rr q2] at hs
        refine ⟨_, mt_join, fun Q P => ⟨_, p, ys.map toS, rfl, rfl, hs, ?_, ?_⟩⟩
        · have e : ((ys.map toS).map (·.length)) = ys.map (·.length) := by
            rw [List.map_map]
            exact List.map_congr_left fun z _ => toS_len z
          rw [e, List.length_map, toS_len]
          omega
        · rw [TL.join_eq, join_of]
          exact P.here R (.str _)
      · cases h
    · cases h
  | _ :: _ :: _, h => simp [smF] at h
theorem findF_none {c : Char} : ∀ {l : List Char} {k : Nat}, (∀ x ∈ l, x ≠ c) → findF c k l = -1
  | [], _, _ => rfl
  | x :: l, k, h => by
    rw [findF, if_neg (h x List.mem_cons_self)]
    exact findF_none fun y hy => h y (List.mem_cons_of_mem _ hy)
theorem findF_some {c : Char} : ∀ {l : List Char} {k j : Nat}, l[j]? = some c → (∀ m, m < j → l[m]? ≠ some c) → findF c k l = ((k + j : Nat) : Int)
  | [], _, _, h, _ => by simp at h
  | x :: l, k, 0, h, _ => by
    rw [findF, if_pos (by simpa using h)]
    rfl
  | x :: l, k, j + 1, h, hn => by
    have : x ≠ c := fun e => hn 0 (by omega) (by simp [e])
    rw [findF, if_neg this, findF_some (j := j) (by simpa using h) fun m hm => by simpa using hn (m + 1) (by omega)]
    congr 1
    omega
theorem toS_getD (a : List Char) (v : Nat) (h : v < a.length) : (toS a).cps.getD v 0 = (a[v]).toNat := by
  simp [toS, h]
theorem find3_of (a : List Char) (c : Char) (i : Nat) : Txt.find3 (toS a) (toS [c]) (i : Int) = findF c i (a.drop i) := by
  have hf : fromIndex (toS a).length (i : Int) = i := by unfold fromIndex; rw [if_neg (by omega)]; omega
  have hl := toS_len a
  have hs := StrLaws.find3_spec (toS a) c.toNat (i : Int)
  rw [hf, hl] at hs
  rcases hs with ⟨h1, h2⟩ | ⟨k, h1, h2, h3, h4, h5⟩
  · rw [show toS [c] = ⟨#[c.toNat]⟩ from rfl, h1, findF_none]
    intro x hx e
    obtain ⟨j, hj, hjx⟩ := List.getElem_of_mem hx
    rw [List.length_drop] at hj
    rw [List.getElem_drop] at hjx
    refine h2 (i + j) (by omega) (by omega) ?_
    rw [toS_getD a _ (by omega), hjx, e]
  · rw [show toS [c] = ⟨#[c.toNat]⟩ from rfl, h1, findF_some (j := k - i)]
    · congr 1; omega
    · rw [List.getElem?_drop, show i + (k - i) = k from by omega, List.getElem?_eq_getElem h3]
      rw [toS_getD a _ h3] at h4
      rw [char_inj h4]
    · intro m hm hx
      rw [List.getElem?_drop] at hx
      obtain ⟨g1, g2⟩ := List.getElem?_eq_some_iff.mp hx
      refine h5 (i + m) (by omega) (by omega) ?_
      rw [toS_getD a _ g1, g2]
theorem find_shape {a : List Char} {ds : List D} {st : Sto} {q : D × Sto} (h : smF .find a ds st = .ok q) : (∃ c, ds = [.str [c]] ∧ q = (.int (findF c 0 a), st)) ∨ ∃ c i, ds = [.str [c], .int i] ∧ 0 ≤ i ∧ q = (.int (findF c i.toNat (a.drop i.toNat)), st) := by
  unfold smF at h
  split at h <;> try contradiction
  · split at h
    · cases h; exact .inl ⟨_, rfl, rfl⟩
    · cases h
  · split at h
    · rename_i h0; cases h; exact .inr ⟨_, _, rfl, h0.2, rfl⟩
    · cases h
theorem starts_shape {a : List Char} {ds : List D} {st : Sto} {q : D × Sto} (h : smF .startswith a ds st = .ok q) : ∃ c, ds = [.str [c]] ∧ q = (.bl (headIs c a), st) := by
  unfold smF at h
  split at h <;> try contradiction
  cases h
  exact ⟨_, rfl, rfl⟩
theorem ok_find : MtOk X N .s .find "find" "str.find" := by
  refine ⟨pa_k _, PySem.F.slot_str_find, PySem.F.type_str_find, fun ρ st H o x ds us d st' R r rs h => ?_⟩
  obtain ⟨a, rfl, h⟩ := sm_of r h
  rcases find_shape h with ⟨c, rfl, e0⟩ | ⟨c, i, rfl, h0, e0⟩
  · obtain ⟨v, rfl, rv⟩ := reps1 (ds := []) rs
    cases rv
    cases e0
    refine ⟨_, mt_find, fun Q P => ⟨_, _, rfl, rfl, ?_⟩⟩
    have e := find3_of a c 0
    rw [List.drop_zero] at e
    rw [PyProof.Rows.find_is_find3, show (0 : Int) = ((0 : Nat) : Int) from rfl, e]
    exact P.here R (.int _)
  · obtain ⟨v, u, rfl, rv, ru⟩ := reps2 rs
    cases rv
    cases ru
    cases e0
    refine ⟨_, mt_find3, fun Q P => ⟨_, _, _, rfl, rfl, ?_⟩⟩
    have e := find3_of a c i.toNat
    rw [Int.toNat_of_nonneg h0] at e
    rw [e]
    exact P.here R (.int _)
theorem starts_of (a : List Char) (c : Char) : Txt.startswith (toS a) (toS [c]) = headIs c a := by
  have h := StrLaws.subAt_one (toS a) c.toNat 0
  have e : Txt.startswith (toS a) ⟨#[c.toNat]⟩ = true ↔ StrLaws.At (toS a) ⟨#[c.toNat]⟩ (toS a).length 0 := by
    unfold Txt.startswith StrLaws.At
    rw [Bool.and_eq_true, decide_eq_true_eq]
  rw [Bool.eq_iff_iff, show toS [c] = ⟨#[c.toNat]⟩ from rfl, e]
  refine Iff.trans h ?_
  cases a with
  | nil => simp [toS, headIs]
  | cons x r =>
    simp only [headIs, decide_eq_true_eq]
    constructor
    · intro q
      have : some x.toNat = some c.toNat := by simpa [toS] using q
      exact char_inj (Option.some.inj this)
    · rintro rfl
      simp [toS]
theorem ok_starts : MtOk X N .s .startswith "startswith" "str.startswith" := by
  refine ⟨pa_k _, PySem.F.slot_str_startswith, PySem.F.type_str_startswith, fun ρ st H o x ds us d st' R r rs h => ?_⟩
  obtain ⟨a, rfl, h⟩ := sm_of r h
  obtain ⟨c, rfl, e0⟩ := starts_shape h
  obtain ⟨v, rfl, rv⟩ := reps1 (ds := []) rs
  cases rv
  cases e0
  refine ⟨_, mt_startswith, fun Q P => ⟨_, _, rfl, rfl, ?_⟩⟩
  rw [starts_of]
  exact P.here R (.bl _)
end
end MP
namespace MP
open PySem PySem.Spec PyProof.Rows L2
def tR (N : Nm) (K : PySem.W.Frag) (f : Fr → Sto → RD) : TE := fun σ H Q => ∃ (ρ : List Addr) (fr : Fr) (st : Sto) (d : D) (st' : Sto), Rl N K ρ st H ∧ Rf K ρ H fr σ ∧ f fr st = .ok (d, st') ∧ Post N K ρ H d st' Q
def PostL (N : Nm) (K : PySem.W.Frag) (ρ : List Addr) (H : Hp) (ds : List D) (st : Sto) (Q : List V → Hp → Prop) : Prop := ∀ ρ' H' vs, Ext ρ H ρ' H' → Rl N K ρ' st H' → Reps K ρ' H' ds vs → Q vs H'
def tRs (N : Nm) (K : PySem.W.Frag) (f : Fr → Sto → R (List D × Sto)) : TA := fun σ H Q => ∃ (ρ : List Addr) (fr : Fr) (st : Sto) (ds : List D) (st' : Sto), Rl N K ρ st H ∧ Rf K ρ H fr σ ∧ f fr st = .ok (ds, st') ∧ PostL N K ρ H ds st' Q
def PostB (N : Nm) (K : PySem.W.Frag) (ρ : List Addr) (H : Hp) {α : Type} (b : α) (st : Sto) (Q : α → Hp → Prop) : Prop := ∀ ρ' H', Ext ρ H ρ' H' → Rl N K ρ' st H' → Q b H'
def tRb (N : Nm) (K : PySem.W.Frag) {α : Type} (f : Fr → Sto → R (α × Sto)) : L2.St → Hp → (α → Hp → Prop) → Prop := fun σ H Q => ∃ (ρ : List Addr) (fr : Fr) (st : Sto) (b : α) (st' : Sto), Rl N K ρ st H ∧ Rf K ρ H fr σ ∧ f fr st = .ok (b, st') ∧ PostB N K ρ H b st' Q
theorem PE.imp {X : Cx} {e : Expr} {t t' : TE} (h : PE X e t) (i : ∀ σ H Q, t' σ H Q → t σ H Q) : PE X e t' := ⟨fun pins s σ H Q I q => h.run pins s σ H Q I (i σ H Q q)⟩
theorem PT.imp {X : Cx} {e : Expr} {t t' : TT} (h : PT X e t) (i : ∀ σ H Q, t' σ H Q → t σ H Q) : PT X e t' := ⟨fun pins s σ H Q I q => h.run pins s σ H Q I (i σ H Q q)⟩
theorem PA.imp {X : Cx} {e : List Expr} {t t' : TA} (h : PA X e t) (i : ∀ σ H Q, t' σ H Q → t σ H Q) : PA X e t' := ⟨fun pos pins s σ H Q I q => h.run pos pins s σ H Q I (i σ H Q q)⟩
theorem PE.by {X : Cx} {e : Expr} {t' : TE} (h : ∀ σ H Q, t' σ H Q → ∃ t, PE X e t ∧ t σ H Q) : PE X e t' := ⟨fun pins s σ H Q I q => let ⟨_, p, q'⟩ := h σ H Q q; p.run pins s σ H Q I q'⟩
section
variable {X : Cx} {N : Nm} {fa fb fc : Fr → Sto → RD} {a b c : Expr} {σ : L2.St} {H : Hp} {Q : VK}
theorem m_var {i : Nat} {x : Str} {pos : Pos} (hN : X.N[i]? = some x) (hv : Vis X.env.scope x) (hd : (x == ("__debug__" : Str)) = false) (hcd : (x == ("__classdict__" : Str)) = false) :
    PE X (.Name x pos) (tR N X.K fun fr st => match fr[i]? with | some (some d) => .ok (d, st) | _ => .no) := by
  refine PE.imp (pe_var hN hv hd hcd) fun σ H Q ⟨ρ, fr, st, d, st', R, F, e, P⟩ => ?_
  dsimp only at e
  split at e
  · rename_i d' q
    cases e
    obtain ⟨v, h1, h2⟩ := F.at_ _ _ q
    exact ⟨v, h1, P.here R h2⟩
  · cases e
theorem m_const {e : Expr} {d : D} {v : V} (he : PE X e (tC v)) (hr : ∀ ρ H, Rep X.K ρ H d v) : PE X e (tR N X.K fun _ st => .ok (d, st)) := by
  refine PE.imp he fun σ H Q ⟨ρ, fr, st, d', st', R, F, e, P⟩ => ?_
  cases e
  exact P.here R (hr _ _)
theorem read_bin {F : Value → Value → Sem Value} {g : D → D → Sto → RD} (hg : Op2Ok X N F g) (h : tR N X.K (fun fr st => (fa fr st).bind fun p => (fb fr p.2).bind fun q => g p.1 q.1 q.2) σ H Q) :
    tOp (rAny X F) (tR N X.K fa) (tR N X.K fb) σ H Q := by
  obtain ⟨ρ, fr, st, d, st', R, Fr', e, P⟩ := h
  obtain ⟨p, e1, e⟩ := MP.R.bind_eq e
  obtain ⟨q, e2, e⟩ := MP.R.bind_eq e
  refine ⟨ρ, fr, st, p.1, p.2, R, Fr', e1, fun ρ1 H1 x E1 R1 r1 => ?_⟩
  refine ⟨ρ1, fr, p.2, q.1, q.2, R1, Fr'.ext E1, e2, fun ρ2 H2 y E2 R2 r2 => ?_⟩
  obtain ⟨r, ho, hr⟩ := hg ρ2 q.2 H2 p.1 q.1 x y d st' R2 (r1.ext E2) r2 e
  exact ⟨r, ho, hr Q (P.after (E1.trans E2))⟩
theorem m_bin {op : Operator} {g : D → D → Sto → RD} {pos : Pos} (ha : PE X a (tR N X.K fa)) (hb : PE X b (tR N X.K fb)) (hg : Op2Ok X N (binaryOp op) g) :
    PE X (.BinOp a op b pos) (tR N X.K fun fr st => (fa fr st).bind fun p => (fb fr p.2).bind fun q => g p.1 q.1 q.2) :=
  PE.imp (pe_op opR_any ha hb) fun _ _ _ h => read_bin hg h
theorem m_cmp {op : CmpOp} {g : D → D → Sto → RD} {pos : Pos} (ha : PE X a (tR N X.K fa)) (hb : PE X b (tR N X.K fb)) (hg : Op2Ok X N (compareOp op) g) (hm : behindInMarks op b = false) :
    PE X (.Compare a [op] [b] pos) (tR N X.K fun fr st => (fa fr st).bind fun p => (fb fr p.2).bind fun q => g p.1 q.1 q.2) :=
  PE.imp (pe_cmpR opR_any ha hb hm) fun _ _ _ h => read_bin hg h
theorem read_chain {F G : Value → Value → Sem Value} {f g : D → D → Sto → RD} (hf : Op2Ok X N F f) (hg : Op2Ok X N G g)
    (h : tR N X.K (fun fr st => (fa fr st).bind fun p => (fb fr p.2).bind fun q => (f p.1 q.1 q.2).bind fun r => match r.1 with
      | .bl true => (fc fr r.2).bind fun s => g q.1 s.1 s.2
      | .bl false => .ok r
      | _ => .no) σ H Q) :
    tChain (rAny X F) (rAny X G) (tR N X.K fa) (tR N X.K fb) (tR N X.K fc) σ H Q := by
  obtain ⟨ρ, fr, st, d, st', R, Fr', e, P⟩ := h
  obtain ⟨p, e1, e⟩ := MP.R.bind_eq e
  obtain ⟨q, e2, e⟩ := MP.R.bind_eq e
  obtain ⟨r, e3, e⟩ := MP.R.bind_eq e
  refine ⟨ρ, fr, st, p.1, p.2, R, Fr', e1, fun ρ1 H1 x E1 R1 r1 => ?_⟩
  refine ⟨ρ1, fr, p.2, q.1, q.2, R1, Fr'.ext E1, e2, fun ρ2 H2 y E2 R2 r2 => ?_⟩
  obtain ⟨z, ho, hz⟩ := hf ρ2 q.2 H2 p.1 q.1 x y r.1 r.2 R2 (r1.ext E2) r2 e3
  refine ⟨z, ho, hz _ fun ρ3 H3 v E3 R3 r3 => ?_⟩
  split at e
  · rename_i hb
    rw [hb] at r3
    cases r3
    refine ⟨true, rfl, ?_⟩
    rw [if_pos rfl]
    obtain ⟨s, e4, e⟩ := MP.R.bind_eq e
    refine ⟨ρ3, fr, r.2, s.1, s.2, R3, Fr'.ext (E1.trans (E2.trans E3)), e4, fun ρ4 H4 w E4 R4 r4 => ?_⟩
    obtain ⟨z2, ho2, hz2⟩ := hg ρ4 s.2 H4 q.1 s.1 y w d st' R4 (r2.ext (E3.trans E4)) r4 e
    exact ⟨z2, ho2, hz2 Q (P.after (E1.trans (E2.trans (E3.trans E4))))⟩
  · rename_i hb
    cases e
    rw [show d = .bl false from hb] at r3 P
    cases r3
    refine ⟨false, rfl, ?_⟩
    rw [if_neg (by decide)]
    exact (P.after (E1.trans (E2.trans E3))).here R3 (.bl _)
  · cases e
theorem m_chain {op op' : CmpOp} {f g : D → D → Sto → RD} {pos : Pos} (ha : PE X a (tR N X.K fa)) (hb : PE X b (tR N X.K fb)) (hc : PE X c (tR N X.K fc)) (hf : Op2Ok X N (compareOp op) f) (hg : Op2Ok X N (compareOp op') g) (hm : lastMarks [op, op'] [b, c] = false) :
    PE X (.Compare a [op, op'] [b, c] pos) (tR N X.K fun fr st => (fa fr st).bind fun p => (fb fr p.2).bind fun q => (f p.1 q.1 q.2).bind fun r => match r.1 with
      | .bl true => (fc fr r.2).bind fun s => g q.1 s.1 s.2
      | .bl false => .ok r
      | _ => .no) :=
  PE.imp (pe_chain opR_any opR_any ha hb hc hm) fun _ _ _ h => read_chain hf hg h
theorem read_un {g : D → Sto → RD} {r : V → Hp → VK → Prop} (hg : ∀ (ρ : List Addr) (st : Sto) (H : Hp) (dx : D) (x : V) (d : D) (st' : Sto), Rl N X.K ρ st H → Rep X.K ρ H dx x → g dx st = .ok (d, st') → ∀ Q : VK, Post N X.K ρ H d st' Q → r x H Q)
    (h : tR N X.K (fun fr st => (fa fr st).bind fun p => g p.1 p.2) σ H Q) : tUn r (tR N X.K fa) σ H Q := by
  obtain ⟨ρ, fr, st, d, st', R, Fr', e, P⟩ := h
  obtain ⟨p, e1, e⟩ := MP.R.bind_eq e
  exact ⟨ρ, fr, st, p.1, p.2, R, Fr', e1, fun ρ1 H1 x E1 R1 r1 => hg ρ1 p.2 H1 p.1 x d st' R1 r1 e Q (P.after E1)⟩
theorem m_neg {pos : Pos} (ha : PE X a (tR N X.K fa)) : PE X (.UnaryOp .USub a pos) (tR N X.K fun fr st => (fa fr st).bind fun p => match p.1 with
    | .int i => .ok (.int (-i), p.2)
    | _ => .no) := by
  refine PE.imp (pe_un un_neg ha) fun σ H Q h => read_un (g := fun d st => match d with | .int i => .ok (.int (-i), st) | _ => .no) (fun ρ st H dx x d st' R r e Q P => ?_) h
  cases r <;> simp only [reduceCtorEq] at e
  cases e
  exact ⟨_, rfl, P.here R (.int _)⟩
theorem tru_of {ρ : List Addr} {st : Sto} {H : Hp} {d : D} {v : V} {k : Bool} (R : Rl N X.K ρ st H) (r : Rep X.K ρ H d v) (h : truthF st d = some k) : TruV X.K v H k := by
  have hz := sz_line
  cases r with
  | non => simp only [truthF] at h; cases h; rfl
  | bl => simp only [truthF] at h; cases h; rfl
  | int => simp only [truthF] at h; cases h; rfl
  | str x =>
    simp only [truthF] at h
    split at h
    · cases h
      refine ⟨by rw [toS_len]; omega, ?_⟩
      rw [toS_len]
      cases x with
      | nil => rfl
      | cons a x =>
        show (!false) = _
        rw [List.length_cons]
        show true = _
        symm
        rw [bne_iff_ne]
        omega
    · cases h
  | tup h1 h2 =>
    simp only [truthF] at h
    cases h
    exact .inr (.inl ⟨_, h1, by cases h2 <;> rfl⟩)
  | kls h1 h2 =>
    simp only [truthF] at h
    cases h
    exact .inl ⟨_, h1.sq, by cases h2 <;> rfl⟩
  | @ref n a h1 =>
    simp only [truthF] at h
    split at h
    · rename_i q
      cases h
      obtain ⟨vs, e, rs⟩ := R.at_ _ _ _ h1 q
      exact .inl ⟨_, .inl (.inl e), by cases rs <;> rfl⟩
    · rename_i q
      cases h
      obtain ⟨vs, e, rs⟩ := R.at_ _ _ _ h1 q
      exact .inr (.inr ⟨_, e, by cases rs <;> rfl⟩)
    · cases h
theorem m_not {pos : Pos} (ha : PE X a (tR N X.K fa)) : PE X (.UnaryOp .Not a pos) (tR N X.K fun fr st => (fa fr st).bind fun p => match truthF p.2 p.1 with
    | some b => .ok (.bl (!b), p.2)
    | none => .no) := by
  refine PE.imp (pe_notT ha) fun σ H Q h => ?_
  obtain ⟨ρ, fr, st, d, st', R, Fr', e, P⟩ := h
  obtain ⟨p, e1, e⟩ := MP.R.bind_eq e
  refine ⟨ρ, fr, st, p.1, p.2, R, Fr', e1, fun ρ1 H1 x E1 R1 r1 => ?_⟩
  split at e
  · rename_i k q
    cases e
    exact ⟨k, tru_of R1 r1 q, (P.after E1).here R1 (.bl _)⟩
  · cases e
theorem m_and {pos : Pos} {rest : List Expr} (ha : PE X a (tR N X.K fa)) (hb : PE X (.BoolOp .And (b :: rest) pos) (tR N X.K fb)) : PE X (.BoolOp .And (a :: b :: rest) pos) (tR N X.K fun fr st => (fa fr st).bind fun p => match truthF p.2 p.1 with
    | some true => fb fr p.2
    | some false => .ok p
    | none => .no) := by
  refine PE.imp (pe_andT ha hb) fun σ H Q h => ?_
  obtain ⟨ρ, fr, st, d, st', R, Fr', e, P⟩ := h
  obtain ⟨p, e1, e⟩ := MP.R.bind_eq e
  refine ⟨ρ, fr, st, p.1, p.2, R, Fr', e1, fun ρ1 H1 x E1 R1 r1 => ?_⟩
  split at e
  · rename_i q
    refine ⟨true, tru_of R1 r1 q, ?_⟩
    rw [if_pos rfl]
    exact ⟨ρ1, fr, p.2, d, st', R1, Fr'.ext E1, e, P.after E1⟩
  · rename_i q
    cases e
    refine ⟨false, tru_of R1 r1 q, ?_⟩
    rw [if_neg (by decide)]
    exact (P.after E1).here R1 r1
  · cases e
theorem m_or {pos : Pos} {rest : List Expr} (ha : PE X a (tR N X.K fa)) (hb : PE X (.BoolOp .Or (b :: rest) pos) (tR N X.K fb)) : PE X (.BoolOp .Or (a :: b :: rest) pos) (tR N X.K fun fr st => (fa fr st).bind fun p => match truthF p.2 p.1 with
    | some true => .ok p
    | some false => fb fr p.2
    | none => .no) := by
  refine PE.imp (pe_orT ha hb) fun σ H Q h => ?_
  obtain ⟨ρ, fr, st, d, st', R, Fr', e, P⟩ := h
  obtain ⟨p, e1, e⟩ := MP.R.bind_eq e
  refine ⟨ρ, fr, st, p.1, p.2, R, Fr', e1, fun ρ1 H1 x E1 R1 r1 => ?_⟩
  split at e
  · rename_i q
    cases e
    refine ⟨true, tru_of R1 r1 q, ?_⟩
    rw [if_pos rfl]
    exact (P.after E1).here R1 r1
  · rename_i q
    refine ⟨false, tru_of R1 r1 q, ?_⟩
    rw [if_neg (by decide)]
    exact ⟨ρ1, fr, p.2, d, st', R1, Fr'.ext E1, e, P.after E1⟩
  · cases e
theorem read_isN (h : tR N X.K (fun fr st => (fa fr st).bind fun p => .ok (.bl (match p.1 with | .non => true | _ => false), p.2)) σ H Q) :
    tOp (fun x y H Q => y = .non ∧ Q (.bl (decide (x = .non))) H) (tR N X.K fa) (tC .non) σ H Q := by
  obtain ⟨ρ, fr, st, d, st', R, Fr', e, P⟩ := h
  obtain ⟨p, e1, e⟩ := MP.R.bind_eq e
  refine ⟨ρ, fr, st, p.1, p.2, R, Fr', e1, fun ρ1 H1 x E1 R1 r1 => ⟨rfl, ?_⟩⟩
  cases e
  have P1 := (P.after E1).here R1 (.bl _)
  generalize hp : p.1 = d at r1 P1
  cases r1 <;> exact P1
theorem read_notN (h : tR N X.K (fun fr st => (fa fr st).bind fun p => .ok (.bl (match p.1 with | .non => false | _ => true), p.2)) σ H Q) :
    tOp (fun x y H Q => y = .non ∧ Q (.bl (!decide (x = .non))) H) (tR N X.K fa) (tC .non) σ H Q := by
  obtain ⟨ρ, fr, st, d, st', R, Fr', e, P⟩ := h
  obtain ⟨p, e1, e⟩ := MP.R.bind_eq e
  refine ⟨ρ, fr, st, p.1, p.2, R, Fr', e1, fun ρ1 H1 x E1 R1 r1 => ⟨rfl, ?_⟩⟩
  cases e
  have P1 := (P.after E1).here R1 (.bl _)
  generalize hp : p.1 = d at r1 P1
  cases r1 <;> exact P1
theorem m_isN {j : Nat} {pos pos' : Pos} (ha : PE X a (tR N X.K fa)) : PE X (.Compare a [.Is] [.Constant .none j pos'] pos) (tR N X.K fun fr st => (fa fr st).bind fun p => .ok (.bl (match p.1 with | .non => true | _ => false), p.2)) :=
  PE.imp (pe_cmpR op_isN ha pe_non (by rfl)) fun _ _ _ h => read_isN h
theorem m_notN {j : Nat} {pos pos' : Pos} (ha : PE X a (tR N X.K fa)) : PE X (.Compare a [.IsNot] [.Constant .none j pos'] pos) (tR N X.K fun fr st => (fa fr st).bind fun p => .ok (.bl (match p.1 with | .non => false | _ => true), p.2)) :=
  PE.imp (pe_cmpR op_notN ha pe_non (by rfl)) fun _ _ _ h => read_notN h
theorem read_isB {k : Bool} (h : tR N X.K (fun fr st => (fa fr st).bind fun p => match p.1 with | .bl c => .ok (.bl (decide (c = k)), p.2) | _ => .no) σ H Q) :
    tOp (fun x y H Q => ∃ a b, x = .bl a ∧ y = .bl b ∧ Q (.bl (decide (a = b))) H) (tR N X.K fa) (tC (.bl k)) σ H Q := by
  obtain ⟨ρ, fr, st, d, st', R, Fr', e, P⟩ := h
  obtain ⟨p, e1, e⟩ := MP.R.bind_eq e
  refine ⟨ρ, fr, st, p.1, p.2, R, Fr', e1, fun ρ1 H1 x E1 R1 r1 => ?_⟩
  split at e
  · rename_i c hc
    cases e
    rw [hc] at r1
    cases r1
    exact ⟨_, _, rfl, rfl, (P.after E1).here R1 (.bl _)⟩
  · cases e
theorem read_isnB {k : Bool} (h : tR N X.K (fun fr st => (fa fr st).bind fun p => match p.1 with | .bl c => .ok (.bl (!decide (c = k)), p.2) | _ => .no) σ H Q) :
    tOp (fun x y H Q => ∃ a b, x = .bl a ∧ y = .bl b ∧ Q (.bl (!decide (a = b))) H) (tR N X.K fa) (tC (.bl k)) σ H Q := by
  obtain ⟨ρ, fr, st, d, st', R, Fr', e, P⟩ := h
  obtain ⟨p, e1, e⟩ := MP.R.bind_eq e
  refine ⟨ρ, fr, st, p.1, p.2, R, Fr', e1, fun ρ1 H1 x E1 R1 r1 => ?_⟩
  split at e
  · rename_i c hc
    cases e
    rw [hc] at r1
    cases r1
    exact ⟨_, _, rfl, rfl, (P.after E1).here R1 (.bl _)⟩
  · cases e
theorem m_isB {j : Nat} {k : Bool} {pos pos' : Pos} (ha : PE X a (tR N X.K fa)) : PE X (.Compare a [.Is] [.Constant (.bool k) j pos'] pos) (tR N X.K fun fr st => (fa fr st).bind fun p => match p.1 with | .bl c => .ok (.bl (decide (c = k)), p.2) | _ => .no) :=
  PE.imp (pe_cmpR op_is_bl ha pe_bl (by rfl)) fun _ _ _ h => read_isB h
theorem m_isnB {j : Nat} {k : Bool} {pos pos' : Pos} (ha : PE X a (tR N X.K fa)) : PE X (.Compare a [.IsNot] [.Constant (.bool k) j pos'] pos) (tR N X.K fun fr st => (fa fr st).bind fun p => match p.1 with | .bl c => .ok (.bl (!decide (c = k)), p.2) | _ => .no) :=
  PE.imp (pe_cmpR op_isnot_bl ha pe_bl (by rfl)) fun _ _ _ h => read_isnB h
def tst (f : Fr → Sto → RD) : Fr → Sto → R (Bool × Sto) := fun fr st => testF (f fr st)
/-- a test, from the expression's own reading -/
theorem m_truth (ha : PE X a (tR N X.K fa)) (he : ∀ whole, isTrue a X.env whole = (do let v ← whole; standAt a.pos; holding [v] (truthy v))) : PT X a (tRb N X.K (tst fa)) := by
  refine PT.imp (pt_truth ha he) fun σ H Q ⟨ρ, fr, st, b, st', R, F, e, P⟩ => ?_
  obtain ⟨p, e1, e⟩ := MP.R.bind_eq e
  obtain ⟨k, e2, e⟩ := MP.R.bind_eq e
  cases e
  exact ⟨ρ, fr, st, p.1, p.2, R, F, e1, fun ρ1 H1 x E1 R1 r1 => ⟨b, tru_of R1 r1 (MP.R.of_eq e2), P _ _ E1 R1⟩⟩
/-- a reading that gives a truth, as a test -/
theorem read_test {t : TE} (h : ∀ Q, tR N X.K fa σ H Q → t σ H Q) (hb : ∀ fr st d st', fa fr st = .ok (d, st') → ∃ k, d = .bl k) {Q : Bool → Hp → Prop} (q : tRb N X.K (tst fa) σ H Q) : tTest t σ H Q := by
  obtain ⟨ρ, fr, st, b, st', R, F, e, P⟩ := q
  obtain ⟨p, e1, e⟩ := MP.R.bind_eq e
  obtain ⟨k, e2, e⟩ := MP.R.bind_eq e
  cases e
  obtain ⟨k', e3⟩ := hb _ _ _ _ e1
  have e4 : b = k' := by
    have := MP.R.of_eq e2
    rw [e3] at this
    exact (Option.some.inj this).symm
  subst e4
  refine h _ ⟨ρ, fr, st, _, _, R, F, e1, fun ρ1 H1 x E1 R1 r1 => ?_⟩
  rw [show (p.1, p.2).1 = .bl b from e3] at r1
  cases r1
  exact ⟨b, rfl, P _ _ E1 R1⟩
theorem op_bl {o : Op} (ho : o = .eq ∨ o = .ne ∨ o = .lt ∨ o = .le ∨ o = .gt ∨ o = .ge ∨ o = .mem ∨ o = .nmem ∨ o = .eqt ∨ o = .net) {x y : D} {st st' : Sto} {d : D} (h : opF o x y st = .ok (d, st')) : ∃ k, d = .bl k := by
  rcases ho with rfl | rfl | rfl | rfl | rfl | rfl | rfl | rfl | rfl | rfl <;> simp only [opF] at h
  · obtain ⟨k, _, h⟩ := MP.R.bind_eq h; cases h; exact ⟨_, rfl⟩
  · obtain ⟨k, _, h⟩ := MP.R.bind_eq h; cases h; exact ⟨_, rfl⟩
  · split at h <;> cases h <;> exact ⟨_, rfl⟩
  · split at h <;> cases h <;> exact ⟨_, rfl⟩
  · split at h <;> cases h <;> exact ⟨_, rfl⟩
  · split at h <;> cases h <;> exact ⟨_, rfl⟩
  · obtain ⟨k, _, h⟩ := MP.R.bind_eq h; cases h; exact ⟨_, rfl⟩
  · obtain ⟨k, _, h⟩ := MP.R.bind_eq h; cases h; exact ⟨_, rfl⟩
  · obtain ⟨k, _, h⟩ := MP.R.bind_eq h; cases h; exact ⟨_, rfl⟩
  · obtain ⟨k, _, h⟩ := MP.R.bind_eq h; cases h; exact ⟨_, rfl⟩
theorem mt_cmp {op : CmpOp} {o : Op} {pos : Pos} (ho : o = .eq ∨ o = .ne ∨ o = .lt ∨ o = .le ∨ o = .gt ∨ o = .ge ∨ o = .mem ∨ o = .nmem ∨ o = .eqt ∨ o = .net) (ha : PE X a (tR N X.K fa)) (hb : PE X b (tR N X.K fb)) (hg : Op2Ok X N (compareOp op) (opF o)) (hm : behindInMarks op b = false) :
    PT X (.Compare a [op] [b] pos) (tRb N X.K (tst fun fr st => (fa fr st).bind fun p => (fb fr p.2).bind fun q => opF o p.1 q.1 q.2)) :=
  PT.imp (pt_cmpR opR_any ha hb hm) fun _ _ _ h => read_test (fun _ h => read_bin hg h) (fun fr st d st' e => by
    obtain ⟨p, _, e⟩ := MP.R.bind_eq e
    obtain ⟨q, _, e⟩ := MP.R.bind_eq e
    exact op_bl ho e) h
theorem mt_chain {op op' : CmpOp} {o o' : Op} {pos : Pos} (ho : o' = .eq ∨ o' = .ne ∨ o' = .lt ∨ o' = .le ∨ o' = .gt ∨ o' = .ge ∨ o' = .mem ∨ o' = .nmem ∨ o' = .eqt ∨ o' = .net) (ha : PE X a (tR N X.K fa)) (hb : PE X b (tR N X.K fb)) (hc : PE X c (tR N X.K fc)) (hf : Op2Ok X N (compareOp op) (opF o)) (hg : Op2Ok X N (compareOp op') (opF o')) (hm : lastMarks [op, op'] [b, c] = false) :
    PT X (.Compare a [op, op'] [b, c] pos) (tRb N X.K (tst fun fr st => (fa fr st).bind fun p => (fb fr p.2).bind fun q => (opF o p.1 q.1 q.2).bind fun r => match r.1 with
      | .bl true => (fc fr r.2).bind fun s => opF o' q.1 s.1 s.2
      | .bl false => .ok r
      | _ => .no)) :=
  PT.imp (pt_chain opR_any opR_any ha hb hc hm) fun _ _ _ h => read_test (fun _ h => read_chain hf hg h) (fun fr st d st' e => by
    obtain ⟨p, _, e⟩ := MP.R.bind_eq e
    obtain ⟨q, _, e⟩ := MP.R.bind_eq e
    obtain ⟨r, _, e⟩ := MP.R.bind_eq e
    split at e
    · obtain ⟨s, _, e⟩ := MP.R.bind_eq e
      exact op_bl ho e
    · rename_i hb
      cases e
      exact ⟨_, hb⟩
    · cases e) h
theorem mt_isN {j : Nat} {pos pos' : Pos} (ha : PE X a (tR N X.K fa)) : PT X (.Compare a [.Is] [.Constant .none j pos'] pos) (tRb N X.K (tst fun fr st => (fa fr st).bind fun p => .ok (.bl (match p.1 with | .non => true | _ => false), p.2))) :=
  PT.imp (pt_cmpR op_isN ha pe_non (by rfl)) fun _ _ _ h => read_test (fun _ h => read_isN h) (fun fr st d st' e => by
    obtain ⟨p, _, e⟩ := MP.R.bind_eq e
    cases e
    exact ⟨_, rfl⟩) h
theorem mt_notN {j : Nat} {pos pos' : Pos} (ha : PE X a (tR N X.K fa)) : PT X (.Compare a [.IsNot] [.Constant .none j pos'] pos) (tRb N X.K (tst fun fr st => (fa fr st).bind fun p => .ok (.bl (match p.1 with | .non => false | _ => true), p.2))) :=
  PT.imp (pt_cmpR op_notN ha pe_non (by rfl)) fun _ _ _ h => read_test (fun _ h => read_notN h) (fun fr st d st' e => by
    obtain ⟨p, _, e⟩ := MP.R.bind_eq e
    cases e
    exact ⟨_, rfl⟩) h
theorem mt_isB {j : Nat} {k : Bool} {pos pos' : Pos} (ha : PE X a (tR N X.K fa)) : PT X (.Compare a [.Is] [.Constant (.bool k) j pos'] pos) (tRb N X.K (tst fun fr st => (fa fr st).bind fun p => match p.1 with | .bl c => .ok (.bl (decide (c = k)), p.2) | _ => .no)) :=
  PT.imp (pt_cmpR op_is_bl ha pe_bl (by rfl)) fun _ _ _ h => read_test (fun _ h => read_isB h) (fun fr st d st' e => by
    obtain ⟨p, _, e⟩ := MP.R.bind_eq e
    split at e
    · cases e; exact ⟨_, rfl⟩
    · cases e) h
theorem mt_isnB {j : Nat} {k : Bool} {pos pos' : Pos} (ha : PE X a (tR N X.K fa)) : PT X (.Compare a [.IsNot] [.Constant (.bool k) j pos'] pos) (tRb N X.K (tst fun fr st => (fa fr st).bind fun p => match p.1 with | .bl c => .ok (.bl (!decide (c = k)), p.2) | _ => .no)) :=
  PT.imp (pt_cmpR op_isnot_bl ha pe_bl (by rfl)) fun _ _ _ h => read_test (fun _ h => read_isnB h) (fun fr st d st' e => by
    obtain ⟨p, _, e⟩ := MP.R.bind_eq e
    split at e
    · cases e; exact ⟨_, rfl⟩
    · cases e) h
theorem mt_not {pos : Pos} (ha : PT X a (tRb N X.K (tst fa))) : PT X (.UnaryOp .Not a pos) (tRb N X.K (tst fun fr st => (fa fr st).bind fun p => match truthF p.2 p.1 with
    | some b => .ok (.bl (!b), p.2)
    | none => .no)) := by
  refine PT.imp (pt_not ha) fun σ H Q ⟨ρ, fr, st, b, st', R, F, e, P⟩ => ?_
  obtain ⟨p, e1, e⟩ := MP.R.bind_eq e
  obtain ⟨q, e2, e1⟩ := MP.R.bind_eq e1
  split at e1
  · rename_i k hk
    cases e1
    simp only [truthF, MP.R.of_some, MP.R.bind_ok] at e
    cases e
    refine ⟨ρ, fr, st, k, q.2, R, F, ?_, fun ρ1 H1 E1 R1 => P _ _ E1 R1⟩
    simp only [tst, testF, e2, MP.R.bind_ok, hk, MP.R.of_some]
  · cases e1
theorem mw_and {pos : Pos} {rest : List Expr} (ha : PT X a (tRb N X.K (tst fa))) (hb : PW X (.BoolOp .And (b :: rest) pos) (tRb N X.K (tst fb))) : PW X (.BoolOp .And (a :: b :: rest) pos) (tRb N X.K (tst fun fr st => (fa fr st).bind fun p => match truthF p.2 p.1 with
    | some true => fb fr p.2
    | some false => .ok p
    | none => .no)) := by
  refine ⟨fun whole pins s σ H Q I h => (pw_and ha hb).run whole pins s σ H Q I ?_⟩
  obtain ⟨ρ, fr, st, b, st', R, F, e, P⟩ := h
  obtain ⟨p, e1, e⟩ := MP.R.bind_eq e
  obtain ⟨q, e2, e1⟩ := MP.R.bind_eq e1
  split at e1
  · rename_i hk
    refine ⟨ρ, fr, st, true, q.2, R, F, by simp only [tst, testF, e2, MP.R.bind_ok, hk, MP.R.of_some], fun ρ1 H1 E1 R1 => ?_⟩
    refine iteT ?_
    refine ⟨ρ1, fr, q.2, b, st', R1, F.ext E1, ?_, fun ρ2 H2 E2 R2 => P _ _ (E1.trans E2) R2⟩
    simp only [tst, testF, e1, MP.R.bind_ok]
    exact e
  · rename_i hk
    cases e1
    simp only [hk, MP.R.of_some, MP.R.bind_ok] at e
    cases e
    refine ⟨ρ, fr, st, false, p.2, R, F, by simp only [tst, testF, e2, MP.R.bind_ok, hk, MP.R.of_some], fun ρ1 H1 E1 R1 => ?_⟩
    refine iteF ?_
    exact P _ _ E1 R1
  · cases e1
theorem mw_or {pos : Pos} {rest : List Expr} (ha : PT X a (tRb N X.K (tst fa))) (hb : PW X (.BoolOp .Or (b :: rest) pos) (tRb N X.K (tst fb))) : PW X (.BoolOp .Or (a :: b :: rest) pos) (tRb N X.K (tst fun fr st => (fa fr st).bind fun p => match truthF p.2 p.1 with
    | some true => .ok p
    | some false => fb fr p.2
    | none => .no)) := by
  refine ⟨fun whole pins s σ H Q I h => (pw_or ha hb).run whole pins s σ H Q I ?_⟩
  obtain ⟨ρ, fr, st, b, st', R, F, e, P⟩ := h
  obtain ⟨p, e1, e⟩ := MP.R.bind_eq e
  obtain ⟨q, e2, e1⟩ := MP.R.bind_eq e1
  split at e1
  · rename_i hk
    cases e1
    simp only [hk, MP.R.of_some, MP.R.bind_ok] at e
    cases e
    refine ⟨ρ, fr, st, true, p.2, R, F, by simp only [tst, testF, e2, MP.R.bind_ok, hk, MP.R.of_some], fun ρ1 H1 E1 R1 => ?_⟩
    refine iteT ?_
    exact P _ _ E1 R1
  · rename_i hk
    refine ⟨ρ, fr, st, false, q.2, R, F, by simp only [tst, testF, e2, MP.R.bind_ok, hk, MP.R.of_some], fun ρ1 H1 E1 R1 => ?_⟩
    refine iteF ?_
    refine ⟨ρ1, fr, q.2, b, st', R1, F.ext E1, ?_, fun ρ2 H2 E2 R2 => P _ _ (E1.trans E2) R2⟩
    simp only [tst, testF, e1, MP.R.bind_ok]
    exact e
  · cases e1
theorem mw_one {op : BoolOp} {pos : Pos} (ha : PT X a (tRb N X.K (tst fa))) : PW X (.BoolOp op [a] pos) (tRb N X.K (tst fa)) := by
  cases op
  · exact pw_and1 ha
  · exact pw_or1 ha
theorem m_ife {c : Expr} {pos : Pos} (hc : PT X c (tRb N X.K (tst fc))) (ha : PE X a (tR N X.K fa)) (hb : PE X b (tR N X.K fb)) : PE X (.IfExp c a b pos) (tR N X.K fun fr st => (fc fr st).bind fun p => match truthF p.2 p.1 with
    | some true => fa fr p.2
    | some false => fb fr p.2
    | none => .no) := by
  refine PE.imp (pe_ifExp hc ha hb) fun σ H Q ⟨ρ, fr, st, d, st', R, F, e, P⟩ => ?_
  obtain ⟨p, e1, e⟩ := MP.R.bind_eq e
  split at e
  · rename_i hk
    refine ⟨ρ, fr, st, true, p.2, R, F, by simp only [tst, testF, e1, MP.R.bind_ok, hk, MP.R.of_some], fun ρ1 H1 E1 R1 => ?_⟩
    refine iteT ?_
    exact ⟨ρ1, fr, p.2, d, st', R1, F.ext E1, e, P.after E1⟩
  · rename_i hk
    refine ⟨ρ, fr, st, false, p.2, R, F, by simp only [tst, testF, e1, MP.R.bind_ok, hk, MP.R.of_some], fun ρ1 H1 E1 R1 => ?_⟩
    refine iteF ?_
    exact ⟨ρ1, fr, p.2, d, st', R1, F.ext E1, e, P.after E1⟩
  · cases e
variable {fs : Fr → Sto → R (List D × Sto)} {es : List Expr}
theorem m_nil : PA X [] (tRs N X.K fun _ st => .ok ([], st)) :=
  PA.imp pa_nil fun σ H Q ⟨ρ, fr, st, ds, st', R, F, e, P⟩ => by
    cases e
    exact P _ _ _ Ext.refl R .nil
theorem m_cons (ha : PE X a (tR N X.K fa)) (hs : PA X es (tRs N X.K fs)) (hst : starEach (a :: es) X.env = (false, eval a X.env) :: starEach es X.env) : PA X (a :: es) (tRs N X.K fun fr st => (fa fr st).bind fun p => (fs fr p.2).bind fun q => .ok (p.1 :: q.1, q.2)) :=
  PA.imp (pa_cons ha hs hst) fun σ H Q ⟨ρ, fr, st, ds, st', R, F, e, P⟩ => by
    obtain ⟨p, e1, e⟩ := MP.R.bind_eq e
    obtain ⟨q, e2, e⟩ := MP.R.bind_eq e
    cases e
    refine ⟨ρ, fr, st, p.1, p.2, R, F, e1, fun ρ1 H1 x E1 R1 r1 => ?_⟩
    refine ⟨ρ1, fr, p.2, q.1, q.2, R1, F.ext E1, e2, fun ρ2 H2 xs E2 R2 r2 => ?_⟩
    exact P _ _ _ (E1.trans E2) R2 (.cons (r1.ext E2) r2)
theorem m_tup {k : Nat} {pos : Pos} (h : PA X es (tRs N X.K fs)) : PE X (.Tuple es k pos) (tR N X.K fun fr st => (fs fr st).bind fun p => if p.1.length ≤ SZ then .ok (.tup p.1, p.2) else .no) := by
  refine PE.imp (pe_tup h) fun σ H Q ⟨ρ, fr, st, d, st', R, F, e, P⟩ => ?_
  obtain ⟨p, e1, e⟩ := MP.R.bind_eq e
  split at e
  · rename_i hl
    cases e
    have hz := sz_line
    refine ⟨ρ, fr, st, p.1, p.2, R, F, e1, fun ρ1 H1 xs E1 R1 r1 => ⟨by rw [← r1.len]; omega, (P.after E1).tup R1 r1⟩⟩
  · cases e
theorem m_lst {pos : Pos} (h : PA X es (tRs N X.K fs)) : PE X (.List es pos) (tR N X.K fun fr st => (fs fr st).bind fun p => if p.1.length ≤ SZ then newF p.2 (.lst p.1) else .no) := by
  refine PE.imp (pe_lst h) fun σ H Q ⟨ρ, fr, st, d, st', R, F, e, P⟩ => ?_
  obtain ⟨p, e1, e⟩ := MP.R.bind_eq e
  split at e
  · rename_i hl
    cases e
    have hz := sz_line
    refine ⟨ρ, fr, st, p.1, p.2, R, F, e1, fun ρ1 H1 xs E1 R1 r1 => ⟨by rw [← r1.len]; omega, (P.after E1).lst R1 r1⟩⟩
  · cases e
end
end MP
namespace MP
open PySem PySem.Spec PyProof.Rows L2
section
variable {X : Cx} {N : Nm} {fa fb fc : Fr → Sto → RD} {a b c : Expr} {fs : Fr → Sto → R (List D × Sto)} {es : List Expr}
def rAnyIx (X : Cx) : R2 := fun x y H Q => ∃ r : R2, IxR X r ∧ r x y H Q
theorem ixR_any : IxR X (rAnyIx X) := fun value slice pins s σ H x y v u Q I rx ry ⟨_, h, q⟩ hs => h value slice pins s σ H x y v u Q I rx ry q hs
theorem m_ix {k : Nat} {pos : Pos} (hr : Room k X.A) (ha : PE X a (tR N X.K fa)) (hb : PE X b (tR N X.K fb)) (hs : PlainIx b) :
    PE X (.Subscript a b pos) (tR N X.K fun fr st => (fa fr st).bind fun p => (fb fr p.2).bind fun q => (R.of (ixF q.2 p.1 q.1)).bind fun d => .ok (d, q.2)) := by
  refine PE.imp (pe_ix ixR_any ha hb hs) fun σ H Q ⟨ρ, fr, st, d, st', R, F, e, P⟩ => ?_
  obtain ⟨p, e1, e⟩ := MP.R.bind_eq e
  obtain ⟨q, e2, e⟩ := MP.R.bind_eq e
  obtain ⟨y, e3, e⟩ := MP.R.bind_eq e
  cases e
  refine ⟨ρ, fr, st, p.1, p.2, R, F, e1, fun ρ1 H1 x E1 R1 r1 => ?_⟩
  refine ⟨ρ1, fr, p.2, q.1, q.2, R1, F.ext E1, e2, fun ρ2 H2 y E2 R2 r2 => ?_⟩
  obtain ⟨z, ho, hz⟩ := ok_ix hr ρ2 q.2 H2 p.1 q.1 x y d R2 (r1.ext E2) r2 (MP.R.of_eq e3)
  exact ⟨z, ho, hz Q (P.after (E1.trans E2))⟩
def rAnySl (X : Cx) : V → Option Int → Option Int → Hp → VK → Prop := fun x lo hi H Q => ∃ r, SlR X r ∧ r x lo hi H Q
theorem slR_any : SlR X (rAnySl X) := fun pins s σ H x v vl vu lo hi sl Q I rx hs pl pu ⟨_, h, q⟩ => h pins s σ H x v vl vu lo hi sl Q I rx hs pl pu q
theorem m_part {o : Option Expr} {fo : Fr → Sto → R (Option Int × Sto)} (h : (o = none ∧ fo = fun _ st => .ok (none, st)) ∨ (∃ e f, o = some e ∧ PE X e (tR N X.K f) ∧ fo = fun fr st => (f fr st).bind fun p => match p.1 with | .int i => .ok (some i, p.2) | _ => .no)) :
    PO X o (tRb N X.K fo) := by
  rcases h with ⟨rfl, rfl⟩ | ⟨e, f, rfl, he, rfl⟩
  · exact ⟨fun pins s σ H Q I ⟨ρ, fr, st, b, st', R, F, e, P⟩ => po_none.run pins s σ H Q I (by cases e; exact P _ _ Ext.refl R)⟩
  · refine ⟨fun pins s σ H Q I ⟨ρ, fr, st, b, st', R, F, e, P⟩ => (po_some he).run pins s σ H Q I ?_⟩
    obtain ⟨p, e1, e⟩ := MP.R.bind_eq e
    refine ⟨ρ, fr, st, p.1, p.2, R, F, e1, fun ρ1 H1 x E1 R1 r1 => ?_⟩
    split at e
    · rename_i i hi
      cases e
      rw [hi] at r1
      cases r1
      exact ⟨i, rfl, P _ _ E1 R1⟩
    · cases e
theorem m_sl {lo hi : Option Expr} {fl fh : Fr → Sto → R (Option Int × Sto)} {pos p2 : Pos} (ha : PE X a (tR N X.K fa)) (hl : PO X lo (tRb N X.K fl)) (hh : PO X hi (tRb N X.K fh)) :
    PE X (.Subscript a (.Slice lo hi none p2) pos) (tR N X.K fun fr st => (fa fr st).bind fun p => (fl fr p.2).bind fun q => (fh fr q.2).bind fun r => slF r.2 p.1 q.1 r.1) := by
  refine PE.imp (pe_slice slR_any ha hl hh) fun σ H Q ⟨ρ, fr, st, d, st', R, F, e, P⟩ => ?_
  obtain ⟨p, e1, e⟩ := MP.R.bind_eq e
  obtain ⟨q, e2, e⟩ := MP.R.bind_eq e
  obtain ⟨r, e3, e⟩ := MP.R.bind_eq e
  refine ⟨ρ, fr, st, p.1, p.2, R, F, e1, fun ρ1 H1 x E1 R1 r1 => ?_⟩
  refine ⟨ρ1, fr, p.2, q.1, q.2, R1, F.ext E1, e2, fun ρ2 H2 E2 R2 => ?_⟩
  refine ⟨ρ2, fr, q.2, r.1, r.2, R2, F.ext (E1.trans E2), e3, fun ρ3 H3 E3 R3 => ?_⟩
  obtain ⟨z, ho, hz⟩ := ok_sl ρ3 r.2 H3 p.1 x q.1 r.1 d st' R3 (r1.ext (E2.trans E3)) e
  exact ⟨z, ho, hz Q (P.after (E1.trans (E2.trans E3)))⟩
def rAnyC (X : Cx) (f : Value) : List V → Hp → VK → Prop := fun vs H Q => ∃ r, CallR X f r ∧ r vs H Q
theorem callR_any {f : Value} : CallR X f (rAnyC X f) := fun pins s σ H xs us Q I r ⟨_, h, q⟩ => h pins s σ H xs us Q I r q
theorem read_call {f : Value} {g : List D → Sto → RD} (hg : CallOk X N f g) {σ : L2.St} {H : Hp} {Q : VK} (h : tR N X.K (fun fr st => (fs fr st).bind fun p => g p.1 p.2) σ H Q) : tCB (rAnyC X f) (tRs N X.K fs) σ H Q := by
  obtain ⟨ρ, fr, st, d, st', R, F, e, P⟩ := h
  obtain ⟨p, e1, e⟩ := MP.R.bind_eq e
  refine ⟨ρ, fr, st, p.1, p.2, R, F, e1, fun ρ1 H1 vs E1 R1 r1 => ?_⟩
  obtain ⟨r, ho, hr⟩ := hg ρ1 p.2 H1 p.1 vs d st' R1 r1 e
  exact ⟨r, ho, hr Q (P.after E1)⟩
theorem m_callB {id : String} {g : List D → Sto → RD} {x : Str} {p pos : Pos} {e : Expr} (hg : CallOk X N (.builtin id) g) (hgl : Gl X x) (hm : X.mg x = none) (hv : bootBuiltins x = some (.builtin id)) (ha : PA X (e :: es) (tRs N X.K fs)) (hn : x ≠ "__name__") (hdb : (x == ("__debug__" : Str)) = false)
    (he : starEach (e :: es) X.env = (false, eval e X.env) :: starEach es X.env) (hpl : (backTo pos (starEach es X.env)).any (·.1) = false) : PE X (.Call (.Name x p) (e :: es) [] pos) (tR N X.K fun fr st => (fs fr st).bind fun p => g p.1 p.2) :=
  PE.imp (pe_callB callR_any hgl hm hv ha hn hdb he hpl) fun _ _ _ h => read_call hg h
theorem m_callTy {id : String} {g : List D → Sto → RD} {x : Str} {p pos : Pos} {e : Expr} (hg : CallOk X N (.type id) g) (hgl : Gl X x) (hm : X.mg x = none) (hv : bootBuiltins x = some (.type id)) (ha : PA X (e :: es) (tRs N X.K fs)) (hn : x ≠ "__name__") (hdb : (x == ("__debug__" : Str)) = false)
    (he : starEach (e :: es) X.env = (false, eval e X.env) :: starEach es X.env) (hpl : (backTo pos (starEach es X.env)).any (·.1) = false) : PE X (.Call (.Name x p) (e :: es) [] pos) (tR N X.K fun fr st => (fs fr st).bind fun p => g p.1 p.2) :=
  PE.imp (pe_callTy callR_any hgl hm hv ha hn hdb he hpl) fun _ _ _ h => read_call hg h
theorem m_isi {P0 : Prog} {t : Ty} {T : String} {x y : Str} {p p' pos : Pos} (hT : tyS t = some T) (hx : x = "isinstance") (hgx : Gl X x) (hmx : X.mg x = none) (hy : bootBuiltins y = some (.type T)) (hgy : Gl X y) (hmy : X.mg y = none) (hny : y ≠ "__name__") (hdy : (y == ("__debug__" : Str)) = false)
    (ha : PE X a (tR N X.K fa)) (he : starEach [a, .Name y p'] X.env = (false, eval a X.env) :: starEach [.Name y p'] X.env) :
    PE X (.Call (.Name x p) [a, .Name y p'] [] pos) (tR N X.K fun fr st => (fa fr st).bind fun p => (R.of (isiF P0 p.2 p.1 t)).bind fun b => .ok (.bl b, p.2)) := by
  subst hx
  refine PE.imp (pe_callB call_isi hgx hmx (by decide +kernel) (pa_cons ha (pa_cons (pe_bltn hgy hmy hy (show RelV (.ty T) _ from rfl) hny hdy) pa_nil) he) (by decide) (by decide) he (by rfl)) fun σ H Q ⟨ρ, fr, st, d, st', R, F, e, P⟩ => ?_
  obtain ⟨q, e1, e⟩ := MP.R.bind_eq e
  obtain ⟨k, e2, e⟩ := MP.R.bind_eq e
  cases e
  refine ⟨ρ, fr, st, q.1, q.2, R, F, e1, fun ρ1 H1 v E1 R1 r1 => ?_⟩
  exact ok_isi R1 r1 hT (MP.R.of_eq e2) Q ((P.after E1).here R1 (.bl _))
theorem read_bm0 {name : Str} {m : Bm} {ids : Kd → String} {apos cpos : Pos} (hm : ∀ k, (∃ d o st, kindF st o = some k ∧ bmF k m o [] st = .ok d) → MtOk X N k m name (ids k)) (ho : PE X a (tR N X.K fa))
    (hbase : attributeBase a name X.env (eval a X.env) = eval a X.env) (hline : (apos.endLine == cpos.line) = true) :
    PE X (.Call (.Attribute a name apos) [] [] cpos) (tR N X.K fun fr st => (fa fr st).bind fun p => match kindF p.2 p.1 with
      | some k => bmF k m p.1 [] p.2
      | none => .no) := by
  refine ⟨fun pins s σ H Q I ⟨ρ, fr, st, d, st', R, F, e, P⟩ => ?_⟩
  obtain ⟨p, e1, e⟩ := MP.R.bind_eq e
  split at e
  · rename_i k hk
    have M := hm k ⟨_, _, _, hk, e⟩
    refine wpAny_Call_method0_late hbase hline (thn (ho.run pins s σ H (fun x H1 => ∃ ρ1, Ext ρ H ρ1 H1 ∧ Rl N X.K ρ1 p.2 H1 ∧ Rep X.K ρ1 H1 p.1 x) I ⟨ρ, fr, st, p.1, p.2, R, F, e1, fun ρ1 H1 x E1 R1 r1 => ⟨ρ1, E1, R1, r1⟩⟩) fun v s1 ⟨x, H1, I1, r1, ρ1, E1, R1, q1⟩ => ?_)
    obtain ⟨h1, h2⟩ := kind_is R1 q1 hk I1 r1
    refine ⟨_, ids k, M.pa, M.slot, M.ty, h1, h2, ?_⟩
    obtain ⟨r, hr, hq⟩ := M.go ρ1 p.2 H1 p.1 x [] [] d st' R1 q1 .nil e
    exact Calls.callWith_builtin rfl (PySem.evalArgs_none (hr pins s1 σ H1 x [] v [] Q I1 r1 .nil (hq Q (P.after E1))))
  · cases e
theorem read_bm {name : Str} {m : Bm} {ids : Kd → String} {apos cpos : Pos} {e0 : Expr} (hm : ∀ k, (∃ d o ds st, bmF k m o ds st = .ok d) → MtOk X N k m name (ids k)) (ho : PE X a (tR N X.K fa)) (ha : PA X (e0 :: es) (tRs N X.K fs))
    (hbase : attributeBase a name X.env (eval a X.env) = eval a X.env)
    (hfew : ((backTo cpos (starEach (e0 :: es) X.env)).all (fun x => !x.1) && (backToKw cpos (keywordEach [] X.env)).all (fun x => x.1.isSome)
      && decide ((e0 :: es).length + ([] : List Keyword).length + (if ([] : List Keyword).isEmpty then 0 else 1) < 30)) = true)
    (hline : (apos.endLine == cpos.line) = true) (hs : starEach (e0 :: es) X.env = (false, eval e0 X.env) :: starEach es X.env) (hplain : (backTo cpos (starEach es X.env)).any (·.1) = false) :
    PE X (.Call (.Attribute a name apos) (e0 :: es) [] cpos) (tR N X.K fun fr st => (fa fr st).bind fun p => match kindF p.2 p.1 with
      | some k => (fs fr p.2).bind fun q => bmF k m p.1 q.1 q.2
      | none => .no) := by
  refine ⟨fun pins s σ H Q I ⟨ρ, fr, st, d, st', R, F, e, P⟩ => ?_⟩
  obtain ⟨p, e1, e⟩ := MP.R.bind_eq e
  split at e
  · rename_i k hk
    obtain ⟨q, e2, e⟩ := MP.R.bind_eq e
    have M := hm k ⟨_, _, _, _, e⟩
    refine wpAny_Call_method_late hbase hfew hline rfl (thn (ho.run pins s σ H (fun x H1 => ∃ ρ1, Ext ρ H ρ1 H1 ∧ Rl N X.K ρ1 p.2 H1 ∧ Rep X.K ρ1 H1 p.1 x) I ⟨ρ, fr, st, p.1, p.2, R, F, e1, fun ρ1 H1 x E1 R1 r1 => ⟨ρ1, E1, R1, r1⟩⟩) fun v s1 ⟨x, H1, I1, r1, ρ1, E1, R1, q1⟩ => ?_)
    obtain ⟨h1, h2⟩ := kind_is R1 q1 hk I1 r1
    refine ⟨_, ids k, M.pa, M.slot, M.ty, h1, h2, ?_⟩
    have hA := ha.run cpos pins s1 σ H1 (fun vs H2 => ∃ ρ2, Ext ρ1 H1 ρ2 H2 ∧ Rl N X.K ρ2 q.2 H2 ∧ Reps X.K ρ2 H2 q.1 vs) I1 ⟨ρ1, fr, p.2, q.1, q.2, R1, F.ext E1, e2, fun ρ2 H2 vs E2 R2 r2 => ⟨ρ2, E2, R2, r2⟩⟩
    rw [hs] at hA ⊢
    refine Calls.callWith_builtin (by show (false || (backTo cpos (starEach es X.env)).any (·.1)) = false; rw [hplain] <;> rfl) (Calls.evalArgs_plain ?_)
    refine thn hA fun us s2 ⟨vs, H2, I2, r2, ρ2, E2, R2, q2⟩ => ?_
    obtain ⟨r, hr, hq⟩ := M.go ρ2 q.2 H2 p.1 x q.1 vs d st' R2 (q1.ext E2) q2 e
    exact hr pins s2 σ H2 x vs v us Q I2 r1 r2 (hq Q (P.after (E1.trans E2)))
  · cases e
theorem FSs.get {ρ : List Addr} {H : Hp} {f : Nat} {x : Str} {d : D} (nd : N.fld.Nodup) (hx : N.fld[f]? = some x) : ∀ {fs : List (Nat × D)} {gs : List (Str × V)}, FSs N X.K ρ H fs gs → fldN fs f = some d → ∃ v, gs.lookup x = some v ∧ Rep X.K ρ H d v
  | _, _, .nil, h => by simp [fldN] at h
  | _, _, .cons (a := p) (b := q) r t, h => by
    obtain ⟨g, e⟩ := p
    obtain ⟨y, v⟩ := q
    rw [fldN] at h
    by_cases hg : g = f
    · subst hg
      rw [if_pos rfl] at h
      cases h
      have e : y = x := Option.some.inj (r.1.symm.trans hx)
      subst e
      exact ⟨v, by simp [List.lookup], r.2⟩
    · rw [if_neg hg] at h
      obtain ⟨v', h1, h2⟩ := FSs.get nd hx t h
      have ne : x ≠ y := by
        intro z
        subst z
        obtain ⟨l1, e1⟩ := List.getElem?_eq_some_iff.mp r.1
        obtain ⟨l2, e2⟩ := List.getElem?_eq_some_iff.mp hx
        exact hg ((List.getElem_inj nd).mp (e1.trans e2.symm))
      refine ⟨v', ?_, h2⟩
      rw [List.lookup, beq_eq_false_iff_ne.mpr ne]
      exact h1
theorem FSs.put {ρ : List Addr} {H : Hp} {f : Nat} {x : Str} {d : D} {v : V} (nd : N.fld.Nodup) (hx : N.fld[f]? = some x) (r0 : Rep X.K ρ H d v) : ∀ {fs : List (Nat × D)} {gs : List (Str × V)}, FSs N X.K ρ H fs gs → FSs N X.K ρ H (putN f d fs) (putF x v gs)
  | _, _, .nil => .cons ⟨hx, r0⟩ .nil
  | _, _, .cons (a := p) (b := q) r t => by
    obtain ⟨g, e⟩ := p
    obtain ⟨y, w⟩ := q
    rw [putN, putF]
    by_cases hg : g = f
    · subst hg
      have e : y = x := Option.some.inj (r.1.symm.trans hx)
      subst e
      rw [if_pos rfl]
      simp
      exact .cons ⟨hx, r0⟩ t
    · have ne : y ≠ x := by
        intro z
        subst z
        obtain ⟨l1, e1⟩ := List.getElem?_eq_some_iff.mp r.1
        obtain ⟨l2, e2⟩ := List.getElem?_eq_some_iff.mp hx
        exact hg ((List.getElem_inj nd).mp (e1.trans e2.symm))
      rw [if_neg hg]
      simp [ne, ne.symm]
      exact .cons r (FSs.put nd hx r0 t)
end
end MP
namespace MP
open PySem PySem.Spec PyProof.Rows L2
/-- the promise of the def number f by the interpreter -/
def spF (N : Nm) (K : PySem.W.Frag) (cf : Cf) (f : Nat) : Sp := fun vs H Q _ => ∃ (ρ : List Addr) (st : Sto) (ds : List D) (d : D) (st' : Sto), Rl N K ρ st H ∧ Reps K ρ H ds vs ∧ cf f ds st = .ok (d, st') ∧ Post N K ρ H d st' Q
/-- a def at f keeps the interpreter's promise, at the floor k -/
structure FnG (X : Cx) (N : Nm) (cf : Cf) (k : Nat) (id : Nat) (dfl : List D) (f : Addr) : Prop where
  ok : ∃ (fd : FuncData) (ps : List Str), FnOk X.prog X.w X.K X.mg X.base CX0 k f fd ps (spF N X.K cf id) ∧ ∀ j, j ≤ dfl.length → ∃ (ds : List Value) (dvs : List V), Vals dvs ds ∧ Binds X.K fd ps ds ∧ ∀ ρ H, Reps X.K ρ H (dfl.drop j) dvs
  kp : PySem.W.keepIn X.K (.ref f) = true
section
variable {X : Cx} {N : Nm} {fa fb fc : Fr → Sto → RD} {a b c : Expr} {fs : Fr → Sto → R (List D × Sto)} {es : List Expr} {cf mf : Cf} {k : Nat}
theorem read_args {id : Nat} {dfl : List D} {dvs : List V} {σ : L2.St} {H : Hp} {Q : VK} (hd : ∀ ρ H, Reps X.K ρ H dfl dvs) (h : tR N X.K (fun fr st => (fs fr st).bind fun p => cf id (p.1 ++ dfl) p.2) σ H Q) : tCall (spF N X.K cf id) dvs E0 (tRs N X.K fs) σ H Q := by
  obtain ⟨ρ, fr, st, d, st', R, F, e, P⟩ := h
  obtain ⟨p, e1, e⟩ := MP.R.bind_eq e
  exact ⟨ρ, fr, st, p.1, p.2, R, F, e1, fun ρ1 H1 vs E1 R1 r1 => ⟨ρ1, p.2, _, d, st', R1, r1.app (hd _ _), e, P.after E1⟩⟩
theorem m_call {id : Nat} {dfl : List D} {j : Nat} {f : Addr} {x : Str} {p pos : Pos} {e : Expr} (F : FnG X N cf k id dfl f) (hj : j ≤ dfl.length) (hr : Room k X.A) (hg : Gl X x) (hm : X.mg x = some (.ref f)) (hdb : (x == ("__debug__" : Str)) = false)
    (ha : PA X (e :: es) (tRs N X.K fs)) (h1 : starEach (e :: es) X.env = (false, eval e X.env) :: starEach es X.env) (h2 : (backTo pos (starEach es X.env)).any (·.1) = false) :
    PE X (.Call (.Name x p) (e :: es) [] pos) (tR N X.K fun fr st => (fs fr st).bind fun p => cf id (p.1 ++ dfl.drop j) p.2) := by
  obtain ⟨fd, ps, ok, bd⟩ := F.ok
  obtain ⟨ds, dvs, hv, hb, hd⟩ := bd j hj
  exact PE.imp (pe_call ok hr hg hm F.kp hb hv pass0 ha hdb h1 h2) fun _ _ _ h => read_args hd h
theorem m_call0 {id : Nat} {dfl : List D} {j : Nat} {f : Addr} {x : Str} {p pos : Pos} (F : FnG X N cf k id dfl f) (hj : j ≤ dfl.length) (hr : Room k X.A) (hg : Gl X x) (hm : X.mg x = some (.ref f)) (hdb : (x == ("__debug__" : Str)) = false) :
    PE X (.Call (.Name x p) [] [] pos) (tR N X.K fun fr st => (R.ok (([] : List D), st)).bind fun p => cf id (p.1 ++ dfl.drop j) p.2) := by
  obtain ⟨fd, ps, ok, bd⟩ := F.ok
  obtain ⟨ds, dvs, hv, hb, hd⟩ := bd j hj
  refine PE.imp (pe_call0 ok hr hg hm F.kp hb hv pass0 hdb) fun σ H Q ⟨ρ, fr, st, d, st', R, F', e, P⟩ => ?_
  exact ⟨ρ, st, _, d, st', R, hd _ _, e, P⟩
theorem read_make {c id : Nat} {dfl : List D} {dvs : List V} {C : Addr} {σ : L2.St} {H : Hp} {Q : VK} (hc : N.cls c = some C) (hd : ∀ ρ H, Reps X.K ρ H dfl dvs)
    (h : tR N X.K (fun fr st => (fs fr st).bind fun p => (mf id (.ref p.2.length :: (p.1 ++ dfl)) (p.2 ++ [.ins c []])).bind fun q => match q.1 with
      | .non => .ok (.ref p.2.length, q.2)
      | _ => .no) σ H Q) : tMake C (spF N X.K mf id) dvs E0 (tRs N X.K fs) σ H Q := by
  obtain ⟨ρ, fr, st, d, st', R, F, e, P⟩ := h
  obtain ⟨p, e1, e⟩ := MP.R.bind_eq e
  obtain ⟨q, e2, e⟩ := MP.R.bind_eq e
  split at e
  · rename_i hn
    cases e
    refine ⟨ρ, fr, st, p.1, p.2, R, F, e1, fun ρ1 H1 vs E1 R1 r1 x dx hx hdx ne => ?_⟩
    obtain ⟨Ea, Ra⟩ := R1.lay (u := .own x) hdx
    have hx2 : (upd H1 dx (.own x)) x = none := by rw [upd_ne (Ne.symm ne)]; exact hx
    obtain ⟨Eb, Rb⟩ := Ra.new (u := .ins C dx []) (o := .ins c []) hx2 ⟨C, dx, [], hc, upd_same, .nil⟩
    refine ⟨ρ1 ++ [x], _, _, q.1, q.2, Rb, .cons (.ref R1.top) (((r1.app (hd _ _)).ext Ea).ext Eb), e2, fun ρ2 H2 v E2 R2 r2 => ?_⟩
    rw [hn] at r2
    cases r2
    exact ⟨rfl, P _ _ _ (E1.trans (Ea.trans (Eb.trans E2))) R2 (.ref (E2.ix R1.top))⟩
  · cases e
theorem m_make {c id : Nat} {dfl : List D} {j : Nat} {f C : Addr} {x : Str} {p pos : Pos} {e : Expr} (M : Mk X.K C f) (hc : N.cls c = some C) (F : FnG X N mf k id dfl f) (hj : j ≤ dfl.length) (hr : Room (k + 1) X.A) (hg : Gl X x) (hm : X.mg x = some (.ref C)) (hdb : (x == ("__debug__" : Str)) = false)
    (ha : PA X (e :: es) (tRs N X.K fs)) (h1 : starEach (e :: es) X.env = (false, eval e X.env) :: starEach es X.env) (h2 : (backTo pos (starEach es X.env)).any (·.1) = false) :
    PE X (.Call (.Name x p) (e :: es) [] pos) (tR N X.K fun fr st => (fs fr st).bind fun p => (mf id (.ref p.2.length :: (p.1 ++ dfl.drop j)) (p.2 ++ [.ins c []])).bind fun q => match q.1 with
      | .non => .ok (.ref p.2.length, q.2)
      | _ => .no) := by
  obtain ⟨fd, ps, ok, bd⟩ := F.ok
  obtain ⟨ds, dvs, hv, hb, hd⟩ := bd j hj
  exact PE.imp (pe_make M ok hr hg hm hb hv pass0 ha hdb h1 h2) fun _ _ _ h => read_make hc hd h
theorem m_make0 {c id : Nat} {dfl : List D} {j : Nat} {f C : Addr} {x : Str} {p pos : Pos} (M : Mk X.K C f) (hc : N.cls c = some C) (F : FnG X N mf k id dfl f) (hj : j ≤ dfl.length) (hr : Room (k + 1) X.A) (hg : Gl X x) (hm : X.mg x = some (.ref C)) (hdb : (x == ("__debug__" : Str)) = false) :
    PE X (.Call (.Name x p) [] [] pos) (tR N X.K fun fr st => (R.ok (([] : List D), st)).bind fun p => (mf id (.ref p.2.length :: (p.1 ++ dfl.drop j)) (p.2 ++ [.ins c []])).bind fun q => match q.1 with
      | .non => .ok (.ref p.2.length, q.2)
      | _ => .no) := by
  obtain ⟨fd, ps, ok, bd⟩ := F.ok
  obtain ⟨ds, dvs, hv, hb, hd⟩ := bd j hj
  refine PE.imp (pe_make0 M ok hr hg hm hb hv pass0 hdb) fun σ H Q h => ?_
  obtain ⟨ρ, fr, st, ds', st', R, F', e, P⟩ := read_make (fs := fun _ st => .ok ([], st)) hc hd h
  cases e
  exact P _ _ _ Ext.refl R .nil
theorem FSs.none {ρ : List Addr} {H : Hp} {x : Str} (hx : x ∉ N.fld) : ∀ {fs : List (Nat × D)} {gs : List (Str × V)}, FSs N X.K ρ H fs gs → gs.lookup x = none
  | _, _, .nil => rfl
  | _, _, .cons (b := q) r t => by
    obtain ⟨y, v⟩ := q
    have ne : x ≠ y := fun z => hx (by rw [z]; exact List.mem_of_getElem? r.1)
    rw [List.lookup, beq_eq_false_iff_ne.mpr ne]
    exact FSs.none hx t
theorem cls_of {st : Sto} {o : D} {v : V} {c : Nat} {ρ : List Addr} {H : Hp} (R : Rl N X.K ρ st H) (r : Rep X.K ρ H o v) (h : clsF st o = some c) : ∃ a C dx gs fs, v = .ref a ∧ N.cls c = some C ∧ H a = some (.ins C dx gs) ∧ FSs N X.K ρ H fs gs := by
  cases r with
  | @ref n a h1 =>
    simp only [clsF] at h
    split at h
    · rename_i q
      cases h
      obtain ⟨C, dx, gs, h2, h3, h4⟩ := R.at_ _ _ _ h1 q
      exact ⟨a, C, dx, gs, _, rfl, h2, h3, h4⟩
    · cases h
  | _ => simp [clsF] at h
/-- the classes: their attributes, their methods by number -/
structure ClG (X : Cx) (N : Nm) (P : Prog) (cf : Cf) (k : Nat) (mths : List Str) : Prop where
  cl : ∀ c C, N.cls c = some C → Cls X.K C
  no : ∀ c C, N.cls c = some C → ∀ (f : Nat) x, N.fld[f]? = some x → NoAttr X.K C x
  nd : N.fld.Nodup
  tot : ∀ c m fd, findM P c m = some fd → ∃ C, N.cls c = some C
  me : ∀ c C, N.cls c = some C → ∀ (m : Nat) x id dfl, mths[m]? = some x → findM P c m = some (id, dfl) → x ∉ N.fld ∧ ∃ f, Meth X.K C x f ∧ FnG X N cf k id dfl f
def methFn (P : Prog) (cf : Cf) (m : Nat) (fa : Fr → Sto → RD) (fs : Fr → Sto → R (List D × Sto)) : Fr → Sto → RD := fun fr st => (fa fr st).bind fun p => match clsF p.2 p.1 with
    | some c => match findM P c m with
      | some fd => (fs fr p.2).bind fun q => cf fd.1 (p.1 :: (q.1 ++ dflF P fd.1 fd.2 (q.1.length + 1))) q.2
      | none => .no
    | none => .no
theorem drop_any (dfl : List D) (i : Nat) : ∃ j, j ≤ dfl.length ∧ dfl.drop i = dfl.drop j := by
  by_cases h : i ≤ dfl.length
  · exact ⟨i, h, rfl⟩
  · exact ⟨dfl.length, Nat.le_refl _, by rw [List.drop_length, List.drop_eq_nil_of_le (by omega)]⟩
theorem dflF_any (P : Prog) (f : Nat) (dfl : List D) (n : Nat) : ∃ j, j ≤ dfl.length ∧ dflF P f dfl n = dfl.drop j := by
  unfold dflF
  split
  · exact drop_any _ _
  · exact ⟨dfl.length, Nat.le_refl _, by rw [List.drop_length]⟩
theorem m_meth {P : Prog} {mths : List Str} {m : Nat} {x : Str} {apos pos : Pos} {e : Expr} {pl : Sem Bool} (G : ClG X N P cf k mths) (hm : mths[m]? = some x) (hr : Room k X.A) (ho : PE X a (tR N X.K fa))
    (ha : PA X (e :: es) (tRs N X.K fs)) (h1 : starEach (e :: es) X.env = (false, eval e X.env) :: starEach es X.env) (h2 : (backTo pos (starEach es X.env)).any (·.1) = false)
    (ht : eval (.Call (.Attribute a x apos) (e :: es) [] pos) X.env = (do
      let ov ← eval a X.env
      standAt apos.atName
      let (f, first) ← holding [ov] (getMethod ov x pl)
      callWith pos f first (backTo pos (starEach (e :: es) X.env)) (backToKw pos (keywordEach [] X.env)))) :
    PE X (.Call (.Attribute a x apos) (e :: es) [] pos) (tR N X.K (methFn P cf m fa fs)) := by
  refine PE.by fun σ H Q ⟨ρ, fr, st, d, st', R, F, e0, P0⟩ => ?_
  obtain ⟨p, e1, e2⟩ := MP.R.bind_eq e0
  split at e2
  · rename_i c hc
    split at e2
    · rename_i fd hf
      obtain ⟨q, e3, e4⟩ := MP.R.bind_eq e2
      obtain ⟨j, hj, hjd⟩ := dflF_any P fd.1 fd.2 (q.1.length + 1)
      rw [hjd] at e4
      obtain ⟨C, hC⟩ := G.tot c m fd hf
      obtain ⟨hx, f, hM, hF⟩ := G.me c C hC m x fd.1 fd.2 hm hf
      obtain ⟨fdd, ps, ok, bd⟩ := hF.ok
      obtain ⟨ds, dvs, hv, hb, hd⟩ := bd j hj
      refine ⟨_, pe_meth ho (G.cl c C hC) hM ok hr hb hv pass0 ha h1 h2 ht, ?_⟩
      refine ⟨ρ, fr, st, p.1, p.2, R, F, e1, fun ρ1 H1 v E1 R1 r1 => ?_⟩
      obtain ⟨a', C', dx, gs, fs', rfl, hC', hH, hfs⟩ := cls_of R1 r1 hc
      rw [hC] at hC'
      cases hC'
      refine ⟨a', dx, gs, rfl, hH, hfs.none hx, ?_⟩
      refine ⟨ρ1, fr, p.2, q.1, q.2, R1, F.ext E1, e3, fun ρ2 H2 vs E2 R2 r2 => ?_⟩
      exact ⟨ρ2, q.2, _, d, st', R2, .cons (r1.ext E2) (r2.app (hd _ _)), e4, P0.after (E1.trans E2)⟩
    · cases e2
  · cases e2
theorem m_meth0 {P : Prog} {mths : List Str} {m : Nat} {x : Str} {apos pos : Pos} {pl : Sem Bool} (G : ClG X N P cf k mths) (hm : mths[m]? = some x) (hr : Room k X.A) (ho : PE X a (tR N X.K fa))
    (ht : eval (.Call (.Attribute a x apos) [] [] pos) X.env = (do
      let ov ← eval a X.env
      standAt apos.atName
      let (f, first) ← holding [ov] (getMethod ov x pl)
      callWith pos f first (backTo pos (starEach [] X.env)) (backToKw pos (keywordEach [] X.env)))) :
    PE X (.Call (.Attribute a x apos) [] [] pos) (tR N X.K (methFn P cf m fa fun _ st => .ok ([], st))) := by
  refine PE.by fun σ H Q ⟨ρ, fr, st, d, st', R, F, e0, P0⟩ => ?_
  obtain ⟨p, e1, e2⟩ := MP.R.bind_eq e0
  split at e2
  · rename_i c hc
    split at e2
    · rename_i fd hf
      obtain ⟨q, e3, e4⟩ := MP.R.bind_eq e2
      cases e3
      obtain ⟨j, hj, hjd⟩ := dflF_any P fd.1 fd.2 (([] : List D).length + 1)
      rw [hjd] at e4
      obtain ⟨C, hC⟩ := G.tot c m fd hf
      obtain ⟨hx, f, hM, hF⟩ := G.me c C hC m x fd.1 fd.2 hm hf
      obtain ⟨fdd, ps, ok, bd⟩ := hF.ok
      obtain ⟨ds, dvs, hv, hb, hd⟩ := bd j hj
      refine ⟨_, pe_meth0 ho (G.cl c C hC) hM ok hr hb hv pass0 ht, ?_⟩
      refine ⟨ρ, fr, st, p.1, p.2, R, F, e1, fun ρ1 H1 v E1 R1 r1 => ?_⟩
      obtain ⟨a', C', dx, gs, fs', rfl, hC', hH, hfs⟩ := cls_of R1 r1 hc
      rw [hC] at hC'
      cases hC'
      refine ⟨a', dx, gs, rfl, hH, hfs.none hx, ?_⟩
      exact ⟨ρ1, p.2, _, d, st', R1, .cons r1 (hd _ _), e4, P0.after E1⟩
    · cases e2
  · cases e2
theorem m_fld {P : Prog} {mths : List Str} {f : Nat} {x : Str} {pos : Pos} (G : ClG X N P cf k mths) (hx : N.fld[f]? = some x) (ha : PE X a (tR N X.K fa)) (hb : attributeBase a x X.env (eval a X.env) = eval a X.env) :
    PE X (.Attribute a x pos) (tR N X.K fun fr st => (fa fr st).bind fun p => (R.of (fldF p.2 p.1 f)).bind fun d => .ok (d, p.2)) := by
  refine PE.imp (pe_fld ha hb) fun σ H Q ⟨ρ, fr, st, d, st', R, F, e, P⟩ => ?_
  obtain ⟨p, e1, e⟩ := MP.R.bind_eq e
  obtain ⟨y, e2, e⟩ := MP.R.bind_eq e
  cases e
  refine ⟨ρ, fr, st, p.1, p.2, R, F, e1, fun ρ1 H1 v E1 R1 r1 => ?_⟩
  have e3 := MP.R.of_eq e2
  generalize hp : p.1 = o at r1 e3
  cases r1 with
  | @ref n a' h1 =>
    simp only [fldF] at e3
    split at e3
    · rename_i q
      obtain ⟨C, dx, gs, h2, h3, h4⟩ := R1.at_ _ _ _ h1 q
      obtain ⟨u, h5, h6⟩ := h4.get G.nd hx e3
      exact ⟨a', C, dx, gs, u, rfl, h3, G.cl _ C h2, G.no _ C h2 f x hx, h5, (P.after E1).here R1 h6⟩
    · cases e3
  | _ => simp [fldF] at e3
end
end MP
namespace MP
open PySem PySem.Spec PyProof.Rows L2
section
variable {N : Nm} {K : PySem.W.Frag} {ρ ρ1 ρ2 : List Addr} {H H1 H2 : Hp} {st st1 : Sto} {fr : Fr} {σ : L2.St}
/-- something changes that is no tuple and no read list -/
structure Chg (H : Hp) (p : Addr) : Prop where
  t : ∀ xs, H p ≠ some (.tup xs)
  l : ∀ ob xs, H p ≠ some (.frz ob (.lst xs))
  f : ∀ ob xs, H p ≠ some (.frz ob (.tup xs))
theorem Chg.sqT {p : Addr} {u : HO} (h : Chg H p) {c : Addr} {xs : List V} (s : SqT K H c xs) : SqT K (upd H p u) c xs := by
  rcases s with (s | ⟨o, s⟩) | s
  · exact .inl (.inl (by rw [upd_ne (fun z => h.t xs (by rw [← z]; exact s))]; exact s))
  · exact .inl (.inr ⟨o, by rw [upd_ne (fun z => h.f o xs (by rw [← z]; exact s))]; exact s⟩)
  · exact .inr s
theorem Chg.sqK {p : Addr} {u : HO} (h : Chg H p) {c : Addr} {xs : List V} (s : SqK K H c xs) : SqK K (upd H p u) c xs := by
  rcases s with ⟨o, s⟩ | s
  · exact .inl ⟨o, by rw [upd_ne (fun z => h.l o xs (by rw [← z]; exact s))]; exact s⟩
  · exact .inr s
mutual
theorem Rep.chg {p : Addr} {u : HO} (h : Chg H p) : ∀ {d : D} {v : V}, Rep K ρ H d v → Rep K ρ (upd H p u) d v
  | _, _, .non => .non
  | _, _, .bl b => .bl b
  | _, _, .int i => .int i
  | _, _, .str x => .str x
  | _, _, .tup s r => .tup (h.sqT s) (Reps.chg h r)
  | _, _, .kls s r => .kls (h.sqK s) (Reps.chg h r)
  | _, _, .ref e => .ref e
theorem Reps.chg {p : Addr} {u : HO} (h : Chg H p) : ∀ {ds : List D} {vs : List V}, Reps K ρ H ds vs → Reps K ρ (upd H p u) ds vs
  | _, _, .nil => .nil
  | _, _, .cons r t => .cons (Rep.chg h r) (Reps.chg h t)
end
theorem Rf.chg {p : Addr} {u : HO} (h : Chg H p) (F : Rf K ρ H fr σ) : Rf K ρ (upd H p u) fr σ := ⟨F.len, fun i d e => let ⟨v, h1, h2⟩ := F.at_ i d e; ⟨v, h1, h2.chg h⟩⟩
theorem OAt.chg {a : Addr} {o : O} (h : OAt N K ρ H a o) : Chg H a := by
  obtain ⟨u, e, h1, h2, h3⟩ := h.some
  exact ⟨fun xs z => h1 xs (Option.some.inj (e.symm.trans z)), fun ob xs z => h2 ob xs (Option.some.inj (e.symm.trans z)), fun ob xs z => h3 ob xs (Option.some.inj (e.symm.trans z))⟩
/-- an object of the store becomes another -/
theorem Rl.set (R : Rl N K ρ st H) {n : Nat} {a : Addr} {o' : O} {u : HO} (ha : ρ[n]? = some a) (new : OAt N K ρ (upd H a u) a o') : Rl N K ρ (st.set n o') (upd H a u) := by
  have ln : n < st.length := by rw [← R.len]; exact (List.getElem?_eq_some_iff.mp ha).1
  have hc := (R.at_ n a _ ha (List.getElem?_eq_getElem ln)).chg
  refine ⟨by rw [List.length_set]; exact R.len, R.nd, fun m c x h1 h2 => ?_⟩
  by_cases hm : n = m
  · subst hm
    rw [ha] at h1; cases h1
    rw [List.getElem?_set_self ln] at h2; cases h2
    exact new
  · rw [List.getElem?_set_ne hm] at h2
    have nc : c ≠ a := fun z => by
      subst z
      obtain ⟨l1, e1⟩ := List.getElem?_eq_some_iff.mp h1
      obtain ⟨l2, e2⟩ := List.getElem?_eq_some_iff.mp ha
      exact hm ((List.getElem_inj R.nd).mp (e2.trans e1.symm))
    have h := R.at_ m c x h1 h2
    cases x with
    | lst ds => obtain ⟨vs, h, r⟩ := h; exact ⟨vs, by rw [upd_ne nc]; exact h, r.chg hc⟩
    | dct ds => obtain ⟨vs, h, r⟩ := h; exact ⟨vs, by rw [upd_ne nc]; exact h, pairedMap (fun _ _ z => ⟨z.1, z.2.chg hc⟩) r⟩
    | fdc ds => obtain ⟨o, vs, h, r⟩ := h; exact ⟨o, vs, by rw [upd_ne nc]; exact h, pairedMap (fun _ _ z => ⟨z.1, z.2.chg hc⟩) r⟩
    | ins c' fs => obtain ⟨C, dx, vs, hc', h, r⟩ := h; exact ⟨C, dx, vs, hc', by rw [upd_ne nc]; exact h, pairedMap (fun _ _ z => ⟨z.1, z.2.chg hc⟩) r⟩
/-- something outside, that was not there at first, changes -/
theorem Ext.touch {p : Addr} {u : HO} (hp : H p = none) (e : Ext ρ H ρ1 H1) : Ext ρ H ρ1 (upd H1 p u) :=
  ⟨e.more, fun a o h n => by rw [upd_ne (ne_of_none h hp)]; exact e.rest a o h n, fun a xs h => by rw [upd_ne (ne_of_none h hp)]; exact e.tups a xs h, fun a ob xs h => by rw [upd_ne (ne_of_none h hp)]; exact e.frzs a ob xs h,
    fun a ob xs h => by rw [upd_ne (ne_of_none h hp)]; exact e.frzt a ob xs h, fun a ob xs h => by rw [upd_ne (ne_of_none h hp)]; exact e.frzd a ob xs h⟩
theorem Ext.add {p : Addr} (hp : H p = none) (e : Ext ρ H ρ1 H1) : Ext ρ H (ρ1 ++ [p]) H1 := by
  obtain ⟨r, e1, hr⟩ := e.more
  refine ⟨⟨r ++ [p], by rw [e1, List.append_assoc], fun a ha n => ?_⟩, e.rest, e.tups, e.frzs, e.frzt, e.frzd⟩
  rcases List.mem_append.mp ha with ha | ha
  · exact hr a ha n
  · rw [List.mem_singleton.mp ha]; exact hp
/-- a locked dict is unlocked -/
theorem Ext.unlock {p : Addr} {od : Obj} {ws : List (Key × V)} (hm : p ∈ ρ) (hp : H p = some (.dK ws)) (e : Ext ρ (upd H p (.frz od (.dK ws))) ρ1 H1) : Ext ρ H ρ1 (upd H1 p (.dK ws)) := by
  have ne : ∀ a o, H a = some o → (∀ ws, o ≠ .dK ws) → a ≠ p := fun a o h z q => by subst q; rw [hp] at h; exact z ws (Option.some.inj h).symm
  obtain ⟨r, e1, hr⟩ := e.more
  refine ⟨⟨r, e1, fun a ha n => ?_⟩, fun a o h n => ?_, fun a xs h => ?_, fun a ob xs h => ?_, fun a ob xs h => ?_, fun a ob xs h => ?_⟩
  · have z := hr a ha n
    rw [upd_ne (fun q => n (by rw [q]; exact hm))] at z
    exact z
  · have z : a ≠ p := fun q => n (by rw [q]; exact hm)
    rw [upd_ne z]
    exact e.rest a o (by rw [upd_ne z]; exact h) n
  · have z := ne a _ h (by simp)
    rw [upd_ne z]
    exact e.tups a xs (by rw [upd_ne z]; exact h)
  · have z := ne a _ h (by simp)
    rw [upd_ne z]
    exact e.frzs a ob xs (by rw [upd_ne z]; exact h)
  · have z := ne a _ h (by simp)
    rw [upd_ne z]
    exact e.frzt a ob xs (by rw [upd_ne z]; exact h)
  · have z := ne a _ h (by simp)
    rw [upd_ne z]
    exact e.frzd a ob xs (by rw [upd_ne z]; exact h)
theorem Rf.set {d : D} {v : V} (F : Rf K ρ H fr σ) (r : Rep K ρ H d v) (i : Nat) : Rf K ρ H (fr.set i (some d)) (σ.set i (some v)) := by
  refine ⟨by rw [List.length_set, List.length_set]; exact F.len, fun j e h => ?_⟩
  by_cases hj : i = j
  · subst hj
    have l : i < fr.length := by
      have := (List.getElem?_eq_some_iff.mp h).1
      rw [List.length_set] at this
      exact this
    rw [List.getElem?_set_self l] at h
    cases h
    exact ⟨v, by rw [List.getElem?_set_self (by rw [← F.len]; exact l)], r⟩
  · rw [List.getElem?_set_ne hj] at h
    obtain ⟨u, h1, h2⟩ := F.at_ j e h
    exact ⟨u, by rw [List.getElem?_set_ne hj]; exact h1, h2⟩
theorem Rf.wipe (F : Rf K ρ H fr σ) : ∀ vs, Rf K ρ H (wipeF fr vs) (L2.wipe σ vs)
  | [] => F
  | v :: vs => by
    have ih := F.wipe vs
    refine ⟨by rw [wipeF, L2.wipe, List.length_set, List.length_set]; exact ih.len, fun j e h => ?_⟩
    rw [wipeF] at h
    by_cases hj : v = j
    · subst hj
      have l : v < (wipeF fr vs).length := by
        have := (List.getElem?_eq_some_iff.mp h).1
        rw [List.length_set] at this
        exact this
      rw [List.getElem?_set_self l] at h
      cases h
    · rw [List.getElem?_set_ne hj] at h
      obtain ⟨u, h1, h2⟩ := ih.at_ j e h
      exact ⟨u, by rw [L2.wipe, List.getElem?_set_ne hj]; exact h1, h2⟩
theorem wipe_set (i : Nat) (x : Option V) : ∀ (vs : List Nat) (σ : L2.St), i ∈ vs → L2.wipe (σ.set i x) vs = L2.wipe σ vs
  | [], _, h => by cases h
  | v :: vs, σ, h => by
    rw [L2.wipe, L2.wipe]
    by_cases hv : i ∈ vs
    · rw [wipe_set i x vs σ hv]
    · have e : i = v := by
        rcases List.mem_cons.mp h with h | h
        · exact h
        · exact absurd h hv
      subst e
      have key : ∀ (ws : List Nat), i ∉ ws → L2.wipe (σ.set i x) ws = (L2.wipe σ ws).set i x := by
        intro ws
        induction ws with
        | nil => intro _; rfl
        | cons w ws ih =>
          intro hn
          rw [L2.wipe, L2.wipe, ih (fun z => hn (List.mem_cons_of_mem _ z)), List.set_comm]
          intro z
          exact hn (by rw [z]; exact List.mem_cons_self)
      rw [key vs hv, List.set_set]
theorem wipe_wipe : ∀ (vs ws : List Nat) (σ : L2.St), (∀ v ∈ vs, v ∈ ws) → L2.wipe (L2.wipe σ vs) ws = L2.wipe σ ws
  | [], ws, σ, _ => rfl
  | v :: vs, ws, σ, h => by
    rw [L2.wipe, wipe_set _ _ _ _ (h v List.mem_cons_self)]
    exact wipe_wipe vs ws σ fun z hz => h z (List.mem_cons_of_mem _ hz)
end
mutual
def slotsT : Tg → List Nat
  | .v i => [i]
  | .tup ts => slotsTs ts
def slotsTs : Tgs → List Nat
  | .nil => []
  | .cons t r => slotsT t ++ slotsTs r
end
def lenTs : Tgs → Nat
  | .nil => 0
  | .cons _ r => lenTs r + 1
mutual
def gT (K : PySem.W.Frag) : Tg → TG
  | .v i => gName i
  | .tup ts => gTup K (lenTs ts) (gTs K ts)
def gTs (K : PySem.W.Frag) : Tgs → TGs
  | .nil => gNil
  | .cons t r => gCons (gT K t) (gTs K r)
end
theorem tgs_len : ∀ (ts : Tgs) (ds : List D) (fr fr' : Fr), tgsF ts ds fr = some fr' → ds.length = lenTs ts
  | .nil, [], _, _, _ => rfl
  | .nil, _ :: _, _, _, h => by simp [tgsF] at h
  | .cons _ _, [], _, _, h => by simp [tgsF] at h
  | .cons t r, d :: ds, fr, fr', h => by
    rw [tgsF] at h
    split at h
    · rw [List.length_cons, tgs_len r ds _ _ h]; rfl
    · cases h
section
variable {K : PySem.W.Frag} {ρ : List Addr} {H : Hp}
mutual
theorem read_tg : ∀ (t : Tg) {d : D} {v : V} {fr fr' : Fr} {σ : L2.St} {Q : L2.St → Hp → Prop}, Rep K ρ H d v → Rf K ρ H fr σ → tgF t d fr = some fr' →
    (∀ σ', Rf K ρ H fr' σ' → (∀ vs, (∀ i ∈ slotsT t, i ∈ vs) → L2.wipe σ' vs = L2.wipe σ vs) → Q σ' H) → gT K t v σ H Q
  | .v i, d, v, fr, fr', σ, Q, r, F, h, q => by
    rw [tgF] at h
    cases h
    exact q _ (F.set r i) fun vs hv => wipe_set i _ vs σ (hv i (by simp [slotsT]))
  | .tup ts, d, v, fr, fr', σ, Q, r, F, h, q => by
    cases r with
    | tup h1 h2 =>
      simp only [tgF] at h
      exact ⟨_, _, rfl, h1, by rw [← h2.len]; exact tgs_len ts _ _ _ h, read_tgs ts h2 F h (fun σ' F' hw => q σ' F' fun vs hv => hw vs (by simpa [slotsT] using hv))⟩
    | _ => simp [tgF] at h
theorem read_tgs : ∀ (ts : Tgs) {ds : List D} {vs : List V} {fr fr' : Fr} {σ : L2.St} {Q : L2.St → Hp → Prop}, Reps K ρ H ds vs → Rf K ρ H fr σ → tgsF ts ds fr = some fr' →
    (∀ σ', Rf K ρ H fr' σ' → (∀ ws, (∀ i ∈ slotsTs ts, i ∈ ws) → L2.wipe σ' ws = L2.wipe σ ws) → Q σ' H) → gTs K ts vs σ H Q
  | .nil, ds, vs, fr, fr', σ, Q, r, F, h, q => by
    cases r with
    | nil =>
      rw [tgsF] at h
      cases h
      exact ⟨rfl, q _ F fun _ _ => rfl⟩
    | cons => simp [tgsF] at h
  | .cons t rest, ds, vs, fr, fr', σ, Q, r, F, h, q => by
    cases r with
    | nil => simp [tgsF] at h
    | cons r1 r2 =>
      rw [tgsF] at h
      split at h
      · rename_i fr2 h2
        refine ⟨_, _, rfl, read_tg t r1 F h2 fun σ' F' w1 => ?_⟩
        refine read_tgs rest r2 F' h fun σ2 F2 w2 => q σ2 F2 fun ws hws => ?_
        simp only [slotsTs, List.mem_append] at hws
        rw [w2 ws fun i hi => hws i (.inr hi), w1 ws fun i hi => hws i (.inl hi)]
      · cases h
end
end
end MP
namespace MP
open PySem PySem.Spec PyProof.Rows L2
/-- an iterator J gives the items of w, from (ρ0, H0) on -/
def WalkOk (N : Nm) (K : PySem.W.Frag) (ρ0 : List Addr) (H0 : Hp) (J : L2.It) (w : Wk) : Prop :=
  ∀ (ρ : List Addr) (st : Sto) (H : Hp) (i : Nat), Ext ρ0 H0 ρ H → Rl N K ρ st H → w.ok st = true →
    (∀ d, w.ds[i]? = some d → J.go i H ∧ ∀ x H', J.yld i H x H' → Ext ρ H ρ H' ∧ Rl N K ρ st H' ∧ Rep K ρ H' d x) ∧ (w.ds.length ≤ i → J.stop i H)
section
variable {X : Cx} {N : Nm}
theorem lc_walk {g : TG} {tt : TT} {te : TE} {vs : List Nat} {ρ1 : List Addr} {st1 : Sto} {H1 : Hp} {fr : Fr} {σ : L2.St} {J : L2.It} {w : Wk} {Q : VK} {acc : List D} {st2 : Sto}
    {turn : D → Sto → R (Option D × Sto)}
    (wk : WalkOk N X.K ρ1 H1 J w) (R1 : Rl N X.K ρ1 st1 H1) (F1 : Rf X.K ρ1 H1 fr σ) (e : lcF w.ok turn w.ds [] st1 = .ok (acc, st2))
    (hturn : ∀ (ρ : List Addr) (st : Sto) (H : Hp) (d : D) (x : V) (y : Option D) (st' : Sto) (K1 : VK) (K0 : Hp → Prop), Rl N X.K ρ st H → Rf X.K ρ H (wipeF fr vs) (L2.wipe σ vs) → Rep X.K ρ H d x → turn d st = .ok (y, st') →
      (∀ d', y = some d' → ∀ ρ' H' v, Ext ρ H ρ' H' → Rl N X.K ρ' st' H' → Rep X.K ρ' H' d' v → K1 v H') → (y = none → ∀ ρ' H', Ext ρ H ρ' H' → Rl N X.K ρ' st' H' → K0 H') →
      g x (L2.wipe σ vs) H fun σ2 H2 => L2.wipe σ2 vs = L2.wipe σ vs ∧ tt σ2 H2 fun b H3 => if b = true then te σ2 H3 fun z H4 => K1 z H4 else K0 H3)
    (fin : ∀ (ρ : List Addr) (H : Hp) (D0 : Addr), Ext ρ1 H1 ρ H → Ext ρ1 H1 (ρ ++ [D0]) H → Rl N X.K (ρ ++ [D0]) (st2 ++ [.lst acc]) H → ρ.length = st2.length → Q (.ref D0) H) :
    ∀ D0, H1 D0 = none → ∃ W : Nat → Nat → Hp → Prop, (∃ m, W 0 m (upd H1 D0 (.lst []))) ∧ ∀ i m H, W i m H →
      (J.stop i H ∧ Q (.ref D0) H) ∨ (J.go i H ∧ ∃ Nx : Hp → Prop, (∀ H', Nx H' → ∃ m', m' < m ∧ W (i + 1) m' H') ∧ ∀ x H', J.yld i H x H' → g x (L2.wipe σ vs) H' fun σ2 H2 => L2.wipe σ2 vs = L2.wipe σ vs ∧ tt σ2 H2 fun b H3 =>
        if b = true then te σ2 H3 fun y H4 => ∃ acc, H4 D0 = some (.lst acc) ∧ acc.length < sizeLine ∧ Nx (upd H4 D0 (.lst (acc ++ [y]))) else Nx H3) := by
  intro D0 hD
  have hz := sz_line
  obtain ⟨E0, R0⟩ := R1.lay (u := .lst []) hD
  refine ⟨fun i m H => m = w.ds.length - i ∧ i ≤ w.ds.length ∧ ∃ (ρ : List Addr) (st : Sto) (ac : List D) (av : List V), Ext ρ1 H1 ρ H ∧ Rl N X.K ρ st H ∧ D0 ∉ ρ ∧ H D0 = some (.lst av) ∧ Reps X.K ρ H ac av ∧ lcF w.ok turn (w.ds.drop i) ac st = .ok (acc, st2),
    ⟨_, rfl, Nat.zero_le _, ρ1, st1, [], [], E0, R0, R1.notIn hD, upd_same, .nil, by rw [List.drop_zero]; exact e⟩, ?_⟩
  intro i m H hW
  obtain ⟨rfl, hi, ρ, st, ac, av, E, R, hn, hH, ra, el⟩ := hW
  by_cases hlt : i < w.ds.length
  · -- a turn
    have ed : w.ds.drop i = w.ds[i] :: w.ds.drop (i + 1) := List.drop_eq_getElem_cons hlt
    rw [ed, lcF] at el
    by_cases hok : w.ok st = true
    · rw [if_pos hok] at el
      obtain ⟨p, et, el⟩ := MP.R.bind_eq el
      obtain ⟨h1, _⟩ := wk ρ st H i E R hok
      obtain ⟨hgo, hy⟩ := h1 w.ds[i] (List.getElem?_eq_getElem hlt)
      refine .inr ⟨hgo, fun H' => ∃ (ρ : List Addr) (st : Sto) (ac : List D) (av : List V), Ext ρ1 H1 ρ H' ∧ Rl N X.K ρ st H' ∧ D0 ∉ ρ ∧ H' D0 = some (.lst av) ∧ Reps X.K ρ H' ac av ∧ lcF w.ok turn (w.ds.drop (i + 1)) ac st = .ok (acc, st2),
        fun H' h => ⟨_, by omega, rfl, by omega, h⟩, fun x H' hyl => ?_⟩
      obtain ⟨Ea, Ra, rx⟩ := hy x H' hyl
      obtain ⟨na, ha⟩ := Ea.outside hH hn
      refine hturn ρ st H' _ x p.1 p.2 _ _ Ra ((F1.ext (E.trans Ea)).wipe vs) rx et (fun d' hd' ρ' H2 v E2 R2 r2 => ?_) (fun hd' ρ' H2 E2 R2 => ?_)
      · obtain ⟨nb, hb⟩ := E2.outside ha na
        rw [hd'] at el
        dsimp only at el
        split at el
        · rename_i hl
          have hc : Chg H2 D0 := ⟨by simp [hb], by simp [hb], by simp [hb]⟩
          have ra2 := (ra.ext Ea).ext E2
          refine ⟨av, hb, by rw [← ra.len]; omega, ρ', p.2, ac ++ [d'], av ++ [v], (E.trans (Ea.trans E2)).touch hD, R2.out nb hb (by simp) (by simp) (by simp), nb, upd_same, (ra2.app (.cons r2 .nil)).chg hc, el⟩
        · cases el
      · obtain ⟨nb, hb⟩ := E2.outside ha na
        rw [hd'] at el
        dsimp only at el
        exact ⟨ρ', p.2, ac, av, E.trans (Ea.trans E2), R2, nb, hb, (ra.ext Ea).ext E2, el⟩
    · rw [if_neg hok] at el
      cases el
  · -- the end
    have ei : i = w.ds.length := by omega
    subst ei
    rw [List.drop_length, lcF] at el
    by_cases hok : w.ok st = true
    · rw [if_pos hok] at el
      obtain ⟨_, h2⟩ := wk ρ st H _ E R hok
      obtain ⟨rfl, rfl⟩ : ac = acc ∧ st = st2 := by simpa using el
      exact .inl ⟨h2 (Nat.le_refl _), fin ρ H D0 E (E.add hD) (R.grow hn ⟨av, hH, ra.grow _⟩) R.len⟩
    · rw [if_neg hok] at el
      cases el
/-- what a for walks, by the interpreter -/
def ItOk (X : Cx) (N : Nm) (tg iter : Expr) (f : Fr → Sto → R (Wk × Sto × (Sto → Sto))) : Prop :=
  ∀ (ρ : List Addr) (fr : Fr) (st : Sto) (H : Hp) (σ : L2.St) (w : Wk) (st1 : Sto) (u : Sto → Sto), Rl N X.K ρ st H → Rf X.K ρ H fr σ → f fr st = .ok (w, st1, u) →
    (u = id ∧ ∃ wi, PI X tg iter wi ∧ ∀ R' : L2.It → Hp → Prop, (∀ ρ1 H1 J, Ext ρ H ρ1 H1 → Rl N X.K ρ1 st1 H1 → WalkOk N X.K ρ1 H1 J w → R' J H1) → wi σ H R') ∨
    (∃ n a kvs ws, ρ[n]? = some a ∧ st[n]? = some (.dct kvs) ∧ H a = some (.dK ws) ∧ KVs X.K ρ H kvs ws ∧ st1 = st.set n (.fdc kvs) ∧ u = (fun s => s.set n (.dct kvs)) ∧
      ∃ wi, PI X tg iter wi ∧ ∀ (od : Obj) (R' : L2.It → Hp → Prop), Rl N X.K ρ st1 (upd H a (.frz od (.dK ws))) → (∀ ρ1 H1 J, Ext ρ (upd H a (.frz od (.dK ws))) ρ1 H1 → Rl N X.K ρ1 st1 H1 → WalkOk N X.K ρ1 H1 J w → R' J H1) → wi σ (upd H a (.frz od (.dK ws))) R')
theorem Rl.lock {ρ : List Addr} {st : Sto} {H : Hp} {n : Nat} {a : Addr} {kvs : List (Kk × D)} {ws : List (Key × V)} (R : Rl N X.K ρ st H) (ha : ρ[n]? = some a) (hH : H a = some (.dK ws)) (kv : KVs X.K ρ H kvs ws) (od : Obj) : Rl N X.K ρ (st.set n (.fdc kvs)) (upd H a (.frz od (.dK ws))) :=
  R.set ha ⟨od, ws, upd_same, pairedMap (fun _ _ z => ⟨z.1, z.2.chg ⟨by simp [hH], by simp [hH], by simp [hH]⟩⟩) kv⟩
theorem Rl.unlock {ρ0 ρ : List Addr} {st : Sto} {H0 H : Hp} {n : Nat} {a : Addr} {kvs : List (Kk × D)} {ws : List (Key × V)} {od : Obj} (R : Rl N X.K ρ st H) (ha : ρ[n]? = some a) (hH : H a = some (.frz od (.dK ws))) (kv : KVs X.K ρ0 H0 kvs ws) (e : Ext ρ0 H0 ρ (upd H a (.dK ws))) : Rl N X.K ρ (st.set n (.dct kvs)) (upd H a (.dK ws)) :=
  R.set ha ⟨ws, upd_same, kv.ext e⟩
theorem swap_set {α : Type} (l : List α) (n : Nat) (x y : α) (h : n < l.length) : (l ++ [y]).set n x = l.set n x ++ [y] := by
  rw [List.set_append_left _ _ h]
theorem m_lc {tg iter elt : Expr} {ifs : List Expr} {scope : Scope} {pos : Pos} {own : List (Str × Nat)} {t : Tg} {fit : Fr → Sto → R (Wk × Sto × (Sto → Sto))} {fifs : Fr → Sto → R (Bool × Sto)} {felt : Fr → Sto → RD}
    (hc : X.calm = true) (hN : X.N.Nodup) (hi : ItOk X N tg iter fit) (ok : BlkOk X.N X.env.scope scope own) (hs : ∀ x, foldedSetIterable iter X.env x = pure x) (hslots : ∀ i ∈ slotsT t, i ∈ own.map (·.2))
    (hg : ∀ (s : Shared) (H : Hp) (C : Addr) (cl : List (Str × Addr)) (fp : List Addr), PG (X.blk s H scope (compEnvC scope cl C X.env) fp) tg (gT X.K t))
    (ht : ∀ (s : Shared) (H : Hp) (C : Addr) (cl : List (Str × Addr)) (fp : List Addr), PTs (X.blk s H scope (compEnvC scope cl C X.env) fp) ifs (tRb N X.K fifs))
    (he : ∀ (s : Shared) (H : Hp) (C : Addr) (cl : List (Str × Addr)) (fp : List Addr), PE (X.blk s H scope (compEnvC scope cl C X.env) fp) elt (tR N X.K felt)) :
    PE X (.ListComp elt [⟨tg, iter, ifs, 0⟩] scope pos) (tR N X.K fun fr st => (fit fr st).bind fun w =>
      (lcF w.1.ok (fun d st => match tgF t d (wipeF fr (own.map (·.2))) with
        | some fr2 => (fifs fr2 st).bind fun p => if p.1 then (felt fr2 p.2).bind fun q => .ok (some q.1, q.2) else .ok (none, p.2)
        | none => .no) w.1.ds [] w.2.1).bind fun q => newF (w.2.2 q.2) (.lst q.1)) := by
  refine PE.by fun σ H Q ⟨ρ, fr, st, d, st', R, F, e, P⟩ => ?_
  obtain ⟨⟨w, st1, u⟩, e1, e⟩ := MP.R.bind_eq e
  obtain ⟨⟨acc, st2⟩, e2, e⟩ := MP.R.bind_eq e
  have hturn : ∀ (ρa : List Addr) (sta : Sto) (Ha : Hp) (d : D) (x : V) (y : Option D) (stb : Sto) (K1 : VK) (K0 : Hp → Prop), Rl N X.K ρa sta Ha → Rf X.K ρa Ha (wipeF fr (own.map (·.2))) (L2.wipe σ (own.map (·.2))) → Rep X.K ρa Ha d x →
      (match tgF t d (wipeF fr (own.map (·.2))) with
        | some fr2 => (fifs fr2 sta).bind fun p => if p.1 then (felt fr2 p.2).bind fun q => .ok (some q.1, q.2) else .ok (none, p.2)
        | none => .no) = .ok (y, stb) →
      (∀ d', y = some d' → ∀ ρ' H' v, Ext ρa Ha ρ' H' → Rl N X.K ρ' stb H' → Rep X.K ρ' H' d' v → K1 v H') → (y = none → ∀ ρ' H', Ext ρa Ha ρ' H' → Rl N X.K ρ' stb H' → K0 H') →
      gT X.K t x (L2.wipe σ (own.map (·.2))) Ha fun σ2 H2 => L2.wipe σ2 (own.map (·.2)) = L2.wipe σ (own.map (·.2)) ∧ tRb N X.K fifs σ2 H2 fun b H3 => if b = true then tR N X.K felt σ2 H3 fun z H4 => K1 z H4 else K0 H3 := by
    intro ρa sta Ha d x y stb K1 K0 Ra Fa ra et k1 k0
    split at et
    · rename_i fr2 ht2
      refine read_tg t ra Fa ht2 fun σ' F' hw => ⟨by rw [hw _ hslots]; exact wipe_wipe _ _ _ fun _ h => h, ?_⟩
      obtain ⟨p, e3, et⟩ := MP.R.bind_eq et
      refine ⟨ρa, fr2, sta, p.1, p.2, Ra, F', e3, fun ρ2 H2 E2 R2 => ?_⟩
      by_cases hp : p.1 = true
      · rw [if_pos hp] at et
        obtain ⟨q, e4, et⟩ := MP.R.bind_eq et
        cases et
        rw [hp]
        exact iteT ⟨ρ2, fr2, p.2, q.1, q.2, R2, F'.ext E2, e4, fun ρ3 H3 v E3 R3 r3 => k1 _ rfl ρ3 H3 v (E2.trans E3) R3 r3⟩
      · rw [if_neg hp] at et
        cases et
        have hp' : p.1 = false := by simpa using hp
        rw [hp']
        exact iteF (k0 rfl ρ2 H2 E2 R2)
    · cases et
  rcases hi ρ fr st H σ w st1 u R F e1 with ⟨rfl, wi, pi, hwi⟩ | ⟨n, a, kvs, ws, ha, hst, hH, kv, rfl, rfl, wi, pi, hwi⟩
  · cases e
    refine ⟨_, pe_lc hc hN pi ok hg ht he hs, ?_⟩
    refine hwi _ fun ρ1 H1 J E1 R1 wk => ?_
    exact lc_walk wk R1 (F.ext E1) e2 hturn fun ρ2 H2 D0 _ E2 R2 hl => P _ _ _ (E1.trans E2) R2 (.ref (by
      show (ρ2 ++ [D0])[(id st2).length]? = some D0
      show (ρ2 ++ [D0])[st2.length]? = some D0
      rw [← hl, List.getElem?_append_right (Nat.le_refl _), Nat.sub_self]; rfl))
  · cases e
    refine ⟨_, pe_lock (pe_lc hc hN pi ok hg ht he hs), ?_⟩
    refine ⟨a, .dK ws, hH, trivial, fun od => ?_⟩
    have RL := R.lock ha hH kv od
    refine hwi od _ RL fun ρ1 H1 J E1 R1 wk => ?_
    have hcg : Chg H a := ⟨by simp [hH], by simp [hH], by simp [hH]⟩
    refine lc_walk (Q := fun v H' => H' a = some (HO.frz od (HO.dK ws)) ∧ Q v (upd H' a (HO.dK ws))) wk R1 ((F.chg hcg).ext E1) e2 hturn fun ρ2 H2 D0 E3 E2 R2 hl => ?_
    replace E3 := E1.trans E3
    replace E2 := E1.trans E2
    have hfz := E2.frzd a od ws upd_same
    refine ⟨hfz, ?_⟩
    have EU := Ext.unlock (List.mem_of_getElem? ha) hH E2
    have RU := R2.unlock (E2.ix ha) hfz kv EU
    have ln : n < st2.length := by
      rw [← hl]
      exact (List.getElem?_eq_some_iff.mp (E3.ix ha)).1
    rw [swap_set _ _ _ _ ln] at RU
    refine P _ _ _ EU RU (.ref ?_)
    show (ρ2 ++ [D0])[(st2.set n (.dct kvs)).length]? = some D0
    rw [List.length_set, ← hl, List.getElem?_append_right (Nat.le_refl _), Nat.sub_self]; rfl
end
end MP
namespace MP
open PySem PySem.Spec PyProof.Rows L2
/-- what is wanted behind an outcome -/
def PostC (N : Nm) (K : PySem.W.Frag) (D : Ends) (ρ : List Addr) (H : Hp) : C → Prop
  | .nx fr st => ∀ ρ' H' σ', Ext ρ H ρ' H' → Rl N K ρ' st H' → Rf K ρ' H' fr σ' → D.nx σ' H'
  | .rt d st => ∀ ρ' H' v, Ext ρ H ρ' H' → Rl N K ρ' st H' → Rep K ρ' H' d v → D.rt v H'
  | _ => False
def tS (N : Nm) (K : PySem.W.Frag) (f : Fr → Sto → C) : TS := fun D σ H => ∃ (ρ : List Addr) (fr : Fr) (st : Sto), Rl N K ρ st H ∧ Rf K ρ H fr σ ∧ PostC N K D ρ H (f fr st)
theorem PS.imp {X : Cx} {e : Stmt} {t t' : TS} (h : PS X e t) (i : ∀ D σ H, t' D σ H → t D σ H) : PS X e t' := ⟨fun pins s σ H D I q => h.run pins s σ H D I (i D σ H q)⟩
theorem PS.by {X : Cx} {e : Stmt} {t' : TS} (h : ∀ D σ H, t' D σ H → ∃ t, PS X e t ∧ t D σ H) : PS X e t' := ⟨fun pins s σ H D I q => let ⟨_, p, q'⟩ := h D σ H q; p.run pins s σ H D I q'⟩
theorem PSs.imp {X : Cx} {e : List Stmt} {t t' : TS} (h : PSs X e t) (i : ∀ D σ H, t' D σ H → t D σ H) : PSs X e t' := ⟨fun pins s σ H D I q => h.run pins s σ H D I (i D σ H q)⟩
section
variable {X : Cx} {N : Nm} {D : Ends} {ρ ρ1 : List Addr} {H H1 : Hp} {fe fa fb fc : Fr → Sto → RD} {e a b c : Expr}
theorem PostC.stm {α : Type} {fr : Fr} {x : R α} {f : α → C} (h : PostC N X.K D ρ H (x.stm fr f)) : ∃ a, x = .ok a ∧ PostC N X.K D ρ H (f a) := by
  cases x with
  | ok a => exact ⟨a, rfl, h⟩
  | ex c st => exact h.elim
  | no => exact h.elim
theorem PostC.after {o : C} (E : Ext ρ H ρ1 H1) (h : PostC N X.K D ρ H o) : PostC N X.K D ρ1 H1 o := by
  cases o with
  | nx fr st => exact fun ρ' H' σ' E' => h ρ' H' σ' (E.trans E')
  | rt d st => exact fun ρ' H' v E' => h ρ' H' v (E.trans E')
  | ex c fr st => exact h
  | no => exact h
theorem PostC.seq {o : C} {f : Fr → Sto → C} {nx : L2.St → Hp → Prop} (h : PostC N X.K D ρ H (o.seq f))
    (k : ∀ fr st, PostC N X.K D ρ H (f fr st) → ∀ ρ' H' σ', Ext ρ H ρ' H' → Rl N X.K ρ' st H' → Rf X.K ρ' H' fr σ' → nx σ' H') : PostC N X.K { D with nx := nx } ρ H o := by
  cases o with
  | nx fr st => exact k fr st h
  | rt d st => exact h
  | ex c fr st => exact h.elim
  | no => exact h.elim
theorem PostC.mono {o : C} {D' : Ends} (h : PostC N X.K D ρ H o) (hn : ∀ σ H, D.nx σ H → D'.nx σ H) (hr : ∀ v H, D.rt v H → D'.rt v H) : PostC N X.K D' ρ H o := by
  cases o with
  | nx fr st => exact fun ρ' H' σ' E' R' F' => hn _ _ (h ρ' H' σ' E' R' F')
  | rt d st => exact fun ρ' H' v E' R' r' => hr _ _ (h ρ' H' v E' R' r')
  | ex c fr st => exact h
  | no => exact h
theorem s_nil : PSs X [] (tS N X.K fun fr st => .nx fr st) := PSs.imp pss_nil fun D σ H ⟨ρ, fr, st, R, F, P⟩ => P ρ H σ (Ext.refl) R F
theorem s_cons {s : Stmt} {rest : List Stmt} {f g : Fr → Sto → C} (h1 : PS X s (tS N X.K f)) (h2 : PSs X rest (tS N X.K g)) : PSs X (s :: rest) (tS N X.K fun fr st => (f fr st).seq g) :=
  PSs.imp (pss_cons h1 h2) fun D σ H ⟨ρ, fr, st, R, F, P⟩ => ⟨ρ, fr, st, R, F, P.seq fun fr1 st1 P1 ρ' H' σ' E' R' F' => ⟨ρ', fr1, st1, R', F', P1.after E'⟩⟩
theorem s_pass {pos : Pos} : PS X (.Pass pos) (tS N X.K fun fr st => .nx fr st) := PS.imp ps_pass fun D σ H ⟨ρ, fr, st, R, F, P⟩ => P ρ H σ (Ext.refl) R F
theorem s_nev {s : Stmt} : PS X s (tS N X.K fun fr st => .no) := PS.imp ps_never fun D σ H ⟨ρ, fr, st, R, F, P⟩ => P.elim
theorem s_ret {pos : Pos} (he : PE X e (tR N X.K fe)) : PS X (.Return (some e) pos) (tS N X.K fun fr st => (fe fr st).stm fr fun p => .rt p.1 p.2) :=
  PS.imp (ps_ret he) fun D σ H ⟨ρ, fr, st, R, F, P⟩ => let ⟨p, e1, P⟩ := P.stm; ⟨ρ, fr, st, p.1, p.2, R, F, e1, fun ρ1 H1 v E1 R1 r1 => P ρ1 H1 v E1 R1 r1⟩
theorem s_retn {pos : Pos} : PS X (.Return none pos) (tS N X.K fun fr st => .rt .non st) :=
  PS.imp ps_retN fun D σ H ⟨ρ, fr, st, R, F, P⟩ => P ρ H .non (Ext.refl) R .non
theorem s_ex {pos : Pos} (he : PE X e (tR N X.K fe)) (hs : swapsWith e none pos.line X.env = pure false) : PS X (.Expr e pos) (tS N X.K fun fr st => (fe fr st).stm fr fun p => .nx fr p.2) :=
  PS.imp (ps_expr he hs) fun D σ H ⟨ρ, fr, st, R, F, P⟩ => let ⟨p, e1, P⟩ := P.stm; ⟨ρ, fr, st, p.1, p.2, R, F, e1, fun ρ1 H1 v E1 R1 r1 => P ρ1 H1 σ E1 R1 (F.ext E1)⟩
theorem s_if {pos : Pos} {p q : List Stmt} {f g : Fr → Sto → C} (hc : PT X c (tRb N X.K (tst fc))) (hp : PSs X p (tS N X.K f)) (hq : PSs X q (tS N X.K g)) :
    PS X (.If c p q pos) (tS N X.K fun fr st => (testF (fc fr st)).stm fr fun p => if p.1 then f fr p.2 else g fr p.2) :=
  PS.imp (ps_if hc hp hq) fun D σ H ⟨ρ, fr, st, R, F, P⟩ => let ⟨p, e1, P⟩ := P.stm; ⟨ρ, fr, st, p.1, p.2, R, F, e1, fun ρ1 H1 E1 R1 => by
    obtain ⟨k, st1⟩ := p
    cases k with
    | true => exact iteT ⟨ρ1, fr, st1, R1, F.ext E1, P.after E1⟩
    | false => exact iteF ⟨ρ1, fr, st1, R1, F.ext E1, P.after E1⟩⟩
theorem s_set {tg : Expr} {t : Tg} {pos : Pos} (he : PE X e (tR N X.K fe)) (hg : PG X tg (gT X.K t)) (hs : swapsWithSole [tg] e pos.line X.env = pure false) (hw : swappedStores [tg] e X.env = pure none)
    (h1 : (assignEach [tg] X.env).map (·.2) = [assign tg X.env]) : PS X (.Assign [tg] e pos) (tS N X.K fun fr st => (fe fr st).stm fr fun p => match tgF t p.1 fr with
      | some fr => .nx fr p.2
      | none => .no) :=
  PS.imp (ps_asg he hg hs hw h1) fun D σ H ⟨ρ, fr, st, R, F, P⟩ => let ⟨p, e1, P⟩ := P.stm; ⟨ρ, fr, st, p.1, p.2, R, F, e1, fun ρ1 H1 v E1 R1 r1 => by
    try dsimp only at P
    split at P
    · rename_i fr2 ht
      exact read_tg t r1 (F.ext E1) ht fun σ' F' _ => P ρ1 H1 σ' E1 R1 F'
    · exact P.elim⟩
/-- (a, b, ..) = a list of that length -/
def gLst (K : PySem.W.Frag) (n : Nat) (t : TGs) : TG := fun v σ H Q => ∃ a xs, v = .ref a ∧ SqL K H a xs ∧ xs.length = n ∧ t xs σ H Q
theorem pg_lst {es : List Expr} {k : Nat} {pos : Pos} {t : TGs} {n : Nat} (hc : X.calm = true) (h : PGs X es t)
    (hn : (assignEach es X.env).length = n) (hst : (assignEach es X.env).findIdx? (·.1) = none) : PG X (.Tuple es k pos) (gLst X.K n t) := by
  refine ⟨fun pins s σ H v u Q I r hw => ?_⟩
  obtain ⟨a, xs, e1, hq, hl, hw⟩ := hw
  subst e1
  cases r
  obtain ⟨its, rv, pl, hz⟩ := I.list hq
  have hs2 : (assignEach es X.env).length = its.toArray.size := by simp [hn, ← hl, rv.length]
  rw [PyProof.Rows.assign_Tuple]
  refine wpAny_bind (wpAny_standAt ?_)
  unfold PySem.unpack
  rw [hs2, hst]
  refine wpAny_bind (wpAny_holding (PySem.W.kun_itemsOf (I.ok.hd hc) pl.isList fun h' hx => ?_))
  have I1 : L2.Inv X pins σ H { s with heap := h' } := I.kept (t' := s.toks) fun b o e => hx b o (Nat.ne_of_lt (Heap.lt_size e)) e
  exact h.run pins _ σ H xs _ Q I1 (by simpa using rv) hw
theorem s_setu {es : List Expr} {kk : Nat} {tp : Pos} {ts : Tgs} {pos : Pos} (he : PE X e (tR N X.K fe)) (hg : PG X (.Tuple es kk tp) (gLst X.K (lenTs ts) (gTs X.K ts))) (hs : swapsWithSole [.Tuple es kk tp] e pos.line X.env = pure false) (hw : swappedStores [.Tuple es kk tp] e X.env = pure none)
    (h1 : (assignEach [.Tuple es kk tp] X.env).map (·.2) = [assign (.Tuple es kk tp) X.env]) : PS X (.Assign [.Tuple es kk tp] e pos) (tS N X.K fun fr st => (fe fr st).stm fr fun p => match tglF ts p.1 p.2 fr with
      | some fr => .nx fr p.2
      | none => .no) :=
  PS.imp (ps_asg he hg hs hw h1) fun D σ H ⟨ρ, fr, st, R, F, P⟩ => let ⟨p, e1, P⟩ := P.stm; ⟨ρ, fr, st, p.1, p.2, R, F, e1, fun ρ1 H1 v E1 R1 r1 => by
    try dsimp only at P
    split at P
    · rename_i fr2 ht
      unfold tglF at ht
      split at ht
      · rename_i n hd
        rw [hd] at r1
        split at ht
        · rename_i ds q
          cases r1 with
          | @ref _ a h1 =>
            obtain ⟨vs, h2, r⟩ := R1.at_ n a _ h1 q
            exact ⟨a, vs, rfl, .inl (.inl h2), by rw [← r.len]; exact tgs_len ts _ _ _ ht, read_tgs ts r (F.ext E1) ht fun σ' F' _ => P ρ1 H1 σ' E1 R1 F'⟩
        · cases ht
      · cases ht
    · exact P.elim⟩
theorem FSs.len {fs : List (Nat × MP.D)} {gs : List (Str × V)} : FSs N X.K ρ H fs gs → fs.length = gs.length := fun h => by
  induction h with
  | nil => rfl
  | cons _ _ ih => rw [List.length_cons, List.length_cons, ih]
theorem fld_put {P : Prog} {cf : Cf} {k : Nat} {mths : List Str} {x : Str} {f : Nat} {st st' : Sto} {o d : MP.D} {a v : V} (G : ClG X N P cf k mths) (hx : N.fld[f]? = some x) (R : Rl N X.K ρ st H) (r : Rep X.K ρ H o a) (rd : Rep X.K ρ H d v) (h : setFldF st o f d = some st') :
    ∃ p C dx gs, a = .ref p ∧ H p = some (.ins C dx gs) ∧ Cls X.K C ∧ NoAttr X.K C x ∧ gs.length < 1000 ∧ Ext ρ H ρ (upd H p (.ins C dx (putF x v gs))) ∧ Rl N X.K ρ st' (upd H p (.ins C dx (putF x v gs))) ∧ ∃ c, clsF st o = some c ∧ N.cls c = some C := by
  cases r with
  | @ref n p h1 =>
    simp only [setFldF] at h
    split at h
    · rename_i c fs q
      split at h
      · rename_i hl
        cases h
        obtain ⟨C, dx, gs, h2, h3, h4⟩ := R.at_ _ _ _ h1 q
        have hlen := h4.len
        obtain ⟨E, R2⟩ := R.put (u := .ins C dx (putF x v gs)) (o' := .ins c (putN f d fs)) h1 q (by simp [h3]) fun keep => ⟨C, dx, _, h2, upd_same, FSs.put G.nd hx (keep rd) (pairedMap (fun _ _ z => ⟨z.1, keep z.2⟩) h4)⟩
        exact ⟨p, C, dx, gs, rfl, h3, G.cl _ C h2, G.no _ C h2 f x hx, by omega, E, R2, c, by simp [clsF, q], h2⟩
      · cases h
    · cases h
  | _ => simp [setFldF] at h
theorem s_setfld {o : Expr} {x : Str} {f : Nat} {P : Prog} {cf : Cf} {k : Nat} {mths : List Str} {pos pos' : Pos} (G : ClG X N P cf k mths) (hx : N.fld[f]? = some x) (ha : PE X o (tR N X.K fa)) (he : PE X e (tR N X.K fe))
    (hs : swapsWith e (some (.Attribute o x pos')) pos.line X.env = pure false) : PS X (.Assign [.Attribute o x pos'] e pos) (tS N X.K fun fr st => (fe fr st).stm fr fun p => (fa fr p.2).stm fr fun q => match setFldF q.2 q.1 f p.1 with
      | some st => .nx fr st
      | none => .no) :=
  PS.imp (ps_fld ha he hs) fun D σ H ⟨ρ, fr, st, R, F, P⟩ => by
    obtain ⟨p, e1, P⟩ := P.stm
    obtain ⟨q, e2, P⟩ := P.stm
    try dsimp only at P
    split at P
    · rename_i st2 h
      refine ⟨ρ, fr, st, p.1, p.2, R, F, e1, fun ρ1 H1 v E1 R1 r1 => ⟨ρ1, fr, p.2, q.1, q.2, R1, F.ext E1, e2, fun ρ2 H2 a E2 R2 r2 => ?_⟩⟩
      obtain ⟨p', C, dx, gs, rfl, h3, h4, h5, h6, E, R3, _⟩ := fld_put G hx R2 r2 (r1.ext E2) h
      exact ⟨p', C, dx, gs, rfl, h3, h4, h5, h6, P ρ2 _ σ (E1.trans (E2.trans E)) R3 (((F.ext E1).ext E2).ext E)⟩
    · exact P.elim
theorem s_augfld {o : Expr} {x : Str} {f : Nat} {P : Prog} {cf : Cf} {k : Nat} {mths : List Str} {pos pos' : Pos} (G : ClG X N P cf k mths) (hx : N.fld[f]? = some x) (ha : PE X o (tR N X.K fa)) (he : PE X e (tR N X.K fe)) :
    PS X (.AugAssign (.Attribute o x pos') .Add e pos) (tS N X.K fun fr st => (fa fr st).stm fr fun p => (R.of (fldF p.2 p.1 f)).stm fr fun x => (fe fr p.2).stm fr fun q =>
    match x, q.1 with
    | .int i, .int j => if clsF q.2 p.1 = clsF p.2 p.1 then (match setFldF q.2 p.1 f (.int (i + j)) with
      | some st => .nx fr st
      | none => .no) else .no
    | _, _ => .no) :=
  PS.imp (ps_fldaug ha he in_add) fun D σ H ⟨ρ, fr, st, R, F, P⟩ => by
    obtain ⟨p, e1, P⟩ := P.stm
    obtain ⟨y, e2, P⟩ := P.stm
    obtain ⟨q, e3, P⟩ := P.stm
    obtain ⟨o, st1⟩ := p
    obtain ⟨d2, st3⟩ := q
    dsimp only at *
    split at P
    · rename_i i j
      split at P
      · rename_i hc
        split at P
        · rename_i st2 h
          have PK : PostC N X.K D ρ H (.nx fr st2) := P
          refine ⟨ρ, fr, st, _, _, R, F, e1, fun ρ1 H1 a E1 R1 r1 => ?_⟩
          have e4 := MP.R.of_eq e2
          cases r1 with
          | @ref n a h1 =>
            simp only [fldF] at e4
            split at e4
            · rename_i c fs q
              obtain ⟨C, dx, gs, h2, h3, h4⟩ := R1.at_ _ _ _ h1 q
              obtain ⟨u, h5, h6⟩ := h4.get G.nd hx e4
              cases h6
              refine ⟨a, C, dx, gs, _, rfl, h3, G.cl _ C h2, G.no _ C h2 f x hx, h5, ?_⟩
              refine ⟨ρ1, fr, st1, _, _, R1, F.ext E1, e3, fun ρ2 H2 v E2 R2 r2 => ?_⟩
              cases r2
              refine ⟨_, _, rfl, rfl, ?_⟩
              obtain ⟨p', C', dx', gs', hp, h3', h4', h5', h6', E, R3, c', hc', hC'⟩ := fld_put G hx R2 (.ref (E2.ix h1)) (.int _) h
              cases hp
              have ec : c' = c := by
                rw [hc', show clsF st1 (.ref n) = some c by simp [clsF, q]] at hc
                exact Option.some.inj hc
              subst ec
              rw [h2] at hC'
              cases hC'
              exact ⟨dx', gs', h3', h6', PK ρ2 _ σ (E1.trans (E2.trans E)) R3 (((F.ext E1).ext E2).ext E)⟩
            · cases e4
          | _ => simp [fldF] at e4
        · exact P.elim
      · exact P.elim
    · exact P.elim
theorem s_while {pos : Pos} {body : List Stmt} {g : Fr → Sto → C} (hp : PassesOwn (model X.prog X.w) X.A X.env X.xe) (hc : PT X c (tRb N X.K (tst fc))) (hb : PSs X body (tS N X.K g)) :
    PS X (.While c body [] pos) (tS N X.K fun fr st => whlF (fun fr st => testF (fc fr st)) g WF fr st) := by
  refine PS.imp (ps_while hp hc hb) fun D σ H ⟨ρ, fr, st, R, F, P⟩ => ?_
  have P : PostC N X.K D ρ H (whlF (fun fr st => testF (fc fr st)) g WF fr st) := P
  generalize eo : whlF (fun fr st => testF (fc fr st)) g WF fr st = o at P
  refine ⟨fun m σ1 H1 => ∃ ρ1 fr1 st1, Ext ρ H ρ1 H1 ∧ Rl N X.K ρ1 st1 H1 ∧ Rf X.K ρ1 H1 fr1 σ1 ∧ whlF (fun fr st => testF (fc fr st)) g m fr1 st1 = o, ⟨WF, ρ, fr, st, Ext.refl, R, F, eo⟩, ?_⟩
  intro m σ1 H1 ⟨ρ1, fr1, st1, E1, R1, F1, e1⟩
  cases m with
  | zero => rw [whlF] at e1; subst e1; exact P.elim
  | succ m =>
    rw [whlF] at e1
    have P1 := P.after E1
    rw [← e1] at P1
    obtain ⟨p, et, P1⟩ := P1.stm
    rw [et, MP.R.stm_ok] at e1
    refine ⟨ρ1, fr1, st1, p.1, p.2, R1, F1, et, fun ρ2 H2 E2 R2 => ?_⟩
    obtain ⟨k, st2⟩ := p
    cases k with
    | false =>
      refine iteF ?_
      exact P1 ρ2 H2 σ1 E2 R2 (F1.ext E2)
    | true =>
      refine iteT ⟨fun σ' H' => ∃ ρ1 fr1 st1, Ext ρ H ρ1 H' ∧ Rl N X.K ρ1 st1 H' ∧ Rf X.K ρ1 H' fr1 σ' ∧ whlF (fun fr st => testF (fc fr st)) g m fr1 st1 = o, fun σ' H' h => ⟨m, Nat.lt_succ_self _, h⟩, ?_⟩
      have e2 : (g fr1 st2).seq (whlF (fun fr st => testF (fc fr st)) g m) = o := e1
      refine ⟨ρ2, fr1, st2, R2, F1.ext E2, ?_⟩
      have P2 := P.after (E1.trans E2)
      cases hg : g fr1 st2 with
      | nx fr3 st3 => rw [hg] at e2; exact fun ρ3 H3 σ3 E3 R3 F3 => ⟨ρ3, fr3, st3, E1.trans (E2.trans E3), R3, F3, e2⟩
      | rt d st3 => rw [hg] at e2; rw [← e2] at P2; exact P2
      | ex c fr3 st3 => rw [hg] at e2; rw [← e2] at P2; exact P2.elim
      | no => rw [hg] at e2; rw [← e2] at P2; exact P2.elim
theorem for_walk {g : TG} {tb : TS} {ρ1 : List Addr} {st1 : Sto} {H1 : Hp} {fr : Fr} {σ : L2.St} {J : L2.It} {w : Wk} {D : Ends} {o : C} {turn : MP.D → Fr → Sto → C}
    (wk : WalkOk N X.K ρ1 H1 J w) (R1 : Rl N X.K ρ1 st1 H1) (F1 : Rf X.K ρ1 H1 fr σ) (e : forF w.ok turn w.ds fr st1 = o) (P : PostC N X.K D ρ1 H1 o)
    (hturn : ∀ (ρ : List Addr) (fr : Fr) (st : Sto) (H : Hp) (σ : L2.St) (d : MP.D) (x : V) (D' : Ends), Rl N X.K ρ st H → Rf X.K ρ H fr σ → Rep X.K ρ H d x → PostC N X.K D' ρ H (turn d fr st) → g x σ H fun σ2 H2 => tb D' σ2 H2) :
    ∃ W : Nat → Nat → L2.St → Hp → Prop, (∃ m, W 0 m σ H1) ∧ ∀ i m σ H, W i m σ H →
  (J.stop i H ∧ D.nx σ H) ∨ (J.go i H ∧ ∃ N : L2.St → Hp → Prop, (∀ σ' H', N σ' H' → ∃ m', m' < m ∧ W (i + 1) m' σ' H') ∧ ∀ x H', J.yld i H x H' → g x σ H' fun σ2 H2 => tb { D with nx := N, ct := N, bk := D.nx } σ2 H2) := by
  refine ⟨fun i m σ H => m = w.ds.length - i ∧ i ≤ w.ds.length ∧ ∃ (ρ : List Addr) (fr : Fr) (st : Sto), Ext ρ1 H1 ρ H ∧ Rl N X.K ρ st H ∧ Rf X.K ρ H fr σ ∧ forF w.ok turn (w.ds.drop i) fr st = o,
    ⟨_, rfl, Nat.zero_le _, ρ1, fr, st1, Ext.refl, R1, F1, by rw [List.drop_zero]; exact e⟩, ?_⟩
  intro i m σ H hW
  obtain ⟨rfl, hi, ρ, fr, st, E, R, F, el⟩ := hW
  have P1 := P.after E
  by_cases hlt : i < w.ds.length
  · have ed : w.ds.drop i = w.ds[i] :: w.ds.drop (i + 1) := List.drop_eq_getElem_cons hlt
    rw [ed, forF] at el
    by_cases hok : w.ok st = true
    · rw [if_pos hok] at el
      obtain ⟨h1, _⟩ := wk ρ st H i E R hok
      obtain ⟨hgo, hy⟩ := h1 w.ds[i] (List.getElem?_eq_getElem hlt)
      refine .inr ⟨hgo, fun σ' H' => ∃ (ρ : List Addr) (fr : Fr) (st : Sto), Ext ρ1 H1 ρ H' ∧ Rl N X.K ρ st H' ∧ Rf X.K ρ H' fr σ' ∧ forF w.ok turn (w.ds.drop (i + 1)) fr st = o,
        fun σ' H' h => ⟨_, by omega, rfl, by omega, h⟩, fun x H' hyl => ?_⟩
      obtain ⟨Ea, Ra, rx⟩ := hy x H' hyl
      refine hturn ρ fr st H' σ _ x _ Ra (F.ext Ea) rx ?_
      have P2 := P1.after Ea
      cases hg : turn w.ds[i] fr st with
      | nx fr3 st3 => rw [hg] at el; exact fun ρ3 H3 σ3 E3 R3 F3 => ⟨ρ3, fr3, st3, E.trans (Ea.trans E3), R3, F3, el⟩
      | rt d st3 => rw [hg] at el; rw [← el] at P2; exact P2
      | ex c fr3 st3 => rw [hg] at el; rw [← el] at P2; exact P2.elim
      | no => rw [hg] at el; rw [← el] at P2; exact P2.elim
    · rw [if_neg hok] at el
      subst el
      exact P1.elim
  · have ei : i = w.ds.length := by omega
    subst ei
    rw [List.drop_length, forF] at el
    by_cases hok : w.ok st = true
    · rw [if_pos hok] at el
      obtain ⟨_, h2⟩ := wk ρ st H _ E R hok
      rw [← el] at P1
      exact .inl ⟨h2 (Nat.le_refl _), P1 ρ H σ (Ext.refl) R F⟩
    · rw [if_neg hok] at el
      subst el
      exact P1.elim
theorem s_for {pos : Pos} {tg iter : Expr} {body : List Stmt} {t : Tg} {fit : Fr → Sto → R (Wk × Sto × (Sto → Sto))} {g : Fr → Sto → C} (hp : PassesOwn (model X.prog X.w) X.A X.env X.xe) (hc : X.calm = true) (hi : ItOk X N tg iter fit) (hg : PG X tg (gT X.K t)) (hb : PSs X body (tS N X.K g))
    (hs : ∀ x, foldedSetIterable iter X.env x = pure x) :
    PS X (.For tg iter body [] pos) (tS N X.K fun fr st => (fit fr st).stm fr fun w => (forF w.1.ok (fun d fr st => match tgF t d fr with
      | some fr => g fr st
      | none => .no) w.1.ds fr w.2.1).un w.2.2) := by
  refine PS.by fun D σ H ⟨ρ, fr, st, R, F, P⟩ => ?_
  obtain ⟨⟨w, st1, u⟩, e1, P⟩ := P.stm
  try dsimp only at P
  have hturn : ∀ (ρ : List Addr) (fr : Fr) (st : Sto) (H : Hp) (σ : L2.St) (d : MP.D) (x : V) (D' : Ends), Rl N X.K ρ st H → Rf X.K ρ H fr σ → Rep X.K ρ H d x → PostC N X.K D' ρ H (match tgF t d fr with
      | some fr => g fr st
      | none => .no) → gT X.K t x σ H fun σ2 H2 => tS N X.K g D' σ2 H2 := by
    intro ρ fr st H σ d x D' R F r P
    split at P
    · rename_i fr2 ht
      exact read_tg t r F ht fun σ' F' _ => ⟨ρ, fr2, st, R, F', P⟩
    · exact P.elim
  rcases hi ρ fr st H σ w st1 u R F e1 with ⟨rfl, wi, pi, hwi⟩ | ⟨n, a, kvs, ws, ha, hst, hH, kv, rfl, rfl, wi, pi, hwi⟩
  · have eu : ∀ o : C, o.un id = o := fun o => by cases o <;> rfl
    rw [eu] at P
    exact ⟨_, ps_for hp hc pi hg hb hs, hwi _ fun ρ1 H1 J E1 R1 wk => for_walk wk R1 (F.ext E1) rfl (P.after E1) hturn⟩
  · refine ⟨_, ps_lock (ps_for hp hc pi hg hb hs), ?_⟩
    refine ⟨a, .dK ws, hH, trivial, fun od => ?_⟩
    have RL := R.lock ha hH kv od
    have hcg : Chg H a := ⟨by simp [hH], by simp [hH], by simp [hH]⟩
    refine hwi od _ RL fun ρ1 H1 J E1 R1 wk => ?_
    refine for_walk wk R1 ((F.chg hcg).ext E1) rfl ?_ hturn
    have fz : ∀ {ρ2 : List Addr} {H2 : Hp}, Ext ρ (upd H a (.frz od (.dK ws))) ρ2 H2 → H2 a = some (.frz od (.dK ws)) := fun E2 => E2.frzd a od ws upd_same
    have cg : ∀ {ρ2 : List Addr} {H2 : Hp}, Ext ρ (upd H a (.frz od (.dK ws))) ρ2 H2 → Chg H2 a := fun E2 => ⟨by simp [fz E2], by simp [fz E2], by simp [fz E2]⟩
    generalize forF w.ok _ w.ds fr _ = o at P
    cases o with
    | nx fr3 st3 =>
      exact fun ρ2 H2 σ2 E2 R2 F2 => have E2 := E1.trans E2; ⟨fz E2, P ρ2 _ σ2 (Ext.unlock (List.mem_of_getElem? ha) hH E2) (R2.unlock (E2.ix ha) (fz E2) kv (Ext.unlock (List.mem_of_getElem? ha) hH E2)) (F2.chg (cg E2))⟩
    | rt d st3 =>
      exact fun ρ2 H2 v E2 R2 r2 => have E2 := E1.trans E2; ⟨fz E2, P ρ2 _ v (Ext.unlock (List.mem_of_getElem? ha) hH E2) (R2.unlock (E2.ix ha) (fz E2) kv (Ext.unlock (List.mem_of_getElem? ha) hH E2)) (r2.chg (cg E2))⟩
    | ex c fr3 st3 => exact P.elim
    | no => exact P.elim
end
end MP
namespace MP
open PySem
open PySem.Sem (wp)
/-- a zip, whatever it gave out -/
def ZipG (h : Heap) (z TI TO : Addr) (f0 : Value) (f : Bool) : Prop := h.get? z = some { cls := .type "zip", dict := none, data := .fields #[f0, .bool f, .bool false, .ref TI, .ref TO], slots := #[] }
/-- between two turns -/
structure ZipSt (z TI TO i1 i2 l1 l2 : Addr) (i : Nat) (h : Heap) : Prop where
  zp : ∃ f0 f, ZipG h z TI TO f0 f ∧ (f0 = .none ∨ ∃ T : Addr, f0 = rawInt T)
  ti : IsPair h TI (.ref i1) (.ref i2)
  to : ∃ a b, IsPair h TO a b
  l1 : h.IsListIter i1 l1 i
  l2 : h.IsListIter i2 l2 i
section
variable {prog : Program} {w : World} {A : Around} {E : Value → Shared → Prop} {s : Shared}
theorem load_dead {a : Addr} {Q : Option Obj → Shared → Prop} (ho : s.heap.get? a = none) (h : Q none s) : wpAny (model prog w) A (loadIfAlive a) Q E s := by
  have h' : Q (s.heap.get? a) s := by rw [ho]; exact h
  exact fun _ _ _ => h'
theorem zip_free {z TI TO : Addr} {f0 : Value} {f : Bool} {Q : Bool → Shared → Prop} (hz : ZipG s.heap z TI TO f0 f) (hf : f0 = .none ∨ ∃ T : Addr, f0 = rawInt T ∧ s.heap.get? T = none) (q : Q true s) : wpAny (model prog w) A (Builtin.SmallTypes.ownedTupleIsFree (.ref z)) Q E s := by
  unfold Builtin.SmallTypes.ownedTupleIsFree
  rcases hf with rfl | ⟨T, rfl, hT⟩
  · exact wpAny_bind (wpAny_field hz rfl (x := .none) rfl (wpAny_pure q))
  · refine wpAny_bind (wpAny_field hz rfl (x := rawInt T) rfl ?_)
    show wpAny _ _ (loadIfAlive ((T : Int).toNat) >>= _) _ _ _
    rw [Int.toNat_natCast]
    exact wpAny_bind (load_dead hT (wpAny_pure q))
theorem zipG_item {z TI TO i1 i2 l1 l2 : Addr} {f0 : Value} {f : Bool} {k1 k2 : Nat} {xs ys : Array Value} {x y a b : Value} {Q : Value → Shared → Prop} (D : ZipApart z TI TO i1 i2 l1 l2)
    (hz : ZipG s.heap z TI TO f0 f) (hf : f0 = .none ∨ ∃ T : Addr, f0 = rawInt T ∧ s.heap.get? T = none) (hTI : IsPair s.heap TI (.ref i1) (.ref i2)) (hTO : IsPair s.heap TO a b)
    (h1 : s.heap.IsListIter i1 l1 k1) (h2 : s.heap.IsListIter i2 l2 k2) (hl1 : s.heap.IsList l1 xs) (hl2 : s.heap.IsList l2 ys) (hx : xs[k1]? = some x) (hy : ys[k2]? = some y)
    (hQ : ∀ h', ZipG h' z TI TO (rawInt s.heap.objs.size) false → IsPair h' TO x y → h'.IsListIter i1 l1 (k1 + 1) → h'.IsListIter i2 l2 (k2 + 1) → IsPair h' s.heap.objs.size x y → h'.objs.size = s.heap.objs.size + 1 →
      (∀ c o, c ≠ z → c ≠ TO → c ≠ i1 → c ≠ i2 → s.heap.get? c = some o → h'.get? c = some o) → Q (.ref s.heap.objs.size) { s with heap := h' }) :
    wpAny (model prog w) A (Builtin.«zip.__next__» ⟨[.ref z], []⟩) (fun fin s' => ∃ v, fin = .done (.ret v) ∧ Q v s') E s := by
  show wpAny _ _ (field (.ref z) 2 >>= _) _ _ _
  refine wpAny_bind (wpAny_field hz rfl (x := .bool false) rfl ?_)
  show wpAny _ _ (field (.ref z) 3 >>= _) _ _ _
  refine wpAny_bind (wpAny_field hz rfl (x := .ref TI) rfl ?_)
  refine wpAny_bind (wpAny_seqItems hTI rfl ?_)
  show wpAny _ _ (Builtin.SmallTypes.ownedTupleIsFree (.ref z) >>= _) _ _ _
  refine wpAny_bind (zip_free hz hf ?_)
  simp only [if_true]
  refine wpAny_bind (wpAny_rule ?_)
  refine wpAny_bind (wpAny_field hz rfl (x := .ref TO) rfl ?_)
  refine wpAny_bind (wpAny_setField_rec hz (by simp) fun g1 z1 s1 => ?_)
  replace z1 : ZipG g1 z TI TO .ellipsis f := z1
  refine wpAny_bind ?_
  simp only [List.zipIdx_cons, List.zipIdx_nil, List.forIn_cons, List.forIn_nil]
  refine wpAny_bind (wpAny_bind (wpAny_onRaise ?_))
  show wpAny _ _ (Builtin.SmallTypes.nextOf (.ref i1) >>= _) _ _ _
  refine wpAny_bind (wpAny_nextOf_list_item (h1.extBut s1.extBut D.i1z) (hl1.extBut s1.extBut D.l1z) hx fun g2 a2 s2 => wpAny_pure ?_)
  have t2 : IsPair g2 TO a b := s2.extBut _ _ D.TOi1 (s1.extBut _ _ D.TOz hTO)
  refine wpAny_bind (wpAny_seqItems t2 rfl ?_)
  refine wpAny_bind (wpAny_updateSeq_pair t2 fun g3 t3 s3 => ?_)
  replace t3 : IsPair g3 TO x b := t3
  refine wpAny_bind (wpAny_letGo (wpAny_pure ?_))
  refine wpAny_bind (wpAny_bind (wpAny_onRaise ?_))
  show wpAny _ _ (Builtin.SmallTypes.nextOf (.ref i2) >>= _) _ _ _
  refine wpAny_bind (wpAny_nextOf_list_item (((h2.extBut s1.extBut D.i2z).extBut s2.extBut D.i12.symm).extBut s3.extBut D.TOi2.symm) (((hl2.extBut s1.extBut D.l2z).extBut s2.extBut D.l2i1).extBut s3.extBut D.l2TO) hy fun g4 a4 s4 => wpAny_pure ?_)
  have t4 : IsPair g4 TO x b := s4.extBut _ _ D.TOi2 t3
  refine wpAny_bind (wpAny_seqItems t4 rfl ?_)
  refine wpAny_bind (wpAny_updateSeq_pair t4 fun g5 t5 s5 => ?_)
  replace t5 : IsPair g5 TO x y := t5
  refine wpAny_bind (wpAny_letGo (wpAny_pure (wpAny_pure ?_)))
  refine wpAny_bind (wpAny_seqItems t5 rfl ?_)
  refine wpAny_bind (wpAny_newTuple ?_)
  have hsz : g5.objs.size = s.heap.objs.size := by rw [s5.1, s4.1, s3.1, s2.1, s1.1]
  have z5 : ZipG g5 z TI TO .ellipsis f := s5.extBut _ _ D.TOz.symm (s4.extBut _ _ D.i2z.symm (s3.extBut _ _ D.TOz.symm (s2.extBut _ _ D.i1z.symm z1)))
  have k5 : ∀ c o, c ≠ z → c ≠ TO → c ≠ i1 → c ≠ i2 → s.heap.get? c = some o → g5.get? c = some o := fun c o c1 c2 c3 c4 e => s5.extBut _ _ c2 (s4.extBut _ _ c4 (s3.extBut _ _ c2 (s2.extBut _ _ c3 (s1.extBut _ _ c1 e))))
  have b1 : g5.IsListIter i1 l1 (k1 + 1) := ((a2.extBut s3.extBut D.TOi1.symm).extBut s4.extBut D.i12).extBut s5.extBut D.TOi1.symm
  have b2 : g5.IsListIter i2 l2 (k2 + 1) := a4.extBut s5.extBut D.TOi2.symm
  have zl : z < g5.objs.size := Heap.lt_size z5
  show wpAny _ _ (Builtin.SmallTypes.ownedTupleHandOut (.ref z) (.ref g5.objs.size) >>= _) _ _ _
  refine wpAny_bind ?_
  unfold Builtin.SmallTypes.ownedTupleHandOut
  have z6 : ZipG (g5.push { cls := .type "tuple", data := .seq #[x, y] }) z TI TO .ellipsis f := Heap.get?_push_of_some _ z5
  refine wpAny_bind (wpAny_setField_rec z6 (by simp) fun g7 z7 s7 => ?_)
  replace z7 : ZipG g7 z TI TO (rawInt g5.objs.size) f := z7
  refine wpAny_setField_rec z7 (by simp) fun g8 z8 s8 => ?_
  replace z8 : ZipG g8 z TI TO (rawInt g5.objs.size) false := z8
  have up : ∀ c o, c ≠ z → g5.get? c = some o → g8.get? c = some o := fun c o c1 e => s8.extBut _ _ c1 (s7.extBut _ _ c1 (Heap.get?_push_of_some _ e))
  have t8 : IsPair g8 g5.objs.size x y := s8.extBut _ _ (Nat.ne_of_gt zl) (s7.extBut _ _ (Nat.ne_of_gt zl) (Heap.get?_push_size _ rfl))
  have n8 : g8.objs.size = g5.objs.size + 1 := by rw [s8.1, s7.1, Heap.size_push]
  rw [hsz] at z8 t8 n8
  refine wpAny_pure ⟨_, rfl, ?_⟩
  show Q (.ref g5.objs.size) _
  rw [hsz]
  exact hQ g8 z8 (up _ _ D.TOz t5) (b1.at fun o e => up _ o D.i1z e) (b2.at fun o e => up _ o D.i2z e) t8 n8 fun c o c1 c2 c3 c4 e => up c o c1 (k5 c o c1 c2 c3 c4 e)
theorem zipG_end {z TI TO i1 i2 l1 l2 : Addr} {f0 : Value} {f : Bool} {k1 k2 : Nat} {xs ys : Array Value} {a b : Value} {Q : Fin → Shared → Prop} (hh : A.handled = none) (D : ZipApart z TI TO i1 i2 l1 l2)
    (hz : ZipG s.heap z TI TO f0 f) (hf : f0 = .none ∨ ∃ T : Addr, f0 = rawInt T ∧ s.heap.get? T = none) (hTI : IsPair s.heap TI (.ref i1) (.ref i2)) (hTO : IsPair s.heap TO a b)
    (h1 : s.heap.IsListIter i1 l1 k1) (h2 : s.heap.IsListIter i2 l2 k2) (hl1 : s.heap.IsList l1 xs) (hl2 : s.heap.IsList l2 ys) (hend : xs[k1]? = none ∨ ys[k2]? = none)
    (hE : ∀ h' e, (∀ c o, c ≠ z → c ≠ TO → c ≠ i1 → c ≠ i2 → s.heap.get? c = some o → h'.get? c = some o) → (∃ o, h'.get? e = some o ∧ o.cls = .type "StopIteration") → E (.ref e) { s with heap := h' }) :
    wpAny (model prog w) A (Builtin.«zip.__next__» ⟨[.ref z], []⟩) Q E s := by
  show wpAny _ _ (field (.ref z) 2 >>= _) _ _ _
  refine wpAny_bind (wpAny_field hz rfl (x := .bool false) rfl ?_)
  show wpAny _ _ (field (.ref z) 3 >>= _) _ _ _
  refine wpAny_bind (wpAny_field hz rfl (x := .ref TI) rfl ?_)
  refine wpAny_bind (wpAny_seqItems hTI rfl ?_)
  show wpAny _ _ (Builtin.SmallTypes.ownedTupleIsFree (.ref z) >>= _) _ _ _
  refine wpAny_bind (zip_free hz hf ?_)
  simp only [if_true]
  refine wpAny_bind (wpAny_rule ?_)
  refine wpAny_bind (wpAny_field hz rfl (x := .ref TO) rfl ?_)
  refine wpAny_bind (wpAny_setField_rec hz (by simp) fun g1 z1 s1 => ?_)
  replace z1 : ZipG g1 z TI TO .ellipsis f := z1
  refine wpAny_bind ?_
  simp only [List.zipIdx_cons, List.zipIdx_nil, List.forIn_cons, List.forIn_nil]
  refine wpAny_bind (wpAny_bind (wpAny_onRaise ?_))
  show wpAny _ _ (Builtin.SmallTypes.nextOf (.ref i1) >>= _) _ _ _
  have fin : ∀ g e (k : ∀ c o, c ≠ z → c ≠ TO → c ≠ i1 → c ≠ i2 → s.heap.get? c = some o → g.get? c = some o) (zg : ZipG g z TI TO .ellipsis f) (he : ∃ o, g.get? e = some o ∧ o.cls = .type "StopIteration"), ∀ g', Heap.SameBut z g g' → E (.ref e) { s with heap := g' } := fun g e k zg he g' sb => by
    obtain ⟨oe, h3, h4⟩ := he
    have hez : e ≠ z := fun x => by subst x; unfold ZipG at zg; rw [zg] at h3; cases h3; simp at h4
    exact hE g' e (fun c o c1 c2 c3 c4 x => sb.extBut _ _ c1 (k c o c1 c2 c3 c4 x)) ⟨oe, sb.extBut _ _ hez h3, h4⟩
  cases hx : xs[k1]? with
  | none =>
    refine wpAny_bind (wpAny_nextOf_list_end hh (h1.extBut s1.extBut D.i1z) (hl1.extBut s1.extBut D.l1z) hx fun g2 e s2 he => ?_)
    have z2 : ZipG g2 z TI TO .ellipsis f := s2 _ _ D.i1z.symm z1
    refine wpAny_setField_rec z2 (by simp) fun g3 _ s3 => fin g2 e (fun c o c1 _ c3 _ x => s2 _ _ c3 (s1.extBut _ _ c1 x)) z2 he g3 s3
  | some x =>
    have hy : ys[k2]? = none := by rcases hend with h | h; rw [hx] at h; cases h; exact h
    refine wpAny_bind (wpAny_nextOf_list_item (h1.extBut s1.extBut D.i1z) (hl1.extBut s1.extBut D.l1z) hx fun g2 a2 s2 => wpAny_pure ?_)
    have t2 : IsPair g2 TO a b := s2.extBut _ _ D.TOi1 (s1.extBut _ _ D.TOz hTO)
    refine wpAny_bind (wpAny_seqItems t2 rfl ?_)
    refine wpAny_bind (wpAny_updateSeq_pair t2 fun g3 t3 s3 => ?_)
    refine wpAny_bind (wpAny_letGo (wpAny_pure ?_))
    refine wpAny_bind (wpAny_bind (wpAny_onRaise ?_))
    show wpAny _ _ (Builtin.SmallTypes.nextOf (.ref i2) >>= _) _ _ _
    refine wpAny_bind (wpAny_nextOf_list_end hh (((h2.extBut s1.extBut D.i2z).extBut s2.extBut D.i12.symm).extBut s3.extBut D.TOi2.symm) (((hl2.extBut s1.extBut D.l2z).extBut s2.extBut D.l2i1).extBut s3.extBut D.l2TO) hy fun g4 e s4 he => ?_)
    have z4 : ZipG g4 z TI TO .ellipsis f := s4 _ _ D.i2z.symm (s3.extBut _ _ D.TOz.symm (s2.extBut _ _ D.i1z.symm z1))
    refine wpAny_setField_rec z4 (by simp) fun g5 _ s5 => fin g4 e (fun c o c1 c2 c3 c4 x => s4 _ _ c4 (s3.extBut _ _ c2 (s2.extBut _ _ c3 (s1.extBut _ _ c1 x)))) z4 he g5 s5
/-- zip's next, between any two turns -/
theorem nextZ_item {z TI TO i1 i2 l1 l2 : Addr} {i : Nat} {xs ys : Array Value} {x y : Value} {Q : Value → Shared → Prop} (D : ZipApart z TI TO i1 i2 l1 l2) (st : ZipSt z TI TO i1 i2 l1 l2 i s.heap) (hl1 : s.heap.IsList l1 xs) (hl2 : s.heap.IsList l2 ys) (hx : xs[i]? = some x) (hy : ys[i]? = some y)
    (hQ : ∀ h', ZipSt z TI TO i1 i2 l1 l2 (i + 1) h' → IsPair h' s.heap.objs.size x y → h'.objs.size = s.heap.objs.size + 1 → (∀ c o, c ≠ z → c ≠ TO → c ≠ i1 → c ≠ i2 → s.heap.get? c = some o → h'.get? c = some o) → Q (.ref s.heap.objs.size) { s with heap := h' }) :
    wpAny (model prog w) A (Builtin.SmallTypes.nextOf (.ref z)) Q E s := by
  obtain ⟨⟨f0, f, hz, hf⟩, hTI, ⟨a, b, hTO⟩, h1, h2⟩ := st
  have hT : s.TypeIs (.ref z) "zip" := ⟨_, hz, rfl⟩
  unfold Builtin.SmallTypes.nextOf
  refine wpAny_bind (wpAny_callSpecial?_slot (name := Str.ofString "__next__") hT F.slot_zip_next (wpAny_call_entry F.slot_zip_next hT F.entry_zip_next ?_ (F.args_zip_next_1 _)))
  have free : (f0 = .none ∨ ∃ T : Addr, f0 = rawInt T ∧ s.heap.get? T = none) → wpAny (model prog w) A.in1 (Builtin.«zip.__next__» ⟨[.ref z], []⟩) (fun fin s' => ∃ v, fin = .done (.ret v) ∧ wpAny (model prog w) A (match some v with | some v => pure v | none => do rule "iternext.gone"; raiseError "TypeError" s!"'{← typeNameOf (.ref z)}' object is not iterable") Q E s') E s := fun hf => by
    refine zipG_item D hz hf hTI hTO h1 h2 hl1 hl2 hx hy fun h' c1 c2 c3 c4 c5 c6 c7 => wpAny_pure (hQ h' ⟨⟨_, _, c1, .inr ⟨_, rfl⟩⟩, ?_, ⟨_, _, c2⟩, c3, c4⟩ c5 c6 c7)
    exact c7 _ _ D.TIz D.TITO D.TIi1 D.TIi2 hTI
  rcases hf with rfl | ⟨T, rfl⟩
  · exact free (.inl rfl)
  · cases hT' : s.heap.get? T with
    | none => exact free (.inr ⟨T, rfl, hT'⟩)
    | some oT =>
      refine zip_next_item_held D hz hT' hTI h1 h2 hl1 hl2 hx hy fun h' c1 c3 c4 c5 c6 c7 => wpAny_pure (hQ h' ⟨⟨_, _, c1, .inr ⟨_, rfl⟩⟩, ?_, ⟨a, b, ?_⟩, c3, c4⟩ c5 c6 fun c o d1 _ d3 d4 e => c7 c o d1 d3 d4 e)
      · exact c7 _ _ D.TIz D.TIi1 D.TIi2 hTI
      · exact c7 _ _ D.TOz D.TOi1 D.TOi2 hTO
theorem nextZ_end {z TI TO i1 i2 l1 l2 : Addr} {i : Nat} {xs ys : Array Value} {Q : Value → Shared → Prop} (hh : A.handled = none) (D : ZipApart z TI TO i1 i2 l1 l2) (st : ZipSt z TI TO i1 i2 l1 l2 i s.heap) (hl1 : s.heap.IsList l1 xs) (hl2 : s.heap.IsList l2 ys) (hend : xs[i]? = none ∨ ys[i]? = none)
    (hE : ∀ h' e, (∀ c o, c ≠ z → c ≠ TO → c ≠ i1 → c ≠ i2 → s.heap.get? c = some o → h'.get? c = some o) → (∃ o, h'.get? e = some o ∧ o.cls = .type "StopIteration") → E (.ref e) { s with heap := h' }) :
    wpAny (model prog w) A (Builtin.SmallTypes.nextOf (.ref z)) Q E s := by
  obtain ⟨⟨f0, f, hz, hf⟩, hTI, ⟨a, b, hTO⟩, h1, h2⟩ := st
  have hT : s.TypeIs (.ref z) "zip" := ⟨_, hz, rfl⟩
  unfold Builtin.SmallTypes.nextOf
  refine wpAny_bind (wpAny_callSpecial?_slot (name := Str.ofString "__next__") hT F.slot_zip_next (wpAny_call_entry F.slot_zip_next hT F.entry_zip_next ?_ (F.args_zip_next_1 _)))
  have hh' : A.in1.handled = none := hh
  rcases hf with rfl | ⟨T, rfl⟩
  · exact zipG_end hh' D hz (.inl rfl) hTI hTO h1 h2 hl1 hl2 hend hE
  · cases hT' : s.heap.get? T with
    | none => exact zipG_end hh' D hz (.inr ⟨T, rfl, hT'⟩) hTI hTO h1 h2 hl1 hl2 hend hE
    | some oT => exact zip_next_end_held hh' D hz hT' hTI h1 h2 hl1 hl2 hend fun h' e k he => hE h' e (fun c o d1 _ d3 d4 x => k c o d1 d3 d4 x) he
theorem ZipSt.keep {z TI TO i1 i2 l1 l2 : Addr} {i : Nat} {h h' : Heap} (st : ZipSt z TI TO i1 i2 l1 l2 i h) (k : ∀ b ∈ [z, TI, TO, i1, i2], ∀ o, h.get? b = some o → h'.get? b = some o) : ZipSt z TI TO i1 i2 l1 l2 i h' := by
  obtain ⟨⟨f0, f, hz, hf⟩, hTI, ⟨a, b, hTO⟩, h1, h2⟩ := st
  exact ⟨⟨f0, f, k z (by simp) _ hz, hf⟩, k TI (by simp) _ hTI, ⟨a, b, k TO (by simp) _ hTO⟩, h1.at fun o q => k i1 (by simp) o q, h2.at fun o q => k i2 (by simp) o q⟩
theorem enumZ_item {e z TI TO i1 i2 l1 l2 : Addr} {i : Nat} {xs ys : Array Value} {x y old : Value} {Q : Option Value → Shared → Prop} (D : ZipApart z TI TO i1 i2 l1 l2) (he : IsEnum s.heap e z i old) (st : ZipSt z TI TO i1 i2 l1 l2 i s.heap) (hl1 : s.heap.IsList l1 xs) (hl2 : s.heap.IsList l2 ys) (hx : xs[i]? = some x) (hy : ys[i]? = some y) (hef : e ∉ [z, TI, TO, i1, i2])
    (hQ : ∀ h', IsEnumOut h' e z ((i : Int) + 1) (.ref s.heap.objs.size) (s.heap.objs.size + 1) → ZipSt z TI TO i1 i2 l1 l2 (i + 1) h' → IsPair h' s.heap.objs.size x y → IsPair h' (s.heap.objs.size + 1) (.int i s.toks) (.ref s.heap.objs.size) → h'.objs.size = s.heap.objs.size + 2 →
      (∀ c o, c ∉ [e, z, TO, i1, i2] → s.heap.get? c = some o → h'.get? c = some o) → Q (some (.ref (s.heap.objs.size + 1))) { s with heap := h', toks := s.toks + 1 }) :
    wpAny (model prog w) A (pyNext (.ref e)) Q E s := by
  have hT : s.TypeIs (.ref e) "enumerate" := ⟨_, he, rfl⟩
  have he1 : e ≠ z ∧ e ≠ TI ∧ e ≠ TO ∧ e ≠ i1 ∧ e ≠ i2 := by simpa using hef
  unfold pyNext
  refine wpAny_bind (wpAny_attempt (wpAny_callSpecial?_slot (name := Str.ofString "__next__") hT F.slot_enumerate_next
    (wpAny_call_entry F.slot_enumerate_next hT F.entry_enumerate_next ?_ (F.args_enumerate_next_1 _))))
  obtain ⟨hp, g, d, tk, os⟩ := s
  show wpAny _ _ (field (.ref e) 2 >>= _) _ _ _
  refine wpAny_bind (wpAny_field he rfl (x := .ref z) rfl ?_)
  refine wpAny_bind (nextZ_item D st hl1 hl2 hx hy fun g1 st1 t1 n1 k1 => ?_)
  replace n1 : g1.objs.size = hp.objs.size + 1 := n1
  replace k1 : ∀ c o, c ≠ z → c ≠ TO → c ≠ i1 → c ≠ i2 → hp.get? c = some o → g1.get? c = some o := k1
  have e1 : IsEnum g1 e z i old := k1 e _ he1.1 he1.2.2.1 he1.2.2.2.1 he1.2.2.2.2 he
  show wpAny _ _ (field (.ref e) 3 >>= _) _ _ ⟨g1, g, d, tk, os⟩
  refine wpAny_bind (wpAny_field e1 rfl (x := rawInt i) rfl ?_)
  show wpAny _ _ (field (.ref e) 4 >>= _) _ _ ⟨g1, g, d, tk, os⟩
  refine wpAny_bind (wpAny_field e1 rfl (x := .none) rfl ?_)
  show wpAny _ _ (mkInt i >>= _) _ _ ⟨g1, g, d, tk, os⟩
  refine wpAny_bind (wpAny_mkInt ?_)
  show wpAny _ _ (setField (.ref e) 3 (rawInt ((i : Int) + 1)) >>= _) _ _ ⟨g1, g, d, tk + 1, os⟩
  refine wpAny_bind (wpAny_setField_rec e1 (by simp) fun g2 e2 s2 => ?_)
  replace s2 : Heap.SameBut e g1 g2 := s2
  replace e2 : IsEnum g2 e z ((i : Int) + 1) old := e2
  show wpAny _ _ (setField (.ref e) 4 .none >>= _) _ _ ⟨g2, g, d, tk + 1, os⟩
  refine wpAny_bind (wpAny_setField_rec e2 (by simp) fun g3 e3 s3 => ?_)
  replace s3 : Heap.SameBut e g2 g3 := s3
  replace e3 : IsEnum g3 e z ((i : Int) + 1) old := e3
  show wpAny _ _ (newTuple [.int i tk, .ref hp.objs.size] >>= _) _ _ ⟨g3, g, d, tk + 1, os⟩
  refine wpAny_bind (wpAny_newTuple ?_)
  have n3 : g3.objs.size = hp.objs.size + 1 := by rw [s3.1, s2.1, n1]
  have el : e < hp.objs.size := Heap.lt_size he
  have e4 : IsEnum (g3.push { cls := .type "tuple", data := .seq #[.int i tk, .ref hp.objs.size] }) e z ((i : Int) + 1) old := Heap.get?_push_of_some _ e3
  have t4 : IsPair (g3.push { cls := .type "tuple", data := .seq #[.int i tk, .ref hp.objs.size] }) (hp.objs.size + 1) (.int i tk) (.ref hp.objs.size) := by rw [← n3]; exact Heap.get?_push_size _ rfl
  have n4 : (g3.push { cls := .type "tuple", data := .seq #[.int i tk, .ref hp.objs.size] }).objs.size = hp.objs.size + 2 := by rw [Heap.size_push, n3]
  have k4 : ∀ c o, c ≠ e → g1.get? c = some o → (g3.push { cls := .type "tuple", data := .seq #[.int i tk, .ref hp.objs.size] }).get? c = some o := fun c o hc x => Heap.get?_push_of_some _ (s3.extBut c o hc (s2.extBut c o hc x))
  show wpAny _ _ (Builtin.SmallTypes.ownedTupleIsFree (.ref e) >>= _) _ _ ⟨g3.push { cls := .type "tuple", data := .seq #[.int i tk, .ref hp.objs.size] }, g, d, tk + 1, os⟩
  rw [n3]
  generalize g3.push { cls := .type "tuple", data := .seq #[.int i tk, .ref hp.objs.size] } = g4 at e4 t4 n4 k4
  clear e3 s3 e2 s2 n3
  refine wpAny_bind ?_
  unfold Builtin.SmallTypes.ownedTupleIsFree
  refine wpAny_bind (wpAny_field e4 rfl (x := .none) rfl (wpAny_pure ?_))
  simp only [if_true]
  refine wpAny_bind (wpAny_rule ?_)
  refine wpAny_bind (wpAny_field e4 rfl (x := old) rfl ?_)
  refine wpAny_bind (wpAny_setField_rec e4 (by simp) fun g5 e5 s5 => ?_)
  replace s5 : Heap.SameBut e g4 g5 := s5
  replace e5 : IsEnum g5 e z ((i : Int) + 1) (.ref hp.objs.size) := e5
  show wpAny _ _ (Builtin.SmallTypes.ownedTupleHandOut (.ref e) (.ref (hp.objs.size + 1)) >>= _) _ _ ⟨g5, g, d, tk + 1, os⟩
  refine wpAny_bind ?_
  unfold Builtin.SmallTypes.ownedTupleHandOut
  refine wpAny_bind (wpAny_setField_rec e5 (by simp) fun g6 e6 s6 => ?_)
  replace s6 : Heap.SameBut e g5 g6 := s6
  replace e6 : IsEnumOut g6 e z ((i : Int) + 1) (.ref hp.objs.size) (hp.objs.size + 1) := e6
  refine wpAny_setField_rec e6 (by simp) fun g7 e7 s7 => ?_
  replace s7 : Heap.SameBut e g6 g7 := s7
  replace e7 : IsEnumOut g7 e z ((i : Int) + 1) (.ref hp.objs.size) (hp.objs.size + 1) := e7
  have k7 : ∀ c o, c ≠ e → g4.get? c = some o → g7.get? c = some o := fun c o hc x => s7.extBut c o hc (s6.extBut c o hc (s5.extBut c o hc x))
  refine wpAny_bind (wpAny_letGo (wpAny_pure ⟨_, rfl, wpAny_pure (hQ g7 e7 ?_ ?_ ?_ ?_ ?_)⟩))
  · refine st1.keep fun b hb o x => ?_
    have hbe : b ≠ e := fun q => hef (q ▸ hb)
    exact k7 b o hbe (k4 b o hbe x)
  · exact k7 _ _ (Nat.ne_of_gt el) (k4 _ _ (Nat.ne_of_gt el) t1)
  · exact k7 _ _ (Nat.ne_of_gt (Nat.lt_succ_of_lt el)) t4
  · show g7.objs.size = hp.objs.size + 2
    rw [s7.1, s6.1, s5.1, n4]
  · intro c o hc x
    have hc' : c ≠ e ∧ c ≠ z ∧ c ≠ TO ∧ c ≠ i1 ∧ c ≠ i2 := by simpa using hc
    exact k7 c o hc'.1 (k4 c o hc'.1 (k1 c o hc'.2.1 hc'.2.2.1 hc'.2.2.2.1 hc'.2.2.2.2 x))
theorem enumZ_end {e z TI TO i1 i2 l1 l2 : Addr} {i : Nat} {xs ys : Array Value} {old : Value} {Q : Option Value → Shared → Prop} (hh : A.handled = none) (D : ZipApart z TI TO i1 i2 l1 l2) (he : IsEnum s.heap e z i old) (st : ZipSt z TI TO i1 i2 l1 l2 i s.heap) (hl1 : s.heap.IsList l1 xs) (hl2 : s.heap.IsList l2 ys) (hend : xs[i]? = none ∨ ys[i]? = none)
    (hQ : ∀ h', (∀ c o, c ∉ [z, TO, i1, i2] → s.heap.get? c = some o → h'.get? c = some o) → Q none { s with heap := h' }) : wpAny (model prog w) A (pyNext (.ref e)) Q E s := by
  have hT : s.TypeIs (.ref e) "enumerate" := ⟨_, he, rfl⟩
  unfold pyNext
  refine wpAny_bind (wpAny_attempt (wpAny_callSpecial?_slot (name := Str.ofString "__next__") hT F.slot_enumerate_next
    (wpAny_call_entry F.slot_enumerate_next hT F.entry_enumerate_next ?_ (F.args_enumerate_next_1 _))))
  show wpAny _ _ (field (.ref e) 2 >>= _) _ _ _
  refine wpAny_bind (wpAny_field he rfl (x := .ref z) rfl ?_)
  refine wpAny_bind (nextZ_end hh D st hl1 hl2 hend fun h' x he' hx' => ?_)
  obtain ⟨o, ho, hc⟩ := hx'
  refine wpAny_bind (wpAny_isInstance (T := "StopIteration") (b := true) ⟨o, ho, hc⟩ isSubtype_stop ?_)
  exact wpAny_pure (hQ _ fun c o hc y => by
    have hc' : c ≠ z ∧ c ≠ TO ∧ c ≠ i1 ∧ c ≠ i2 := by simpa using hc
    exact he' c o hc'.1 hc'.2.1 hc'.2.2.1 hc'.2.2.2 y)
end
end MP
namespace MP
open PySem PySem.Spec PyProof.Rows L2
/-- the lists at a and b as they stand at each turn, numbered pairs of new pairs -/
def Itez (K : PySem.W.Frag) (a b : Addr) : L2.It :=
  ⟨fun i H => ∃ (xs ys : List V) (x y : V), SqL K H a xs ∧ SqL K H b ys ∧ xs[i]? = some x ∧ ys[i]? = some y,
    fun i H v H' => ∃ T U x y, v = .ref U ∧ H T = none ∧ H U = none ∧ T ≠ U ∧ H' = upd (upd H T (.tup [x, y])) U (.tup [.int (i : Nat), .ref T]) ∧ (∀ xs, SqL K H a xs → xs[i]? = some x) ∧ ∀ ys, SqL K H b ys → ys[i]? = some y,
    fun i H => ∃ xs ys : List V, SqL K H a xs ∧ SqL K H b ys ∧ (xs.length ≤ i ∨ ys.length ≤ i)⟩
theorem turn_ezip {P : Program} {w : World} {K : PySem.W.Frag} {elts : List Expr} {kk : Nat} {tpos : Pos} {a b e z TI TO i1 i2 : Addr} (D : ZipApart z TI TO i1 i2 a b) (hef : e ∉ [z, TI, TO, i1, i2]) :
    Turn P w K (.Tuple elts kk tpos) (Itez K a b) [e, z, TI, TO, i1, i2] e (fun i h => (∃ old, IsEnum h e z ((i : Nat) : Int) old) ∧ ZipSt z TI TO i1 i2 a b i h) where
  mem := by simp
  obj := fun i h st c hc => by
    obtain ⟨⟨old, he⟩, ⟨f0, f, hz, _⟩, hTI, ⟨x, y, hTO⟩, ⟨o1, e1, _, d1⟩, ⟨o2, e2, _, d2⟩⟩ := st
    have e' : c = e ∨ c = z ∨ c = TI ∨ c = TO ∨ c = i1 ∨ c = i2 := by simpa using hc
    rcases e' with q | q | q | q | q | q
    · rw [q]; exact ⟨_, he, fun v q => nomatch q⟩
    · rw [q]; exact ⟨_, hz, fun v q => nomatch q⟩
    · rw [q]; exact ⟨_, hTI, fun v q => nomatch q⟩
    · rw [q]; exact ⟨_, hTO, fun v q => nomatch q⟩
    · rw [q]; exact ⟨o1, e1, fun v q => by rw [d1] at q; cases q⟩
    · rw [q]; exact ⟨o2, e2, fun v q => by rw [d2] at q; cases q⟩
  keep := fun i h h' st k => ⟨let ⟨old, he⟩ := st.1; ⟨old, k e (by simp) _ he⟩, st.2.keep fun b hb o q => k b (List.mem_cons_of_mem _ hb) o q⟩
  item := by
    intro X hP hw hK hc i pins s σ H E I hf st hg
    subst hP hw hK
    obtain ⟨⟨old, he⟩, sz⟩ := st
    obtain ⟨xs, ys, x, y, hqx, hqy, hx, hy⟩ := hg
    obtain ⟨its, rv, p, _⟩ := I.list hqx
    obtain ⟨its2, rv2, p2, _⟩ := I.list hqy
    obtain ⟨u, hu, ru⟩ := rv.get hx
    obtain ⟨u2, hu2, ru2⟩ := rv2.get hy
    have lts : ∀ c ∈ [e, z, TI, TO, i1, i2], c < s.heap.objs.size := fun c hcm => by
      obtain ⟨⟨f0, f, hz, _⟩, hTI, ⟨a, b, hTO⟩, ⟨o1, e1, _⟩, ⟨o2, e2, _⟩⟩ := sz
      have e' : c = e ∨ c = z ∨ c = TI ∨ c = TO ∨ c = i1 ∨ c = i2 := by simpa using hcm
      rcases e' with q | q | q | q | q | q
      · rw [q]; exact Heap.lt_size he
      · rw [q]; exact Heap.lt_size hz
      · rw [q]; exact Heap.lt_size hTI
      · rw [q]; exact Heap.lt_size hTO
      · rw [q]; exact Heap.lt_size e1
      · rw [q]; exact Heap.lt_size e2
    have hel : e < s.heap.objs.size := Heap.lt_size he
    refine enumZ_item D he sz p.isList p2.isList (x := u) (y := u2) (by simpa using hu) (by simpa using hu2) hef fun h' ho st' t1 t2 hsz hk => ?_
    refine ⟨_, rfl, wpAny_letOwnedTupleGo_enum (s := { s with heap := h', toks := s.toks + 1 }) ho fun h'' he' sb => ?_⟩
    have new1 : ObjOk X.prog X.w (upd H s.heap.objs.size (.tup [x, y])) (s.heap.push { cls := .type "tuple", data := .seq #[u, u2] }) s.heap.objs.size (.tup [x, y]) :=
      ⟨by show 2 ≤ sizeLine; decide, [u, u2], .cons ru (.cons ru2 .nil), ⟨_, Heap.get?_push_size _ rfl, rfl, _, rfl⟩⟩
    have I0 : Inv X pins σ (upd H s.heap.objs.size (.tup [x, y])) { s with heap := s.heap.push { cls := .type "tuple", data := .seq #[u, u2] } } := I.laid (t' := s.toks) (fun b ob q => Heap.get?_push_of_some _ q) (Nat.le_refl _) new1
    have q1 : h''.get? s.heap.objs.size = some { cls := .type "tuple", data := .seq #[u, u2] } := (sb.2 _ (Nat.ne_of_gt hel)).trans t1
    have q2 : h''.get? (s.heap.objs.size + 1) = some { cls := .type "tuple", data := .seq #[.int i s.toks, .ref s.heap.objs.size] } := (sb.2 _ (Nat.ne_of_gt (Nat.lt_succ_of_lt hel))).trans t2
    have new2 : ObjOk X.prog X.w (upd (upd H s.heap.objs.size (.tup [x, y])) (s.heap.objs.size + 1) (.tup [.int (i : Nat), .ref s.heap.objs.size])) h'' (s.heap.objs.size + 1) (.tup [.int (i : Nat), .ref s.heap.objs.size]) :=
      ⟨by show 2 ≤ sizeLine; decide, [.int i s.toks, .ref s.heap.objs.size], .cons ⟨_, rfl⟩ (.cons rfl .nil), ⟨_, q2, rfl, _, rfl⟩⟩
    have hf0 : ∀ b ∈ [e, z, TI, TO, i1, i2], FpOk X pins (upd H s.heap.objs.size (.tup [x, y])) b := fun b hb => ⟨by rw [upd_ne (Nat.ne_of_lt (lts b hb))]; exact (hf b hb).1, (hf b hb).2⟩
    have hk0 : ∀ b o, b ∉ [e, z, TI, TO, i1, i2] → (s.heap.push { cls := .type "tuple", data := .seq #[u, u2] }).get? b = some o → h''.get? b = some o := fun b o hb q => by
      have hbe : b ≠ e := fun x => hb (by simp [x])
      rcases Heap.get?_push_cases q with ⟨rfl, rfl⟩ | q'
      · exact q1
      · exact (sb.2 b hbe).trans (hk b o (fun x => hb (by simp at x ⊢; rcases x with x | x | x | x | x <;> simp [x])) q')
    have I1 := I0.turnedNew (t' := s.toks + 1) (ch := [e, z, TI, TO, i1, i2]) hk0 hf0 (by show (s.heap.push _).objs.size ≤ _; rw [Heap.size_push]; exact Nat.le_refl _) new2
    refine ⟨.ref (s.heap.objs.size + 1), _, I1, rfl, ⟨_, _, x, y, rfl, I.hok.fresh (Nat.le_refl _), I.hok.fresh (Nat.le_succ _), Nat.ne_of_lt (Nat.lt_succ_self _), rfl, fun l hl => by rw [I.list_inj hl hqx]; exact hx, fun l hl => by rw [I.list_inj hl hqy]; exact hy⟩, ⟨⟨.ref s.heap.objs.size, ?_⟩, st'.keep fun c hcm o q => (sb.2 c fun x => hef (x ▸ hcm)).trans q⟩, fun c hcm => ?_⟩
    · have e1 : ((i + 1 : Nat) : Int) = (i : Int) + 1 := by omega
      rw [e1]; exact he'
    · rw [upd_ne (Nat.ne_of_lt (Nat.lt_succ_of_lt (lts c hcm))), upd_ne (Nat.ne_of_lt (lts c hcm))]
      exact (hf c hcm).1
  done := by
    intro X hP hw hK hc i pins s σ H E I hf st hg
    subst hP hw hK
    obtain ⟨⟨old, he⟩, sz⟩ := st
    obtain ⟨xs, ys, hqx, hqy, hend⟩ := hg
    obtain ⟨its, rv, p, _⟩ := I.list hqx
    obtain ⟨its2, rv2, p2, _⟩ := I.list hqy
    have l1 := rv.length
    have l2 := rv2.length
    have hd : its.toArray[i]? = none ∨ its2.toArray[i]? = none := by
      rcases hend with q | q
      · exact .inl (by simp; omega)
      · exact .inr (by simp; omega)
    exact enumZ_end (I.ok.hd hc) D he sz p.isList p2.isList hd fun h' hk => ⟨rfl, I.turnedL (t' := s.toks) (ch := [e, z, TI, TO, i1, i2]) (fun c o hb q => hk c o (fun x => hb (by simp at x ⊢; rcases x with x | x | x | x <;> simp [x])) q) hf⟩
  self := fun A i s Q E st h => let ⟨⟨_, he⟩, _⟩ := st; wpAny_pyIter_enum he h
/-- enumerate over a zip: one new cell -/
theorem meets_enumZ (z TI TO : Addr) (f0 : Value) :
    Meets (Builtin.«enumerate.__new__» ⟨[.type "enumerate", .ref z], []⟩) (fun _ R s => IsZip s.heap z TI TO f0 ∧
      R (.ok (.ret (.ref s.heap.objs.size))) { s with heap := s.heap.push { cls := .type "enumerate", data := .fields #[.none, .bool false, .ref z, rawInt 0, .none, .none] } }) :=
  .of_wp fun prog w A R s h => by
    obtain ⟨hp, g, d, tk, os⟩ := s; obtain ⟨hz, h⟩ := h
    have hsub := sub_enumerate
    have q1 : ∀ {A' : Around} {E : Value → Shared → Prop} {Q : Value → Shared → Prop}, Q (.ref z) ⟨hp, g, d, tk, os⟩ → wpAny (model prog w) A' (pyIter (.ref z)) Q E ⟨hp, g, d, tk, os⟩ := fun q => wpAny_pyIter_zip hz q
    wp_walk using q1
    refine wpAny_stack_any fun st => wpAny_pure ?_
    split
    · rename_i c _ _ _ _ _
      cases (c == Value.type "enumerate")
      · wp_walk using q1
        exact ⟨_, rfl, h⟩
      · wp_walk using q1
        exact ⟨_, rfl, h⟩
    · wp_walk using q1
      exact ⟨_, rfl, h⟩
theorem call_enumZ {prog : Program} {w : World} {A : Around} {E : Value → Shared → Prop} {s : Shared} {z TI TO : Addr} {f0 : Value} {Q : Value → Shared → Prop} (hz : IsZip s.heap z TI TO f0)
    (h : ∀ h', IsEnum h' s.heap.objs.size z 0 .none → (∀ b o, s.heap.get? b = some o → h'.get? b = some o) → Q (.ref s.heap.objs.size) { s with heap := h' }) : wpAny (model prog w) A (call (.type "enumerate") [.ref z]) Q E s := by
  refine callType_new F.called_enumerate (by decide) (F.typeCall_enumerate_1 _) (F.newCall_enumerate_1 _) (fun obj => F.args_object_init_2 obj _) F.entry_enumerate_new (meets_enumZ z TI TO f0) ⟨hz, ?_⟩
  have he : IsEnum (s.heap.push { cls := .type "enumerate", data := .fields #[.none, .bool false, .ref z, rawInt 0, .none, .none] }) s.heap.objs.size z 0 .none := Heap.get?_push_size _ rfl
  exact ⟨⟨_, he, rfl⟩, h _ he fun b o x => Heap.get?_push_of_some _ x⟩
def iEzip (K : PySem.W.Frag) (ta : TA) : TI := fun σ H R => ta σ H fun vs H1 => ∃ a b xs ys, vs = [.ref a, .ref b] ∧ SqL K H1 a xs ∧ SqL K H1 b ys ∧ R (Itez K a b) H1
theorem pi_ezip {X : Cx} {e e2 : Expr} {ta : TA} {p pos p2 q tpos : Pos} {elts : List Expr} {kk : Nat} (hg : Gl X "enumerate") (hm : X.mg "enumerate" = none) (hg2 : Gl X "zip") (hm2 : X.mg "zip" = none) (ha : PA X [e, e2] ta)
    (hs : starEach [e, e2] X.env = (false, eval e X.env) :: starEach [e2] X.env := by rfl) (hpl : (backTo q (starEach [e2] X.env)).any (·.1) = false := by rfl) :
    PI X (.Tuple elts kk tpos) (.Call (.Name "enumerate" p) [.Call (.Name "zip" p2) [e, e2] [] q] [] pos) (iEzip X.K ta) := by
  refine ⟨fun pins s σ H R I h => ?_⟩
  refine Call_ (ld_blt I hg hm boot_enumerate ?_)
  refine PyProof.Rows.callWith_type1 (PyProof.Rows.args_cons ?_ rfl) rfl rfl
  refine Call_ (ld_blt I hg2 hm2 PyProof.Rows.boot_zip (PyProof.Rows.callWith_type1 (thn (ha.run q pins s σ H _ I h) fun us s1 ⟨vs, H1, I1, r1, q1⟩ => ?_) hs hpl))
  obtain ⟨a, b, xs, ys, ex, hqx, hqy, qq⟩ := q1
  subst ex
  cases r1 with
  | cons r rr =>
    cases rr with
    | cons r' rr =>
      cases rr
      cases r
      cases r'
      obtain ⟨its, rv, p1, _⟩ := I1.list hqx
      obtain ⟨its2, rv2, p2, _⟩ := I1.list hqy
      refine call_zip_2 p1.isList p2.isList fun h' hz hTI hTO h1 h2 hsz hk => ?_
      refine PyProof.Rows.args_nil ?_
      refine call_enumZ (s := { s1 with heap := h' }) hz fun h'' he hk2 => wpAny_pyIter_enum he ?_
      have I2 : Inv X pins σ H1 { s1 with heap := h'' } := I1.kept (t' := s1.toks) fun c o x => hk2 c o (hk c o x)
      replace he : IsEnum h'' h'.objs.size (s1.heap.objs.size + 4) 0 .none := he
      rw [hsz] at he
      have hsize : h'.objs.size = s1.heap.objs.size + 5 := hsz
      refine ⟨h'.objs.size, [h'.objs.size, s1.heap.objs.size + 4, s1.heap.objs.size + 2, s1.heap.objs.size + 3, s1.heap.objs.size, s1.heap.objs.size + 1], _, _, H1, rfl, I2, turn_ezip (PySem.W.ktu_apart s1.heap.objs.size a b p1.lt p2.lt) ?_, ⟨⟨.none, ?_⟩, ⟨⟨_, _, hk2 _ _ hz, .inl rfl⟩, hk2 _ _ hTI, ⟨_, _, hk2 _ _ hTO⟩, h1.at fun o x => hk2 _ o x, h2.at fun o x => hk2 _ o x⟩⟩, fun c hcm => ?_, qq⟩
      · rw [hsize]; simp
      · rw [hsize]; exact he
      · rw [hsize] at hcm
        have e' : c = s1.heap.objs.size + 5 ∨ c = s1.heap.objs.size + 4 ∨ c = s1.heap.objs.size + 2 ∨ c = s1.heap.objs.size + 3 ∨ c = s1.heap.objs.size ∨ c = s1.heap.objs.size + 1 := by simpa using hcm
        have hle : s1.heap.objs.size ≤ c := by
          rcases e' with z | z | z | z | z | z
          · rw [z]; exact Nat.le_add_right _ _
          · rw [z]; exact Nat.le_add_right _ _
          · rw [z]; exact Nat.le_add_right _ _
          · rw [z]; exact Nat.le_add_right _ _
          · rw [z]; exact Nat.le_refl _
          · rw [z]; exact Nat.le_add_right _ _
        exact I1.fpOk hle (I1.hok.fresh hle)
end MP
namespace MP
open PySem PySem.Spec PyProof.Rows L2 RZ
mutual
theorem D.beq_eq : ∀ {a b : D}, D.beq a b = true → a = b
  | .non, b, h => by cases b <;> simp [D.beq] at h; rfl
  | .bl a, b, h => by cases b <;> simp [D.beq] at h; rw [h]
  | .int a, b, h => by cases b <;> simp [D.beq] at h; rw [h]
  | .str a, b, h => by cases b <;> simp [D.beq] at h; rw [h]
  | .tup a, b, h => by
    cases b <;> simp only [D.beq] at h <;> first | cases h; done | skip
    rw [D.beqs_eq h]
  | .kls a, b, h => by
    cases b <;> simp only [D.beq] at h <;> first | cases h; done | skip
    rw [D.beqs_eq h]
  | .ref a, b, h => by cases b <;> simp [D.beq] at h; rw [h]
theorem D.beqs_eq : ∀ {a b : List D}, D.beqs a b = true → a = b
  | [], [], _ => rfl
  | [], _ :: _, h => by simp [D.beqs] at h
  | _ :: _, [], h => by simp [D.beqs] at h
  | x :: xs, y :: ys, h => by
    simp only [D.beqs, Bool.and_eq_true] at h
    rw [D.beq_eq h.1, D.beqs_eq h.2]
end
theorem stands_eq {n : Nat} {xs : List D} {st : Sto} (h : stands n xs st = true) : st[n]? = some (.lst xs) := by
  unfold stands at h
  split at h
  · rename_i ys q; rw [q, D.beqs_eq h]
  · cases h
section
variable {X : Cx} {N : Nm} {ρ : List Addr} {H : Hp} {st : Sto}
theorem get_lt {α : Type} {l : List α} {i : Nat} {x : α} (h : l[i]? = some x) : i < l.length := (List.getElem?_eq_some_iff.mp h).1
theorem walk_tup {a : Addr} {ds : List D} {vs : List V} (s : SqT X.K H a vs) (r : Reps X.K ρ H ds vs) : WalkOk N X.K ρ H (Itt X.K a) ⟨ds, fun _ => true⟩ := by
  intro ρ2 st2 H2 i E R _
  have s2 := E.sqT s
  have r2 := r.ext E
  refine ⟨fun d hd => ?_, fun h => ⟨vs, s2, by rw [← r2.len]; exact h⟩⟩
  obtain ⟨v, hv, rv⟩ := r2.get hd
  refine ⟨⟨vs, v, s2, hv⟩, fun x H' ⟨e, hx⟩ => ?_⟩
  subst e
  have hx := hx vs s2
  rw [hv] at hx
  cases hx
  exact ⟨Ext.refl, R, rv⟩
/-- a list that stands there whenever ok says so -/
theorem walk_lst {a : Addr} {ds : List D} {ok : Sto → Bool} (h : ∀ ρ2 st2 H2, Ext ρ H ρ2 H2 → Rl N X.K ρ2 st2 H2 → ok st2 = true → ∃ vs, SqL X.K H2 a vs ∧ Reps X.K ρ2 H2 ds vs) : WalkOk N X.K ρ H (Itl X.K a) ⟨ds, ok⟩ := by
  intro ρ2 st2 H2 i E R ho
  obtain ⟨vs, s2, r2⟩ := h ρ2 st2 H2 E R ho
  refine ⟨fun d hd => ?_, fun h => ⟨vs, s2, by rw [← r2.len]; exact h⟩⟩
  obtain ⟨v, hv, rv⟩ := r2.get hd
  refine ⟨⟨vs, v, s2, hv⟩, fun x H' ⟨e, hx⟩ => ?_⟩
  subst e
  have hx := hx vs s2
  rw [hv] at hx
  cases hx
  exact ⟨Ext.refl, R, rv⟩
theorem lst_stands {n : Nat} {a : Addr} {ds : List D} (ha : ρ[n]? = some a) : ∀ ρ2 st2 H2, Ext ρ H ρ2 H2 → Rl N X.K ρ2 st2 H2 → stands n ds st2 = true → ∃ vs, SqL X.K H2 a vs ∧ Reps X.K ρ2 H2 ds vs := by
  intro ρ2 st2 H2 E R h
  obtain ⟨vs, h1, r⟩ := R.at_ n a _ (E.ix ha) (stands_eq h)
  exact ⟨vs, .inl (.inl h1), r⟩
theorem kls_stands {a : Addr} {ds : List D} {vs : List V} {ok : Sto → Bool} (s : SqK X.K H a vs) (r : Reps X.K ρ H ds vs) : ∀ ρ2 st2 H2, Ext ρ H ρ2 H2 → Rl N X.K ρ2 st2 H2 → ok st2 = true → ∃ vs, SqL X.K H2 a vs ∧ Reps X.K ρ2 H2 ds vs :=
  fun ρ2 st2 H2 E R _ => ⟨vs, (E.sqK s).sq, r.ext E⟩
theorem list_stands {x : D} {v : V} {ds : List D} (R : Rl N X.K ρ st H) (r : Rep X.K ρ H x v) (h : listF st x = some ds) : ∃ a, v = .ref a ∧ (∃ vs, SqL X.K H a vs) ∧ ∀ ρ2 st2 H2, Ext ρ H ρ2 H2 → Rl N X.K ρ2 st2 H2 → standsD x ds st2 = true → ∃ vs, SqL X.K H2 a vs ∧ Reps X.K ρ2 H2 ds vs := by
  cases r with
  | kls s r => simp only [listF, Option.some.injEq] at h; subst h; exact ⟨_, rfl, ⟨_, s.sq⟩, kls_stands s r⟩
  | @ref n a ha =>
    simp only [listF] at h
    split at h
    · rename_i xs q
      cases h
      obtain ⟨vs, h1, r⟩ := R.at_ n a _ ha q
      exact ⟨a, rfl, ⟨vs, .inl (.inl h1)⟩, fun ρ2 st2 H2 E R2 hs => lst_stands ha ρ2 st2 H2 E R2 hs⟩
    · cases h
  | _ => simp [listF] at h
theorem walk_str {x : List Char} : WalkOk N X.K ρ H (Its (toS x)) ⟨signsF x, fun _ => true⟩ := by
  intro ρ2 st2 H2 i E R _
  have e : (toS x).cps.size = x.length := by simp [toS]
  refine ⟨fun d hd => ?_, fun h => ?_⟩
  · have hl : i < x.length := by have := get_lt hd; simpa [signsF] using this
    refine ⟨by show i < (toS x).cps.size; rw [e]; exact hl, fun v H' ⟨eh, c, hc, ev⟩ => ?_⟩
    subst eh ev
    refine ⟨Ext.refl, R, ?_⟩
    have h1 : d = .str [x[i]] := by
      simp only [signsF, List.getElem?_map, List.getElem?_eq_getElem hl, Option.map_some, Option.some.injEq] at hd
      exact hd.symm
    have h2 : c = x[i].toNat := by
      have : (toS x).cps[i]? = some x[i].toNat := by simp [toS, hl]
      rw [this] at hc
      exact (Option.some.inj hc).symm
    subst h1 h2
    exact .str [x[i]]
  · show (toS x).cps.size ≤ i
    rw [e]
    simpa [signsF] using h
theorem walk_range {lo : Int} {n : Nat} : WalkOk N X.K ρ H (Itr lo n) ⟨rangeF lo n, fun _ => true⟩ := by
  intro ρ2 st2 H2 i E R _
  refine ⟨fun d hd => ?_, fun h => ?_⟩
  · have hl : i < n := by have := get_lt hd; simpa [rangeF] using this
    refine ⟨hl, fun v H' ⟨eh, ev⟩ => ?_⟩
    subst eh ev
    have h1 : d = .int (lo + i) := by
      simp [rangeF, hl] at hd
      exact hd.symm
    subst h1
    exact ⟨Ext.refl, R, .int _⟩
  · show n ≤ i
    simpa [rangeF] using h
theorem walk_revr {n : Nat} : WalkOk N X.K ρ H (Itc (0 + (((n : Int) - 0).toNat : Int) - 1) (-1) ((n : Int) - 0).toNat) ⟨(rangeF 0 n).reverse, fun _ => true⟩ := by
  intro ρ2 st2 H2 i E R _
  have e0 : ((n : Int) - 0).toNat = n := by omega
  refine ⟨fun d hd => ?_, fun h => ?_⟩
  · have hl : i < n := by have := get_lt hd; simpa [rangeF] using this
    refine ⟨by show i < ((n : Int) - 0).toNat; rw [e0]; exact hl, fun v H' ⟨eh, ev⟩ => ?_⟩
    subst eh ev
    have h1 : d = .int ((n : Int) - 1 - i) := by
      rw [List.getElem?_reverse (by simpa [rangeF] using hl)] at hd
      simp only [rangeF, List.length_map, List.length_range, List.getElem?_map] at hd
      rw [List.getElem?_range (by omega)] at hd
      simp only [Option.map_some, Option.some.injEq] at hd
      rw [← hd]
      congr 1
      omega
    subst h1
    refine ⟨Ext.refl, R, ?_⟩
    have e2 : 0 + (((n : Int) - 0).toNat : Int) - 1 + (i : Nat) * (-1) = (n : Int) - 1 - i := by omega
    rw [e2]
    exact .int _
  · show ((n : Int) - 0).toNat ≤ i
    rw [e0]
    simpa [rangeF] using h
theorem enumF_get : ∀ (k : Nat) (xs : List D) (i : Nat), (enumF k xs)[i]? = xs[i]?.map fun x => D.tup [.int ((k + i : Nat) : Int), x]
  | _, [], _ => rfl
  | k, x :: r, 0 => rfl
  | k, x :: r, i + 1 => by
    rw [enumF, List.getElem?_cons_succ, List.getElem?_cons_succ, enumF_get (k + 1) r i, show k + 1 + i = k + (i + 1) by omega]
theorem enumF_len : ∀ (k : Nat) (xs : List D), (enumF k xs).length = xs.length
  | _, [] => rfl
  | k, x :: r => by rw [enumF, List.length_cons, List.length_cons, enumF_len (k + 1) r]
theorem fresh_tup {vs : List V} {ds : List D} {p : Addr} (R : Rl N X.K ρ st H) (hp : H p = none) (r : Reps X.K ρ H ds vs) : Ext ρ H ρ (upd H p (.tup vs)) ∧ Rl N X.K ρ st (upd H p (.tup vs)) ∧ Rep X.K ρ (upd H p (.tup vs)) (.tup ds) (.ref p) := by
  obtain ⟨e, R2⟩ := R.lay (u := .tup vs) hp
  exact ⟨e, R2, .tup (.inl (.inl upd_same)) (r.ext e)⟩
theorem walk_enum {a : Addr} {ds : List D} {ok : Sto → Bool} (h : ∀ ρ2 st2 H2, Ext ρ H ρ2 H2 → Rl N X.K ρ2 st2 H2 → ok st2 = true → ∃ vs, SqL X.K H2 a vs ∧ Reps X.K ρ2 H2 ds vs) : WalkOk N X.K ρ H (Ite X.K a) ⟨enumF 0 ds, ok⟩ := by
  intro ρ2 st2 H2 i E R ho
  obtain ⟨vs, s2, r2⟩ := h ρ2 st2 H2 E R ho
  refine ⟨fun d hd => ?_, fun h => ⟨vs, s2, by rw [← r2.len, ← enumF_len 0 ds]; exact h⟩⟩
  rw [enumF_get] at hd
  cases q : ds[i]? with
  | none => rw [q] at hd; cases hd
  | some d0 =>
    rw [q] at hd
    simp only [Option.map_some, Option.some.injEq, Nat.zero_add] at hd
    subst hd
    obtain ⟨v, hv, rv⟩ := r2.get q
    refine ⟨⟨vs, v, s2, hv⟩, fun x H' ⟨T, y, e1, hT, e2, hx⟩ => ?_⟩
    subst e1 e2
    have hx := hx vs s2
    rw [hv] at hx
    cases hx
    exact fresh_tup R hT (.cons (.int _) (.cons rv .nil))
theorem zipF_get : ∀ (xs ys : List D) (i : Nat) (d : D), (zipF xs ys)[i]? = some d → ∃ x y, xs[i]? = some x ∧ ys[i]? = some y ∧ d = .tup [x, y]
  | [], _, _, _, h => by simp [zipF] at h
  | _ :: _, [], _, _, h => by simp [zipF] at h
  | x :: xs, y :: ys, 0, d, h => by simp [zipF] at h; exact ⟨x, y, rfl, rfl, h.symm⟩
  | x :: xs, y :: ys, i + 1, d, h => by
    rw [zipF, List.getElem?_cons_succ] at h
    exact zipF_get xs ys i d h
theorem zipF_len : ∀ (xs ys : List D), (zipF xs ys).length = min xs.length ys.length
  | [], _ => by simp [zipF]
  | _ :: _, [] => by simp [zipF]
  | x :: xs, y :: ys => by rw [zipF, List.length_cons, List.length_cons, List.length_cons, zipF_len xs ys]; omega
theorem walk_zip {a b : Addr} {ds es : List D} {ok : Sto → Bool} (h : ∀ ρ2 st2 H2, Ext ρ H ρ2 H2 → Rl N X.K ρ2 st2 H2 → ok st2 = true → (∃ vs, SqL X.K H2 a vs ∧ Reps X.K ρ2 H2 ds vs) ∧ ∃ vs, SqL X.K H2 b vs ∧ Reps X.K ρ2 H2 es vs) : WalkOk N X.K ρ H (Itz X.K a b) ⟨zipF ds es, ok⟩ := by
  intro ρ2 st2 H2 i E R ho
  obtain ⟨⟨vs, s2, r2⟩, us, s3, r3⟩ := h ρ2 st2 H2 E R ho
  refine ⟨fun d hd => ?_, fun h => ⟨vs, us, s2, s3, ?_⟩⟩
  · obtain ⟨x, y, hx, hy, rfl⟩ := zipF_get _ _ _ _ hd
    obtain ⟨v, hv, rv⟩ := r2.get hx
    obtain ⟨u, hu, ru⟩ := r3.get hy
    refine ⟨⟨vs, us, v, u, s2, s3, hv, hu⟩, fun x H' ⟨T, x1, y1, e1, hT, e2, h1, h2⟩ => ?_⟩
    subst e1 e2
    have h1 := h1 vs s2
    have h2 := h2 us s3
    rw [hv] at h1; rw [hu] at h2
    cases h1; cases h2
    exact fresh_tup R hT (.cons rv (.cons ru .nil))
  · have h' : (zipF ds es).length ≤ i := h
    rw [zipF_len, r2.len, r3.len] at h'
    omega
theorem walk_ezip {a b : Addr} {ds es : List D} {ok : Sto → Bool} (h : ∀ ρ2 st2 H2, Ext ρ H ρ2 H2 → Rl N X.K ρ2 st2 H2 → ok st2 = true → (∃ vs, SqL X.K H2 a vs ∧ Reps X.K ρ2 H2 ds vs) ∧ ∃ vs, SqL X.K H2 b vs ∧ Reps X.K ρ2 H2 es vs) : WalkOk N X.K ρ H (Itez X.K a b) ⟨enumF 0 (zipF ds es), ok⟩ := by
  intro ρ2 st2 H2 i E R ho
  obtain ⟨⟨vs, s2, r2⟩, us, s3, r3⟩ := h ρ2 st2 H2 E R ho
  refine ⟨fun d hd => ?_, fun h => ⟨vs, us, s2, s3, ?_⟩⟩
  · rw [enumF_get] at hd
    cases q : (zipF ds es)[i]? with
    | none => rw [q] at hd; cases hd
    | some d0 =>
      rw [q] at hd
      simp only [Option.map_some, Option.some.injEq, Nat.zero_add] at hd
      subst hd
      obtain ⟨x, y, hx, hy, rfl⟩ := zipF_get _ _ _ _ q
      obtain ⟨v, hv, rv⟩ := r2.get hx
      obtain ⟨u, hu, ru⟩ := r3.get hy
      refine ⟨⟨vs, us, v, u, s2, s3, hv, hu⟩, fun x H' ⟨T, U, x1, y1, e1, hT, hU, hTU, e2, h1, h2⟩ => ?_⟩
      subst e1 e2
      have h1 := h1 vs s2
      have h2 := h2 us s3
      rw [hv] at h1; rw [hu] at h2
      cases h1; cases h2
      obtain ⟨E1, R1, P1⟩ := fresh_tup R hT (.cons rv (.cons ru .nil))
      obtain ⟨E2, R2, P2⟩ := fresh_tup R1 (p := U) (by rw [upd_ne (Ne.symm hTU)]; exact hU) (.cons (.int _) (.cons P1 .nil))
      exact ⟨E1.trans E2, R2, P2⟩
  · have h' : (enumF 0 (zipF ds es)).length ≤ i := h
    rw [enumF_len, zipF_len, r2.len, r3.len] at h'
    omega
theorem walk_zipT {a b : Addr} {ds es : List D} {vs us : List V} (s : SqT X.K H a vs) (r : Reps X.K ρ H ds vs) (s' : SqT X.K H b us) (r' : Reps X.K ρ H es us) : WalkOk N X.K ρ H (ItzT X.K a b) ⟨zipF ds es, fun _ => true⟩ := by
  intro ρ2 st2 H2 i E R ho
  have s2 := E.sqT s
  have s3 := E.sqT s'
  have r2 := r.ext E
  have r3 := r'.ext E
  refine ⟨fun d hd => ?_, fun h => ⟨vs, us, s2, s3, ?_⟩⟩
  · obtain ⟨x, y, hx, hy, rfl⟩ := zipF_get _ _ _ _ hd
    obtain ⟨v, hv, rv⟩ := r2.get hx
    obtain ⟨u, hu, ru⟩ := r3.get hy
    refine ⟨⟨vs, us, v, u, s2, s3, hv, hu⟩, fun x H' ⟨T, x1, y1, e1, hT, e2, h1, h2⟩ => ?_⟩
    subst e1 e2
    have h1 := h1 vs s2
    have h2 := h2 us s3
    rw [hv] at h1; rw [hu] at h2
    cases h1; cases h2
    exact fresh_tup R hT (.cons rv (.cons ru .nil))
  · have h' : (zipF ds es).length ≤ i := h
    rw [zipF_len, r2.len, r3.len] at h'
    omega
theorem walk_rev {a : Addr} {ds : List D} {ok : Sto → Bool} (h : ∀ ρ2 st2 H2, Ext ρ H ρ2 H2 → Rl N X.K ρ2 st2 H2 → ok st2 = true → ∃ vs, SqL X.K H2 a vs ∧ Reps X.K ρ2 H2 ds vs) : WalkOk N X.K ρ H (Itv X.K a ds.length) ⟨ds.reverse, ok⟩ := by
  intro ρ2 st2 H2 i E R ho
  obtain ⟨vs, s2, r2⟩ := h ρ2 st2 H2 E R ho
  refine ⟨fun d hd => ?_, fun h => by have h' : ds.reverse.length ≤ i := h; rw [List.length_reverse] at h'; exact h'⟩
  have hl : i < ds.length := by have := get_lt hd; simpa using this
  have hd' : ds[ds.length - 1 - i]? = some d := by rw [List.getElem?_reverse hl] at hd; exact hd
  obtain ⟨v, hv, rv⟩ := r2.get hd'
  refine ⟨⟨hl, vs, v, s2, hv⟩, fun x H' ⟨e, hx⟩ => ?_⟩
  subst e
  have hx := hx vs s2
  rw [hv] at hx
  cases hx
  exact ⟨Ext.refl, R, rv⟩
theorem KVs.get {kvs : List (Kk × D)} {ws : List (Key × V)} (h : KVs X.K ρ H kvs ws) {i : Nat} {kv : Kk × D} (hi : kvs[i]? = some kv) : ∃ v, ws[i]? = some (toK kv.1, v) ∧ Rep X.K ρ H kv.2 v := by
  induction h generalizing i with
  | nil => simp at hi
  | cons r t ih =>
    cases i with
    | zero =>
      simp at hi; subst hi
      rename_i p q l1 l2
      exact ⟨q.2, by rw [List.getElem?_cons_zero]; rw [← r.1], r.2⟩
    | succ i => exact ih (by simpa using hi)
theorem Paired.len {α β : Type} {F : α → β → Prop} : ∀ {l₁ : List α} {l₂ : List β}, Paired F l₁ l₂ → l₁.length = l₂.length
  | _, _, .nil => rfl
  | _, _, .cons _ t => congrArg Nat.succ (Paired.len t)
theorem rep_key (k : Kk) : Rep X.K ρ H (keyD k) (kV (toK k)) := by
  cases k with
  | i n => exact .int n
  | s x => exact .str x
theorem walk_keys {a : Addr} {od : Obj} {kvs : List (Kk × D)} {ws : List (Key × V)} (h : H a = some (.frz od (.dK ws))) (kv : KVs X.K ρ H kvs ws) : WalkOk N X.K ρ H (Itk a od ws) ⟨kvs.map fun kv => keyD kv.1, fun _ => true⟩ := by
  intro ρ2 st2 H2 i E R _
  have h2 := E.frzd a od ws h
  refine ⟨fun d hd => ?_, fun hl => ⟨h2, by rw [← Paired.len kv]; simpa using hl⟩⟩
  rw [List.getElem?_map] at hd
  cases q : kvs[i]? with
  | none => rw [q] at hd; cases hd
  | some p =>
    rw [q] at hd
    simp only [Option.map_some, Option.some.injEq] at hd
    subst hd
    obtain ⟨v, hv, rv⟩ := KVs.get kv q
    refine ⟨⟨h2, get_lt hv⟩, fun x H' ⟨e, k, v', hk, ex⟩ => ?_⟩
    subst e ex
    rw [hv] at hk
    cases hk
    exact ⟨Ext.refl, R, rep_key _⟩
theorem walk_values {a : Addr} {od : Obj} {kvs : List (Kk × D)} {ws : List (Key × V)} (h : H a = some (.frz od (.dK ws))) (kv : KVs X.K ρ H kvs ws) : WalkOk N X.K ρ H (Itd a od ws) ⟨kvs.map fun kv => kv.2, fun _ => true⟩ := by
  intro ρ2 st2 H2 i E R _
  have h2 := E.frzd a od ws h
  refine ⟨fun d hd => ?_, fun hl => ⟨h2, by rw [← Paired.len kv]; simpa using hl⟩⟩
  rw [List.getElem?_map] at hd
  cases q : kvs[i]? with
  | none => rw [q] at hd; cases hd
  | some p =>
    rw [q] at hd
    simp only [Option.map_some, Option.some.injEq] at hd
    subst hd
    obtain ⟨v, hv, rv⟩ := KVs.get kv q
    refine ⟨⟨h2, get_lt hv⟩, fun x H' ⟨e, k, hk⟩ => ?_⟩
    subst e
    rw [hv] at hk
    cases hk
    exact ⟨Ext.refl, R, rv.ext E⟩
theorem walk_items {a : Addr} {od : Obj} {kvs : List (Kk × D)} {ws : List (Key × V)} (h : H a = some (.frz od (.dK ws))) (kv : KVs X.K ρ H kvs ws) : WalkOk N X.K ρ H (Iti a od ws) ⟨kvs.map fun kv => .tup [keyD kv.1, kv.2], fun _ => true⟩ := by
  intro ρ2 st2 H2 i E R _
  have h2 := E.frzd a od ws h
  refine ⟨fun d hd => ?_, fun hl => ⟨h2, by rw [← Paired.len kv]; simpa using hl⟩⟩
  rw [List.getElem?_map] at hd
  cases q : kvs[i]? with
  | none => rw [q] at hd; cases hd
  | some p =>
    rw [q] at hd
    simp only [Option.map_some, Option.some.injEq] at hd
    subst hd
    obtain ⟨v, hv, rv⟩ := KVs.get kv q
    refine ⟨⟨h2, get_lt hv⟩, fun x H' ⟨T, k, v', hk, ex, hT, e⟩ => ?_⟩
    subst e ex
    rw [hv] at hk
    cases hk
    exact fresh_tup R hT (.cons (rep_key _) (.cons (rv.ext E) .nil))
end
end MP
namespace MP
open PySem PySem.Spec PyProof.Rows L2 RZ
section
variable {X : Cx} {N : Nm} {P : Prog} {cf mf : Cf}
/-- a path is evaluated alike while a dict is locked -/
theorem path_lock : ∀ (e : E), pathE e = true → ∀ (fr : Fr) (st : Sto) (d : D) (st' : Sto) (n : Nat) (kvs : List (Kk × D)), st[n]? = some (.dct kvs) → evE P cf mf e fr st = .ok (d, st') → st' = st ∧ evE P cf mf e fr (st.set n (.fdc kvs)) = .ok (d, st.set n (.fdc kvs)) := by
  intro e
  induction e using E.rec (motive_2 := fun _ => True) (motive_3 := fun _ => True) (motive_4 := fun _ => True) (motive_5 := fun _ => True) (motive_6 := fun _ => True) with
  | v i =>
    intro _ fr st d st' n kvs _ h
    simp only [evE] at h ⊢
    split at h
    · rename_i q; cases h; exact ⟨rfl, rfl⟩
    · cases h
  | fld o f ih =>
    intro hp fr st d st' n kvs hn h
    simp only [evE] at h ⊢
    obtain ⟨p, e1, h⟩ := MP.R.bind_eq h
    obtain ⟨y, e2, h⟩ := MP.R.bind_eq h
    cases h
    obtain ⟨h1, h2⟩ := ih (by simpa [pathE] using hp) fr st p.1 p.2 n kvs hn (by simpa using e1)
    refine ⟨h1, ?_⟩
    rw [h2]
    have e3 := MP.R.of_eq e2
    rw [h1] at e3
    have e4 : fldF (st.set n (.fdc kvs)) p.1 f = some d := by
      revert e3
      generalize p.1 = o
      intro e3
      cases o with
      | ref m =>
        simp only [fldF] at e3 ⊢
        by_cases hm : n = m
        · subst hm; rw [hn] at e3; cases e3
        · rw [List.getElem?_set_ne hm]; exact e3
      | _ => simp [fldF] at e3
    simp [e4]
  | _ => first | trivial | (intro hp; simp [pathE] at hp)
theorem path_same : ∀ (e : E), pathE e = true → ∀ (fr : Fr) (st : Sto) (d : D) (st' : Sto), evE P cf mf e fr st = .ok (d, st') → st' = st := by
  intro e
  induction e using E.rec (motive_2 := fun _ => True) (motive_3 := fun _ => True) (motive_4 := fun _ => True) (motive_5 := fun _ => True) (motive_6 := fun _ => True) with
  | v i =>
    intro _ fr st d st' h
    simp only [evE] at h
    split at h
    · cases h; rfl
    · cases h
  | fld o f ih =>
    intro hp fr st d st' h
    simp only [evE] at h
    obtain ⟨p, e1, h⟩ := MP.R.bind_eq h
    obtain ⟨y, e2, h⟩ := MP.R.bind_eq h
    cases h
    exact ih (by simpa [pathE] using hp) fr st p.1 p.2 (by simpa using e1)
  | _ => first | trivial | (intro hp; simp [pathE] at hp)
/-- a dict that a path names, locked -/
theorem dict_lock {e : E} {fr : Fr} {st st2 : Sto} {H : Hp} {ρ : List Addr} {n : Nat} {kvs : List (Kk × D)} (R : Rl N X.K ρ st H) (hp : pathE e = true) (e1 : evE P cf mf e fr st = .ok (.ref n, st2)) (q : st2[n]? = some (.dct kvs)) :
    st2 = st ∧ ∃ a ws, ρ[n]? = some a ∧ H a = some (.dK ws) ∧ KVs X.K ρ H kvs ws ∧ evE P cf mf e fr (st.set n (.fdc kvs)) = .ok (.ref n, st.set n (.fdc kvs)) := by
  have es := path_same e hp _ _ _ _ e1
  subst es
  obtain ⟨a, ha, ws, h1, h2⟩ := R.ix q
  exact ⟨rfl, a, ws, ha, h1, h2, (path_lock e hp fr st2 _ _ n kvs q e1).2⟩
theorem kv_lock {H : Hp} {a : Addr} {kvs : List (Kk × D)} {ws : List (Key × V)} {ρ : List Addr} {u : HO} (h : H a = some (.dK ws)) (kv : KVs X.K ρ H kvs ws) : KVs X.K ρ (upd H a u) kvs ws :=
  pairedMap (fun _ _ z => ⟨z.1, z.2.chg ⟨by simp [h], by simp [h], by simp [h]⟩⟩) kv
theorem KVs.inj {ρ ρ' : List Addr} {H H' : Hp} {kvs : List (Kk × D)} {ws ws' : List (Key × V)} (h : KVs X.K ρ H kvs ws) : True := trivial
theorem itok_any {tg ex : Expr} {e : E} (ha : PE X ex (tR N X.K (evE P cf mf e))) : ItOk X N tg ex (evIt P cf mf (.any e)) := by
  intro ρ fr st H σ w st1 u R F h
  rw [evIt] at h
  obtain ⟨⟨d, st2⟩, e1, h⟩ := MP.R.bind_eq h
  dsimp only at h
  split at h
  · cases h
    refine .inl ⟨rfl, _, pi_tup ha, fun R' hR => ⟨ρ, fr, st, _, _, R, F, e1, fun ρ1 H1 v E1 R1 r1 => ?_⟩⟩
    cases r1 with
    | tup s r => exact ⟨_, rfl, ⟨_, s⟩, hR ρ1 H1 _ E1 R1 (walk_tup s r)⟩
  · cases h
    refine .inl ⟨rfl, _, pi_list ha, fun R' hR => ⟨ρ, fr, st, _, _, R, F, e1, fun ρ1 H1 v E1 R1 r1 => ?_⟩⟩
    cases r1 with
    | kls s r => exact ⟨_, rfl, ⟨_, s.sq⟩, hR ρ1 H1 _ E1 R1 (walk_lst (kls_stands s r))⟩
  · cases h
    refine .inl ⟨rfl, _, pi_str ha, fun R' hR => ⟨ρ, fr, st, _, _, R, F, e1, fun ρ1 H1 v E1 R1 r1 => ?_⟩⟩
    cases r1
    exact ⟨_, rfl, hR ρ1 H1 _ E1 R1 walk_str⟩
  · rename_i n
    split at h
    · rename_i ds q
      cases h
      refine .inl ⟨rfl, _, pi_list ha, fun R' hR => ⟨ρ, fr, st, _, _, R, F, e1, fun ρ1 H1 v E1 R1 r1 => ?_⟩⟩
      cases r1 with
      | @ref n a h1 =>
        obtain ⟨vs, h2, r⟩ := R1.at_ n a _ h1 q
        exact ⟨_, rfl, ⟨_, .inl (.inl h2)⟩, hR ρ1 H1 _ E1 R1 (walk_lst (lst_stands h1))⟩
    · rename_i kvs q
      split at h
      · rename_i hp
        cases h
        obtain ⟨rfl, a, ws, ha', hH, kv, e2⟩ := dict_lock R hp e1 q
        refine .inr ⟨n, a, kvs, ws, ha', q, hH, kv, rfl, rfl, _, pi_keys ha, fun od R' RL hR => ?_⟩
        refine ⟨ρ, fr, _, _, _, RL, F.chg ⟨by simp [hH], by simp [hH], by simp [hH]⟩, e2, fun ρ1 H1 v E1 R1 r1 => ?_⟩
        cases r1 with
        | @ref _ b hb =>
          have eb : b = a := by rw [E1.ix ha'] at hb; exact (Option.some.inj hb).symm
          subst eb
          have h2 := E1.frzd _ od ws upd_same
          exact ⟨b, od, rfl, .inl ⟨ws, h2, hR ρ1 H1 _ E1 R1 (walk_keys h2 ((kv_lock hH kv).ext E1))⟩⟩
      · cases h
    · cases h
  · cases h
theorem ev1 {e : E} {fr : Fr} {st st1 : Sto} {d : D} (h : evE P cf mf e fr st = .ok (d, st1)) : evEs P cf mf (.cons e .nil) fr st = .ok ([d], st1) := by simp [evEs, h]
theorem ev2 {e f : E} {fr : Fr} {st st1 st2 : Sto} {d d' : D} (h : evE P cf mf e fr st = .ok (d, st1)) (h' : evE P cf mf f fr st1 = .ok (d', st2)) : evEs P cf mf (.cons e (.cons f .nil)) fr st = .ok ([d, d'], st2) := by simp [evEs, h, h']
theorem itok_range1 {tg a : Expr} {e : E} {p pos : Pos} (hg : Gl X "range") (hm : X.mg "range" = none) (ha : PA X [a] (tRs N X.K (evEs P cf mf (.cons e .nil)))) (hs : starEach [a] X.env = [(false, eval a X.env)]) : ItOk X N tg (.Call (.Name "range" p) [a] [] pos) (evIt P cf mf (.range1 e)) := by
  intro ρ fr st H σ w st1 u R F h
  rw [evIt] at h
  obtain ⟨⟨d, st2⟩, e1, h⟩ := MP.R.bind_eq h
  dsimp only at h
  split at h
  · rename_i j
    split at h
    · rename_i hj
      cases h
      refine .inl ⟨rfl, _, pi_range1 hg hm ha hs, fun R' hR => ⟨ρ, fr, st, _, _, R, F, ev1 e1, fun ρ1 H1 v E1 R1 r1 => ?_⟩⟩
      cases r1 with
      | cons r t =>
        cases r; cases t
        exact ⟨_, rfl, hj.1, hj.2, hR ρ1 H1 _ E1 R1 walk_range⟩
    · cases h
  · cases h
theorem itok_revr {tg a : Expr} {e : E} {p pos p2 pos2 : Pos} (hg : Gl X "reversed") (hm : X.mg "reversed" = none) (hg2 : Gl X "range") (hm2 : X.mg "range" = none) (ha : PE X a (tR N X.K (evE P cf mf e))) (hs : starEach [a] X.env = [(false, eval a X.env)]) : ItOk X N tg (.Call (.Name "reversed" p) [.Call (.Name "range" p2) [a] [] pos2] [] pos) (evIt P cf mf (.revr e)) := by
  intro ρ fr st H σ w st1 u R F h
  rw [evIt] at h
  obtain ⟨⟨d, st2⟩, e1, h⟩ := MP.R.bind_eq h
  dsimp only at h
  split at h
  · rename_i j
    split at h
    · rename_i hj
      cases h
      refine .inl ⟨rfl, _, pi_revR hg hm (prg_1 hg2 hm2 ha hs) rfl, fun R' hR => ⟨ρ, fr, st, _, _, R, F, e1, fun ρ1 H1 v E1 R1 r1 => ?_⟩⟩
      cases r1
      refine ⟨j, rfl, by decide, by decide, hj.1, hj.2, ?_⟩
      have e2 : ((j - 0).toNat : Int) = (((j.toNat : Int) - 0).toNat : Int) := by omega
      have e3 : (j - 0).toNat = ((j.toNat : Int) - 0).toNat := by omega
      rw [e2, e3]
      exact hR ρ1 H1 _ E1 R1 walk_revr
    · cases h
  · cases h
theorem itok_range2 {tg a b : Expr} {e f : E} {p pos : Pos} (hg : Gl X "range") (hm : X.mg "range" = none) (ha : PA X [a, b] (tRs N X.K (evEs P cf mf (.cons e (.cons f .nil))))) (hs : starEach [a, b] X.env = [(false, eval a X.env), (false, eval b X.env)]) (hs2 : starEach [b] X.env = [(false, eval b X.env)]) :
    ItOk X N tg (.Call (.Name "range" p) [a, b] [] pos) (evIt P cf mf (.range2 e f)) := by
  intro ρ fr st H σ w st1 u R F h
  rw [evIt] at h
  obtain ⟨⟨d, st2⟩, e1, h⟩ := MP.R.bind_eq h
  obtain ⟨⟨d', st3⟩, e2, h⟩ := MP.R.bind_eq h
  dsimp only at h
  split at h
  · rename_i i j
    split at h
    · rename_i hj
      cases h
      refine .inl ⟨rfl, _, pi_range2 hg hm ha hs hs2, fun R' hR => ⟨ρ, fr, st, _, _, R, F, ev2 e1 e2, fun ρ1 H1 v E1 R1 r1 => ?_⟩⟩
      cases r1 with
      | cons r t =>
        cases t with
        | cons r' t =>
          cases r; cases r'; cases t
          exact ⟨_, _, rfl, hj, hR ρ1 H1 _ E1 R1 walk_range⟩
    · cases h
  · cases h
theorem itok_enum {a : Expr} {elts : List Expr} {kk : Nat} {tpos : Pos} {e : E} {p pos : Pos} (hg : Gl X "enumerate") (hm : X.mg "enumerate" = none) (ha : PA X [a] (tRs N X.K (evEs P cf mf (.cons e .nil)))) (hs : starEach [a] X.env = [(false, eval a X.env)]) :
    ItOk X N (.Tuple elts kk tpos) (.Call (.Name "enumerate" p) [a] [] pos) (evIt P cf mf (.enum e)) := by
  intro ρ fr st H σ w st1 u R F h
  rw [evIt] at h
  obtain ⟨⟨d, st2⟩, e1, h⟩ := MP.R.bind_eq h
  dsimp only at h
  split at h
  · rename_i ds
    cases h
    refine .inl ⟨rfl, _, pi_enum hg hm ha hs, fun R' hR => ⟨ρ, fr, st, _, _, R, F, ev1 e1, fun ρ1 H1 v E1 R1 r1 => ?_⟩⟩
    cases r1 with
    | cons r t =>
      cases t
      cases r with
      | kls s r => exact ⟨_, _, rfl, s.sq, hR ρ1 H1 _ E1 R1 (walk_enum (kls_stands s r))⟩
  · rename_i n
    split at h
    · rename_i ds q
      cases h
      refine .inl ⟨rfl, _, pi_enum hg hm ha hs, fun R' hR => ⟨ρ, fr, st, _, _, R, F, ev1 e1, fun ρ1 H1 v E1 R1 r1 => ?_⟩⟩
      cases r1 with
      | cons r t =>
        cases t
        cases r with
        | @ref n a h1 =>
          obtain ⟨vs, h2, r⟩ := R1.at_ n a _ h1 q
          exact ⟨_, _, rfl, .inl (.inl h2), hR ρ1 H1 _ E1 R1 (walk_enum (lst_stands h1))⟩
    · cases h
  · cases h
theorem itok_zip {a b : Expr} {elts : List Expr} {kk : Nat} {tpos : Pos} {e f : E} {p pos : Pos} (hg : Gl X "zip") (hm : X.mg "zip" = none) (ha : PA X [a, b] (tRs N X.K (evEs P cf mf (.cons e (.cons f .nil)))))
    (hs : starEach [a, b] X.env = [(false, eval a X.env), (false, eval b X.env)]) (hs2 : starEach [b] X.env = [(false, eval b X.env)]) :
    ItOk X N (.Tuple elts kk tpos) (.Call (.Name "zip" p) [a, b] [] pos) (evIt P cf mf (.zip e f)) := by
  intro ρ fr st H σ w st1 u R F h
  rw [evIt] at h
  obtain ⟨⟨d, st2⟩, e1, h⟩ := MP.R.bind_eq h
  obtain ⟨⟨d', st3⟩, e2, h⟩ := MP.R.bind_eq h
  dsimp only at h
  have ev := ev2 e1 e2
  split at h
  · rename_i xs ys hx hy
    cases h
    refine .inl ⟨rfl, _, pi_zipA hg hm ha (by rw [hs, hs2]) (by rw [hs2]; rfl), fun R' hR => ⟨ρ, fr, st, _, _, R, F, ev, fun ρ1 H1 v E1 R1 r1 => ?_⟩⟩
    cases r1 with
    | cons r t =>
      cases t with
      | cons r' t =>
        cases t
        obtain ⟨a1, rfl, ⟨vs, s1⟩, k1⟩ := list_stands R1 r hx
        obtain ⟨a2, rfl, ⟨us, s2⟩, k2⟩ := list_stands R1 r' hy
        refine ⟨a1, a2, vs, us, rfl, .inl ⟨s1, s2, hR ρ1 H1 _ E1 R1 (walk_zip fun ρ2 st2 H2 E2 R2 ho => ?_)⟩⟩
        simp only [Bool.and_eq_true] at ho
        exact ⟨k1 ρ2 st2 H2 E2 R2 ho.1, k2 ρ2 st2 H2 E2 R2 ho.2⟩
  · split at h
    · cases h
      refine .inl ⟨rfl, _, pi_zipA hg hm ha (by rw [hs, hs2]) (by rw [hs2]; rfl), fun R' hR => ⟨ρ, fr, st, _, _, R, F, ev, fun ρ1 H1 v E1 R1 r1 => ?_⟩⟩
      cases r1 with
      | cons r t =>
        cases t with
        | cons r' t =>
          cases t
          cases r with
          | tup s r =>
            cases r' with
            | tup s' r' => exact ⟨_, _, _, _, rfl, .inr ⟨s, s', hR ρ1 H1 _ E1 R1 (walk_zipT s r s' r')⟩⟩
    · cases h
theorem itok_ezip {a b : Expr} {elts : List Expr} {kk : Nat} {tpos : Pos} {e f : E} {p pos p2 q : Pos} (hg : Gl X "enumerate") (hm : X.mg "enumerate" = none) (hg2 : Gl X "zip") (hm2 : X.mg "zip" = none) (ha : PA X [a, b] (tRs N X.K (evEs P cf mf (.cons e (.cons f .nil)))))
    (hs : starEach [a, b] X.env = [(false, eval a X.env), (false, eval b X.env)]) (hs2 : starEach [b] X.env = [(false, eval b X.env)]) :
    ItOk X N (.Tuple elts kk tpos) (.Call (.Name "enumerate" p) [.Call (.Name "zip" p2) [a, b] [] q] [] pos) (evIt P cf mf (.ezip e f)) := by
  intro ρ fr st H σ w st1 u R F h
  rw [evIt] at h
  obtain ⟨⟨d, st2⟩, e1, h⟩ := MP.R.bind_eq h
  obtain ⟨⟨d', st3⟩, e2, h⟩ := MP.R.bind_eq h
  dsimp only at h
  have ev := ev2 e1 e2
  split at h
  · rename_i xs ys hx hy
    cases h
    refine .inl ⟨rfl, _, pi_ezip hg hm hg2 hm2 ha (by rw [hs, hs2]) (by rw [hs2]; rfl), fun R' hR => ⟨ρ, fr, st, _, _, R, F, ev, fun ρ1 H1 v E1 R1 r1 => ?_⟩⟩
    cases r1 with
    | cons r t =>
      cases t with
      | cons r' t =>
        cases t
        obtain ⟨a1, rfl, ⟨vs, s1⟩, k1⟩ := list_stands R1 r hx
        obtain ⟨a2, rfl, ⟨us, s2⟩, k2⟩ := list_stands R1 r' hy
        refine ⟨a1, a2, vs, us, rfl, s1, s2, hR ρ1 H1 _ E1 R1 (walk_ezip fun ρ2 st2 H2 E2 R2 ho => ?_)⟩
        simp only [Bool.and_eq_true] at ho
        exact ⟨k1 ρ2 st2 H2 E2 R2 ho.1, k2 ρ2 st2 H2 E2 R2 ho.2⟩
  · cases h
theorem itok_rev {tg a : Expr} {e : E} {p pos : Pos} (hg : Gl X "reversed") (hm : X.mg "reversed" = none) (ha : PA X [a] (tRs N X.K (evEs P cf mf (.cons e .nil)))) (hs : starEach [a] X.env = [(false, eval a X.env)]) : ItOk X N tg (.Call (.Name "reversed" p) [a] [] pos) (evIt P cf mf (.rev e)) := by
  intro ρ fr st H σ w st1 u R F h
  rw [evIt] at h
  obtain ⟨⟨d, st2⟩, e1, h⟩ := MP.R.bind_eq h
  dsimp only at h
  split at h
  · rename_i n
    split at h
    · rename_i ds q
      cases h
      refine .inl ⟨rfl, _, pi_reversed hg hm ha hs, fun R' hR => ⟨ρ, fr, st, _, _, R, F, ev1 e1, fun ρ1 H1 v E1 R1 r1 => ?_⟩⟩
      cases r1 with
      | cons r t =>
        cases t
        cases r with
        | @ref n a h1 =>
          obtain ⟨vs, h2, r⟩ := R1.at_ n a _ h1 q
          refine ⟨_, _, rfl, .inl (.inl h2), hR ρ1 H1 _ E1 R1 ?_⟩
          rw [← r.len]
          exact walk_rev (lst_stands h1)
    · cases h
  · cases h
theorem itok_items {a : Expr} {elts : List Expr} {kk : Nat} {tpos : Pos} {e : E} {apos cpos : Pos} (ha : PE X a (tR N X.K (evE P cf mf e))) (hbase : attributeBase a "items" X.env (eval a X.env) = eval a X.env) (hline : (apos.endLine == cpos.line) = true) :
    ItOk X N (.Tuple elts kk tpos) (.Call (.Attribute a "items" apos) [] [] cpos) (evIt P cf mf (.items e)) := by
  intro ρ fr st H σ w st1 u R F h
  rw [evIt] at h
  obtain ⟨⟨d, st2⟩, e1, h⟩ := MP.R.bind_eq h
  dsimp only at h
  split at h
  · rename_i n
    split at h
    · rename_i kvs q
      split at h
      · rename_i hp
        cases h
        obtain ⟨rfl, a, ws, ha', hH, kv, e2⟩ := dict_lock R hp e1 q
        refine .inr ⟨n, a, kvs, ws, ha', q, hH, kv, rfl, rfl, _, pi_items ha hbase hline, fun od R' RL hR => ?_⟩
        refine ⟨ρ, fr, _, _, _, RL, F.chg ⟨by simp [hH], by simp [hH], by simp [hH]⟩, e2, fun ρ1 H1 v E1 R1 r1 => ?_⟩
        cases r1 with
        | @ref _ b hb =>
          have eb : b = a := by rw [E1.ix ha'] at hb; exact (Option.some.inj hb).symm
          subst eb
          have h2 := E1.frzd _ od ws upd_same
          exact ⟨b, od, ws, rfl, h2, hR ρ1 H1 _ E1 R1 (walk_items h2 ((kv_lock hH kv).ext E1))⟩
      · cases h
    · cases h
  · cases h
theorem itok_values {tg a : Expr} {e : E} {apos cpos : Pos} (ha : PE X a (tR N X.K (evE P cf mf e))) (hbase : attributeBase a "values" X.env (eval a X.env) = eval a X.env) (hline : (apos.endLine == cpos.line) = true) :
    ItOk X N tg (.Call (.Attribute a "values" apos) [] [] cpos) (evIt P cf mf (.values e)) := by
  intro ρ fr st H σ w st1 u R F h
  rw [evIt] at h
  obtain ⟨⟨d, st2⟩, e1, h⟩ := MP.R.bind_eq h
  dsimp only at h
  split at h
  · rename_i n
    split at h
    · rename_i kvs q
      split at h
      · rename_i hp
        cases h
        obtain ⟨rfl, a, ws, ha', hH, kv, e2⟩ := dict_lock R hp e1 q
        refine .inr ⟨n, a, kvs, ws, ha', q, hH, kv, rfl, rfl, _, pi_values ha hbase hline, fun od R' RL hR => ?_⟩
        refine ⟨ρ, fr, _, _, _, RL, F.chg ⟨by simp [hH], by simp [hH], by simp [hH]⟩, e2, fun ρ1 H1 v E1 R1 r1 => ?_⟩
        cases r1 with
        | @ref _ b hb =>
          have eb : b = a := by rw [E1.ix ha'] at hb; exact (Option.some.inj hb).symm
          subst eb
          have h2 := E1.frzd _ od ws upd_same
          exact ⟨b, od, ws, rfl, h2, hR ρ1 H1 _ E1 R1 (walk_values h2 ((kv_lock hH kv).ext E1))⟩
      · cases h
    · cases h
  · cases h
end
end MP
namespace MP
open PySem PySem.Spec PyProof.Rows L2
section
variable {X : Cx} {N : Nm} {fe fa fb : Fr → Sto → RD} {o i e : Expr}
def rAnySet (X : Cx) : TSet := fun o i v H Q => ∃ t : TSet, PSet X t ∧ t o i v H Q
theorem pset_any : PSet X (rAnySet X) := fun pins s σ H o i v ov iv u Q I r1 r2 r3 ⟨_, h, q⟩ => h pins s σ H o i v ov iv u Q I r1 r2 r3 q
def rSetD : TSet := fun o i v H Q => ∃ a H', o = .ref a ∧ DPut H a i v H' ∧ Q H'
theorem set_dict {k : Nat} (hr : Room k X.A) : PSet X rSetD := by
  intro pins s σ H o i v ov iv u Q I r1 r2 r3 ⟨a, H', e, g, q⟩
  subst e
  obtain rfl : ov = Value.ref a := r1
  exact d_setItem (by have := room65 hr; omega) I g r2 r3 fun s4 I4 => ⟨H', I4, q⟩
theorem ixN_idx {n : Nat} {k : Int} {j : Nat} (h : idxF n k = some j) : ixN n k = some j := by
  unfold idxF at h
  unfold ixN
  split at h
  · split at h
    · cases h
      simp_all
    · cases h
  · split at h
    · cases h
      simp_all
      omega
    · cases h
theorem ok_setix {k : Nat} (hr : Room k X.A) {ρ : List Addr} {st st' : Sto} {H : Hp} {x y d : D} {a b v : V} {Q : Hp → Prop} (R : Rl N X.K ρ st H) (ra : Rep X.K ρ H x a) (rb : Rep X.K ρ H y b) (rv : Rep X.K ρ H d v) (h : setIxF st x y d = some st')
    (q : ∀ H', Ext ρ H ρ H' → Rl N X.K ρ st' H' → Q H') : rAnySet X a b v H Q := by
  have hz := sz_line
  cases ra with
  | @ref n p h1 =>
    simp only [setIxF] at h
    split at h
    · rename_i xs hs
      split at h
      · rename_i k
        cases hj : idxF xs.length k with
        | none => rw [hj] at h; cases h
        | some j =>
          rw [hj] at h
          cases h
          cases rb
          obtain ⟨p', vs, e, _, h2, r⟩ := lst_at R (.ref h1) hs
          cases e
          obtain ⟨E, R2⟩ := R.put (u := .lst (vs.set j v)) (o' := .lst (xs.set j d)) h1 hs (by simp [h2]) fun keep => ⟨_, upd_same, Reps.mapR keep (r.set rv j)⟩
          exact ⟨_, set_list, p, vs, k, j, rfl, rfl, h2, by rw [← r.len]; exact ixN_idx hj, q _ E R2⟩
      · cases h
    · rename_i kvs hs
      split at h
      · rename_i k hk
        split at h
        · rename_i hl
          cases h
          obtain ⟨p', ws, e, _, h2, r⟩ := dct_at R (.ref h1) hs
          cases e
          have hlen := Paired.len r
          obtain ⟨E, R2⟩ := R.put (u := .dK (L2.putK ws (toK k) v)) (o' := .dct (MP.putK kvs k d)) h1 hs (by simp [h2]) fun keep => ⟨_, upd_same, pairedMap (fun _ _ z => ⟨z.1, keep z.2⟩) (KVs.put r rv)⟩
          refine ⟨_, set_dict hr, p, _, rfl, ?_, q _ E R2⟩
          rw [keyF_of rb hk]
          exact DPut.k h2 (by omega)
        · cases h
      · cases h
    · cases h
  | _ => simp [setIxF] at h
theorem s_setix {k : Nat} {pos pos' : Pos} (hr : Room k X.A) (ho : PE X o (tR N X.K fa)) (hi : PE X i (tR N X.K fb)) (he : PE X e (tR N X.K fe)) (hs : swapsWithSole [.Subscript o i pos'] e pos.line X.env = pure false) (hw : swappedStores [.Subscript o i pos'] e X.env = pure none)
    (hsl : ∀ v, assign (.Subscript o i pos') X.env v = (do
      let ov ← holding [v] (eval o X.env)
      let iv ← holding [v, ov] (eval i X.env)
      standAt pos'
      holding [v, ov, iv] (setItem ov iv v)
      release [v, ov, iv] [])) :
    PS X (.Assign [.Subscript o i pos'] e pos) (tS N X.K fun fr st => (fe fr st).stm fr fun p => (fa fr p.2).stm fr fun q => (fb fr q.2).stm fr fun r =>
      match setIxF r.2 q.1 r.1 p.1 with
      | some st => .nx fr st
      | none => .no) :=
  PS.imp (ps_asg he (pg_sub ho hi pset_any hsl) hs hw (by rfl)) fun D σ H ⟨ρ, fr, st, R, F, P⟩ => by
    obtain ⟨p, e1, P⟩ := P.stm
    obtain ⟨q, e2, P⟩ := P.stm
    obtain ⟨r, e3, P⟩ := P.stm
    try dsimp only at P
    split at P
    · rename_i st2 h
      refine ⟨ρ, fr, st, p.1, p.2, R, F, e1, fun ρ1 H1 v E1 R1 r1 => ⟨ρ1, fr, p.2, q.1, q.2, R1, F.ext E1, e2, fun ρ2 H2 a E2 R2 r2 => ⟨ρ2, fr, q.2, r.1, r.2, R2, (F.ext E1).ext E2, e3, fun ρ3 H3 b E3 R3 r3 => ?_⟩⟩⟩
      exact ok_setix hr R3 (r2.ext E3) r3 ((r1.ext E2).ext E3) h fun H' E R4 => P ρ3 H' σ (E1.trans (E2.trans (E3.trans E))) R4 ((((F.ext E1).ext E2).ext E3).ext E)
    · exact P.elim
end
end MP
namespace MP
open PySem PySem.Spec PyProof.Rows L2
/-- what stands in the program's globals: defs (by number: their global names, their defaults), classes (by number: the name, the number of the def that makes, its defaults), constants, built-in names that are not bound -/
structure Tab where
  fns : List (List Str × List D)
  cls : List (Str × Nat × List D)
  con : List (Str × D)
  kds : List (Str × List (List Char × D))
  free : List Str
  flds : List Str
  mths : List Str
  ins : List Nat := []
def glB (sc : Scope) (x : Str) : Bool := match sc.names.lookup x with | some .globalImplicit => true | _ => false
def visB (sc : Scope) (x : Str) : Bool := match sc.names.lookup x with | some .local => true | some .cell => true | some .free => true | _ => false
def locB (sc : Scope) (cl : List Str) (x : Str) : Bool := match sc.names.lookup x with | some .local => true | some .cell => decide (x ∈ cl) | _ => false
def dbgB (x : Str) : Bool := !(x == ("__debug__" : Str)) && !(x == ("__classdict__" : Str)) && !(x == ("__name__" : Str))
def starB : Expr → Bool | .Starred .. => false | _ => true
def sliceB : Expr → Bool | .Slice .. => false | _ => true
def setB : Expr → Bool | .Set .. => false | _ => true
def baseB : Expr → Bool | .Call (.Name ..) [] [] _ => false | _ => true
def compB : Expr → Bool | .ListComp .. => false | .SetComp .. => false | .DictComp .. => false | _ => true
def seqTB : Expr → Bool | .Tuple .. => false | .List .. => false | _ => true
def opB : Op → Operator → Bool
  | .add, .Add => true | .sub, .Sub => true | .mul, .Mult => true | .mod, .Mod => true | .fdiv, .FloorDiv => true | .modN, .Mod => true | .fdivN, .FloorDiv => true | .pow, .Pow => true | _, _ => false
def cmpB : Op → CmpOp → Bool
  | .eq, .Eq => true | .eqt, .Eq => true | .net, .NotEq => true | .ne, .NotEq => true | .lt, .Lt => true | .le, .LtE => true | .gt, .Gt => true | .ge, .GtE => true | .mem, .In => true | .nmem, .NotIn => true | _, _ => false
def biN : Bi → Str
  | .len => "len" | .int => "int" | .str => "str" | .tuple => "tuple" | .list => "list" | .max2 => "max" | .min2 => "min" | .abs => "abs" | .ord => "ord" | .sum => "sum" | .maxl => "max" | .minl => "min" | .any => "any" | .all => "all" | .sorted => "sorted" | .dict => "dict" | .lenset => "?"
def bmN : Bm → Str
  | .append => "append" | .pop => "pop" | .extend => "extend" | .clear => "clear" | .reverse => "reverse" | .remove => "remove" | .find => "find" | .startswith => "startswith" | .partition => "partition" | .split => "split" | .join => "join" | .get => "get" | .update => "update" | _ => "?"
def bmNew : Bm → Bool | .append => true | .pop => true | .extend => true | .clear => true | .reverse => true | .remove => true | .find => true | .startswith => true | .partition => true | .split => true | .join => true | .get => true | .update => true | _ => false
def tyN : Ty → Option Str
  | .int => some "int" | .bool => some "bool" | .str => some "str" | .tuple => some "tuple" | .list => some "list" | .dict => some "dict" | .cls _ => none
def freeB (T : Tab) (sc : Scope) (x : Str) : Bool := glB sc x && decide (x ∈ T.free) && dbgB x
def conB (T : Tab) (sc : Scope) (d : D) : Expr → Bool
  | .Constant (.int i) _ _ => (match d with | .int j => decide (j = i) | _ => false)
  | .Constant (.bool b) _ _ => (match d with | .bl c => decide (c = b) | _ => false)
  | .Constant .none _ _ => (match d with | .non => true | _ => false)
  | .Constant (.str x) _ _ => (match d with | .str y => decide (toS y = x) | _ => false)
  | .Name x _ => glB sc x && dbgB x && (match T.con.lookup x with | some e => D.beq e d | none => false)
  | _ => false
def kdEq : List (List Char × D) → List (List Char × D) → Bool
  | [], [] => true
  | (x, d) :: r, (y, e) :: s => decide (x = y) && (D.beq d e && kdEq r s)
  | _, _ => false
theorem kdEq_eq : ∀ {a b : List (List Char × D)}, kdEq a b = true → a = b
  | [], [], _ => rfl
  | [], _ :: _, h => by cases h
  | _ :: _, [], h => by cases h
  | (x, d) :: r, (y, e) :: s, h => by
    rw [kdEq, Bool.and_eq_true, Bool.and_eq_true, decide_eq_true_eq] at h
    rw [h.1, D.beq_eq h.2.1, kdEq_eq h.2.2]
/-- a written dict of the globals -/
def kdsB (T : Tab) (sc : Scope) (x : Str) (kvs : List (List Char × D)) : Bool := glB sc x && (dbgB x && (match T.kds.lookup x with | some e => kdEq e kvs | none => false))
/-- the last of dfl are ds -/
def dflB (dfl ds : List D) : Bool := decide (ds.length ≤ dfl.length) && D.beqs (dfl.drop (dfl.length - ds.length)) ds
def cellsB (sc : Scope) : List Str := sc.names.filterMap fun y => match y.2 with | .cell => some y.1 | _ => none
def ownL (sl : List Str) (own : List Nat) : List (Str × Nat) := own.map fun i => ((sl[i]?).getD Str.empty, i)
/-- the defs of a list display, by number; none has defaults -/
def pickB (T : Tab) (sc : Scope) : List Nat → List Expr → Bool
  | [], [] => true
  | f :: fs, .Name x _ :: l => glB sc x && (dbgB x && ((match T.fns[f]? with | some q => decide (x ∈ q.1) && q.2.isEmpty | none => false) && pickB T sc fs l))
  | _, _ => false
def lclB (sc : Scope) (x : Str) : Bool := match sc.names.lookup x with | some .local => true | _ => false
section
variable (T : Tab) (sl : List Str)
mutual
def kTg : Tg → Scope → List Str → Expr → Bool
  | .v i, sc, cl, e => match e with
    | .Name x _ => decide (sl[i]? = some x) && locB sc cl x
    | _ => false
  | .tup ts, sc, cl, e => match e with
    | .Tuple es _ _ => kTgs ts sc cl es
    | _ => false
def kTgs : Tgs → Scope → List Str → List Expr → Bool
  | .nil, _, _, es => match es with | [] => true | _ => false
  | .cons t r, sc, cl, es => match es with
    | e :: es => starB e && kTg t sc cl e && kTgs r sc cl es
    | [] => false
end
mutual
def kE : E → Scope → Expr → Bool
  | .v i, sc, e => match e with
    | .Name x _ => decide (sl[i]? = some x) && visB sc x && dbgB x
    | _ => false
  | .c d, sc, e => conB T sc d e
  | .op o a b, sc, e => match e with
    | .BinOp l p r _ => opB o p && kE a sc l && kE b sc r
    | .Compare l [p] [r] _ => cmpB o p && !behindInMarks p r && kE a sc l && kE b sc r
    | _ => false
  | .neg a, sc, e => match e with
    | .UnaryOp .USub x _ => kE a sc x
    | _ => false
  | .not a, sc, e => match e with
    | .UnaryOp .Not x _ => kE a sc x
    | _ => false
  | .and a b, sc, e => match e with
    | .BoolOp .And (x :: y :: r) pos => kE a sc x && (match r with | [] => kE b sc y | _ => kE b sc (.BoolOp .And (y :: r) pos))
    | _ => false
  | .or a b, sc, e => match e with
    | .BoolOp .Or (x :: y :: r) pos => kE a sc x && (match r with | [] => kE b sc y | _ => kE b sc (.BoolOp .Or (y :: r) pos))
    | _ => false
  | .ife c a b, sc, e => match e with
    | .IfExp x y z _ => kE c sc x && kE a sc y && kE b sc z
    | _ => false
  | .chain o o' a b c, sc, e => match e with
    | .Compare x [p, q] [y, z] _ => cmpB o p && cmpB o' q && !lastMarks [p, q] [y, z] && kE a sc x && kE b sc y && kE c sc z
    | _ => false
  | .isN a, sc, e => match e with
    | .Compare x [.Is] [.Constant .none _ _] _ => kE a sc x
    | _ => false
  | .notN a, sc, e => match e with
    | .Compare x [.IsNot] [.Constant .none _ _] _ => kE a sc x
    | _ => false
  | .isB a neg b, sc, e => match e with
    | .Compare x [.Is] [.Constant (.bool c) _ _] _ => !neg && (c == b) && kE a sc x
    | .Compare x [.IsNot] [.Constant (.bool c) _ _] _ => neg && (c == b) && kE a sc x
    | _ => false
  | .tup es, sc, e => match e with
    | .Tuple xs _ _ => kEs es sc xs
    | _ => false
  | .lst es, sc, e => match e with
    | .List xs _ => kEs es sc xs
    | _ => false
  | .dic es, sc, e => match e with
    | .Dict ks vs _ => kPs es sc ks vs && decide (ks.length ≤ 15)
    | _ => false
  | .call f es ds, sc, e => match e with
    | .Call (.Name x _) as [] _ => glB sc x && dbgB x && kEs es sc as && (match T.fns[f]? with | some q => decide (x ∈ q.1) && dflB q.2 ds | none => false)
    | _ => false
  | .make c f es ds, sc, e => match e with
    | .Call (.Name x _) as [] _ => glB sc x && dbgB x && kEs es sc as && (match T.cls[c]? with | some q => decide (x = q.1) && decide (q.2.1 = f) && dflB q.2.2 ds | none => false)
    | _ => false
  | .meth m o es, sc, e => match e with
    | .Call (.Attribute x n ap) as [] p => baseB x && kE o sc x && kEs es sc as && decide (T.mths[m]? = some n) && (ap.endLine == p.line) && decide (as.length < 30)
    | _ => false
  | .fld o f, sc, e => match e with
    | .Attribute x n _ => baseB x && kE o sc x && decide (T.flds[f]? = some n)
    | _ => false
  | .ix a b, sc, e => match e with
    | .Subscript x y _ => sliceB y && kE a sc x && kE b sc y
    | _ => false
  | .sl a lo hi, sc, e => match e with
    | .Subscript x (.Slice l h none _) _ => kE a sc x && kEo lo sc l && kEo hi sc h
    | _ => false
  | .bi b es, sc, e => match e with
    | .Call (.Name x _) (a :: as) [] _ => decide (x = biN b) && freeB T sc x && (match b with | .lenset => false | _ => true) && kEs es sc (a :: as)
    | _ => false
  | .isi a t, sc, e => match e with
    | .Call (.Name x _) [y, .Name z _] [] _ => decide (x = ("isinstance" : Str)) && freeB T sc x && decide (tyN t = some z) && freeB T sc z && starB y && kE a sc y
    | _ => false
  | .bm m o es, sc, e => match e with
    | .Call (.Attribute x n ap) as [] p => bmNew m && decide (n = bmN m) && baseB x && kE o sc x && kEs es sc as && (ap.endLine == p.line) && decide (as.length < 30)
    | _ => false
  | .lc tg it ifs elt own, sc, e => match e with
    | .ListComp x [⟨t, i, fs, 0⟩] scope _ => kIt it sc t i && setB i && blkC sl sc scope (ownL sl own) && (slotsT tg).all (fun j => decide (j ∈ own)) && kTg sl tg (relS scope sc) (cellsB scope) t && kIfs ifs (relS scope sc) fs && kE elt (relS scope sc) x
    | _ => false
  | .kix kvs k, sc, e => match e with
    | .Subscript (.Name x _) y _ => kdsB T sc x kvs && (sliceB y && kE k sc y)
    | _ => false
  | .kget kvs k d, sc, e => match e with
    | .Call (.Attribute (.Name x _) n ap) [y, z] [] p => kdsB T sc x kvs && (decide (n = ("get" : Str)) && ((ap.endLine == p.line) && (starB y && (starB z && (kE k sc y && kE d sc z)))))
    | _ => false
  | .kmem kvs neg k, sc, e => match e with
    | .Compare y [.In] [.Name x np] _ => kdsB T sc x kvs && (!neg && (!behindInMarks .In (.Name x np) && kE k sc y))
    | .Compare y [.NotIn] [.Name x np] _ => kdsB T sc x kvs && (neg && (!behindInMarks .NotIn (.Name x np) && kE k sc y))
    | _ => false
  | .tzip a b, sc, e => match e with
    | .Call (.Name x _) [.Call (.Name y _) [u, v] [] _] [] _ => decide (x = ("tuple" : Str)) && (freeB T sc x && (decide (y = ("zip" : Str)) && (freeB T sc y && (starB u && (starB v && (kE a sc u && kE b sc v))))))
    | _ => false
  | .maxd a d, sc, e => match e with
    | .Call (.Name x _) [y] [⟨some k, .Constant (.int i) _ _, _⟩] _ => decide (x = ("max" : Str)) && (freeB T sc x && (decide (k = ("default" : Str)) && (decide (i = d) && (starB y && kE a sc y))))
    | _ => false
  | .rvs a, sc, e => match e with
    | .Subscript x (.Slice none none (some (.UnaryOp .USub (.Constant (.int i) _ _) _)) _) _ => decide (i = 1) && kE a sc x
    | _ => false
  | .pick fs k es, sc, e => match e with
    | .Call (.Subscript (.List l _) i _) (y :: ys) [] _ => pickB T sc fs l && (decide (fs.length ≤ 100) && (sliceB i && (kE k sc i && kEs es sc (y :: ys))))
    | _ => false
  | .lens _, _, _ => false
  | .isc a c, sc, e => match e with
    | .Call (.Name x _) [y, .Name z _] [] _ => decide (x = ("isinstance" : Str)) && (freeB T sc x && (glB sc z && (dbgB z && ((match T.cls[c]? with | some q => decide (z = q.1) | none => false) && (decide (c ∈ T.ins) && (starB y && kE a sc y))))))
    | _ => false
def kEs : Es → Scope → List Expr → Bool
  | .nil, _, es => match es with | [] => true | _ => false
  | .cons e r, sc, es => match es with
    | x :: xs => starB x && kE e sc x && kEs r sc xs
    | [] => false
/-- at most one if -/
def kIfs : Es → Scope → List Expr → Bool
  | .nil, _, es => match es with | [] => true | _ => false
  | .cons e r, sc, es => match es with
    | [x] => kE e sc x && (match r with | .nil => true | _ => false)
    | _ => false
def kPs : Es → Scope → List (Option Expr) → List Expr → Bool
  | .nil, _, ks, vs => match ks, vs with | [], [] => true | _, _ => false
  | .cons k r, sc, ks, vs => match ks, vs with
    | some x :: ks, y :: vs => kE k sc x && (match r with
      | .cons v r => kE v sc y && kPs r sc ks vs
      | .nil => false)
    | _, _ => false
def kEo : Eo → Scope → Option Expr → Bool
  | .no, _, o => match o with | none => true | _ => false
  | .so e, sc, o => match o with | some x => kE e sc x | none => false
def kIt : It → Scope → Expr → Expr → Bool
  | .any e, sc, _, x => kE e sc x
  | .range1 e, sc, _, x => match x with
    | .Call (.Name n _) [a] [] _ => decide (n = ("range" : Str)) && freeB T sc n && starB a && kE e sc a
    | _ => false
  | .range2 e f, sc, _, x => match x with
    | .Call (.Name n _) [a, b] [] _ => decide (n = ("range" : Str)) && freeB T sc n && starB a && starB b && kE e sc a && kE f sc b
    | _ => false
  | .enum e, sc, t, x => match t with
    | .Tuple .. => match x with
      | .Call (.Name n _) [a] [] _ => decide (n = ("enumerate" : Str)) && freeB T sc n && starB a && kE e sc a
      | _ => false
    | _ => false
  | .zip e f, sc, t, x => match t with
    | .Tuple .. => match x with
      | .Call (.Name n _) [a, b] [] _ => decide (n = ("zip" : Str)) && freeB T sc n && starB a && starB b && kE e sc a && kE f sc b
      | _ => false
    | _ => false
  | .items e, sc, t, x => match t with
    | .Tuple .. => match x with
      | .Call (.Attribute a n ap) [] [] p => decide (n = ("items" : Str)) && baseB a && (ap.endLine == p.line) && kE e sc a
      | _ => false
    | _ => false
  | .values e, sc, _, x => match x with
    | .Call (.Attribute a n ap) [] [] p => decide (n = ("values" : Str)) && baseB a && (ap.endLine == p.line) && kE e sc a
    | _ => false
  | .rev e, sc, _, x => match x with
    | .Call (.Name n _) [a] [] _ => decide (n = ("reversed" : Str)) && freeB T sc n && starB a && kE e sc a
    | _ => false
  | .ezip e f, sc, t, x => match t with
    | .Tuple .. => match x with
      | .Call (.Name n _) [.Call (.Name m _) [a, b] [] _] [] _ => decide (n = ("enumerate" : Str)) && freeB T sc n && decide (m = ("zip" : Str)) && freeB T sc m && starB a && starB b && kE e sc a && kE f sc b
      | _ => false
    | _ => false
  | .revr e, sc, _, x => match x with
    | .Call (.Name n _) [.Call (.Name m _) [a] [] _] [] _ => decide (n = ("reversed" : Str)) && freeB T sc n && decide (m = ("range" : Str)) && freeB T sc m && starB a && kE e sc a
    | _ => false
end
/-- a name set to a comprehension on one line -/
def swapB (sc : Scope) (tg v : Expr) (line : Nat) : Bool := match tg, v with
  | .Name x p, .ListComp _ _ s vp => p.line == vp.line && (match sc.names.lookup x with | some .local => true | _ => false) && !(s.names.any fun y => y.1 == x && (y.2 == .local || y.2 == .cell))
  | _, _ => false
/-- a name that inner blocks share -/
def cellTB (sc : Scope) (tg : Expr) : Bool := match tg with
  | .Name x _ => (match sc.names.lookup x with | some .cell => true | _ => false)
  | _ => false
mutual
def kS : S → Scope → List Str → Stmt → Bool
  | .set t e, sc, cl, s => match s with
    | .Assign [tg] v p => (seqTB tg || seqTB v) && (compB v || (swapB sc tg v p.line || cellTB sc tg)) && kTg sl t sc cl tg && kE T sl e sc v
    | _ => false
  | .par i j a b, sc, _, s => match s with
    | .Assign [.Tuple [.Name x p, .Name y q] _ _] (.Tuple [u, v] _ _) _ => decide (sl[i]? = some x) && (decide (sl[j]? = some y) && (decide (x ≠ y) && (lclB sc x && (lclB sc y && (decide (p.line = q.line) && (starB u && (starB v && (!foldedForSure 8 u && (!constantsAlone 8 u && (kE T sl a sc u && kE T sl b sc v))))))))))
    | _ => false
  | .setu ts e, sc, cl, s => match s with
    | .Assign [.Tuple es _ _] v p => seqTB v && compB v && kTgs sl ts sc cl es && kE T sl e sc v
    | _ => false
  | .setix o i e, sc, _, s => match s with
    | .Assign [.Subscript a b _] v _ => sliceB b && kE T sl o sc a && kE T sl i sc b && kE T sl e sc v
    | _ => false
  | .setfld o f e, sc, _, s => match s with
    | .Assign [.Attribute a n _] v _ => decide (T.flds[f]? = some n) && kE T sl o sc a && kE T sl e sc v
    | _ => false
  | .augfld o f e, sc, _, s => match s with
    | .AugAssign (.Attribute a n _) .Add v _ => decide (T.flds[f]? = some n) && kE T sl o sc a && kE T sl e sc v
    | _ => false
  | .ex e, sc, _, s => match s with
    | .Expr v _ => compB v && kE T sl e sc v
    | _ => false
  | .ret e, sc, _, s => match s with
    | .Return (some v) _ => kE T sl e sc v
    | _ => false
  | .retn, _, _, s => match s with
    | .Return none _ => true
    | _ => false
  | .ife c a b, sc, cl, s => match s with
    | .If x p q _ => kE T sl c sc x && kSs a sc cl p && kSs b sc cl q
    | _ => false
  | .forr t it b, sc, cl, s => match s with
    | .For tg i body [] _ => kIt T sl it sc tg i && setB i && kTg sl t sc cl tg && kSs b sc cl body
    | _ => false
  | .whl c b, sc, cl, s => match s with
    | .While x body [] _ => kE T sl c sc x && kSs b sc cl body
    | _ => false
  | .pass, _, _, s => match s with
    | .Pass _ => true
    | _ => false
  | .raise _, _, _, _ => false
  | .nev, _, _, _ => true
def kSs : Ss → Scope → List Str → List Stmt → Bool
  | .nil, _, _, ss => match ss with | [] => true | _ => false
  | .cons s r, sc, cl, ss => match ss with
    | x :: xs => kS s sc cl x && kSs r sc cl xs
    | [] => false
end
end
end MP
namespace MP
open PySem PySem.Spec PyProof.Rows L2
theorem nolen_zip : typeLookup (.type "zip") "__len__" = pure none := by rw [typeLookup_type, builtinLookup_eq_fast]; kernel_rfl
theorem nohint_zip : typeLookup (.type "zip") "__length_hint__" = pure none := by rw [typeLookup_type, builtinLookup_eq_fast]; kernel_rfl
/-- pairs laid one behind the other -/
inductive ZL (H : Hp) (xs ys : List V) : Nat → List Addr → Hp → Prop where
  | zero : ZL H xs ys 0 [] H
  | succ {i : Nat} {Ts : List Addr} {Hi : Hp} {T : Addr} {x y : V} : ZL H xs ys i Ts Hi → xs[i]? = some x → ys[i]? = some y → Hi T = none → ZL H xs ys (i + 1) (Ts ++ [T]) (upd Hi T (.tup [x, y]))
/-- where a zip over two lists stands: its tuple at hand, or told and held -/
structure ZSt (h : Heap) (z TI TO i1 i2 a b : Addr) (i : Nat) : Prop where
  st : (IsZip h z TI TO .none ∧ ∃ x y, IsPair h TO x y) ∨ ∃ T f x y, IsZipHeld h z TI TO T f ∧ IsPair h T x y
  ti : IsPair h TI (.ref i1) (.ref i2)
  to : ∃ x y, IsPair h TO x y
  t1 : h.IsListIter i1 a i
  t2 : h.IsListIter i2 b i
theorem cls_eq {o1 o2 : Obj} (h : some o1 = some o2) : o1.cls = o2.cls := by rw [Option.some.inj h]
theorem ty_eq {a b : String} (h : Value.type a = Value.type b) : a = b := by injection h
theorem sqL_upd {K : PySem.W.Frag} {H : Hp} {a T : Addr} {xs : List V} {o : HO} (h : SqL K H a xs) (hT : H T = none) : SqL K (upd H T o) a xs := by
  rcases h with (h | ⟨ob, h⟩) | h
  · exact .inl (.inl (by rw [upd_ne (fun e => by rw [e, hT] at h; cases h)]; exact h))
  · exact .inl (.inr ⟨ob, by rw [upd_ne (fun e => by rw [e, hT] at h; cases h)]; exact h⟩)
  · exact .inr h
theorem fpOk_upd {X : Cx} {pins : List (Addr × Obj)} {H : Hp} {c T : Addr} {o : HO} (h : FpOk X pins H c) (hc : c ≠ T) : FpOk X pins (upd H T o) c := ⟨by rw [upd_ne hc]; exact h.1, h.2⟩
section
variable {X : Cx} {pins : List (Addr × Obj)} {σ : L2.St} {A : Around}
theorem ext_zip (hh : A.handled = none) {S z TI TO i1 i2 a b : Addr} (D : ZipApart z TI TO i1 i2 a b) (hS : S ≠ z ∧ S ≠ TI ∧ S ≠ TO ∧ S ≠ i1 ∧ S ≠ i2) {H0 : Hp} {xs ys : List V} {n : Nat} (hn : n = min xs.length ys.length) (hnl : n ≤ sizeLine) (res : Value) {R : Result → Shared → Prop} :
    ∀ (k i : Nat) (s : Shared) (Hi : Hp) (Ts : List Addr) (acc : Array Value) (c : Nat), n - i = k → i ≤ n → Inv X pins σ Hi s → (∀ c ∈ [S, z, TI, TO, i1, i2], FpOk X pins Hi c) → ZL H0 xs ys i Ts Hi → SqL X.K Hi a xs → SqL X.K Hi b ys →
      acc.toList = Ts.map Value.ref → ZSt s.heap z TI TO i1 i2 a b i → s.heap.get? S = some { cls := .type "list", dict := none, data := .seq acc c, slots := #[] } →
      (∀ s' Hn Ts' (acc' : Array Value) c', Inv X pins σ Hn s' → ZL H0 xs ys n Ts' Hn → acc'.toList = Ts'.map Value.ref → acc'.size = n → s'.heap.get? S = some { cls := .type "list", dict := none, data := .seq acc' c', slots := #[] } → R (.ok (.ret res)) s') →
      codeAny (model X.prog X.w) A (.builtin "list.extend.loop" ⟨[.ref S, .ref z, res], []⟩) R s := by
  have zlen : ∀ {i Ts Hi}, ZL H0 xs ys i Ts Hi → Ts.length = i := by
    intro i Ts Hi h
    induction h with
    | zero => rfl
    | succ _ _ _ _ ih => rw [List.length_append, ih]; rfl
  intro k
  induction k with
  | zero =>
    intro i s Hi Ts acc c hk hi I hf hz ha hb hacc hst hSo hR
    have hin : i = n := by omega
    subst hin
    obtain ⟨its, rv, p, _⟩ := I.list ha
    obtain ⟨its2, rv2, p2, _⟩ := I.list hb
    have hend : its.toArray[i]? = none ∨ its2.toArray[i]? = none := by
      have e1 := rv.length
      have e2 := rv2.length
      rcases Nat.le_total xs.length ys.length with h | h
      · refine .inl ?_
        rw [List.getElem?_toArray]
        exact List.getElem?_eq_none (by omega)
      · refine .inr ?_
        rw [List.getElem?_toArray]
        exact List.getElem?_eq_none (by omega)
    have hsz : acc.size = i := by rw [← zlen hz, ← Array.length_toList, hacc, List.length_map]
    refine codeAny_builtin F.entry_extend_loop ?_
    rw [Around.under_plainId F.plain_extend_loop _]
    show wpAny _ A.in1 (pyNext (.ref z) >>= _) _ _ s
    have fin : ∀ h', (∀ c o, c ≠ z → c ≠ TO → c ≠ i1 → c ≠ i2 → s.heap.get? c = some o → h'.get? c = some o) → R (.ok (.ret res)) { s with heap := h' } := fun h' hk => by
      refine hR _ Hi Ts acc c (I.turnedL (t' := s.toks) (ch := [S, z, TI, TO, i1, i2]) (fun b o hb e => hk b o (fun q => hb (by simp [q])) (fun q => hb (by simp [q])) (fun q => hb (by simp [q])) (fun q => hb (by simp [q])) e) hf) hz hacc hsz ?_
      exact hk S _ hS.1 hS.2.2.1 hS.2.2.2.1 hS.2.2.2.2 hSo
    rcases hst.st with ⟨hz0, x0, y0, hTO⟩ | ⟨T, f, x0, y0, hz0, hT⟩
    · exact wpAny_bind (wpAny_pyNext_zip_end hh D hz0 hst.ti hTO hst.t1 hst.t2 p.isList p2.isList hend fun h' hk => wpAny_pure (fin h' hk))
    · exact wpAny_bind (wpAny_pyNext_zip_end_held hh D hz0 hT hst.ti hst.t1 hst.t2 p.isList p2.isList hend fun h' hk => wpAny_pure (fin h' fun c o c1 _ c3 c4 e => hk c o c1 c3 c4 e))
  | succ k ih =>
    intro i s Hi Ts acc c hk hi I hf hz ha hb hacc hst hSo hR
    have hlt : i < n := by omega
    obtain ⟨its, rv, p, _⟩ := I.list ha
    obtain ⟨its2, rv2, p2, _⟩ := I.list hb
    have hx : i < xs.length := by omega
    have hy : i < ys.length := by omega
    obtain ⟨u, hu, ru⟩ := rv.get (List.getElem?_eq_getElem hx)
    obtain ⟨u2, hu2, ru2⟩ := rv2.get (List.getElem?_eq_getElem hy)
    have hsz : acc.size = i := by rw [← zlen hz, ← Array.length_toList, hacc, List.length_map]
    refine codeAny_builtin F.entry_extend_loop ?_
    rw [Around.under_plainId F.plain_extend_loop _]
    show wpAny _ A.in1 (pyNext (.ref z) >>= _) _ _ s
    have lt : ∀ {c o}, s.heap.get? c = some o → c ≠ s.heap.objs.size := fun e => Nat.ne_of_lt (Heap.lt_size e)
    have key : ∀ h' T f x0 y0, IsZipHeld h' z TI TO T f → IsPair h' T x0 y0 → (∃ x y, IsPair h' TO x y) → h'.IsListIter i1 a (i + 1) → h'.IsListIter i2 b (i + 1) → IsPair h' s.heap.objs.size u u2 →
        (∀ c o, c ≠ z → c ≠ TO → c ≠ i1 → c ≠ i2 → s.heap.get? c = some o → h'.get? c = some o) →
        h'.get? S = some { cls := .type "list", dict := none, data := .seq acc c, slots := #[] } ∧ codeAny (model X.prog X.w) A (.builtin "list.extend.loop" ⟨[.ref S, .ref z, res], []⟩) R { s with heap := h'.update S (Obj.mapSeq (·.push (.ref s.heap.objs.size))) } := by
      intro h' T f x0 y0 hz' hT' hto h1' h2' hP hk
      have hS' := hk S _ hS.1 hS.2.2.1 hS.2.2.2.1 hS.2.2.2.2 hSo
      refine ⟨hS', ?_⟩
      have nS : ∀ {m o}, h'.get? m = some o → o.cls ≠ .type "list" → S ≠ m := fun e ne q => by rw [← q, hS'] at e; cases e; exact ne rfl
      have up : ∀ {m o}, h'.get? m = some o → S ≠ m → (h'.update S (Obj.mapSeq (·.push (.ref s.heap.objs.size)))).get? m = some o := fun e q => (Heap.get?_update_other _ _ q).trans e
      have hnew : ObjOk X.prog X.w (upd Hi s.heap.objs.size (.tup [xs[i], ys[i]])) (h'.update S (Obj.mapSeq (·.push (.ref s.heap.objs.size)))) s.heap.objs.size (.tup [xs[i], ys[i]]) :=
        ⟨by show 2 ≤ sizeLine; decide, [u, u2], .cons ru (.cons ru2 .nil), ⟨_, up hP (nS hP (fun q => absurd (ty_eq q) (by decide))), rfl, _, rfl⟩⟩
      have I1 : Inv X pins σ (upd Hi s.heap.objs.size (.tup [xs[i], ys[i]])) { s with heap := h'.update S (Obj.mapSeq (·.push (.ref s.heap.objs.size))) } :=
        I.turnedNew (t' := s.toks) (ch := [S, z, TI, TO, i1, i2]) (fun m o hb e => up (hk m o (fun q => hb (by simp [q])) (fun q => hb (by simp [q])) (fun q => hb (by simp [q])) (fun q => hb (by simp [q])) e) (fun q => hb (by simp [q]))) hf (Nat.le_refl _) hnew
      have hTn : Hi s.heap.objs.size = none := I.hok.fresh (Nat.le_refl _)
      obtain ⟨o1, q1, _, d1⟩ := id h1'
      obtain ⟨o2, q2, _, d2⟩ := id h2'
      obtain ⟨p1, r1, c1, _⟩ := id hst.t1
      obtain ⟨p2', r2, c2, _⟩ := id hst.t2
      have ne1 : S ≠ i1 := hS.2.2.2.1
      have ne2 : S ≠ i2 := hS.2.2.2.2
      have hzs : ∃ oz, s.heap.get? z = some oz := by
        rcases hst.st with ⟨q, _⟩ | ⟨_, _, _, _, q, _⟩
        · exact ⟨_, q⟩
        · exact ⟨_, q⟩
      obtain ⟨oz, hzs⟩ := hzs
      refine ih (i + 1) _ _ (Ts ++ [s.heap.objs.size]) (acc.push (.ref s.heap.objs.size)) _ (by omega) hlt I1 (fun m hm => ?_) (.succ hz (List.getElem?_eq_getElem hx) (List.getElem?_eq_getElem hy) hTn) (sqL_upd ha hTn) (sqL_upd hb hTn) (by simp [hacc]) ⟨.inr ⟨T, f, x0, y0, up hz' hS.1, up hT' (nS hT' (fun q => absurd (ty_eq q) (by decide)))⟩, ?_, ?_, h1'.at fun o e => up e ne1, h2'.at fun o e => up e ne2⟩ (Heap.get?_update_self _ hS' rfl) hR
      · refine fpOk_upd (hf m hm) ?_
        have hm' : m = S ∨ m = z ∨ m = TI ∨ m = TO ∨ m = i1 ∨ m = i2 := by simpa using hm
        rcases hm' with q | q | q | q | q | q
        · rw [q]; exact lt hSo
        · rw [q]; exact lt hzs
        · rw [q]; exact lt hst.ti
        · rw [q]
          obtain ⟨x9, y9, q9⟩ := hst.to
          exact lt q9
        · rw [q]; exact lt r1
        · rw [q]; exact lt r2
      · exact up (hk _ _ D.TIz D.TITO D.TIi1 D.TIi2 hst.ti) hS.2.1
      · obtain ⟨x9, y9, q9⟩ := hto
        exact ⟨x9, y9, up q9 hS.2.2.1⟩
    have fits : acc.size ≤ sizeLine := by omega
    have fits2 : (acc.push (.ref s.heap.objs.size)).size ≤ sizeLine + 1 := by rw [Array.size_push]; omega
    rcases hst.st with ⟨hz0, x0, y0, hTO⟩ | ⟨T, f, x0, y0, hz0, hT⟩
    · refine wpAny_bind (wpAny_pyNext_zip_item D hz0 hst.ti hTO hst.t1 hst.t2 p.isList p2.isList (x := u) (y := u2) (by simpa using hu) (by simpa using hu2) fun h' a1 a2 a3 a4 a5 a6 a7 => ?_)
      obtain ⟨hS', hc⟩ := key h' _ false u u2 a1 a5 ⟨_, _, a2⟩ a3 a4 a5 a7
      show wpAny _ A.in1 (updateSeq S (·.push _) >>= _) _ _ _
      refine wpAny_bind ?_
      exact wpAny_updateSeq hS' rfl (wpAny_pure ⟨plainId_quiet F.plain_extend_loop _, hc⟩) fits fits2
    · refine wpAny_bind (wpAny_pyNext_zip_item_held D hz0 hT hst.ti hst.t1 hst.t2 p.isList p2.isList (x := u) (y := u2) (by simpa using hu) (by simpa using hu2) fun h' a1 a3 a4 a5 a6 a7 => ?_)
      have nz : ∀ {m o}, s.heap.get? m = some o → True := fun _ => trivial
      have tz : T ≠ z := fun q => absurd (ty_eq (cls_eq (hz0.symm.trans (q ▸ hT)))) (by decide)
      have t1 : T ≠ i1 := fun q => by obtain ⟨o, e, c, _⟩ := hst.t1; exact absurd (ty_eq (c.symm.trans (cls_eq (e.symm.trans (q ▸ hT))))) (by decide)
      have t2 : T ≠ i2 := fun q => by obtain ⟨o, e, c, _⟩ := hst.t2; exact absurd (ty_eq (c.symm.trans (cls_eq (e.symm.trans (q ▸ hT))))) (by decide)
      obtain ⟨hS', hc⟩ := key h' T true x0 y0 a1 (a7 _ _ tz t1 t2 hT) (by obtain ⟨x9, y9, q9⟩ := hst.to; exact ⟨x9, y9, a7 _ _ D.TOz D.TOi1 D.TOi2 q9⟩) a3 a4 a5 (fun c o c1 _ c3 c4 e => a7 c o c1 c3 c4 e)
      show wpAny _ A.in1 (updateSeq S (·.push _) >>= _) _ _ _
      refine wpAny_bind ?_
      exact wpAny_updateSeq hS' rfl (wpAny_pure ⟨plainId_quiet F.plain_extend_loop _, hc⟩) fits fits2
variable {E : Value → Shared → Prop} {s : Shared}
theorem collect_zip {Q : List Value → Shared → Prop} (hh : A.handled = none) {z TI TO i1 i2 a b : Addr} (D : ZipApart z TI TO i1 i2 a b) {H : Hp} {xs ys : List V} (I : Inv X pins σ H s) (ha : SqL X.K H a xs) (hb : SqL X.K H b ys)
    (hst : ZSt s.heap z TI TO i1 i2 a b 0) (hz : IsZip s.heap z TI TO .none) (hf : ∀ c ∈ [z, TI, TO, i1, i2], FpOk X pins H c ∧ c < s.heap.objs.size) (hnl : min xs.length ys.length ≤ sizeLine)
    (hQ : ∀ s' Hn Ts (acc : Array Value), Inv X pins σ Hn s' → ZL H xs ys (min xs.length ys.length) Ts Hn → acc.toList = Ts.map Value.ref → acc.size = min xs.length ys.length → Q acc.toList s') :
    wpAny (model X.prog X.w) A (collect (.ref z)) Q E s := by
  have hS : s.heap.objs.size ≠ z ∧ s.heap.objs.size ≠ TI ∧ s.heap.objs.size ≠ TO ∧ s.heap.objs.size ≠ i1 ∧ s.heap.objs.size ≠ i2 := by
    refine ⟨Nat.ne_of_gt (hf z (by simp)).2, Nat.ne_of_gt (hf TI (by simp)).2, Nat.ne_of_gt (hf TO (by simp)).2, Nat.ne_of_gt (hf i1 (by simp)).2, Nat.ne_of_gt (hf i2 (by simp)).2⟩
  have h2 : (Value.type "zip" == Value.type "list") = false := by decide
  have h3 : (Value.type "zip" == Value.type "tuple") = false := by decide
  unfold collect
  refine wpAny_bind (wpAny_runValue (codeAny_builtin F.entry_proto_collect ?_))
  rw [Around.under_plainId F.plain_proto_collect _]
  show wpAny _ A.in1 (newList [] >>= fun l => again (.builtin "list.__iadd__" ⟨[l, .ref z], []⟩)) _ _ s
  refine wpAny_bind (wpAny_newObj_type ?_)
  refine wpAny_pure ⟨plainId_quiet F.plain_list_iadd _, codeAny_builtin F.entry_list_iadd ?_⟩
  rw [Around.under_plainId F.plain_list_iadd _]
  have hz1 : IsZip (s.heap.push { cls := .type "list", data := .seq ([] : List Value).toArray }) z TI TO .none := Heap.get?_push_of_some _ hz
  have hT : ({ s with heap := s.heap.push { cls := .type "list", data := .seq ([] : List Value).toArray } } : Shared).TypeIs (.ref z) "zip" := ⟨_, hz1, rfl⟩
  show wpAny _ A.in1 (Builtin.List.listExtendWith (.ref s.heap.objs.size) (.ref z) (.ref s.heap.objs.size)) _ _ _
  unfold Builtin.List.listExtendWith
  refine wpAny_bind (wpAny_typeOf hT ?_)
  have h1 : Builtin.List.listSameRef (.ref s.heap.objs.size) (.ref z) = false := by simp [Builtin.List.listSameRef, hS.1]
  simp only [h1, h2, h3, Bool.or_false, Bool.false_eq_true, if_false]
  refine wpAny_bind (wpAny_pyIter_zip (s := { s with heap := s.heap.push { cls := .type "list", data := .seq ([] : List Value).toArray } }) hz1 ?_)
  refine wpAny_bind (wpAny_holding ?_)
  unfold Builtin.List.listLengthHint
  refine wpAny_bind (wpAny_specialOf hT nolen_zip ?_)
  show wpAny _ A.in1 (specialOf (Value.ref z) (Str.ofString "__length_hint__") >>= _) _ _ _
  refine wpAny_bind (wpAny_specialOf hT nohint_zip ?_)
  refine wpAny_pure ?_
  show wpAny _ A.in1 (rule "list.extend.makes-room" >>= fun _ => Builtin.List.listTouch (.ref s.heap.objs.size) >>= fun _ =>
    again (.builtin "list.extend.loop" ⟨[.ref s.heap.objs.size, .ref z, .ref s.heap.objs.size], []⟩)) _ _ _
  refine wpAny_bind (wpAny_rule ?_)
  have hS₁ : (s.heap.push { cls := .type "list", data := .seq ([] : List Value).toArray }).get? s.heap.objs.size = some { cls := .type "list", data := .seq ([] : List Value).toArray } := Heap.get?_push_size _ rfl
  refine wpAny_bind ?_
  show wpAny _ A.in1 (updateSeq s.heap.objs.size (·.push .none) >>= fun _ => updateSeq s.heap.objs.size (·.pop)) _ _ _
  refine wpAny_bind (wpAny_updateSeq hS₁ rfl ?_)
  have hS₂ := Heap.get?_update_self (Obj.mapSeq (·.push Value.none)) hS₁ rfl
  refine wpAny_updateSeq hS₂ rfl ?_
  have hS₃ := Heap.get?_update_self (Obj.mapSeq (·.pop)) hS₂ rfl
  have oth : ∀ b o, s.heap.get? b = some o →
      (((s.heap.push { cls := .type "list", data := .seq ([] : List Value).toArray }).update s.heap.objs.size (Obj.mapSeq (·.push Value.none))).update s.heap.objs.size (Obj.mapSeq (·.pop))).get? b = some o :=
    fun b o e => (Heap.get?_update_other _ _ (Nat.ne_of_gt (Heap.lt_size e))).trans ((Heap.get?_update_other _ _ (Nat.ne_of_gt (Heap.lt_size e))).trans (Heap.get?_push_of_some _ e))
  have I1 : Inv X pins σ H { s with heap := ((s.heap.push { cls := .type "list", data := .seq ([] : List Value).toArray }).update s.heap.objs.size (Obj.mapSeq (·.push Value.none))).update s.heap.objs.size (Obj.mapSeq (·.pop)) } := I.kept (t' := s.toks) oth
  have hSf : FpOk X pins H s.heap.objs.size := I.fpOk (Nat.le_refl _) (I.hok.fresh (Nat.le_refl _))
  refine wpAny_pure ⟨plainId_quiet F.plain_extend_loop _, ext_zip (A := A) hh D hS rfl hnl _ _ 0 _ H [] #[] _ rfl (Nat.zero_le _) I1 (fun c hc => ?_) .zero ha hb rfl ⟨?_, oth _ _ hst.ti, ?_, hst.t1.at fun o e => oth _ _ e, hst.t2.at fun o e => oth _ _ e⟩ hS₃ fun s' Hn Ts' acc' c' I' hz' hacc hsz hS' => ?_⟩
  · rcases List.mem_cons.mp hc with q | q
    · rw [q]; exact hSf
    · exact (hf c q).1
  · obtain ⟨x, y, e⟩ := hst.to
    exact .inl ⟨oth _ _ hz, x, y, oth _ _ e⟩
  · obtain ⟨x, y, e⟩ := hst.to
    exact ⟨x, y, oth _ _ e⟩
  · show wpAny _ A (load s.heap.objs.size >>= _) _ _ s'
    refine wpAny_bind (wpAny_load hS' ?_)
    exact wpAny_pure (hQ s' Hn Ts' acc' I' hz' hacc hsz)
theorem code_tuple_new_zip {Q₁ : Value → Shared → Prop} (hh : A.handled = none) {z TI TO i1 i2 a b : Addr} (D : ZipApart z TI TO i1 i2 a b) {H : Hp} {xs ys : List V} (I : Inv X pins σ H s) (ha : SqL X.K H a xs) (hb : SqL X.K H b ys)
    (hst : ZSt s.heap z TI TO i1 i2 a b 0) (hz : IsZip s.heap z TI TO .none) (hf : ∀ c ∈ [z, TI, TO, i1, i2], FpOk X pins H c ∧ c < s.heap.objs.size) (hnl : min xs.length ys.length ≤ sizeLine)
    (h : ∀ s' Hn Ts (acc : Array Value), Inv X pins σ Hn s' → ZL H xs ys (min xs.length ys.length) Ts Hn → acc.toList = Ts.map Value.ref → acc.size = min xs.length ys.length → Q₁ (.ref s'.heap.objs.size) { s' with heap := s'.heap.push { cls := .type "tuple", data := .seq acc } }) :
    codeAny (model X.prog X.w) A (.call (.builtin "tuple.__new__") ⟨[.type "tuple", .ref z], []⟩) (wants Q₁ E) s := by
  refine codeAny_of_tree ?_
  show wpAny _ A.in1 (do checkBuiltinCall "tuple.__new__" ⟨[.type "tuple", .ref z], []⟩; again (.builtin "tuple.__new__" ⟨[.type "tuple", .ref z], []⟩)) _ _ s
  refine wpAny_bind (wpAny_of_eq (F.newCall_tuple_1 _) (wpAny_pure ⟨plainId_quiet F.plain_tuple_new _, codeAny_builtin F.entry_tuple_new ?_⟩))
  rw [Around.under_plainId F.plain_tuple_new _]
  have hsub := sub_tuple_self
  have hinit := init_tuple_lookup
  have hmh := madeHere_tuple
  have hTI : s.TypeIs (.ref z) "zip" := ⟨_, hz, rfl⟩
  have hh1 : A.in1.handled = none := hh
  wp_walk using wpAny_typeOf hTI, collect_zip (A := A.in1) hh1 D I ha hb hst hz hf hnl
  intro s' Hn Ts acc I' hzl hacc hsz
  show wpAny _ _ (Builtin.Tuple.tupleExact acc.toList.toArray >>= fun v => ret v) _ _ _
  unfold Builtin.Tuple.tupleExact
  refine wpAny_bind (wpAny_newObj_type ?_ (by show acc.toList.toArray.size ≤ sizeLine; simp only [Array.toArray_toList]; rw [hsz]; exact hnl))
  refine wpAny_pure ?_
  have e : acc.toList.toArray = acc := by simp
  rw [e]
  exact h s' Hn Ts acc I' hzl hacc hsz
theorem call_tuple_zip {Q : Value → Shared → Prop} (hh : A.handled = none) {z TI TO i1 i2 a b : Addr} (D : ZipApart z TI TO i1 i2 a b) {H : Hp} {xs ys : List V} (I : Inv X pins σ H s) (ha : SqL X.K H a xs) (hb : SqL X.K H b ys)
    (hst : ZSt s.heap z TI TO i1 i2 a b 0) (hz : IsZip s.heap z TI TO .none) (hf : ∀ c ∈ [z, TI, TO, i1, i2], FpOk X pins H c ∧ c < s.heap.objs.size) (hnl : min xs.length ys.length ≤ sizeLine)
    (h : ∀ s' Hn Ts (acc : Array Value), Inv X pins σ Hn s' → ZL H xs ys (min xs.length ys.length) Ts Hn → acc.toList = Ts.map Value.ref → acc.size = min xs.length ys.length → Q (.ref s'.heap.objs.size) { s' with heap := s'.heap.push { cls := .type "tuple", data := .seq acc } }) :
    wpAny (model X.prog X.w) A (call (.type "tuple") [.ref z]) Q E s := by
  refine callType_codes (Q₁ := fun obj s₁ => s₁.TypeIs obj "tuple" ∧ Q obj s₁) F.called_tuple (F.typeCall_tuple_1 _) F.entry_object_init
    (code_tuple_new_zip (A := A.in1) hh D I ha hb hst hz hf hnl fun s' Hn Ts acc I' hzl hacc hsz => ⟨⟨_, Heap.get?_push_size _ rfl, rfl⟩, h s' Hn Ts acc I' hzl hacc hsz⟩) fun obj s₁ h₁ => ?_
  exact ⟨h₁.1, F.args_object_init_2 obj _, object_init_meets F.called_tuple.init.lookup F.called_tuple.made (by decide) X.prog X.w A.in1 _ s₁ ⟨h₁.1, rfl, h₁.2⟩⟩
end
/-- tuple(zip(e, e2)), two lists: a new tuple of new pairs -/
def tTupZip (K : PySem.W.Frag) (ta : TA) : TE := fun σ H Q => ta σ H fun vs H1 => ∃ (a b : Addr) (xs ys : List V), vs = [.ref a, .ref b] ∧ SqL K H1 a xs ∧ SqL K H1 b ys ∧ ∀ Ts H2 q, ZL H1 xs ys (min xs.length ys.length) Ts H2 → H2 q = none → Q (.ref q) (upd H2 q (.tup (Ts.map V.ref)))
theorem vals_refs : ∀ (Ts : List Addr), Vals (Ts.map V.ref) (Ts.map Value.ref)
  | [] => .nil
  | T :: Ts => .cons rfl (vals_refs Ts)
section
variable {X : Cx}
theorem pe_tupZip {e e2 : Expr} {ta : TA} {p p2 pos pos2 : Pos} (hc : X.calm = true) (hg : Gl X "tuple") (hm : X.mg "tuple" = none) (hg2 : Gl X "zip") (hm2 : X.mg "zip" = none) (ha : PA X [e, e2] ta)
    (hs : starEach [e, e2] X.env = (false, eval e X.env) :: starEach [e2] X.env := by rfl) (hpl : (backTo pos2 (starEach [e2] X.env)).any (·.1) = false := by rfl)
    (hs2 : starEach [.Call (.Name "zip" p2) [e, e2] [] pos2] X.env = (false, eval (.Call (.Name "zip" p2) [e, e2] [] pos2) X.env) :: starEach [] X.env := by rfl) :
    PE X (.Call (.Name "tuple" p) [.Call (.Name "zip" p2) [e, e2] [] pos2] [] pos) (tTupZip X.K ta) := by
  refine ⟨fun pins s σ H Q I h => ?_⟩
  refine Call_ (ld_blt I hg hm boot_tuple (PyProof.Rows.callWith_type1 (args_cons (Call_ (ld_blt I hg2 hm2 PyProof.Rows.boot_zip (PyProof.Rows.callWith_type1 (thn (ha.run pos2 pins s σ H _ I h) fun us s1 ⟨vs, H1, I1, r1, q1⟩ => ?_) hs hpl)))) hs2 rfl))
  obtain ⟨a, b, xs, ys, ex, hqx, hqy, q⟩ := q1
  subst ex
  cases r1 with
  | cons r rr =>
    cases rr with
    | cons r' rr =>
      cases rr
      cases r
      cases r'
      obtain ⟨its, rv, p1, hz1⟩ := I1.list hqx
      obtain ⟨its2, rv2, p2, _⟩ := I1.list hqy
      refine call_zip_2 p1.isList p2.isList fun h' hz hTI hTO h1 h2 hsz hk => args_nil ?_
      have I2 : Inv X pins σ H1 { s1 with heap := h' } := I1.kept (t' := s1.toks) hk
      have fresh5 : ∀ c, c ∈ [s1.heap.objs.size + 4, s1.heap.objs.size + 2, s1.heap.objs.size + 3, s1.heap.objs.size, s1.heap.objs.size + 1] → FpOk X pins H1 c ∧ c < h'.objs.size := fun c hcm => by
        have e' : c = s1.heap.objs.size + 4 ∨ c = s1.heap.objs.size + 2 ∨ c = s1.heap.objs.size + 3 ∨ c = s1.heap.objs.size ∨ c = s1.heap.objs.size + 1 := by simpa using hcm
        have hle : s1.heap.objs.size ≤ c ∧ c < s1.heap.objs.size + 5 := by
          rcases e' with z | z | z | z | z <;> rw [z] <;> omega
        exact ⟨I1.fpOk hle.1 (I1.hok.fresh hle.1), by rw [hsz]; exact hle.2⟩
      have hnl : min xs.length ys.length ≤ sizeLine := Nat.le_trans (Nat.min_le_left _ _) hz1
      refine call_tuple_zip (s := { s1 with heap := h' }) (I2.ok.hd hc) (PySem.W.ktu_apart s1.heap.objs.size a b p1.lt p2.lt) I2 hqx hqy ⟨.inl ⟨hz, _, _, hTO⟩, hTI, ⟨_, _, hTO⟩, h1, h2⟩ hz fresh5 hnl fun s' Hn Ts acc I' hzl hacc hac => ?_
      have hTl : Ts.length = acc.size := by rw [← Array.length_toList, hacc, List.length_map]
      refine ⟨.ref s'.heap.objs.size, upd Hn s'.heap.objs.size (.tup (Ts.map V.ref)), I'.laid (t' := s'.toks) (fun c o e => Heap.get?_push_of_some _ e) (Nat.le_refl _) (show ObjOk X.prog X.w _ _ _ (.tup (Ts.map V.ref)) from ⟨by rw [List.length_map, hTl, hac]; exact hnl, acc.toList, by rw [hacc]; exact vals_refs Ts, ?_⟩), rfl, q _ _ _ hzl (I'.hok.fresh (Nat.le_refl _))⟩
      rw [Array.toArray_toList]
      exact IsTup.new _ _
end
end MP
namespace MP
open PySem PySem.Spec PyProof.Rows L2
section
variable {X : Cx} {N : Nm} {P : Prog} {cf mf : Cf}
theorem zip_take : ∀ (xs ys : List D) (i : Nat) (x y : D), xs[i]? = some x → ys[i]? = some y → (zipF xs ys).take (i + 1) = (zipF xs ys).take i ++ [.tup [x, y]]
  | [], _, _, _, _, h, _ => by simp at h
  | _ :: _, [], _, _, _, _, h => by simp at h
  | x :: xs, y :: ys, 0, _, _, h1, h2 => by
    simp at h1 h2
    subst h1 h2
    simp [zipF]
  | x :: xs, y :: ys, i + 1, a, b, h1, h2 => by
    have := zip_take xs ys i a b (by simpa using h1) (by simpa using h2)
    rw [zipF, List.take_succ_cons, List.take_succ_cons, this]; rfl
theorem zip_length : ∀ (xs ys : List D), (zipF xs ys).length = min xs.length ys.length
  | [], _ => by simp [zipF]
  | _ :: _, [] => by simp [zipF]
  | x :: xs, y :: ys => by rw [zipF, List.length_cons, zip_length xs ys, List.length_cons, List.length_cons]; omega
theorem zl_reps {ρ : List Addr} {st : Sto} {H1 : Hp} {xs ys : List D} {vs us : List V} (R : Rl N X.K ρ st H1) (rx : Reps X.K ρ H1 xs vs) (ry : Reps X.K ρ H1 ys us) {i : Nat} {Ts : List Addr} {Hi : Hp} (z : ZL H1 vs us i Ts Hi) :
    Ext ρ H1 ρ Hi ∧ Rl N X.K ρ st Hi ∧ Reps X.K ρ Hi ((zipF xs ys).take i) (Ts.map V.ref) := by
  induction z with
  | zero => exact ⟨Ext.refl, R, by rw [List.take_zero]; exact .nil⟩
  | @succ i Ts Hi T x y z hx hy hT ih =>
    obtain ⟨e, R1, r⟩ := ih
    obtain ⟨e2, R2⟩ := R1.lay (u := .tup [x, y]) hT
    obtain ⟨dx, h1, r1⟩ := rx.get' hx
    obtain ⟨dy, h2, r2⟩ := ry.get' hy
    refine ⟨e.trans e2, R2, ?_⟩
    rw [zip_take xs ys i dx dy h1 h2, List.map_append]
    exact (r.ext e2).app (.cons (.tup (.inl (.inl upd_same)) (.cons (r1.ext (e.trans e2)) (.cons (r2.ext (e.trans e2)) .nil))) .nil)
theorem m_tzip {a b : Expr} {e f : E} {p p2 pos pos2 : Pos} (hc : X.calm = true) (hg : Gl X "tuple") (hm : X.mg "tuple" = none) (hg2 : Gl X "zip") (hm2 : X.mg "zip" = none) (ha : PA X [a, b] (tRs N X.K (evEs P cf mf (.cons e (.cons f .nil)))))
    (hs : starEach [a, b] X.env = [(false, eval a X.env), (false, eval b X.env)]) (hs2 : starEach [b] X.env = [(false, eval b X.env)]) :
    PE X (.Call (.Name "tuple" p) [.Call (.Name "zip" p2) [a, b] [] pos2] [] pos) (tR N X.K fun fr st => (evE P cf mf e fr st).bind fun p => (evE P cf mf f fr p.2).bind fun q => match listF q.2 p.1, listF q.2 q.1 with
      | some xs, some ys => .ok (.tup (zipF xs ys), q.2)
      | _, _ => .no) :=
  PE.imp (pe_tupZip hc hg hm hg2 hm2 ha (by rw [hs, hs2]) (by rw [hs2]; rfl) (by rfl)) fun σ H Q h => by
    obtain ⟨ρ, fr, st, d, st', R, Fr', ee, P'⟩ := h
    obtain ⟨⟨x, st2⟩, e1, ee⟩ := MP.R.bind_eq ee
    obtain ⟨⟨y, st3⟩, e2, ee⟩ := MP.R.bind_eq ee
    dsimp only at ee
    split at ee
    · rename_i xs ys hx hy
      cases ee
      refine ⟨ρ, fr, st, [x, y], _, R, Fr', ev2 e1 e2, fun ρ1 H1 v E1 R1 r1 => ?_⟩
      cases r1 with
      | cons r t =>
        cases t with
        | cons r' t =>
          cases t
          obtain ⟨a1, vs, rfl, rv, s1⟩ := list_at R1 r hx
          obtain ⟨a2, us, rfl, ru, s2⟩ := list_at R1 r' hy
          refine ⟨a1, a2, vs, us, rfl, s1, s2, fun Ts H2 q z hq => ?_⟩
          obtain ⟨E2, R2, r2⟩ := zl_reps R1 rv ru z
          rw [← rv.len, ← ru.len, ← zip_length, List.take_length] at r2
          exact ((P'.after E1).after E2).tup R2 r2 q hq
    · cases ee
end
end MP
namespace MP
open PySem PySem.Spec PyProof.Rows L2
def kwDf (d : Value) : List (Str × Value) := [(Str.ofString "default", d)]
theorem args_mxd (a d : Value) : argsOk "max" ⟨[a], kwDf d⟩ := by unfold argsOk kwDf; kernel_rfl
section
variable {prog : Program} {w : World} {A : Around} {R : Result → Shared → Prop} {I : Addr} {fp wr : List Addr} {n : Nat} {P : Nat → Value → Prop} {St : Nat → Heap → Prop} {dv : Value}
theorem mxd_turns (W : Walks prog w A.in1 I fp wr n P St) (bt : Nat → Nat → Bool) (hcmp : CmpOf prog w A.in1 .Gt P bt) (B : Addr) (hB : B ∉ fp) :
    ∀ (m i : Nat) (s : Shared) (x : Value) (c : Nat), n = i + 1 + m → St (i + 1) s.heap → P (argBest bt i) x →
    s.heap.get? B = some { cls := .type "list", dict := none, data := .seq #[x, x] c, slots := #[] } →
    (∀ v g t, P (argBest bt (n - 1)) v → (∀ b o, b ∉ wr → b ≠ B → s.heap.get? b = some o → g.get? b = some o) → R (.ok (.ret v)) { s with heap := g, toks := t }) →
    codeAny (model prog w) A (.builtin "max.loop" ⟨[.ref I, .none, .ref B], kwDf dv⟩) R s := by
  have hw : B ∉ wr := fun z => hB (W.sub _ z)
  have nm : (toString "max" ++ toString ".loop" : String) = "max.loop" := by decide
  intro m
  induction m with
  | zero =>
    intro i s x c e st hx hb fin
    refine codeAny_builtin PySem.F.entry_max_loop ?_
    rw [Around.under_plainId PySem.F.plain_max_loop _]
    refine wpAny_bind (wpAny_seqItems hb rfl ?_)
    refine wpAny_bind (wpAny_tryCatch (W.done s _ _ (by rw [e]; exact st) fun g t kp => ?_))
    have hb2 := kp B _ hw hb
    show wpAny _ A.in1 (updateSeq B (fun _ => #[]) >>= _) _ _ _
    refine wpAny_bind ?_
    refine wpAny_updateSeq hb2 rfl (wpAny_bind (wpAny_letGo (wpAny_pure ?_)))
    have e1 : n - 1 = i := by omega
    exact fin x _ t (by rw [e1]; exact hx) fun b o h1 h2 q => (Heap.get?_update_other _ _ (Ne.symm h2)).trans (kp b o h1 q)
  | succ m ih =>
    intro i s x c e st hx hb fin
    have lt : i + 1 < n := by omega
    refine codeAny_builtin PySem.F.entry_max_loop ?_
    rw [Around.under_plainId PySem.F.plain_max_loop _]
    refine wpAny_bind (wpAny_seqItems hb rfl ?_)
    refine wpAny_bind (wpAny_tryCatch (W.item (i + 1) s _ _ lt st fun v g t pv st2 kp => ?_))
    have hb2 := kp B _ hw hb
    show wpAny _ A.in1 (tryCatch (holding [v, v] (richCompare .Gt v x >>= _)) _ >>= _) _ _ _
    refine wpAny_bind (wpAny_tryCatch (wpAny_holding (wpAny_bind (hcmp (i + 1) (argBest bt i) v x _ _ _ pv hx ?_))))
    refine wpAny_bind (wpAny_holding (wpAny_truthy_bool ?_))
    refine wpAny_bind (wpAny_letGo (wpAny_pure ?_))
    cases cmp : bt (i + 1) (argBest bt i) with
    | true =>
      simp only [if_true]
      refine wpAny_bind ?_
      refine wpAny_updateSeq hb2 rfl (wpAny_bind (wpAny_letGo ?_))
      rw [nm]
      refine wpAny_pure ⟨plainId_quiet PySem.F.plain_max_loop _, ih (i + 1) _ v _ (by omega) (W.frame _ _ _ st2 fun b z o q => ?_) (by simp only [argBest, cmp, if_true]; exact pv) (Heap.get?_update_self _ hb2 rfl) fun v2 g2 t2 p2 k2 => ?_⟩
      · exact (Heap.get?_update_other _ _ (fun z2 : B = b => hB (by rw [z2]; exact z))).trans q
      · exact fin v2 g2 t2 p2 fun b o h1 h2 q => k2 b o h1 h2 ((Heap.get?_update_other _ _ (Ne.symm h2)).trans (kp b o h1 q))
    | false =>
      simp only [Bool.false_eq_true, if_false]
      refine wpAny_bind (wpAny_letGo ?_)
      rw [nm]
      exact wpAny_pure ⟨plainId_quiet PySem.F.plain_max_loop _, ih (i + 1) _ x c (by omega) st2 (by simp only [argBest, cmp, Bool.false_eq_true, if_false]; exact hx) hb2 fun v2 g2 t2 p2 k2 => fin v2 g2 t2 p2 fun b o h1 h2 q => k2 b o h1 h2 (kp b o h1 q)⟩
theorem mxd_first (W : Walks prog w A.in1 I fp wr n P St) (bt : Nat → Nat → Bool) (hcmp : CmpOf prog w A.in1 .Gt P bt) (B : Addr) (hB : B ∉ fp) {s : Shared} {c : Nat} (st : St 0 s.heap)
    (hb : s.heap.get? B = some { cls := .type "list", dict := none, data := .seq #[] c, slots := #[] })
    (fin : 0 < n → ∀ v g t, P (argBest bt (n - 1)) v → (∀ b o, b ∉ wr → b ≠ B → s.heap.get? b = some o → g.get? b = some o) → R (.ok (.ret v)) { s with heap := g, toks := t })
    (fin0 : n = 0 → ∀ g t, (∀ b o, b ∉ wr → b ≠ B → s.heap.get? b = some o → g.get? b = some o) → R (.ok (.ret dv)) { s with heap := g, toks := t }) :
    codeAny (model prog w) A (.builtin "max.loop" ⟨[.ref I, .none, .ref B], kwDf dv⟩) R s := by
  have hw : B ∉ wr := fun z => hB (W.sub _ z)
  have nm : (toString "max" ++ toString ".loop" : String) = "max.loop" := by decide
  refine codeAny_builtin PySem.F.entry_max_loop ?_
  rw [Around.under_plainId PySem.F.plain_max_loop _]
  refine wpAny_bind (wpAny_seqItems hb rfl ?_)
  by_cases h0 : n = 0
  · refine wpAny_bind (wpAny_tryCatch (W.done s _ _ (by rw [h0]; exact st) fun g t kp => ?_))
    exact wpAny_bind (wpAny_rule (wpAny_pure (fin0 h0 g t fun b o h1 _ q => kp b o h1 q)))
  · refine wpAny_bind (wpAny_tryCatch (W.item 0 s _ _ (by omega) st fun v g t pv st2 kp => ?_))
    have hb2 := kp B _ hw hb
    show wpAny _ A.in1 (updateSeq B (fun _ => #[v, v]) >>= _) _ _ _
    refine wpAny_bind ?_
    refine wpAny_updateSeq hb2 rfl ?_
    rw [nm]
    refine wpAny_pure ⟨plainId_quiet PySem.F.plain_max_loop _, mxd_turns W bt hcmp B hB (n - 1) 0 _ v _ (by omega) (W.frame _ _ _ st2 fun b z o q => ?_) pv (Heap.get?_update_self _ hb2 rfl) fun v2 g2 t2 p2 k2 => ?_⟩
    · exact (Heap.get?_update_other _ _ (fun z2 : B = b => hB (by rw [z2]; exact z))).trans q
    · exact fin (by omega) v2 g2 t2 p2 fun b o h1 h2 q => k2 b o h1 h2 ((Heap.get?_update_other _ _ (Ne.symm h2)).trans (kp b o h1 q))
end
section
variable {prog : Program} {w : World} {A : Around} {E : Value → Shared → Prop} {s : Shared} {xs : Array (Int × Tok)} {l : Addr} {dv : Value}
theorem mxd_call {Q : Value → Shared → Prop} (hh : A.handled = none) (hl : s.heap.IsList l (intItems xs))
    (h : 0 < xs.size → ∀ v g t, (intItems xs)[argBest (fun i j => decide (numAt xs i > numAt xs j)) (xs.size - 1)]? = some v → (∀ b o, s.heap.get? b = some o → g.get? b = some o) → Q v { s with heap := g, toks := t })
    (h0 : xs.size = 0 → ∀ g t, (∀ b o, s.heap.get? b = some o → g.get? b = some o) → Q dv { s with heap := g, toks := t }) :
    wpAny (model prog w) A (call (.builtin "max") [.ref l] (kwDf dv)) Q E s := by
  have nm : (toString "max" ++ toString ".loop" : String) = "max.loop" := by decide
  refine PyProof.Rows.kmk_tree PySem.F.kind_max PySem.F.plain_max PySem.F.entry_max (args_mxd _ _) ?_
  show wpAny _ A.in1 (Builtin.Builtins.bindParams "max" ["key", "default"] 0 ⟨[], kwDf dv⟩ >>= _) _ _ s
  refine wpAny_bind (wpAny_of_eq (show Builtin.Builtins.bindParams "max" ["key", "default"] 0 ⟨[], kwDf dv⟩ = pure [none, some dv] from rfl) ?_)
  refine wpAny_bind (wpAny_pure ?_)
  refine wpAny_bind (iter_intList hl fun s2 e st hfp hlI => ?_)
  subst e
  refine wpAny_bind (wpAny_newObj_type ?_)
  rw [nm]
  have W := Walks.list (prog := prog) (w := w) (A := A.in1) hh _ l hlI (intItems xs)
  have hsz : (intItems xs).size = xs.size := by simp [intItems]
  refine wpAny_pure ⟨plainId_quiet PySem.F.plain_max_loop _, mxd_first W _ (CmpOf.ints_gt (numAt xs) (fun _ _ => intItems_at)) _ (fun hm => Nat.lt_irrefl _ (hfp _ hm)) (W.frame _ _ _ st fun b _ o e => Heap.get?_push_of_some _ e) (Heap.get?_push_size _ rfl) (fun hn v g t hP hk => ?_) fun hn g t hk => ?_⟩
  · refine h (by omega) v g t (by rw [hsz] at hP; exact hP) (old_kept fun b o hbw e => hk b o hbw (Nat.ne_of_lt (Heap.lt_size e)) (Heap.get?_push_of_some _ e))
  · exact h0 (by omega) g t (old_kept fun b o hbw e => hk b o hbw (Nat.ne_of_lt (Heap.lt_size e)) (Heap.get?_push_of_some _ e))
end
end MP
namespace MP
open PySem PySem.Spec PyProof.Rows L2
section
variable {X : Cx} {N : Nm} {fa fb fk : Fr → Sto → RD} {a b k : Expr} {fs : Fr → Sto → R (List D × Sto)} {es : List Expr}
def rMxD (K : PySem.W.Frag) : List V → List V → Hp → VK → Prop := fun vs zs H Q => ∃ (a : Addr) (ns : List Int) (d : Int), vs = [V.ref a] ∧ zs = [V.int d] ∧ SqL K H a (ns.map V.int) ∧ Q (.int ((maxI ns).getD d)) H
theorem maxI_is {ns : List Int} {m : Int} (h : m ∈ ns) (h2 : ∀ a, a ∈ ns → a ≤ m) : maxI ns = some m := by
  cases ns with
  | nil => cases h
  | cons y ns => rw [maxI, fold_max ns y m h2 h]
theorem cr_maxd (hc : X.calm = true) : CallRK X (.builtin "max") [Str.ofString "default"] (rMxD X.K) := by
  intro pins s σ H vs zs us ws Q I r r2 h
  obtain ⟨a, ns, d, rfl, rfl, hs, q⟩ := h
  obtain ⟨its, rv, hl, _⟩ := I.list hs
  rw [Vals.ref1 r]
  obtain ⟨u, rfl, t, rfl⟩ := vals1 r2
  have hi := rv.ints
  obtain ⟨xs, e⟩ := hi.allInts.items
  have hn : numsOf (intItems xs).toList = ns := by rw [← e]; exact hi.numsOf
  rw [nums_intItems] at hn
  subst hn
  have hl2 := hl.isList
  rw [e] at hl2
  refine mxd_call (I.ok.hd hc) hl2 (fun hne v g t2 hv hk => ?_) fun h0 g t2 hk => ?_
  · obtain ⟨t3, rfl⟩ := intItems_at hv
    obtain ⟨h1, h2⟩ := argBest_gt (numAt xs) (xs.size - 1)
    refine ⟨.int _, H, I.kept hk, ⟨_, rfl⟩, ?_⟩
    have hm := maxI_is (ns := List.map (fun p => p.1) xs.toList) (m := numAt xs (argBest (fun i j => decide (numAt xs i > numAt xs j)) (xs.size - 1))) ?_ fun x hx => ?_
    · rw [hm] at q; exact q
    · rw [numAt_eq]; exact PySem.getD_mem (by rw [List.length_map, Array.length_toList]; omega)
    · obtain ⟨j, hj, rfl⟩ := mem_getD hx
      rw [List.length_map, Array.length_toList] at hj
      rw [← numAt_eq]; exact h2 j (by omega)
  · refine ⟨.int d, H, I.kept hk, ⟨_, rfl⟩, ?_⟩
    have : xs.toList = [] := List.length_eq_zero_iff.mp (by rw [Array.length_toList]; exact h0)
    rw [this] at q
    exact q
theorem m_maxd {d : Int} {p pos kp cp : Pos} {c : Nat} (hc : X.calm = true) (hg : Gl X "max") (hm : X.mg "max" = none) (ha : PE X a (tR N X.K fa)) (h1 : starEach [a] X.env = [(false, eval a X.env)]) :
    PE X (.Call (.Name "max" p) [a] [⟨some "default", .Constant (.int d) c cp, kp⟩] pos) (tR N X.K fun fr st => (fa fr st).bind fun p => match (listF p.2 p.1).bind intsF with
      | some ns => .ok (.int ((maxI ns).getD d), p.2)
      | none => .no) := by
  refine PE.imp (pe_callBK (cr_maxd hc) hg hm (by decide +kernel) (pa_cons ha pa_nil h1) (pk_cons pe_int pk_nil) (by decide) (by decide) (by rw [h1]; rfl) (by rw [h1]; rfl)) fun σ H Q ⟨ρ, fr, st, dd, st', R, F, e, P⟩ => ?_
  obtain ⟨q, e1, e⟩ := MP.R.bind_eq e
  refine ⟨ρ, fr, st, q.1, q.2, R, F, e1, fun ρ1 H1 v E1 R1 r1 => ?_⟩
  split at e
  · rename_i ns hn
    cases e
    obtain ⟨xs, h2, h3⟩ := bind_some hn
    obtain ⟨l, us, rfl, rr, hl⟩ := list_at R1 r1 h2
    rw [ints_of rr h3] at hl
    exact ⟨l, ns, d, rfl, rfl, hl, (P.after E1).here R1 (.int _)⟩
  · cases e
theorem rev_signs (z : Str) : (Builtin.Str.strSliceIndices none none (-1) z.length).filterMap (z.cps[·]?) = z.cps.toList.reverse := by
  show (sliceRange ((z.length : Int) - 1) (-1) (-1)).filterMap (z.cps[·]?) = _
  rw [PySem.W.krv_sliceRange, PySem.W.krv_range, List.filterMap_reverse]
  exact congrArg List.reverse (PySem.W.krv_all z.cps)
def tRevA (K : PySem.W.Frag) (te : TE) : TE := fun σ H Q => te σ H fun x H1 => (∃ a xs, x = .ref a ∧ SqL K H1 a xs ∧ ∀ p, H1 p = none → Q (.ref p) (upd H1 p (.lst xs.reverse))) ∨ ∃ z : Str, x = .str z ∧ z.length ≤ sizeLine ∧ Q (.str ⟨z.cps.toList.reverse.toArray⟩) H1
theorem pe_revA {e : Expr} {te : TE} {k : Nat} {p1 p2 p3 pos : Pos} (he : PE X e te) : PE X (.Subscript e (.Slice none none (some (.UnaryOp .USub (.Constant (.int 1) k p1) p2)) p3) pos) (tRevA X.K te) := by
  refine ⟨fun pins s σ H Q I h => ?_⟩
  refine Subscript_ (thn (he.run pins s σ H _ I h) fun v s1 ⟨x, H1, I1, r1, q1⟩ => ?_)
  have hst : PO X (some (.UnaryOp .USub (.Constant (.int 1) k p1) p2)) (tPart (tUn (rU fun i => .int (-i)) (tC (.int 1)))) := po_some (pe_un un_neg pe_int)
  refine wpAny_Slice (thn (po_none.run pins s1 σ H1 (fun o H2 => o = none ∧ H2 = H1) I1 ⟨rfl, rfl⟩) fun vl s2 ⟨l, H2, I2, pl, el, e2⟩ => ?_)
  subst el e2
  refine thn (po_none.run pins s2 σ H2 (fun o H3 => o = none ∧ H3 = H2) I2 ⟨rfl, rfl⟩) fun vu s3 ⟨u, H3, I3, pu, eu, e3⟩ => ?_
  subst eu e3
  refine thn (hst.run pins s3 σ H3 (fun o H4 => o = some (-1) ∧ H4 = H3) I3 ⟨1, rfl, -1, rfl, rfl, rfl⟩) fun vs s4 ⟨o, H4, I4, ps, eo, e4⟩ => ?_
  subst eo e4
  have I5 : Inv X pins σ H4 { s4 with heap := s4.heap.push { cls := .type "slice", data := .fields #[vl, vu, vs] } } := I4.kept (t' := s4.toks) fun b ob q => Heap.get?_push_of_some _ q
  rcases q1 with ⟨a, xs, ex, hx, q⟩ | ⟨z, ex, hz, q⟩
  · subst ex
    cases r1
    obtain ⟨its, r, ht, hz⟩ := I5.list hx
    have hlen := r.length
    show wpAny (model X.prog X.w) X.A (subscriptTail e (.Slice none none (some (.UnaryOp .USub (.Constant (.int 1) k p1) p2)) p3) (.ref a) (.ref s4.heap.objs.size)) (EP X pins σ Q) X.xe { s4 with heap := s4.heap.push { cls := .type "slice", data := .fields #[vl, vu, vs] } }
    refine tail_any (ops := [.ref a, .ref s4.heap.objs.size]) ht.isList.typeIs (PySem.slot_list_getitem.lookup) ?_ (by with_unfolding_all rfl)
    refine wpAny_getItem_list_slice ht.isList (Heap.IsSliceOf.new _ vl vu vs) pl pu ps (by decide) ?_ (by rw [List.size_toArray]; omega)
    rw [PySem.W.krv_pick]
    refine ⟨.ref _, _, I5.laid (t' := s4.toks) (o := .lst xs.reverse) (fun b ob q => Heap.get?_push_of_some _ q) (Nat.le_refl _) ?_, rfl, q _ (I5.hok.fresh (Nat.le_refl _))⟩
    exact ⟨by rw [List.length_reverse]; exact hz, _, 0, r.reverse, Heap.get?_push_size _ rfl⟩
  · subst ex
    obtain ⟨t, rfl⟩ := r1
    cases pl
    cases pu
    cases ps with
    | int i t2 =>
    show wpAny (model X.prog X.w) X.A (subscriptTail e (.Slice none none (some (.UnaryOp .USub (.Constant (.int 1) k p1) p2)) p3) (.str z t) (.ref s4.heap.objs.size)) (EP X pins σ Q) X.xe { s4 with heap := s4.heap.push { cls := .type "slice", data := .fields #[.none, .none, .int (-1) t2] } }
    refine tail_any (ops := [.ref s4.heap.objs.size, .str z t]) (typeIs_str _ _ _) PySem.F.slot_str_getitem.lookup ?_ (by with_unfolding_all rfl)
    refine wpAny_getItem_str_slice (l := none) (u := none) (st := some (-1, t2)) ⟨_, Heap.get?_push_size _ rfl, rfl, rfl⟩ rfl ?_
    show Made.post (if ((-1 : Int) == 1 && _) = true then Made.val (.str z t) else Made.str ⟨((Builtin.Str.strSliceIndices none none (-1) z.length).filterMap (z.cps[·]?)).toArray⟩) (EP X pins σ Q) _
    rw [if_neg (fun h => absurd (Bool.and_eq_true_iff.mp h).1 (by decide)), rev_signs]
    refine ⟨?_, .str _, H4, I5.tok _, ⟨_, rfl⟩, q⟩
    show z.cps.toList.reverse.toArray.size ≤ sizeLine
    rw [List.size_toArray, List.length_reverse]
    exact hz
theorem m_rvs {c : Nat} {p1 p2 p3 pos : Pos} (ha : PE X a (tR N X.K fa)) :
    PE X (.Subscript a (.Slice none none (some (.UnaryOp .USub (.Constant (.int 1) c p1) p2)) p3) pos) (tR N X.K fun fr st => (fa fr st).bind fun p => revF p.2 p.1) := by
  refine PE.imp (pe_revA ha) fun σ H Q ⟨ρ, fr, st, dd, st', R, F, e, P⟩ => ?_
  obtain ⟨q, e1, e⟩ := MP.R.bind_eq e
  refine ⟨ρ, fr, st, q.1, q.2, R, F, e1, fun ρ1 H1 v E1 R1 r1 => ?_⟩
  have hz := sz_line
  have P1 := P.after E1
  obtain ⟨x, st2⟩ := q
  dsimp only at e R1 r1
  cases r1 with
  | str y =>
    simp only [revF] at e
    split at e
    · cases e
      refine .inr ⟨_, rfl, by rw [toS_len]; omega, ?_⟩
      have : (⟨(toS y).cps.toList.reverse.toArray⟩ : Str) = toS y.reverse := by simp [toS]
      rw [this]
      exact P1.here R1 (.str _)
    · cases e
  | kls h1 h2 =>
    simp only [revF] at e
    cases e
    exact .inl ⟨_, _, rfl, h1.sq, P1.lst R1 h2.rev⟩
  | @ref n l h1 =>
    simp only [revF] at e
    split at e
    · rename_i ys q
      cases e
      obtain ⟨vs, h2, h3⟩ := R1.at_ _ _ _ h1 q
      exact .inl ⟨_, _, rfl, .inl (.inl h2), P1.lst R1 h3.rev⟩
    · cases e
  | non => simp [revF] at e
  | bl => simp [revF] at e
  | int => simp [revF] at e
  | tup => simp [revF] at e
def isStar : Expr → Bool
  | .Starred .. => true
  | _ => false
theorem sw_par {x y : Str} {px py pt : Pos} {kt k2 : Nat} {pt2 : Pos} (hk : X.env.scope.kind = .function) (hx : X.env.scope.names.lookup x = some .local) (hy : X.env.scope.names.lookup y = some .local) (hne : x ≠ y) (hl : px.line = py.line) (s1 : isStar a = false) (s2 : isStar b = false) (h3 : foldedForSure 8 a = false) (h4 : constantsAlone 8 a = false) :
    swappedStores [.Tuple [.Name x px, .Name y py] kt pt] (.Tuple [a, b] k2 pt2) X.env = pure (some [x, y]) := by
  have e1 : X.env.kindOf x = some .local := hx
  have e2 : X.env.kindOf y = some .local := hy
  have e3 : X.env.blockKind = .function := by unfold Env.blockKind; rw [hk]; rfl
  have hb : (y == x) = false := beq_eq_false_iff_ne.mpr (Ne.symm hne)
  unfold swappedStores
  simp only [List.any_cons, List.any_nil, List.head?_cons, Option.map_some, Option.getD_some, List.filterMap_cons, List.filterMap_nil, e1, e2, e3, List.all_cons, List.all_nil, h3, h4, Expr.pos, hl]
  simp [List.eraseDups, List.eraseDupsBy, List.eraseDupsBy.loop, hb]
  intro h
  rcases h with h | h
  · exact absurd (show true = false from h.symm.trans s1) (by decide)
  · exact absurd (show true = false from h.symm.trans s2) (by decide)
end
end MP
namespace MP
open PySem PySem.Spec PyProof.Rows L2
section
variable {X : Cx} {N : Nm} {fa fb fk : Fr → Sto → RD} {a b : Expr} {fs : Fr → Sto → R (List D × Sto)} {es : List Expr} {cf : Cf} {k : Nat}
def tAds (as : List Addr) : TA := fun _ H Q => Q (as.map V.ref) H
/-- the names in a list display, defs of the globals -/
inductive Ads (X : Cx) : List Expr → List Addr → Prop where
  | nil : Ads X [] []
  | cons {x : Str} {p : Pos} {l : List Expr} {f : Addr} {as : List Addr} : Gl X x → X.mg x = some (.ref f) → (x == ("__debug__" : Str)) = false → Ads X l as → Ads X (.Name x p :: l) (f :: as)
theorem pa_ads : ∀ {l : List Expr} {as : List Addr}, Ads X l as → PA X l (tAds as)
  | _, _, .nil => PA.imp pa_nil fun _ _ _ h => h
  | _, _, .cons h1 h2 h3 t => PA.imp (pa_cons (pe_glob (v := V.ref _) h1 h2 (show RelV (.ref _) _ from rfl) h3) (pa_ads t) (by rfl)) fun _ _ _ h => h
/-- a call of what an expression gives, a def -/
theorem pe_callX {fe e : Expr} {tf : TE} {t : TA} {pos : Pos} {j : Nat} (hf : PE X fe tf) (hr : Room j X.A) (ha : PA X (e :: es) t)
    (ht : eval (.Call fe (e :: es) [] pos) X.env = (do callWith pos (← eval fe X.env) [] (backTo pos (starEach (e :: es) X.env)) (backToKw pos (keywordEach [] X.env))))
    (he : starEach (e :: es) X.env = (false, eval e X.env) :: starEach es X.env) (hpl : (backTo pos (starEach es X.env)).any (·.1) = false) :
    PE X (.Call fe (e :: es) [] pos) (fun σ H Q => tf σ H fun y H1 => ∃ f sp, y = .ref f ∧ C8.CalAt X.prog X.w X.K X.mg X.base j f sp ∧ t σ H1 fun vs H2 => sp vs H2 Q C8.E0) := by
  refine ⟨fun pins s σ H Q I h => ?_⟩
  rw [ht]
  refine wpAny_bind (thn (hf.run pins s σ H _ I h) fun u s1 ⟨y, H1, I1, ry, f, sp, ey, c, q⟩ => ?_)
  subst ey
  obtain rfl : u = Value.ref f := ry
  obtain ⟨fd, ps, F, kp, bd⟩ := c.ex
  refine PySem.W.callWith_K (h₀ := X.base) I.ok.mod.kin kp (thn (ha.run pos pins s1 σ _ _ I1 q) fun us s2 ⟨vs, H2, I2, r, q⟩ => ⟨I2.kIn, ?_⟩) he hpl
  exact run_fn F hr bd .nil pass0 I2 r (by rw [List.append_nil]; exact q)
/-- the defs' numbers and their places -/
inductive Pk (X : Cx) (N : Nm) (cf : Cf) (k : Nat) : List Nat → List Addr → Prop where
  | nil : Pk X N cf k [] []
  | cons {id : Nat} {f : Addr} {is : List Nat} {as : List Addr} : FnG X N cf k id [] f → Pk X N cf k is as → Pk X N cf k (id :: is) (f :: as)
theorem Pk.len : ∀ {is : List Nat} {as : List Addr}, Pk X N cf k is as → is.length = as.length
  | _, _, .nil => rfl
  | _, _, .cons _ t => congrArg (· + 1) t.len
theorem Pk.get : ∀ {is : List Nat} {as : List Addr} {i id : Nat}, Pk X N cf k is as → is[i]? = some id → ∃ f, as[i]? = some f ∧ FnG X N cf k id [] f
  | _, _, _, _, .nil, h => by simp at h
  | _, _, 0, _, .cons F t, h => by simp at h; subst h; exact ⟨_, rfl, F⟩
  | _, _, i + 1, _, .cons F t, h => by
    obtain ⟨f, h1, h2⟩ := Pk.get (i := i) t (by simpa using h)
    exact ⟨f, by simpa using h1, h2⟩
theorem FnG.cal {id : Nat} {f : Addr} (F : FnG X N cf k id [] f) : C8.CalAt X.prog X.w X.K X.mg X.base k f (spF N X.K cf id) := by
  obtain ⟨fd, ps, ok, bd⟩ := F.ok
  obtain ⟨ds, dvs, hv, hb, hd⟩ := bd 0 (Nat.zero_le _)
  have h0 := hd [] (fun _ => none)
  cases h0
  cases hv
  exact ⟨fd, ps, ok, F.kp, hb⟩
theorem m_pick {is : List Nat} {as : List Addr} {l : List Expr} {ie e : Expr} {lp ip pos : Pos} (hr : Room k X.A) (hA : Ads X l as) (hP : Pk X N cf k is as) (hlen : is.length ≤ 100) (hi : PE X ie (tR N X.K fk)) (hs : PlainIx ie) (ha : PA X (e :: es) (tRs N X.K fs))
    (ht : eval (.Call (.Subscript (.List l lp) ie ip) (e :: es) [] pos) X.env = (do callWith pos (← eval (.Subscript (.List l lp) ie ip) X.env) [] (backTo pos (starEach (e :: es) X.env)) (backToKw pos (keywordEach [] X.env))))
    (he : starEach (e :: es) X.env = (false, eval e X.env) :: starEach es X.env) (hpl : (backTo pos (starEach es X.env)).any (·.1) = false) :
    PE X (.Call (.Subscript (.List l lp) ie ip) (e :: es) [] pos) (tR N X.K fun fr st => (fk fr st).bind fun p => match p.1 with
      | .int i => match atF is i with
        | some f => (fs fr p.2).bind fun q => cf f q.1 q.2
        | none => .no
      | _ => .no) := by
  refine PE.imp (pe_callX (pe_ix ix_list (pe_lst (pa_ads hA)) hi hs) hr ha ht he hpl) fun σ H Q ⟨ρ, fr, st, dd, st', R, F, ee, P⟩ => ?_
  obtain ⟨p, e1, ee⟩ := MP.R.bind_eq ee
  have hz := sz_line
  have hsz : SZ = 1000000 := rfl
  have hl := hP.len
  refine ⟨by rw [List.length_map]; omega, fun q hq => ?_⟩
  obtain ⟨E0, R0⟩ := R.lay (u := .lst (as.map V.ref)) hq
  refine ⟨ρ, fr, st, p.1, p.2, R0, F.ext E0, e1, fun ρ1 H1 v E1 R1 r1 => ?_⟩
  obtain ⟨hn, hH⟩ := E1.outside upd_same (R.notIn hq)
  split at ee
  · rename_i i hi2
    rw [hi2] at r1
    cases r1
    split at ee
    · rename_i f hf
      unfold atF at hf
      obtain ⟨j, hj, hf⟩ := bind_some hf
      obtain ⟨g, hg, G⟩ := hP.get hf
      obtain ⟨q2, e2, ee⟩ := MP.R.bind_eq ee
      have hat : atI (as.map V.ref) i = some (V.ref g) := by
        unfold atI
        rw [List.length_map, ← hl, ← idx_ix, hj]
        show (as.map V.ref)[j]? = _
        rw [List.getElem?_map, hg]; rfl
      exact ⟨_, _, i, V.ref g, rfl, rfl, .inl (.inl hH), hat, g, _, rfl, G.cal, ρ1, fr, p.2, q2.1, q2.2, R1, (F.ext E0).ext E1, e2, fun ρ2 H2 vs E2 R2 r2 => ⟨ρ2, q2.2, _, dd, st', R2, r2, ee, ((P.after E0).after E1).after E2⟩⟩
    · cases ee
  · cases ee
theorem m_isc {c : Nat} {C : Addr} {z : Str} {p p' pos : Pos} (hgx : Gl X "isinstance") (hmx : X.mg "isinstance" = none) (hgz : Gl X z) (hmz : X.mg z = some (.ref C)) (hdz : (z == ("__debug__" : Str)) = false) (hc : N.cls c = some C) (hi : C8.InsC X.K C)
    (ha : PE X a (tR N X.K fa)) (he : starEach [a, .Name z p'] X.env = (false, eval a X.env) :: starEach [.Name z p'] X.env) :
    PE X (.Call (.Name "isinstance" p) [a, .Name z p'] [] pos) (tR N X.K fun fr st => (fa fr st).bind fun p => if clsF p.2 p.1 = some c then .ok (.bl true, p.2) else .no) := by
  refine PE.imp (pe_callB (C8.call_isC hi) hgx hmx (by decide +kernel) (pa_cons ha (pa_cons (pe_glob (v := V.ref C) hgz hmz rfl hdz) pa_nil) he) (by decide) (by decide) he (by rfl)) fun σ H Q ⟨ρ, fr, st, d, st', R, F, e, P⟩ => ?_
  obtain ⟨q, e1, e⟩ := MP.R.bind_eq e
  refine ⟨ρ, fr, st, q.1, q.2, R, F, e1, fun ρ1 H1 v E1 R1 r1 => ?_⟩
  split at e
  · rename_i hcl
    cases e
    obtain ⟨l, C2, dx, gs, fs, rfl, h2, h3, h4⟩ := cls_of R1 r1 hcl
    rw [hc] at h2
    cases h2
    exact ⟨l, dx, gs, rfl, h3, (P.after E1).here R1 (.bl _)⟩
  · cases e
end
section
variable {X : Cx} {N : Nm} {fa fb : Fr → Sto → RD} {a b : Expr}
theorem s_par {i j : Nat} {x y : Str} {px py pt pt2 pos : Pos} {kt k2} (hc : X.calm = true) (hN : X.N.Nodup) (hi : X.N[i]? = some x) (hj : X.N[j]? = some y) (hij : i ≠ j)
    (hx : X.env.scope.names.lookup x = some .local) (hy : X.env.scope.names.lookup y = some .local) (ha : PA X [a, b] (tRs N X.K fun fr st => (fa fr st).bind fun p => (fb fr p.2).bind fun q => .ok ([p.1, q.1], q.2)))
    (hw : swappedStores [.Tuple [.Name x px, .Name y py] kt pt] (.Tuple [a, b] k2 pt2) X.env = pure (some [x, y])) :
    PS X (.Assign [.Tuple [.Name x px, .Name y py] kt pt] (.Tuple [a, b] k2 pt2) pos) (tS N X.K fun fr st => (fa fr st).stm fr fun p => (fb fr p.2).stm fr fun q => .nx ((fr.set i (some p.1)).set j (some q.1)) q.2) := by
  refine PS.by fun D σ H ⟨ρ, fr, st, R, F, P⟩ => ?_
  obtain ⟨p, e1, P⟩ := P.stm
  obtain ⟨q, e2, P⟩ := P.stm
  refine ⟨_, ps_par hc hN hi hj hij hx hy ha hw, ρ, fr, st, [p.1, q.1], q.2, R, F, by show (fa fr st).bind _ = _; rw [e1]; show (fb fr p.2).bind _ = _; rw [e2]; rfl, fun ρ1 H1 vs E1 R1 r1 => ?_⟩
  cases r1 with
  | cons r1 r =>
    cases r with
    | cons r2 r =>
      cases r
      exact ⟨_, _, rfl, P ρ1 H1 _ E1 R1 (((F.ext E1).set r1 i).set r2 j)⟩
end
end MP
namespace MP
open PySem PySem.Spec PyProof.Rows L2
/-- the written dict of a name -/
def KdM (K : PySem.W.Frag) (w : World) (mg : Str → Option Value) (x : Str) (kvs : List (List Char × D)) : Prop := ∃ a es n, mg x = some (.ref a) ∧ KDict K w a es n ∧
  ∀ z : List Char, ∃ r, PySem.W.nsIn K a (toS z) = some r ∧ (getKk kvs z = none → r = none) ∧ ∀ d, getKk kvs z = some d → ∃ v u, r = some u ∧ RelV v u ∧ ∀ ρ H, Rep K ρ H d v
def KdOk (X : Cx) (x : Str) (kvs : List (List Char × D)) : Prop := KdM X.K X.w X.mg x kvs
section
variable {X : Cx} {N : Nm} {fb fc : Fr → Sto → RD} {b c : Expr} {x : Str} {kvs : List (List Char × D)}
theorem m_kix {p pos : Pos} (hg : Gl X x) (hd : (x == ("__debug__" : Str)) = false) (k : KdOk X x kvs) (hb : PE X b (tR N X.K fb)) (hs : PlainIx b) :
    PE X (.Subscript (.Name x p) b pos) (tR N X.K fun fr st => (fb fr st).bind fun p => match p.1 with
      | .str z => (R.of (getKk kvs z)).bind fun d => .ok (d, p.2)
      | _ => .no) := by
  obtain ⟨a, es, n, hm, D, hz⟩ := k
  refine PE.imp (pe_ix ix_kdict (pe_glob hg hm (v := .ref a) rfl hd) hb hs) fun σ H Q ⟨ρ, fr, st, d, st', R, F, e, P⟩ => ?_
  obtain ⟨q, e1, e⟩ := MP.R.bind_eq e
  refine ⟨ρ, fr, st, q.1, q.2, R, F, e1, fun ρ1 H1 y E1 R1 r1 => ?_⟩
  obtain ⟨q1, q2⟩ := q
  dsimp only at e r1 R1
  cases r1 <;> simp only [reduceCtorEq] at e
  rename_i z
  obtain ⟨d', e2, e⟩ := MP.R.bind_eq e
  cases e
  obtain ⟨r, h1, h2, h3⟩ := hz z
  obtain ⟨v, u, rfl, h4, h5⟩ := h3 d (MP.R.of_eq e2)
  exact ⟨a, toS z, v, rfl, rfl, ⟨es, n, u, D.at_, D.lit, h1, h4⟩, (P.after E1).here R1 (h5 _ _)⟩
theorem kd_some {z : List Char} {a : Addr} {r : Option Value} (h2 : getKk kvs z = none → r = none) (h3 : ∀ d, getKk kvs z = some d → ∃ v u, r = some u ∧ RelV v u ∧ ∀ ρ H, Rep X.K ρ H d v) : r.isSome = (getKk kvs z).isSome := by
  cases e : getKk kvs z with
  | none => rw [h2 e]; rfl
  | some d => obtain ⟨v, u, rfl, _⟩ := h3 d e; rfl
def kmF (kvs : List (List Char × D)) (neg : Bool) (fb : Fr → Sto → RD) : Fr → Sto → RD := fun fr st => (fb fr st).bind fun p => match p.1 with
      | .str z => .ok (.bl (if neg then !(getKk kvs z).isSome else (getKk kvs z).isSome), p.2)
      | _ => .no
theorem read_kmem {neg : Bool} {a : Addr} {r2 : R2} {σ : L2.St} {H : Hp} {Q : VK} (hz : ∀ z : List Char, ∃ r, PySem.W.nsIn X.K a (toS z) = some r ∧ (getKk kvs z = none → r = none) ∧ ∀ d, getKk kvs z = some d → ∃ v u, r = some u ∧ RelV v u ∧ ∀ ρ H, Rep X.K ρ H d v)
    (hr2 : ∀ (z : Str) (r : Option Value) (H : Hp) (Q : VK), PySem.W.nsIn X.K a z = some r → Q (.bl (if neg then !r.isSome else r.isSome)) H → r2 (.str z) (.ref a) H Q) (h : tR N X.K (kmF kvs neg fb) σ H Q) : tOp r2 (tR N X.K fb) (tC (.ref a)) σ H Q := by
  obtain ⟨ρ, fr, st, d, st', R, F, e, P⟩ := h
  unfold kmF at e
  obtain ⟨q, e1, e⟩ := MP.R.bind_eq e
  refine ⟨ρ, fr, st, q.1, q.2, R, F, e1, fun ρ1 H1 y E1 R1 r1 => ?_⟩
  obtain ⟨q1, q2⟩ := q
  dsimp only at e r1 R1
  cases r1 <;> simp only [reduceCtorEq] at e
  rename_i z
  cases e
  obtain ⟨r, h1, h2, h3⟩ := hz z
  refine hr2 _ _ _ _ h1 ?_
  rw [kd_some (a := a) h2 h3]
  exact (P.after E1).here R1 (.bl _)
theorem kop {neg : Bool} {op : CmpOp} {a : Addr} {es : Array DictEntry} {n : Nat} (ho : (neg = false ∧ op = .In) ∨ (neg = true ∧ op = .NotIn)) (D : KDict X.K X.w a es n) : ∃ r2 : R2, OpR X (compareOp op) r2 ∧ ∀ (z : Str) (r : Option Value) (H : Hp) (Q : VK), PySem.W.nsIn X.K a z = some r → Q (.bl (if neg then !r.isSome else r.isSome)) H → r2 (.str z) (.ref a) H Q := by
  rcases ho with ⟨rfl, rfl⟩ | ⟨rfl, rfl⟩
  · exact ⟨_, op_in_kd D, fun z r H Q h1 q => ⟨z, r, rfl, rfl, h1, q⟩⟩
  · exact ⟨_, op_notIn_kd D, fun z r H Q h1 q => ⟨z, r, rfl, rfl, h1, q⟩⟩
theorem m_kmem {neg : Bool} {op : CmpOp} {p pos : Pos} (ho : (neg = false ∧ op = .In) ∨ (neg = true ∧ op = .NotIn)) (hg : Gl X x) (hd : (x == ("__debug__" : Str)) = false) (k : KdOk X x kvs) (hb : PE X b (tR N X.K fb)) (hm : behindInMarks op (.Name x p) = false) :
    PE X (.Compare b [op] [.Name x p] pos) (tR N X.K (kmF kvs neg fb)) := by
  obtain ⟨a, es, n, hmg, D, hz⟩ := k
  obtain ⟨r2, h1, h2⟩ := kop ho D
  exact PE.imp (pe_cmpR h1 hb (pe_glob hg hmg (v := .ref a) rfl hd) hm) fun σ H Q h => read_kmem hz h2 h
theorem mt_kmem {neg : Bool} {op : CmpOp} {p pos : Pos} (ho : (neg = false ∧ op = .In) ∨ (neg = true ∧ op = .NotIn)) (hg : Gl X x) (hd : (x == ("__debug__" : Str)) = false) (k : KdOk X x kvs) (hb : PE X b (tR N X.K fb)) (hm : behindInMarks op (.Name x p) = false) :
    PT X (.Compare b [op] [.Name x p] pos) (tRb N X.K (tst (kmF kvs neg fb))) := by
  obtain ⟨a, es, n, hmg, D, hz⟩ := k
  obtain ⟨r2, h1, h2⟩ := kop ho D
  exact PT.imp (pt_cmpR h1 hb (pe_glob hg hmg (v := .ref a) rfl hd) hm) fun σ H Q h => read_test (fun _ h => read_kmem hz h2 h) (fun fr st d st' e => by
    unfold kmF at e
    obtain ⟨q, _, e⟩ := MP.R.bind_eq e
    split at e
    · cases e; exact ⟨_, rfl⟩
    · cases e) h
theorem m_kget {p ap pos : Pos} (hg : Gl X x) (hd : (x == ("__debug__" : Str)) = false) (k : KdOk X x kvs) (hb : PE X b (tR N X.K fb)) (hc : PE X c (tR N X.K fc)) (m : M2 X (.Name x p) "get" ap b c pos) :
    PE X (.Call (.Attribute (.Name x p) "get" ap) [b, c] [] pos) (tR N X.K fun fr st => (fb fr st).bind fun p => (fc fr p.2).bind fun q => match p.1 with
      | .str z => .ok ((getKk kvs z).getD q.1, q.2)
      | _ => .no) := by
  obtain ⟨a, es, n, hmg, D, hz⟩ := k
  refine ⟨fun pins s σ H Q I ⟨ρ, fr, st, d, st', R, F, e, P⟩ => ?_⟩
  refine wpAny_Call_method m.base m.few m.line PySem.F.plainAttrs_dict PySem.F.slot_dict_get PySem.F.type_dict_get (thn ((pe_glob hg hmg (v := .ref a) rfl hd).run pins s σ H (fun v H2 => v = .ref a ∧ H2 = H) I ⟨rfl, rfl⟩) fun u s1 ⟨y, H1, I1, rx, ey, eh⟩ => ?_)
  subst ey
  subst eh
  obtain rfl : u = Value.ref a := rx
  obtain ⟨q, e1, e⟩ := MP.R.bind_eq e
  obtain ⟨q', e2, e⟩ := MP.R.bind_eq e
  have mo := PySem.W.mapOf_K (prog := X.prog) (w := X.w) I1.kIn D.at_ D.lit
  refine ⟨mo.typeIs, fun b hb => ?_, ?_⟩
  · cases hb
    exact ⟨_, I1.kIn _ _ D.at_, rfl⟩
  rw [m.trees]
  refine Calls.callWith_builtin rfl (Calls.evalArgs_plain (Calls.spliced_cons (thn (hb.run pins s1 σ _ (fun y H2 => ∃ ρ1, Ext ρ H1 ρ1 H2 ∧ Rl N X.K ρ1 q.2 H2 ∧ Rep X.K ρ1 H2 q.1 y) I1 ⟨ρ, fr, st, q.1, q.2, R, F, e1, fun ρ1 H1 y E1 R1 r1 => ⟨ρ1, E1, R1, r1⟩⟩) fun iv s2 ⟨y, H2, I2, ry, ρ1, E1, R1, r1⟩ => ?_)))
  refine Calls.spliced_cons (thn (hc.run pins s2 σ H2 (fun y H3 => ∃ ρ2, Ext ρ1 H2 ρ2 H3 ∧ Rl N X.K ρ2 q'.2 H3 ∧ Rep X.K ρ2 H3 q'.1 y) I2 ⟨ρ1, fr, q.2, q'.1, q'.2, R1, F.ext E1, e2, fun ρ2 H3 y E2 R2 r2 => ⟨ρ2, E2, R2, r2⟩⟩) fun fv s3 ⟨z, H3, I3, rz, ρ2, E2, R2, r2⟩ => Calls.spliced_nil ?_)
  obtain ⟨q1, q2⟩ := q
  dsimp only at e r1 R1
  cases r1 <;> simp only [reduceCtorEq] at e
  rename_i zz _ _
  cases e
  obtain ⟨t, rfl⟩ := (show ∃ t, iv = Value.str (toS zz) t from ry)
  have mo3 := PySem.W.mapOf_K (prog := X.prog) (w := X.w) I3.kIn D.at_ D.lit
  refine call_meetsIn PySem.F.slot_dict_get mo3.typeIs PySem.F.entry_dict_get (PySem.F.args_dict_get_3 _ _ _) (meets_dict_get_default (PySem.strKind X.prog X.w) a (PySem.strKind_is X.prog X.w (toS zz) t) D.low fv) ⟨_, mo3, ?_⟩
  obtain ⟨r, h1, h2, h3⟩ := hz zz
  rw [PySem.W.find_K D.at_ h1]
  cases eg : getKk kvs zz with
  | none =>
    rw [h2 eg]
    rw [eg] at P
    exact ⟨z, H3, I3.tok _, rz, ((P.after E1).after E2).here R2 r2⟩
  | some d =>
    obtain ⟨v, u, rfl, h4, h5⟩ := h3 d eg
    rw [eg] at P
    exact ⟨v, H3, I3.tok _, h4, ((P.after E1).after E2).here R2 (h5 _ _)⟩
end
end MP
namespace MP
open PySem PySem.Spec PyProof.Rows L2
/-- the context of a def's body, or of a comprehension in it -/
structure GX (T : Tab) (N : Nm) (P : Prog) (n : Nat) (sl : List Str) (X : Cx) : Prop where
  nm : X.N = sl
  nd : sl.Nodup
  calm : X.calm = true
  kd : X.env.scope.kind = .function
  room : Room (n + 1) X.A
  fns : ∀ f q, T.fns[f]? = some q → ∃ a, FnG X N (callF P n) (n + 1) f q.2 a ∧ ∀ x ∈ q.1, X.mg x = some (.ref a)
  cls : ∀ c x id dfl, T.cls[c]? = some (x, id, dfl) → ∃ C a, N.cls c = some C ∧ X.mg x = some (.ref C) ∧ Mk X.K C a ∧ FnG X N (makeF P n) n id dfl a
  con : ∀ x d, T.con.lookup x = some d → ∃ v u, X.mg x = some u ∧ RelV v u ∧ ∀ ρ H, Rep X.K ρ H d v
  kds : ∀ x kvs, T.kds.lookup x = some kvs → KdOk X x kvs
  free : ∀ x ∈ T.free, X.mg x = none
  meth : ClG X N P (callF P n) (n + 1) T.mths
  fld : N.fld = T.flds
  ins : ∀ c ∈ T.ins, ∀ q, T.cls[c]? = some q → ∃ C, N.cls c = some C ∧ X.mg q.1 = some (.ref C) ∧ C8.InsC X.K C
section
variable {T : Tab} {N : Nm} {P : Prog} {n : Nat} {sl : List Str} {X : Cx}
theorem FnG.to {X' : Cx} {cf : Cf} {k id : Nat} {dfl : List D} {f : Addr} (h : FnG X N cf k id dfl f) (e1 : X'.prog = X.prog) (e2 : X'.w = X.w) (e3 : X'.K = X.K) (e4 : X'.mg = X.mg) (e5 : X'.base = X.base) : FnG X' N cf k id dfl f := by
  obtain ⟨h1, h2⟩ := h
  refine ⟨?_, by rw [e3]; exact h2⟩
  rw [e1, e2, e3, e4, e5]
  exact h1
theorem ClG.to {X' : Cx} {cf : Cf} {k : Nat} {mths : List Str} (h : ClG X N P cf k mths) (e1 : X'.prog = X.prog) (e2 : X'.w = X.w) (e3 : X'.K = X.K) (e4 : X'.mg = X.mg) (e5 : X'.base = X.base) : ClG X' N P cf k mths := by
  refine ⟨by rw [e3]; exact h.cl, by rw [e3]; exact h.no, h.nd, h.tot, fun c C hc m x id dfl h1 h2 => ?_⟩
  obtain ⟨h3, f, h4, h5⟩ := h.me c C hc m x id dfl h1 h2
  exact ⟨h3, f, by rw [e3]; exact h4, h5.to e1 e2 e3 e4 e5⟩
theorem GX.blk (g : GX T N P n sl X) (s : Shared) (H : Hp) (scope : Scope) (C : Addr) (cl : List (Str × Addr)) (fp : List Addr) (hk : scope.kind = .function) : GX T N P n sl (X.blk s H scope (compEnvC scope cl C X.env) fp) where
  nm := g.nm
  nd := g.nd
  calm := g.calm
  kd := hk
  room := g.room
  fns := fun f q h => let ⟨a, h1, h2⟩ := g.fns f q h; ⟨a, h1.to rfl rfl rfl rfl rfl, h2⟩
  cls := fun c x id dfl h => let ⟨C, a, h1, h2, h3, h4⟩ := g.cls c x id dfl h; ⟨C, a, h1, h2, h3, h4.to rfl rfl rfl rfl rfl⟩
  con := g.con
  kds := g.kds
  free := g.free
  meth := g.meth.to rfl rfl rfl rfl rfl
  fld := g.fld
  ins := g.ins
theorem star_cons {a : Expr} {es : List Expr} {env : Env} (h : starB a = true) : starEach (a :: es) env = (false, eval a env) :: starEach es env := by
  cases a <;> first | rfl | exact absurd h (by simp [starB])
theorem star_any {env : Env} {pos : Pos} : ∀ {es : List Expr}, (∀ a ∈ es, starB a = true) → (backTo pos (starEach es env)).any (·.1) = false
  | [], _ => rfl
  | a :: es, h => by
    rw [star_cons (h a List.mem_cons_self)]
    show (false || (backTo pos (starEach es env)).any (·.1)) = false
    rw [star_any fun b hb => h b (List.mem_cons_of_mem _ hb)]
    rfl
theorem star_all {env : Env} {pos : Pos} : ∀ {es : List Expr}, (∀ a ∈ es, starB a = true) → (backTo pos (starEach es env)).all (fun x => !x.1) = true
  | [], _ => rfl
  | a :: es, h => by
    rw [star_cons (h a List.mem_cons_self)]
    show (true && (backTo pos (starEach es env)).all (fun x => !x.1)) = true
    rw [star_all fun b hb => h b (List.mem_cons_of_mem _ hb)]
    rfl
theorem base_ok {a : Expr} {x : Str} {env : Env} (h : baseB a = true) : attributeBase a x env (eval a env) = eval a env := by
  cases a with
  | Call f as ks p =>
    cases f with
    | Name id p2 =>
      cases as with
      | nil =>
        cases ks with
        | nil => exact absurd h (by simp [baseB])
        | cons => rfl
      | cons => rfl
    | _ => rfl
  | _ => rfl
theorem slice_ok {b : Expr} (h : sliceB b = true) : PlainIx b := by
  intro o i
  cases b <;> first | rfl | exact absurd h (by simp [sliceB])
theorem set_ok {a : Expr} {env : Env} (h : setB a = true) : ∀ x, foldedSetIterable a env x = pure x := by
  intro x
  cases a <;> first | rfl | exact absurd h (by simp [setB])
theorem comp_ok {v : Expr} {tg : Option Expr} {l : Nat} {env : Env} (h : compB v = true) : swapsWith v tg l env = pure false := by
  cases v <;> first | rfl | exact absurd h (by simp [compB])
theorem seqT_ok {tg v : Expr} {env : Env} (h : (seqTB tg || seqTB v) = true) : swappedStores [tg] v env = pure none := by
  rw [Bool.or_eq_true] at h
  rcases h with h | h
  · cases tg <;> first | rfl | exact absurd h (by simp [seqTB])
  · cases v with
    | Tuple => exact absurd h (by simp [seqTB])
    | _ => cases tg <;> rfl
theorem meth_eval {a e : Expr} {es : List Expr} {x : Str} {apos pos : Pos} {env : Env} (hb : baseB a = true) (hl : (apos.endLine == pos.line) = true) (hs : ∀ y ∈ e :: es, starB y = true) (hn : (e :: es).length < 30) :
    eval (.Call (.Attribute a x apos) (e :: es) [] pos) env = (do
      let ov ← eval a env
      standAt apos.atName
      let (f, first) ← holding [ov] (getMethod ov x (do return (← importBound a env).getD true))
      callWith pos f first (backTo pos (starEach (e :: es) env)) (backToKw pos (keywordEach [] env))) := by
  have hform : methodCallForm ((e :: es).length + ([] : List Keyword).length) (backTo pos (starEach (e :: es) env)) (backToKw pos (keywordEach [] env)) = true := by
    show ((backTo pos (starEach (e :: es) env)).all (fun x => !x.1) && true && decide ((e :: es).length + 0 + 0 < 30)) = true
    rw [star_all hs]
    simpa using hn
  have hpos : methodCallPos true a env apos pos = pure pos := by unfold methodCallPos; simp [hl]
  rw [arm_eval_Call, base_ok hb]
  unfold methodCall
  rw [hform, hpos]
  rfl
theorem meth_eval0 {a : Expr} {x : Str} {apos pos : Pos} {env : Env} (hb : baseB a = true) (hl : (apos.endLine == pos.line) = true) :
    eval (.Call (.Attribute a x apos) [] [] pos) env = (do
      let ov ← eval a env
      standAt apos.atName
      let (f, first) ← holding [ov] (getMethod ov x (do return (← importBound a env).getD true))
      callWith pos f first (backTo pos (starEach [] env)) (backToKw pos (keywordEach [] env))) := by
  have hform : methodCallForm (([] : List Expr).length + ([] : List Keyword).length) (backTo pos (starEach [] env)) (backToKw pos (keywordEach [] env)) = true := rfl
  have hpos : methodCallPos true a env apos pos = pure pos := by unfold methodCallPos; simp [hl]
  rw [arm_eval_Call, base_ok hb]
  unfold methodCall
  rw [hform, hpos]
  rfl
theorem gl_ok {sc : Scope} {x : Str} (e : X.env.scope = sc) (h : glB sc x = true) : Gl X x := by
  show X.env.scope.names.lookup x = _
  rw [e]
  unfold glB at h
  split at h
  · assumption
  · exact absurd h (by decide)
theorem vis_ok {sc : Scope} {x : Str} (e : X.env.scope = sc) (h : visB sc x = true) : Vis X.env.scope x := by
  rw [e]
  unfold visB at h
  unfold Vis
  split at h <;> simp_all
theorem dbg_ok {x : Str} (h : dbgB x = true) : (x == ("__debug__" : Str)) = false ∧ (x == ("__classdict__" : Str)) = false ∧ x ≠ "__name__" := by
  unfold dbgB at h
  simp only [Bool.and_eq_true, Bool.not_eq_true'] at h
  exact ⟨h.1.1, h.1.2, fun e => by rw [e] at h; exact absurd h.2 (by decide)⟩
theorem loc_ok {sc : Scope} {cl : List Str} {x : Str} (e : X.env.scope = sc) (hf : ∀ y ∈ cl, X.fn y = true) (h : locB sc cl x = true) : Loc X.env.scope x ∧ (X.fn x = true ∨ X.env.scope.names.lookup x = some .local) := by
  unfold locB at h
  rw [e]
  split at h
  · rename_i q; exact ⟨.inl q, .inr q⟩
  · rename_i q; exact ⟨.inr q, .inl (hf x (by simpa using h))⟩
  · exact absurd h (by decide)
theorem free_ok (g : GX T N P n sl X) {sc : Scope} {x : Str} (e : X.env.scope = sc) (h : freeB T sc x = true) : Gl X x ∧ X.mg x = none ∧ (x == ("__debug__" : Str)) = false ∧ x ≠ "__name__" := by
  unfold freeB at h
  simp only [Bool.and_eq_true, decide_eq_true_eq] at h
  exact ⟨gl_ok e h.1.1, g.free x h.1.2, (dbg_ok h.2).1, (dbg_ok h.2).2.2⟩
theorem con_ok (g : GX T N P n sl X) {sc : Scope} {d : D} {e : Expr} (es : X.env.scope = sc) (h : conB T sc d e = true) : PE X e (tR N X.K fun _ st => .ok (d, st)) := by
  unfold conB at h
  split at h
  · split at h
    · rw [decide_eq_true_eq] at h; subst h; exact m_const pe_int fun _ _ => .int _
    · exact absurd h (by decide)
  · split at h
    · rw [decide_eq_true_eq] at h; subst h; exact m_const pe_bl fun _ _ => .bl _
    · exact absurd h (by decide)
  · split at h
    · exact m_const pe_non fun _ _ => .non
    · exact absurd h (by decide)
  · split at h
    · rw [decide_eq_true_eq] at h; subst h; exact m_const pe_str fun _ _ => .str _
    · exact absurd h (by decide)
  · rename_i x pos
    simp only [Bool.and_eq_true] at h
    obtain ⟨⟨h1, h2⟩, h3⟩ := h
    split at h3
    · rename_i e2 hl
      obtain rfl := D.beq_eq h3
      obtain ⟨v, u, a1, a2, a3⟩ := g.con x _ hl
      exact m_const (pe_glob (gl_ok es h1) a1 a2 (dbg_ok h2).1) a3
    · exact absurd h3 (by decide)
  · exact absurd h (by decide)
theorem kds_ok (g : GX T N P n sl X) {sc : Scope} {x : Str} {kvs : List (List Char × D)} (es : X.env.scope = sc) (h : kdsB T sc x kvs = true) : Gl X x ∧ (x == ("__debug__" : Str)) = false ∧ KdOk X x kvs := by
  unfold kdsB at h
  simp only [Bool.and_eq_true] at h
  obtain ⟨h1, h2, h3⟩ := h
  split at h3
  · rename_i e2 hl
    obtain rfl := kdEq_eq h3
    exact ⟨gl_ok es h1, (dbg_ok h2).1, g.kds x _ hl⟩
  · exact absurd h3 (by decide)
theorem dfl_ok {dfl ds : List D} (h : dflB dfl ds = true) : ∃ j, j ≤ dfl.length ∧ ds = dfl.drop j := by
  unfold dflB at h
  simp only [Bool.and_eq_true, decide_eq_true_eq] at h
  exact ⟨_, by omega, (D.beqs_eq h.2).symm⟩
mutual
theorem kTg_ok {sc : Scope} {cl : List Str} (g : GX T N P n sl X) (e : X.env.scope = sc) (hf : ∀ y ∈ cl, X.fn y = true) : ∀ (t : Tg) (ast : Expr), kTg sl t sc cl ast = true → PG X ast (gT X.K t)
  | .v i, ast, h => by
    cases ast <;> simp only [kTg, Bool.false_eq_true, Bool.and_eq_true, decide_eq_true_eq] at h
    obtain ⟨h1, h2⟩ := loc_ok e hf h.2
    exact pg_name (by rw [g.nm]; exact g.nd) (by rw [g.nm]; exact h.1) h1 h2
  | .tup ts, ast, h => by
    cases ast <;> simp only [kTg, Bool.false_eq_true] at h
    obtain ⟨h1, h2, h3⟩ := kTgs_ok g e hf ts _ h
    exact pg_tup g.calm h1 h2 h3
theorem kTgs_ok {sc : Scope} {cl : List Str} (g : GX T N P n sl X) (e : X.env.scope = sc) (hf : ∀ y ∈ cl, X.fn y = true) : ∀ (t : Tgs) (as : List Expr), kTgs sl t sc cl as = true → PGs X as (gTs X.K t) ∧ (assignEach as X.env).length = lenTs t ∧ (assignEach as X.env).findIdx? (·.1) = none
  | .nil, as, h => by
    cases as <;> simp only [kTgs, Bool.false_eq_true] at h
    exact ⟨pgs_nil, rfl, rfl⟩
  | .cons t r, as, h => by
    cases as with
    | nil => simp [kTgs] at h
    | cons a as =>
      simp only [kTgs, Bool.and_eq_true] at h
      obtain ⟨h1, h2, h3⟩ := kTgs_ok g e hf r as h.2
      have hs : assignEach (a :: as) X.env = (false, assign a X.env) :: assignEach as X.env := by
        have := h.1.1
        cases a <;> first | rfl | exact absurd this (by simp [starB])
      refine ⟨pgs_cons (kTg_ok g e hf t a h.1.2) h1 (by rw [hs]; rfl), by rw [hs, List.length_cons, h2]; rfl, ?_⟩
      rw [hs, List.findIdx?_cons, h3]
      rfl
end
theorem assign1 {tg : Expr} {t : Tg} {sc : Scope} {cl : List Str} {env : Env} (h : kTg sl t sc cl tg = true) : (assignEach [tg] env).map (·.2) = [assign tg env] := by
  cases t <;> cases tg <;> first | rfl | simp [kTg] at h
theorem bin_ok (g : GX T N P n sl X) {o : Op} {p : Operator} (h : opB o p = true) : Op2Ok X N (binaryOp p) (opF o) := by
  cases o <;> cases p <;> simp only [opB, Bool.false_eq_true] at h
  · exact ok_add
  · exact ok_sub
  · exact ok_mul
  · exact ok_mod
  · exact ok_fdiv
  · exact ok_modN
  · exact ok_fdivN
  · exact ok_pow
theorem cmp_ok (g : GX T N P n sl X) {o : Op} {p : CmpOp} (h : cmpB o p = true) : Op2Ok X N (compareOp p) (opF o) ∧ (o = .eq ∨ o = .ne ∨ o = .lt ∨ o = .le ∨ o = .gt ∨ o = .ge ∨ o = .mem ∨ o = .nmem ∨ o = .eqt ∨ o = .net) := by
  cases o <;> cases p <;> simp only [cmpB, Bool.false_eq_true] at h
  · exact ⟨ok_eq g.room, by simp⟩
  · exact ⟨ok_ne g.room, by simp⟩
  · exact ⟨ok_lt, by simp⟩
  · exact ⟨ok_le, by simp⟩
  · exact ⟨ok_gt, by simp⟩
  · exact ⟨ok_ge, by simp⟩
  · exact ⟨ok_mem g.room, by simp⟩
  · exact ⟨ok_nmem g.room, by simp⟩
  · exact ⟨ok_eqt g.room, by simp⟩
  · exact ⟨ok_net g.room, by simp⟩
/-- an if-else as a test -/
theorem mt_ife {fc fa fb : Fr → Sto → RD} {c a b : Expr} {pos : Pos} (hc : PT X c (tRb N X.K (tst fc))) (ha : PT X a (tRb N X.K (tst fa))) (hb : PT X b (tRb N X.K (tst fb))) : PT X (.IfExp c a b pos) (tRb N X.K (tst fun fr st => (fc fr st).bind fun p => match truthF p.2 p.1 with
    | some true => fa fr p.2
    | some false => fb fr p.2
    | none => .no)) := by
  refine ⟨fun pins s σ H Q I ⟨ρ, fr, st, k, st', R, F, e, Po⟩ => ?_⟩
  obtain ⟨p, e1, e2⟩ := MP.R.bind_eq e
  obtain ⟨q, e3, e4⟩ := MP.R.bind_eq e1
  show wpAny _ _ (do if ← isTrue c X.env (eval c X.env) then isTrue a X.env (eval a X.env) else isTrue b X.env (eval b X.env)) _ _ s
  split at e4
  · rename_i hk
    refine wpAny_bind (thn (hc.run pins s σ H (fun k H1 => k = true ∧ ∃ ρ1, Ext ρ H ρ1 H1 ∧ Rl N X.K ρ1 q.2 H1) I ⟨ρ, fr, st, true, q.2, R, F, by simp only [tst, testF, e3, MP.R.bind_ok, hk, MP.R.of_some], fun ρ1 H1 E1 R1 => ⟨rfl, ρ1, E1, R1⟩⟩) fun k s1 ⟨H1, I1, hk1, ρ1, E1, R1⟩ => ?_)
    rw [hk1]
    refine ha.run pins s1 σ H1 Q I1 ⟨ρ1, fr, q.2, _, st', R1, F.ext E1, ?_, fun ρ2 H2 E2 R2 => Po ρ2 H2 (E1.trans E2) R2⟩
    simp only [tst, testF, e4, MP.R.bind_ok]
    exact e2
  · rename_i hk
    refine wpAny_bind (thn (hc.run pins s σ H (fun k H1 => k = false ∧ ∃ ρ1, Ext ρ H ρ1 H1 ∧ Rl N X.K ρ1 q.2 H1) I ⟨ρ, fr, st, false, q.2, R, F, by simp only [tst, testF, e3, MP.R.bind_ok, hk, MP.R.of_some], fun ρ1 H1 E1 R1 => ⟨rfl, ρ1, E1, R1⟩⟩) fun k s1 ⟨H1, I1, hk1, ρ1, E1, R1⟩ => ?_)
    rw [hk1]
    refine hb.run pins s1 σ H1 Q I1 ⟨ρ1, fr, q.2, _, st', R1, F.ext E1, ?_, fun ρ2 H2 E2 R2 => Po ρ2 H2 (E1.trans E2) R2⟩
    simp only [tst, testF, e4, MP.R.bind_ok]
    exact e2
  · cases e4
end
end MP
set_option maxHeartbeats 2000000
namespace MP
open PySem PySem.Spec PyProof.Rows L2
section
variable {T : Tab} {N : Nm} {P : Prog} {n : Nat} {sl : List Str} {X : Cx}
/-- what an expression's text gives -/
structure EOk (X : Cx) (N : Nm) (ast : Expr) (f : Fr → Sto → RD) : Prop where
  pe : PE X ast (tR N X.K f)
  pt : PT X ast (tRb N X.K (tst f))
  pw : ∀ op xs pos, ast = .BoolOp op xs pos → PW X ast (tRb N X.K (tst f))
theorem EOk.plain {ast : Expr} {f : Fr → Sto → RD} (h : PE X ast (tR N X.K f)) (he : ∀ whole, isTrue ast X.env whole = (do let v ← whole; standAt ast.pos; holding [v] (truthy v))) (hb : ∀ op xs pos, ast ≠ .BoolOp op xs pos) : EOk X N ast f :=
  ⟨h, m_truth h he, fun op xs pos e => absurd e (hb op xs pos)⟩
theorem EOk.both {ast : Expr} {f : Fr → Sto → RD} (h : PE X ast (tR N X.K f)) (ht : PT X ast (tRb N X.K (tst f))) (hb : ∀ op xs pos, ast ≠ .BoolOp op xs pos) : EOk X N ast f := ⟨h, ht, fun op xs pos e => absurd e (hb op xs pos)⟩
theorem EOk.cast {ast : Expr} {f f' : Fr → Sto → RD} (h : EOk X N ast f) (e : ∀ fr st, f' fr st = f fr st) : EOk X N ast f' := by
  have : f' = f := funext fun fr => funext fun st => e fr st
  rw [this]; exact h
theorem castA {as : List Expr} {f f' : Fr → Sto → R (List D × Sto)} (h : PA X as (tRs N X.K f)) (e : ∀ fr st, f' fr st = f fr st) : PA X as (tRs N X.K f') := by
  have : f' = f := funext fun fr => funext fun st => e fr st
  rw [this]; exact h
def trsOf (N : Nm) (K : PySem.W.Frag) (P : Prog) (cf mf : Cf) : Es → List (TE × TE)
  | .nil => []
  | .cons _ .nil => []
  | .cons k (.cons v r) => (tR N K (evE P cf mf k), tR N K (evE P cf mf v)) :: trsOf N K P cf mf r
def evenE : Es → Bool
  | .nil => true
  | .cons _ .nil => false
  | .cons _ (.cons _ r) => evenE r
/-- pairs as they stand in a row -/
def flatP : List (V × V) → List V
  | [] => []
  | p :: r => p.1 :: p.2 :: flatP r
theorem read_pairs {cf mf : Cf} : ∀ (es : Es), evenE es = true → ∀ {ρ : List Addr} {fr : Fr} {st st' : Sto} {H : Hp} {σ : L2.St} {ds : List D} {Q : List (V × V) → Hp → Prop}, Rl N X.K ρ st H → Rf X.K ρ H fr σ → evEs P cf mf es fr st = .ok (ds, st') →
    (∀ ρ' H' ps, Ext ρ H ρ' H' → Rl N X.K ρ' st' H' → Reps X.K ρ' H' ds (flatP ps) → Q ps H') → tPairs (trsOf N X.K P cf mf es) σ H Q
  | .nil, _, ρ, fr, st, st', H, σ, ds, Q, R, F, e, q => by
    rw [evEs] at e
    cases e
    exact q ρ H [] Ext.refl R .nil
  | .cons _ .nil, h, ρ, fr, st, st', H, σ, ds, Q, R, F, e, q => by simp [evenE] at h
  | .cons k (.cons v r), h, ρ, fr, st, st', H, σ, ds, Q, R, F, e, q => by
    rw [evEs] at e
    obtain ⟨p1, e1, e⟩ := MP.R.bind_eq e
    obtain ⟨p2, e2, e⟩ := MP.R.bind_eq e
    rw [evEs] at e2
    obtain ⟨p3, e3, e2⟩ := MP.R.bind_eq e2
    obtain ⟨p4, e4, e2⟩ := MP.R.bind_eq e2
    cases e
    cases e2
    refine ⟨ρ, fr, st, p1.1, p1.2, R, F, e1, fun ρ1 H1 x E1 R1 r1 => ?_⟩
    refine ⟨ρ1, fr, p1.2, p3.1, p3.2, R1, F.ext E1, e3, fun ρ2 H2 y E2 R2 r2 => ?_⟩
    refine read_pairs r (by simpa [evenE] using h) R2 ((F.ext E1).ext E2) e4 fun ρ3 H3 ps E3 R3 r3 => ?_
    exact q ρ3 H3 _ (E1.trans (E2.trans E3)) R3 (.cons ((r1.ext E2).ext E3) (.cons (r2.ext E3) r3))
theorem pairF_of {ρ : List Addr} {H : Hp} : ∀ {ps : List (V × V)} {ds : List D} {kvs : List (Kk × D)}, Reps X.K ρ H ds (flatP ps) → pairF ds = some kvs → ∃ ws : List (Key × V), ps = ws.map (fun kv => (kV kv.1, kv.2)) ∧ KVs X.K ρ H kvs ws
  | [], _, _, r, h => by
    cases r
    simp only [pairF] at h
    cases h
    exact ⟨[], rfl, .nil⟩
  | p :: ps, _, kvs, r, h => by
    cases r with
    | cons r1 r =>
      cases r with
      | cons r2 r =>
        simp only [pairF] at h
        split at h
        · rename_i k l hk hl
          cases h
          obtain ⟨ws, rfl, q⟩ := pairF_of r hl
          refine ⟨(toK k, p.2) :: ws, ?_, .cons ⟨rfl, r2⟩ q⟩
          have := keyF_of r1 hk
          rw [List.map_cons, ← this]
        · cases h
theorem merge_of {ρ : List Addr} {H : Hp} : ∀ {kvs : List (Kk × D)} {ws : List (Key × V)} {acc : List (Kk × D)} {vs : List (Key × V)}, KVs X.K ρ H kvs ws → KVs X.K ρ H acc vs → KVs X.K ρ H (kvs.foldl (fun acc kv => MP.putK acc kv.1 kv.2) acc) (mergeK vs ws)
  | [], _, _, _, h, q => by cases h; exact q
  | k :: kvs, _, acc, vs, h, q => by
    cases h with
    | @cons _ b _ l r t =>
      rw [List.foldl_cons]
      have := KVs.put (k := k.1) q r.2
      rw [← r.1] at this
      exact merge_of (ws := l) t this
theorem kPs_len {sc : Scope} : ∀ (es : Es) (ks : List (Option Expr)) (vs : List Expr), kPs T sl es sc ks vs = true → evenE es = true ∧ ks.all (·.isSome) = true ∧ ks.length = vs.length
  | .nil, ks, vs, h => by
    unfold kPs at h
    split at h
    · exact ⟨rfl, rfl, rfl⟩
    · cases h
  | .cons k .nil, ks, vs, h => by
    unfold kPs at h
    split at h <;> simp at h
  | .cons k (.cons v r), ks, vs, h => by
    unfold kPs at h
    split at h
    · simp only [Bool.and_eq_true] at h
      obtain ⟨h1, h2, h3⟩ := kPs_len r _ _ h.2.2
      exact ⟨h1, by rw [List.all_cons, h2]; rfl, by rw [List.length_cons, List.length_cons, h3]⟩
    · cases h
theorem m_dic {cf mf : Cf} {es : Es} {ks : List (Option Expr)} {vs : List Expr} {pos : Pos} {sc : Scope} (hk : kPs T sl es sc ks vs = true) (h15 : ks.length ≤ 15) (hp : PPs X pos ks vs (trsOf N X.K P cf mf es)) :
    PE X (.Dict ks vs pos) (tR N X.K fun fr st => (evEs P cf mf es fr st).bind fun p => match pairF p.1 with
    | some kvs => if kvs.length ≤ 15 then newF p.2 (.dct (kvs.foldl (fun acc kv => MP.putK acc kv.1 kv.2) [])) else .no
    | none => .no) := by
  obtain ⟨he, hall, hl⟩ := kPs_len es ks vs hk
  by_cases h0 : ks = []
  · subst h0
    have : vs = [] := by cases vs <;> simp_all
    subst this
    refine PE.imp pe_dnewK fun σ H Q ⟨ρ, fr, st, d, st', R, F, e, Po⟩ => ?_
    have e0 : es = .nil := by
      cases es with
      | nil => rfl
      | cons => simp [kPs] at hk
    subst e0
    simp only [evEs, MP.R.bind_ok, pairF, List.foldl_nil, List.length_nil] at e
    rw [if_pos (by decide)] at e
    cases e
    exact Po.dct R .nil
  · refine PE.imp (pe_disp hp hall hl h0 h15) fun σ H Q ⟨ρ, fr, st, d, st', R, F, e, Po⟩ p hpn => ?_
    obtain ⟨q, e1, e⟩ := MP.R.bind_eq e
    split at e
    · rename_i kvs hkv
      split at e
      · rename_i hlen
        cases e
        obtain ⟨E0, R0⟩ := R.lay (u := .dK []) hpn
        refine read_pairs es he R0 (F.ext E0) e1 fun ρ1 H1 ps E1 R1 r1 => ?_
        obtain ⟨hn, hH⟩ := E1.outside upd_same (R.notIn hpn)
        obtain ⟨ws, hps, kv⟩ := pairF_of r1 hkv
        refine ⟨hH, ws, hps, by rw [← Paired.len kv]; exact hlen, ?_⟩
        have cg : Chg H1 p := ⟨by simp [hH], by simp [hH], by simp [hH]⟩
        refine Po (ρ1 ++ [p]) _ _ (E1.fin hpn [p] (by simp)) ?_ (.ref R1.top)
        refine (R1.out hn hH (by simp) (by simp) (by simp)).grow hn ⟨_, upd_same, ?_⟩
        exact pairedMap (fun _ _ z => ⟨z.1, (z.2.chg cg).grow [p]⟩) (merge_of kv .nil)
      · cases e
    · cases e
theorem bi_call (g : GX T N P n sl X) {b : Bi} {sc : Scope} {e : Expr} {es : List Expr} {p pos : Pos} {fs : Fr → Sto → R (List D × Sto)} (hb : (match b with | .lenset => false | _ => true) = true) (es0 : X.env.scope = sc) (hf : freeB T sc (biN b) = true)
    (ha : PA X (e :: es) (tRs N X.K fs)) (hs : ∀ a ∈ e :: es, starB a = true) : PE X (.Call (.Name (biN b) p) (e :: es) [] pos) (tR N X.K fun fr st => (fs fr st).bind fun p => biF b p.1 p.2) := by
  obtain ⟨h1, h2, h3, h4⟩ := free_ok g es0 hf
  have hst := star_cons (es := es) (env := X.env) (hs e List.mem_cons_self)
  have hpl := star_any (env := X.env) (pos := pos) fun a ha => hs a (List.mem_cons_of_mem _ ha)
  cases b with
  | len => exact m_callB ok_len h1 h2 (by decide +kernel) ha h4 h3 hst hpl
  | int => exact m_callTy ok_int h1 h2 (by decide +kernel) ha h4 h3 hst hpl
  | str => exact m_callTy ok_str h1 h2 (by decide +kernel) ha h4 h3 hst hpl
  | tuple => exact m_callTy ok_tuple h1 h2 (by decide +kernel) ha h4 h3 hst hpl
  | list => exact m_callTy (ok_list g.calm) h1 h2 (by decide +kernel) ha h4 h3 hst hpl
  | max2 => exact m_callB (ok_max2 g.calm) h1 h2 (by decide +kernel) ha h4 h3 hst hpl
  | min2 => exact m_callB (ok_min2 g.calm) h1 h2 (by decide +kernel) ha h4 h3 hst hpl
  | abs => exact m_callB ok_abs h1 h2 (by decide +kernel) ha h4 h3 hst hpl
  | ord => exact m_callB ok_ord h1 h2 (by decide +kernel) ha h4 h3 hst hpl
  | sum => exact m_callB (ok_sum g.calm) h1 h2 (by decide +kernel) ha h4 h3 hst hpl
  | maxl => exact m_callB (ok_maxl g.calm) h1 h2 (by decide +kernel) ha h4 h3 hst hpl
  | minl => exact m_callB (ok_minl g.calm) h1 h2 (by decide +kernel) ha h4 h3 hst hpl
  | any => exact m_callB (ok_any g.calm) h1 h2 (by decide +kernel) ha h4 h3 hst hpl
  | all => exact m_callB (ok_all g.calm) h1 h2 (by decide +kernel) ha h4 h3 hst hpl
  | sorted => exact m_callB (ok_sorted g.calm) h1 h2 (by decide +kernel) ha h4 h3 hst hpl
  | dict => exact m_callTy ok_dict h1 h2 (by decide +kernel) ha h4 h3 hst hpl
  | lenset => exact absurd hb (by decide)
def bmId : Kd → Bm → String
  | .l, .append => "list.append" | .l, .pop => "list.pop" | .l, .extend => "list.extend" | .l, .clear => "list.clear" | .l, .reverse => "list.reverse" | .l, .remove => "list.remove" | .s, .find => "str.find" | .s, .startswith => "str.startswith"
  | .d, .get => "dict.get" | .d, .pop => "dict.pop" | .s, .partition => "str.partition" | .s, .split => "str.split" | .s, .join => "str.join" | .d, .update => "dict.update" | .d, .clear => "dict.clear" | _, _ => ""
theorem dm_no {m : Bm} {k : Nat} {ds : List D} {st : Sto} (h1 : m ≠ .get) (h2 : m ≠ .pop) (h3 : m ≠ .update) (h4 : m ≠ .clear) : dmF m k ds st = .no := by
  unfold dmF; split <;> simp_all
theorem lm_no {m : Bm} {k : Nat} {ys ds : List D} {st : Sto} (h1 : m ≠ .append) (h2 : m ≠ .pop) (h3 : m ≠ .extend) (h4 : m ≠ .clear) (h5 : m ≠ .reverse) (h6 : m ≠ .remove) : lmF m k ys ds st = .no := by
  unfold lmF; split <;> simp_all
theorem sm_no {m : Bm} {a : List Char} {ds : List D} {st : Sto} (h1 : m ≠ .partition) (h2 : m ≠ .split) (h3 : m ≠ .join) (h4 : m ≠ .startswith) (h5 : m ≠ .find) : smF m a ds st = .no := by
  unfold smF; split <;> simp_all
theorem mt_ok (g : GX T N P n sl X) {m : Bm} {k : Kd} (hm : bmNew m = true) (h : ∃ d o ds st, bmF k m o ds st = .ok d) : MtOk X N k m (bmN m) (bmId k m) := by
  obtain ⟨d, o, ds, st, h⟩ := h
  cases k with
  | l =>
    have h2 : ∃ k ys, lmF m k ys ds st = .ok d := by
      cases o <;> simp only [bmF, reduceCtorEq] at h
      split at h
      · exact ⟨_, _, h⟩
      · cases h
    obtain ⟨k, ys, h2⟩ := h2
    cases m with
    | append => exact ok_append
    | pop => exact ok_popl
    | extend => exact ok_extend
    | clear => exact ok_clear
    | reverse => exact ok_reverse
    | remove => exact ok_remove
    | _ => rw [lm_no (by decide) (by decide) (by decide) (by decide) (by decide) (by decide)] at h2; cases h2
  | d =>
    have h2 : ∃ k, dmF m k ds st = .ok d := by
      cases o <;> simp only [bmF, reduceCtorEq] at h
      exact ⟨_, h⟩
    obtain ⟨k, h2⟩ := h2
    cases m with
    | get => exact ok_get g.room
    | pop => exact ok_popd
    | update => exact ok_update
    | clear => exact ok_clearD
    | _ => rw [dm_no (by decide) (by decide) (by decide) (by decide)] at h2; cases h2
  | s =>
    have h2 : ∃ a, smF m a ds st = .ok d := by
      cases o <;> simp only [bmF, reduceCtorEq] at h
      exact ⟨_, h⟩
    obtain ⟨k, h2⟩ := h2
    cases m with
    | partition => exact ok_partition
    | split => exact ok_split
    | join => exact ok_join
    | startswith => exact ok_starts
    | find => exact ok_find
    | _ => rw [sm_no (by decide) (by decide) (by decide) (by decide) (by decide)] at h2; cases h2
end
end MP
set_option maxHeartbeats 4000000
namespace MP
open PySem PySem.Spec PyProof.Rows L2
section
variable {T : Tab} {N : Nm} {P : Prog} {n : Nat} {sl : List Str}
theorem own_ix (sl : List Str) (own : List Nat) : (ownL sl own).map (·.2) = own := by
  unfold ownL
  rw [List.map_map]
  exact List.map_id _
theorem cells_fn {scope : Scope} {y : Str} (hu : ∀ z ∈ scope.names, scope.names.lookup z.1 = some z.2) (h : y ∈ cellsB scope) : (scope.names.lookup y == some .cell) = true := by
  unfold cellsB at h
  rw [List.mem_filterMap] at h
  obtain ⟨z, hz, e⟩ := h
  split at e
  · rename_i hk
    cases e
    have := hu z hz
    rw [hk] at this
    rw [this]
    rfl
  · cases e
theorem notBool {ast : Expr} (h : (match ast with | .BoolOp .. => false | _ => true) = true) : ∀ op xs pos, ast ≠ .BoolOp op xs pos := by
  intro op xs pos e
  subst e
  exact absurd h (by simp)
theorem pick_ok {X : Cx} {sc : Scope} (g : GX T N P n sl X) (es : X.env.scope = sc) : ∀ {fs : List Nat} {l : List Expr}, pickB T sc fs l = true → ∃ as, Ads X l as ∧ Pk X N (callF P n) (n + 1) fs as
  | [], [], _ => ⟨[], .nil, .nil⟩
  | [], _ :: _, h => by simp [pickB] at h
  | _ :: _, [], h => by simp [pickB] at h
  | f :: fs, e :: l, h => by
    cases e with
    | Name x p =>
      simp only [pickB, Bool.and_eq_true] at h
      obtain ⟨h1, h2, h3, h4⟩ := h
      obtain ⟨as, hA, hP⟩ := pick_ok g es h4
      split at h3
      · rename_i q hq
        simp only [Bool.and_eq_true, decide_eq_true_eq, List.isEmpty_iff] at h3
        obtain ⟨a, hF, hm⟩ := g.fns f q hq
        rw [h3.2] at hF
        exact ⟨a :: as, .cons (gl_ok es h1) (hm _ h3.1) (dbg_ok h2).1 hA, .cons hF hP⟩
      · cases h3
    | _ => simp [pickB] at h
mutual
theorem kE_ok : ∀ (e : E) {X : Cx} {sc : Scope} (ast : Expr), GX T N P n sl X → X.env.scope = sc → kE T sl e sc ast = true → EOk X N ast (evE P (callF P n) (makeF P n) e)
  | .v i, X, sc, ast, g, es, h => by
    cases ast <;> simp only [kE, Bool.false_eq_true, Bool.and_eq_true, decide_eq_true_eq] at h
    obtain ⟨⟨h1, h2⟩, h3⟩ := h
    obtain ⟨d1, d2, _⟩ := dbg_ok h3
    exact (EOk.plain (m_var (by rw [g.nm]; exact h1) (vis_ok es h2) d1 d2) (fun _ => rfl) (notBool rfl)).cast fun fr st => by rw [evE] <;> rfl
  | .c d, X, sc, ast, g, es, h => by
    have hp := con_ok g es (show conB T sc d ast = true by simpa only [kE] using h)
    refine (?_ : EOk X N ast fun _ st => .ok (d, st)).cast fun fr st => by rw [evE]
    have h : conB T sc d ast = true := by simpa only [kE] using h
    unfold conB at h
    split at h <;> first | exact EOk.plain hp (fun _ => rfl) (notBool rfl) | exact absurd h (by decide)
  | .op o a b, X, sc, ast, g, es, h => by
    unfold kE at h
    split at h
    · simp only [Bool.and_eq_true] at h
      obtain ⟨⟨h1, h2⟩, h3⟩ := h
      exact (EOk.plain (m_bin (kE_ok a _ g es h2).pe (kE_ok b _ g es h3).pe (bin_ok g h1)) (fun _ => rfl) (notBool rfl)).cast fun fr st => by rw [evE]
    · simp only [Bool.and_eq_true, Bool.not_eq_true'] at h
      obtain ⟨⟨⟨h1, h2⟩, h3⟩, h4⟩ := h
      obtain ⟨c1, c2⟩ := cmp_ok g h1
      exact (EOk.both (m_cmp (kE_ok a _ g es h3).pe (kE_ok b _ g es h4).pe c1 h2) (mt_cmp c2 (kE_ok a _ g es h3).pe (kE_ok b _ g es h4).pe c1 h2) (notBool rfl)).cast fun fr st => by rw [evE]
    · cases h
  | .neg a, X, sc, ast, g, es, h => by
    unfold kE at h
    split at h
    · exact (EOk.plain (m_neg (kE_ok a _ g es h).pe) (fun _ => rfl) (notBool rfl)).cast fun fr st => by rw [evE] <;> rfl
    · cases h
  | .not a, X, sc, ast, g, es, h => by
    unfold kE at h
    split at h
    · have ha := kE_ok a _ g es h
      exact (EOk.both (m_not ha.pe) (mt_not ha.pt) (notBool rfl)).cast fun fr st => by rw [evE] <;> rfl
    · cases h
  | .and a b, X, sc, ast, g, es, h => by
    unfold kE at h
    split at h
    · rename_i x y r pos
      rw [Bool.and_eq_true] at h
      have ha := kE_ok a _ g es h.1
      have hb : PE X (.BoolOp .And (y :: r) pos) (tR N X.K (evE P (callF P n) (makeF P n) b)) ∧ PW X (.BoolOp .And (y :: r) pos) (tRb N X.K (tst (evE P (callF P n) (makeF P n) b))) := by
        have h2 := h.2
        split at h2
        · have hb := kE_ok b _ g es h2
          exact ⟨pe_one hb.pe, mw_one hb.pt⟩
        · have hb := kE_ok b _ g es h2
          exact ⟨hb.pe, hb.pw _ _ _ rfl⟩
      have w := mw_and (pos := pos) ha.pt hb.2
      exact (⟨m_and ha.pe hb.1, w.pt, fun _ _ _ _ => w⟩ : EOk X N _ _).cast fun fr st => by rw [evE] <;> rfl
    · cases h
  | .or a b, X, sc, ast, g, es, h => by
    unfold kE at h
    split at h
    · rename_i x y r pos
      rw [Bool.and_eq_true] at h
      have ha := kE_ok a _ g es h.1
      have hb : PE X (.BoolOp .Or (y :: r) pos) (tR N X.K (evE P (callF P n) (makeF P n) b)) ∧ PW X (.BoolOp .Or (y :: r) pos) (tRb N X.K (tst (evE P (callF P n) (makeF P n) b))) := by
        have h2 := h.2
        split at h2
        · have hb := kE_ok b _ g es h2
          exact ⟨pe_one hb.pe, mw_one hb.pt⟩
        · have hb := kE_ok b _ g es h2
          exact ⟨hb.pe, hb.pw _ _ _ rfl⟩
      have w := mw_or (pos := pos) ha.pt hb.2
      exact (⟨m_or ha.pe hb.1, w.pt, fun _ _ _ _ => w⟩ : EOk X N _ _).cast fun fr st => by rw [evE] <;> rfl
    · cases h
  | .ife c a b, X, sc, ast, g, es, h => by
    unfold kE at h
    split at h
    · simp only [Bool.and_eq_true] at h
      have hc := kE_ok c _ g es h.1.1
      have ha := kE_ok a _ g es h.1.2
      have hb := kE_ok b _ g es h.2
      exact (EOk.both (m_ife hc.pt ha.pe hb.pe) (mt_ife hc.pt ha.pt hb.pt) (notBool rfl)).cast fun fr st => by rw [evE] <;> rfl
    · cases h
  | .chain o o' a b c, X, sc, ast, g, es, h => by
    unfold kE at h
    split at h
    · simp only [Bool.and_eq_true, Bool.not_eq_true'] at h
      obtain ⟨⟨⟨⟨⟨h1, h2⟩, h3⟩, h4⟩, h5⟩, h6⟩ := h
      obtain ⟨c1, c2⟩ := cmp_ok g h1
      obtain ⟨c3, c4⟩ := cmp_ok g h2
      have ha := (kE_ok a _ g es h4).pe
      have hb := (kE_ok b _ g es h5).pe
      have hc := (kE_ok c _ g es h6).pe
      exact (EOk.both (m_chain ha hb hc c1 c3 h3) (mt_chain c4 ha hb hc c1 c3 h3) (notBool rfl)).cast fun fr st => by rw [evE] <;> rfl
    · cases h
  | .isN a, X, sc, ast, g, es, h => by
    unfold kE at h
    split at h
    · have ha := (kE_ok a _ g es h).pe
      exact (EOk.both (m_isN ha) (mt_isN ha) (notBool rfl)).cast fun fr st => by rw [evE] <;> rfl
    · cases h
  | .notN a, X, sc, ast, g, es, h => by
    unfold kE at h
    split at h
    · have ha := (kE_ok a _ g es h).pe
      exact (EOk.both (m_notN ha) (mt_notN ha) (notBool rfl)).cast fun fr st => by rw [evE] <;> rfl
    · cases h
  | .isB a neg b, X, sc, ast, g, es, h => by
    unfold kE at h
    split at h
    · simp only [Bool.and_eq_true, Bool.not_eq_true', beq_iff_eq] at h
      obtain ⟨⟨rfl, rfl⟩, h3⟩ := h
      have ha := (kE_ok a _ g es h3).pe
      exact (EOk.both (m_isB ha) (mt_isB ha) (notBool rfl)).cast fun fr st => by rw [evE] <;> rfl
    · simp only [Bool.and_eq_true, beq_iff_eq] at h
      obtain ⟨⟨rfl, rfl⟩, h3⟩ := h
      have ha := (kE_ok a _ g es h3).pe
      exact (EOk.both (m_isnB ha) (mt_isnB ha) (notBool rfl)).cast fun fr st => by rw [evE] <;> rfl
    · cases h
  | .tup xs, X, sc, ast, g, es, h => by
    unfold kE at h
    split at h
    · exact (EOk.plain (m_tup (kEs_ok xs _ g es h).1) (fun _ => rfl) (notBool rfl)).cast fun fr st => by rw [evE]
    · cases h
  | .lst xs, X, sc, ast, g, es, h => by
    unfold kE at h
    split at h
    · exact (EOk.plain (m_lst (kEs_ok xs _ g es h).1) (fun _ => rfl) (notBool rfl)).cast fun fr st => by rw [evE]
    · cases h
  | .dic xs, X, sc, ast, g, es, h => by
    unfold kE at h
    split at h
    · simp only [Bool.and_eq_true, decide_eq_true_eq] at h
      exact (EOk.plain (m_dic h.1 h.2 (kPs_ok xs _ _ g es h.1)) (fun _ => rfl) (notBool rfl)).cast fun fr st => by rw [evE] <;> rfl
    · cases h
  | .call f xs ds, X, sc, ast, g, es, h => by
    unfold kE at h
    split at h
    · rename_i x p as pos
      simp only [Bool.and_eq_true] at h
      obtain ⟨⟨⟨h1, h2⟩, h3⟩, h4⟩ := h
      obtain ⟨ha, hs⟩ := kEs_ok xs as g es h3
      split at h4
      · rename_i q hq
        simp only [Bool.and_eq_true, decide_eq_true_eq] at h4
        obtain ⟨a, hF, hm⟩ := g.fns f q hq
        obtain ⟨j, hj, rfl⟩ := dfl_ok h4.2
        cases as with
        | nil =>
          have e0 : xs = .nil := by cases xs with | nil => rfl | cons => simp [kEs] at h3
          subst e0
          exact (EOk.plain (m_call0 hF hj g.room (gl_ok es h1) (hm _ h4.1) (dbg_ok h2).1) (fun _ => rfl) (notBool rfl)).cast fun fr st => by rw [evE, evEs]
        | cons e0 as =>
          exact (EOk.plain (m_call hF hj g.room (gl_ok es h1) (hm _ h4.1) (dbg_ok h2).1 ha (star_cons (hs _ List.mem_cons_self)) (star_any fun b hb => hs b (List.mem_cons_of_mem _ hb))) (fun _ => rfl) (notBool rfl)).cast fun fr st => by rw [evE]
      · cases h4
    · cases h
  | .make c f xs ds, X, sc, ast, g, es, h => by
    unfold kE at h
    split at h
    · rename_i x p as pos
      simp only [Bool.and_eq_true] at h
      obtain ⟨⟨⟨h1, h2⟩, h3⟩, h4⟩ := h
      obtain ⟨ha, hs⟩ := kEs_ok xs as g es h3
      split at h4
      · rename_i q hq
        obtain ⟨qx, qi, qd⟩ := q
        simp only [Bool.and_eq_true, decide_eq_true_eq] at h4
        obtain ⟨⟨rfl, rfl⟩, h5⟩ := h4
        obtain ⟨C, a, hC, hm, hM, hF⟩ := g.cls c _ _ _ hq
        obtain ⟨j, hj, rfl⟩ := dfl_ok h5
        cases as with
        | nil =>
          have e0 : xs = .nil := by cases xs with | nil => rfl | cons => simp [kEs] at h3
          subst e0
          exact (EOk.plain (m_make0 hM hC hF hj g.room (gl_ok es h1) hm (dbg_ok h2).1) (fun _ => rfl) (notBool rfl)).cast fun fr st => by rw [evE, evEs] <;> rfl
        | cons e0 as =>
          exact (EOk.plain (m_make hM hC hF hj g.room (gl_ok es h1) hm (dbg_ok h2).1 ha (star_cons (hs _ List.mem_cons_self)) (star_any fun b hb => hs b (List.mem_cons_of_mem _ hb))) (fun _ => rfl) (notBool rfl)).cast fun fr st => by rw [evE] <;> rfl
      · cases h4
    · cases h
  | .meth m o xs, X, sc, ast, g, es, h => by
    unfold kE at h
    split at h
    · rename_i x nm ap as pos
      simp only [Bool.and_eq_true, decide_eq_true_eq] at h
      obtain ⟨⟨⟨⟨⟨h1, h2⟩, h3⟩, h4⟩, h5⟩, h6⟩ := h
      obtain ⟨ha, hs⟩ := kEs_ok xs as g es h3
      have ho := (kE_ok o _ g es h2).pe
      cases as with
      | nil =>
        have e0 : xs = .nil := by cases xs with | nil => rfl | cons => simp [kEs] at h3
        subst e0
        exact (EOk.plain (m_meth0 g.meth h4 g.room ho (meth_eval0 h1 h5)) (fun _ => rfl) (notBool rfl)).cast fun fr st => by rw [evE]; unfold methFn; simp only [evEs] <;> rfl
      | cons e0 as =>
        exact (EOk.plain (m_meth g.meth h4 g.room ho ha (star_cons (hs _ List.mem_cons_self)) (star_any fun b hb => hs b (List.mem_cons_of_mem _ hb)) (meth_eval h1 h5 hs h6)) (fun _ => rfl) (notBool rfl)).cast fun fr st => by rw [evE] <;> rfl
    · cases h
  | .fld o f, X, sc, ast, g, es, h => by
    unfold kE at h
    split at h
    · simp only [Bool.and_eq_true, decide_eq_true_eq] at h
      exact (EOk.plain (m_fld g.meth (by rw [g.fld]; exact h.2) (kE_ok o _ g es h.1.2).pe (base_ok h.1.1)) (fun _ => rfl) (notBool rfl)).cast fun fr st => by rw [evE]
    · cases h
  | .ix a b, X, sc, ast, g, es, h => by
    unfold kE at h
    split at h
    · simp only [Bool.and_eq_true] at h
      exact (EOk.plain (m_ix g.room (kE_ok a _ g es h.1.2).pe (kE_ok b _ g es h.2).pe (slice_ok h.1.1)) (fun _ => rfl) (notBool rfl)).cast fun fr st => by rw [evE]
    · cases h
  | .sl a lo hi, X, sc, ast, g, es, h => by
    unfold kE at h
    split at h
    · simp only [Bool.and_eq_true] at h
      exact (EOk.plain (m_sl (kE_ok a _ g es h.1.1).pe (kEo_ok lo _ g es h.1.2) (kEo_ok hi _ g es h.2)) (fun _ => rfl) (notBool rfl)).cast fun fr st => by rw [evE]
    · cases h
  | .bi b xs, X, sc, ast, g, es, h => by
    unfold kE at h
    split at h
    · simp only [Bool.and_eq_true, decide_eq_true_eq] at h
      obtain ⟨⟨⟨rfl, h2⟩, h3⟩, h4⟩ := h
      obtain ⟨ha, hs⟩ := kEs_ok xs _ g es h4
      exact (EOk.plain (bi_call g h3 es h2 ha hs) (fun _ => rfl) (notBool rfl)).cast fun fr st => by rw [evE]
    · cases h
  | .isi a t, X, sc, ast, g, es, h => by
    unfold kE at h
    split at h
    · rename_i x p y z p' pos
      simp only [Bool.and_eq_true, decide_eq_true_eq] at h
      obtain ⟨⟨⟨⟨⟨h1, h2⟩, h3⟩, h4⟩, h5⟩, h6⟩ := h
      obtain ⟨a1, a2, _, _⟩ := free_ok g es h2
      obtain ⟨b1, b2, b3, b4⟩ := free_ok g es h4
      have hT : ∃ T0, tyS t = some T0 ∧ bootBuiltins z = some (.type T0) := by
        cases t <;> simp only [tyN, Option.some.injEq, reduceCtorEq] at h3 <;> subst h3 <;> exact ⟨_, rfl, by decide +kernel⟩
      obtain ⟨T0, t1, t2⟩ := hT
      exact (EOk.plain (m_isi (P0 := P) t1 h1 a1 a2 t2 b1 b2 b4 b3 (kE_ok a _ g es h6).pe (star_cons h5)) (fun _ => rfl) (notBool rfl)).cast fun fr st => by rw [evE]
    · cases h
  | .bm m o xs, X, sc, ast, g, es, h => by
    unfold kE at h
    split at h
    · rename_i x nm ap as pos
      simp only [Bool.and_eq_true, decide_eq_true_eq] at h
      obtain ⟨⟨⟨⟨⟨⟨h0, rfl⟩, h1⟩, h2⟩, h3⟩, h5⟩, h6⟩ := h
      obtain ⟨ha, hs⟩ := kEs_ok xs as g es h3
      have ho := (kE_ok o _ g es h2).pe
      cases as with
      | nil =>
        have e0 : xs = .nil := by cases xs with | nil => rfl | cons => simp [kEs] at h3
        subst e0
        exact (EOk.plain (read_bm0 (ids := fun k => bmId k m) (fun k ⟨d, o, st, _, e⟩ => mt_ok g h0 ⟨d, o, [], st, e⟩) ho (base_ok h1) h5) (fun _ => rfl) (notBool rfl)).cast fun fr st => by rw [evE]; simp only [evEs] <;> rfl
      | cons e0 as =>
        refine (EOk.plain (read_bm (ids := fun k => bmId k m) (fun k e => mt_ok g h0 e) ho ha (base_ok h1) ?_ h5 (star_cons (hs _ List.mem_cons_self)) (star_any fun b hb => hs b (List.mem_cons_of_mem _ hb))) (fun _ => rfl) (notBool rfl)).cast fun fr st => by rw [evE] <;> rfl
        show ((backTo pos (starEach (e0 :: as) X.env)).all (fun x => !x.1) && true && decide ((e0 :: as).length + 0 + 0 < 30)) = true
        rw [star_all hs]
        simpa using h6
    · cases h
  | .lc tg it ifs elt own, X, sc, ast, g, es, h => by
    unfold kE at h
    split at h
    · rename_i x t i fs scope pos
      simp only [Bool.and_eq_true] at h
      obtain ⟨⟨⟨⟨⟨⟨h1, h2⟩, h3⟩, h4⟩, h5⟩, h6⟩, h7⟩ := h
      have bo := blkOk_by h3
      have key : ∀ (s : Shared) (H : Hp) (C : Addr) (cl : List (Str × Addr)) (fp : List Addr), GX T N P n sl (X.blk s H scope (compEnvC scope cl C X.env) fp) ∧ (X.blk s H scope (compEnvC scope cl C X.env) fp).env.scope = relS scope sc ∧ ∀ y ∈ cellsB scope, (X.blk s H scope (compEnvC scope cl C X.env) fp).fn y = true :=
        fun s H C cl fp => ⟨g.blk s H scope C cl fp bo.kind, by rw [← es]; rfl, fun y hy => cells_fn bo.uniq hy⟩
      have hl := m_lc (X := X) (N := N) (t := tg) (pos := pos) (own := ownL sl own) g.calm (by rw [g.nm]; exact g.nd) (kIt_ok it t i g es h1) (by rw [g.nm, es]; exact bo) (set_ok h2)
        (fun j hj => by rw [own_ix]; exact of_decide_eq_true (List.all_eq_true.mp h4 j hj))
        (fun s H C cl fp => let ⟨k1, k2, k3⟩ := key s H C cl fp; kTg_ok k1 k2 k3 tg t h5)
        (fun s H C cl fp => let ⟨k1, k2, k3⟩ := key s H C cl fp; kIfs_ok ifs fs k1 k2 h6)
        (fun s H C cl fp => let ⟨k1, k2, k3⟩ := key s H C cl fp; (kE_ok elt x k1 k2 h7).pe)
      rw [own_ix] at hl
      exact (EOk.plain hl (fun _ => rfl) (notBool rfl)).cast fun fr st => by rw [evE] <;> rfl
    · cases h
  | .kix kvs k, X, sc, ast, g, es, h => by
    unfold kE at h
    split at h
    · simp only [Bool.and_eq_true] at h
      obtain ⟨h1, h2, h3⟩ := h
      obtain ⟨a1, a2, a3⟩ := kds_ok g es h1
      exact (EOk.plain (m_kix a1 a2 a3 (kE_ok k _ g es h3).pe (slice_ok h2)) (fun _ => rfl) (notBool rfl)).cast fun fr st => by rw [evE] <;> rfl
    · cases h
  | .maxd a d, X, sc, ast, g, es, h => by
    unfold kE at h
    split at h
    · simp only [Bool.and_eq_true, decide_eq_true_eq] at h
      obtain ⟨rfl, h2, rfl, rfl, h5, h6⟩ := h
      obtain ⟨a1, a2, _, _⟩ := free_ok g es h2
      exact (EOk.plain (m_maxd g.calm a1 a2 (kE_ok a _ g es h6).pe (star_cons h5)) (fun _ => rfl) (notBool rfl)).cast fun fr st => by rw [evE] <;> rfl
    · cases h
  | .rvs a, X, sc, ast, g, es, h => by
    unfold kE at h
    split at h
    · simp only [Bool.and_eq_true, decide_eq_true_eq] at h
      obtain ⟨rfl, h2⟩ := h
      exact (EOk.plain (m_rvs (kE_ok a _ g es h2).pe) (fun _ => rfl) (notBool rfl)).cast fun fr st => by rw [evE]
    · cases h
  | .pick fs k xs, X, sc, ast, g, es, h => by
    unfold kE at h
    split at h
    · simp only [Bool.and_eq_true, decide_eq_true_eq] at h
      obtain ⟨h1, h2, h3, h4, h5⟩ := h
      obtain ⟨ha, hs⟩ := kEs_ok xs _ g es h5
      obtain ⟨as, hA, hP⟩ := pick_ok g es h1
      exact (EOk.plain (m_pick g.room hA hP h2 (kE_ok k _ g es h4).pe (slice_ok h3) ha (by rfl) (star_cons (hs _ List.mem_cons_self)) (star_any fun b hb => hs b (List.mem_cons_of_mem _ hb))) (fun _ => rfl) (notBool rfl)).cast fun fr st => by rw [evE] <;> rfl
    · cases h
  | .lens _, X, sc, ast, g, es, h => by
    unfold kE at h
    cases h
  | .isc a c, X, sc, ast, g, es, h => by
    unfold kE at h
    split at h
    · simp only [Bool.and_eq_true, decide_eq_true_eq] at h
      obtain ⟨rfl, h2, h3, h4, h5, h6, h7, h8⟩ := h
      obtain ⟨a1, a2, _, _⟩ := free_ok g es h2
      split at h5
      · rename_i q hq
        rw [decide_eq_true_eq] at h5
        obtain ⟨C, c1, c2, c3⟩ := g.ins c h6 q hq
        rw [← h5] at c2
        exact (EOk.plain (m_isc a1 a2 (gl_ok es h3) c2 (dbg_ok h4).1 c1 c3 (kE_ok a _ g es h8).pe (star_cons h7)) (fun _ => rfl) (notBool rfl)).cast fun fr st => by rw [evE] <;> rfl
      · cases h5
    · cases h
  | .kget kvs k d, X, sc, ast, g, es, h => by
    unfold kE at h
    split at h
    · simp only [Bool.and_eq_true, decide_eq_true_eq] at h
      obtain ⟨h1, rfl, h3, h4, h5, h6, h7⟩ := h
      obtain ⟨a1, a2, a3⟩ := kds_ok g es h1
      refine (EOk.plain (m_kget a1 a2 a3 (kE_ok k _ g es h6).pe (kE_ok d _ g es h7).pe ⟨base_ok rfl, ?_, h3, ?_⟩) (fun _ => rfl) (notBool rfl)).cast fun fr st => by rw [evE] <;> rfl
      · rw [star_cons h4, star_cons h5]; rfl
      · rw [star_cons h4, star_cons h5]; rfl
    · cases h
  | .kmem kvs neg k, X, sc, ast, g, es, h => by
    unfold kE at h
    split at h
    · simp only [Bool.and_eq_true, Bool.not_eq_true'] at h
      obtain ⟨h1, rfl, h3, h4⟩ := h
      obtain ⟨a1, a2, a3⟩ := kds_ok g es h1
      exact (EOk.both (m_kmem (.inl ⟨rfl, rfl⟩) a1 a2 a3 (kE_ok k _ g es h4).pe h3) (mt_kmem (.inl ⟨rfl, rfl⟩) a1 a2 a3 (kE_ok k _ g es h4).pe h3) (notBool rfl)).cast fun fr st => by rw [evE] <;> rfl
    · simp only [Bool.and_eq_true, Bool.not_eq_true'] at h
      obtain ⟨h1, rfl, h3, h4⟩ := h
      obtain ⟨a1, a2, a3⟩ := kds_ok g es h1
      exact (EOk.both (m_kmem (.inr ⟨rfl, rfl⟩) a1 a2 a3 (kE_ok k _ g es h4).pe h3) (mt_kmem (.inr ⟨rfl, rfl⟩) a1 a2 a3 (kE_ok k _ g es h4).pe h3) (notBool rfl)).cast fun fr st => by rw [evE] <;> rfl
    · cases h
  | .tzip a b, X, sc, ast, g, es, h => by
    unfold kE at h
    split at h
    · simp only [Bool.and_eq_true, decide_eq_true_eq] at h
      obtain ⟨rfl, h2, rfl, h4, h5, h6, h7, h8⟩ := h
      obtain ⟨f1, f2, _, _⟩ := free_ok g es h2
      obtain ⟨f3, f4, _, _⟩ := free_ok g es h4
      have ha := m_cons (kE_ok a _ g es h7).pe (m_cons (kE_ok b _ g es h8).pe m_nil (star_cons (es := []) h6)) (star_cons h5)
      exact (EOk.plain (m_tzip (e := a) (f := b) g.calm f1 f2 f3 f4 (castA (f' := evEs P (callF P n) (makeF P n) (.cons a (.cons b .nil))) ha fun fr st => by simp only [evEs]) (by rw [star_cons h5, star_cons h6]; rfl) (star_cons h6)) (fun _ => rfl) (notBool rfl)).cast fun fr st => by rw [evE] <;> rfl
    · cases h
theorem kEs_ok : ∀ (xs : Es) {X : Cx} {sc : Scope} (as : List Expr), GX T N P n sl X → X.env.scope = sc → kEs T sl xs sc as = true → PA X as (tRs N X.K (evEs P (callF P n) (makeF P n) xs)) ∧ ∀ a ∈ as, starB a = true
  | .nil, X, sc, as, g, es, h => by
    unfold kEs at h
    split at h
    · exact ⟨castA m_nil fun fr st => by rw [evEs], fun a ha => by cases ha⟩
    · cases h
  | .cons e r, X, sc, as, g, es, h => by
    unfold kEs at h
    split at h
    · simp only [Bool.and_eq_true] at h
      obtain ⟨⟨h1, h2⟩, h3⟩ := h
      obtain ⟨hr, hs⟩ := kEs_ok r _ g es h3
      refine ⟨castA (m_cons (kE_ok e _ g es h2).pe hr (star_cons h1)) fun fr st => by rw [evEs], fun a ha => ?_⟩
      rcases List.mem_cons.mp ha with rfl | ha
      · exact h1
      · exact hs a ha
    · cases h
theorem kIfs_ok : ∀ (xs : Es) {X : Cx} {sc : Scope} (as : List Expr), GX T N P n sl X → X.env.scope = sc → kIfs T sl xs sc as = true → PTs X as (tRb N X.K (evIfs P (callF P n) (makeF P n) xs))
  | .nil, X, sc, as, g, es, h => by
    unfold kIfs at h
    split at h
    · refine ⟨fun pins s σ H Q I ⟨ρ, fr, st, b, st', R, F, e, Po⟩ => pts_nil.run pins s σ H Q I ?_⟩
      rw [evIfs] at e
      cases e
      exact Po ρ H Ext.refl R
    · cases h
  | .cons e r, X, sc, as, g, es, h => by
    unfold kIfs at h
    split at h
    · rename_i x
      rw [Bool.and_eq_true] at h
      have he := kE_ok e _ g es h.1
      have h2 := h.2
      cases r with
      | nil =>
        refine ⟨fun pins s σ H Q I ⟨ρ, fr, st, b, st', R, F, e1, Po⟩ => (pts_one he.pt).run pins s σ H Q I ⟨ρ, fr, st, b, st', R, F, ?_, Po⟩⟩
        rw [evIfs] at e1
        obtain ⟨p, e2, e1⟩ := MP.R.bind_eq e1
        simp only [tst, testF, e2, MP.R.bind_ok]
        split at e1
        · rename_i hk
          rw [evIfs] at e1
          cases e1
          rw [hk]; rfl
        · rename_i hk
          cases e1
          rw [hk]; rfl
        · cases e1
      | cons => cases h2
    · cases h
theorem kPs_ok : ∀ (xs : Es) {X : Cx} {sc : Scope} {pos : Pos} (ks : List (Option Expr)) (vs : List Expr), GX T N P n sl X → X.env.scope = sc → kPs T sl xs sc ks vs = true → PPs X pos ks vs (trsOf N X.K P (callF P n) (makeF P n) xs)
  | .nil, X, sc, pos, ks, vs, g, es, h => by
    unfold kPs at h
    split at h
    · exact pps_nil
    · cases h
  | .cons k .nil, X, sc, pos, ks, vs, g, es, h => by
    unfold kPs at h
    split at h <;> simp at h
  | .cons k (.cons v r), X, sc, pos, ks, vs, g, es, h => by
    unfold kPs at h
    split at h
    · simp only [Bool.and_eq_true] at h
      exact pps_cons (kE_ok k _ g es h.1).pe (kE_ok v _ g es h.2.1).pe (kPs_ok r _ _ g es h.2.2)
    · cases h
theorem kEo_ok : ∀ (o : Eo) {X : Cx} {sc : Scope} (a : Option Expr), GX T N P n sl X → X.env.scope = sc → kEo T sl o sc a = true → PO X a (tRb N X.K (evEo P (callF P n) (makeF P n) o))
  | .no, X, sc, a, g, es, h => by
    unfold kEo at h
    split at h
    · exact m_part (.inl ⟨rfl, by funext fr st; rw [evEo]⟩)
    · cases h
  | .so e, X, sc, a, g, es, h => by
    unfold kEo at h
    split at h
    · exact m_part (.inr ⟨_, _, rfl, (kE_ok e _ g es h).pe, by funext fr st; rw [evEo] <;> rfl⟩)
    · cases h
theorem kIt_ok : ∀ (it : It) {X : Cx} {sc : Scope} (tg a : Expr), GX T N P n sl X → X.env.scope = sc → kIt T sl it sc tg a = true → ItOk X N tg a (evIt P (callF P n) (makeF P n) it)
  | .any e, X, sc, tg, a, g, es, h => by
    rw [kIt] at h
    exact itok_any (kE_ok e _ g es h).pe
  | .range1 e, X, sc, tg, a, g, es, h => by
    unfold kIt at h
    split at h
    · simp only [Bool.and_eq_true, decide_eq_true_eq] at h
      obtain ⟨⟨⟨rfl, h2⟩, h3⟩, h4⟩ := h
      obtain ⟨f1, f2, _, _⟩ := free_ok g es h2
      have ha := m_cons (kE_ok e _ g es h4).pe m_nil (star_cons (es := []) h3)
      exact itok_range1 f1 f2 (castA ha fun fr st => by rw [evEs]; simp only [evEs]) (star_cons h3)
    · cases h
  | .range2 e f, X, sc, tg, a, g, es, h => by
    unfold kIt at h
    split at h
    · simp only [Bool.and_eq_true, decide_eq_true_eq] at h
      obtain ⟨⟨⟨⟨⟨rfl, h2⟩, h3⟩, h3'⟩, h4⟩, h5⟩ := h
      obtain ⟨f1, f2, _, _⟩ := free_ok g es h2
      have ha := m_cons (kE_ok e _ g es h4).pe (m_cons (kE_ok f _ g es h5).pe m_nil (star_cons (es := []) h3')) (star_cons h3)
      exact itok_range2 f1 f2 (castA ha fun fr st => by simp only [evEs]) (by rw [star_cons h3, star_cons h3']; rfl) (star_cons h3')
    · cases h
  | .enum e, X, sc, tg, a, g, es, h => by
    unfold kIt at h
    split at h
    · split at h
      · simp only [Bool.and_eq_true, decide_eq_true_eq] at h
        obtain ⟨⟨⟨rfl, h2⟩, h3⟩, h4⟩ := h
        obtain ⟨f1, f2, _, _⟩ := free_ok g es h2
        have ha := m_cons (kE_ok e _ g es h4).pe m_nil (star_cons (es := []) h3)
        exact itok_enum f1 f2 (castA ha fun fr st => by rw [evEs]; simp only [evEs]) (star_cons h3)
      · cases h
    · cases h
  | .zip e f, X, sc, tg, a, g, es, h => by
    unfold kIt at h
    split at h
    · split at h
      · simp only [Bool.and_eq_true, decide_eq_true_eq] at h
        obtain ⟨⟨⟨⟨⟨rfl, h2⟩, h3⟩, h3'⟩, h4⟩, h5⟩ := h
        obtain ⟨f1, f2, _, _⟩ := free_ok g es h2
        have ha := m_cons (kE_ok e _ g es h4).pe (m_cons (kE_ok f _ g es h5).pe m_nil (star_cons (es := []) h3')) (star_cons h3)
        exact itok_zip f1 f2 (castA ha fun fr st => by simp only [evEs]) (by rw [star_cons h3, star_cons h3']; rfl) (star_cons h3')
      · cases h
    · cases h
  | .items e, X, sc, tg, a, g, es, h => by
    unfold kIt at h
    split at h
    · split at h
      · simp only [Bool.and_eq_true, decide_eq_true_eq] at h
        obtain ⟨⟨⟨rfl, h2⟩, h3⟩, h4⟩ := h
        exact itok_items (kE_ok e _ g es h4).pe (base_ok h2) h3
      · cases h
    · cases h
  | .values e, X, sc, tg, a, g, es, h => by
    unfold kIt at h
    split at h
    · simp only [Bool.and_eq_true, decide_eq_true_eq] at h
      obtain ⟨⟨⟨rfl, h2⟩, h3⟩, h4⟩ := h
      exact itok_values (kE_ok e _ g es h4).pe (base_ok h2) h3
    · cases h
  | .rev e, X, sc, tg, a, g, es, h => by
    unfold kIt at h
    split at h
    · simp only [Bool.and_eq_true, decide_eq_true_eq] at h
      obtain ⟨⟨⟨rfl, h2⟩, h3⟩, h4⟩ := h
      obtain ⟨f1, f2, _, _⟩ := free_ok g es h2
      have ha := m_cons (kE_ok e _ g es h4).pe m_nil (star_cons (es := []) h3)
      exact itok_rev f1 f2 (castA ha fun fr st => by rw [evEs]; simp only [evEs]) (star_cons h3)
    · cases h
  | .ezip e f, X, sc, tg, a, g, es, h => by
    unfold kIt at h
    split at h
    · split at h
      · simp only [Bool.and_eq_true, decide_eq_true_eq] at h
        obtain ⟨⟨⟨⟨⟨⟨⟨rfl, h2⟩, rfl⟩, h2'⟩, h3⟩, h3'⟩, h4⟩, h5⟩ := h
        obtain ⟨f1, f2, _, _⟩ := free_ok g es h2
        obtain ⟨f3, f4, _, _⟩ := free_ok g es h2'
        have ha := m_cons (kE_ok e _ g es h4).pe (m_cons (kE_ok f _ g es h5).pe m_nil (star_cons (es := []) h3')) (star_cons h3)
        exact itok_ezip f1 f2 f3 f4 (castA ha fun fr st => by simp only [evEs]) (by rw [star_cons h3, star_cons h3']; rfl) (star_cons h3')
      · cases h
    · cases h
  | .revr e, X, sc, tg, a, g, es, h => by
    unfold kIt at h
    split at h
    · simp only [Bool.and_eq_true, decide_eq_true_eq] at h
      obtain ⟨⟨⟨⟨⟨rfl, h2⟩, rfl⟩, h2'⟩, h3⟩, h4⟩ := h
      obtain ⟨f1, f2, _, _⟩ := free_ok g es h2
      obtain ⟨f3, f4, _, _⟩ := free_ok g es h2'
      exact itok_revr f1 f2 f3 f4 (kE_ok e _ g es h4).pe (star_cons h3)
    · cases h
end
end
end MP
namespace MP
open PySem PySem.Spec PyProof.Rows L2
section
variable {X : Cx} {N : Nm}
/-- a comprehension read: over what iterator, locked or not -/
theorem lc_read {tg iter : Expr} {t : Tg} {own : List Nat} {fit : Fr → Sto → R (Wk × Sto × (Sto → Sto))} {fifs : Fr → Sto → R (Bool × Sto)} {felt : Fr → Sto → RD} (hi : ItOk X N tg iter fit) (hslots : ∀ i ∈ slotsT t, i ∈ own) {σ : L2.St} {H : Hp} {Q : VK}
    (h : tR N X.K (fun fr st => (fit fr st).bind fun w =>
      (lcF w.1.ok (fun d st => match tgF t d (wipeF fr own) with
        | some fr2 => (fifs fr2 st).bind fun p => if p.1 then (felt fr2 p.2).bind fun q => .ok (some q.1, q.2) else .ok (none, p.2)
        | none => .no) w.1.ds [] w.2.1).bind fun q => newF (w.2.2 q.2) (.lst q.1)) σ H Q) :
    ∃ wi, PI X tg iter wi ∧ (tLc wi (gT X.K t) (tRb N X.K fifs) (tR N X.K felt) own σ H Q ∨ tLockE (tLc wi (gT X.K t) (tRb N X.K fifs) (tR N X.K felt) own) σ H Q) := by
  obtain ⟨ρ, fr, st, d, st', R, F, e, P⟩ := h
  obtain ⟨⟨w, st1, u⟩, e1, e⟩ := MP.R.bind_eq e
  obtain ⟨⟨acc, st2⟩, e2, e⟩ := MP.R.bind_eq e
  have hturn : ∀ (ρa : List Addr) (sta : Sto) (Ha : Hp) (d : D) (x : V) (y : Option D) (stb : Sto) (K1 : VK) (K0 : Hp → Prop), Rl N X.K ρa sta Ha → Rf X.K ρa Ha (wipeF fr own) (L2.wipe σ own) → Rep X.K ρa Ha d x →
      (match tgF t d (wipeF fr own) with
        | some fr2 => (fifs fr2 sta).bind fun p => if p.1 then (felt fr2 p.2).bind fun q => .ok (some q.1, q.2) else .ok (none, p.2)
        | none => .no) = .ok (y, stb) →
      (∀ d', y = some d' → ∀ ρ' H' v, Ext ρa Ha ρ' H' → Rl N X.K ρ' stb H' → Rep X.K ρ' H' d' v → K1 v H') → (y = none → ∀ ρ' H', Ext ρa Ha ρ' H' → Rl N X.K ρ' stb H' → K0 H') →
      gT X.K t x (L2.wipe σ own) Ha fun σ2 H2 => L2.wipe σ2 own = L2.wipe σ own ∧ tRb N X.K fifs σ2 H2 fun b H3 => if b = true then tR N X.K felt σ2 H3 fun z H4 => K1 z H4 else K0 H3 := by
    intro ρa sta Ha d x y stb K1 K0 Ra Fa ra et k1 k0
    split at et
    · rename_i fr2 ht2
      refine read_tg t ra Fa ht2 fun σ' F' hw => ⟨by rw [hw _ hslots]; exact wipe_wipe _ _ _ fun _ h => h, ?_⟩
      obtain ⟨p, e3, et⟩ := MP.R.bind_eq et
      refine ⟨ρa, fr2, sta, p.1, p.2, Ra, F', e3, fun ρ2 H2 E2 R2 => ?_⟩
      by_cases hp : p.1 = true
      · rw [if_pos hp] at et
        obtain ⟨q, e4, et⟩ := MP.R.bind_eq et
        cases et
        rw [hp]
        exact iteT ⟨ρ2, fr2, p.2, q.1, q.2, R2, F'.ext E2, e4, fun ρ3 H3 v E3 R3 r3 => k1 _ rfl ρ3 H3 v (E2.trans E3) R3 r3⟩
      · rw [if_neg hp] at et
        cases et
        have hp' : p.1 = false := by simpa using hp
        rw [hp']
        exact iteF (k0 rfl ρ2 H2 E2 R2)
    · cases et
  rcases hi ρ fr st H σ w st1 u R F e1 with ⟨rfl, wi, pi, hwi⟩ | ⟨n, a, kvs, ws, ha, hst, hH, kv, rfl, rfl, wi, pi, hwi⟩
  · cases e
    refine ⟨wi, pi, .inl ?_⟩
    refine hwi _ fun ρ1 H1 J E1 R1 wk => ?_
    exact lc_walk wk R1 (F.ext E1) e2 hturn fun ρ2 H2 D0 _ E2 R2 hl => P _ _ _ (E1.trans E2) R2 (.ref (by
      show (ρ2 ++ [D0])[(id st2).length]? = some D0
      show (ρ2 ++ [D0])[st2.length]? = some D0
      rw [← hl, List.getElem?_append_right (Nat.le_refl _), Nat.sub_self]; rfl))
  · cases e
    refine ⟨wi, pi, .inr ?_⟩
    refine ⟨a, .dK ws, hH, trivial, fun od => ?_⟩
    have RL := R.lock ha hH kv od
    refine hwi od _ RL fun ρ1 H1 J E1 R1 wk => ?_
    have hcg : Chg H a := ⟨by simp [hH], by simp [hH], by simp [hH]⟩
    refine lc_walk (Q := fun v H' => H' a = some (HO.frz od (HO.dK ws)) ∧ Q v (upd H' a (HO.dK ws))) wk R1 ((F.chg hcg).ext E1) e2 hturn fun ρ2 H2 D0 E3 E2 R2 hl => ?_
    replace E3 := E1.trans E3
    replace E2 := E1.trans E2
    have hfz := E2.frzd a od ws upd_same
    refine ⟨hfz, ?_⟩
    have EU := Ext.unlock (List.mem_of_getElem? ha) hH E2
    have RU := R2.unlock (E2.ix ha) hfz kv EU
    have ln : n < st2.length := by
      rw [← hl]
      exact (List.getElem?_eq_some_iff.mp (E3.ix ha)).1
    rw [swap_set _ _ _ _ ln] at RU
    refine P _ _ _ EU RU (.ref ?_)
    show (ρ2 ++ [D0])[(st2.set n (.dct kvs)).length]? = some D0
    rw [List.length_set, ← hl, List.getElem?_append_right (Nat.le_refl _), Nat.sub_self]; rfl
theorem s_setLc {i : Nat} {y : Str} {py : Pos} {tg iter elt : Expr} {ifs : List Expr} {scope : Scope} {pos spos : Pos} {own : List (Str × Nat)} {t : Tg} {fit : Fr → Sto → R (Wk × Sto × (Sto → Sto))} {fifs : Fr → Sto → R (Bool × Sto)} {felt : Fr → Sto → RD}
    (hc : X.calm = true) (hN : X.N.Nodup) (hy : X.N[i]? = some y) (hyl : X.env.scope.names.lookup y = some .local)
    (hsw : swapsWith (.ListComp elt [⟨tg, iter, ifs, 0⟩] scope pos) (some (.Name y py)) spos.line X.env = pure true)
    (hi : ItOk X N tg iter fit) (ok : BlkOk X.N X.env.scope scope own) (hs : ∀ x, foldedSetIterable iter X.env x = pure x) (hslots : ∀ i ∈ slotsT t, i ∈ own.map (·.2))
    (hg : ∀ (s : Shared) (H : Hp) (C : Addr) (cl : List (Str × Addr)) (fp : List Addr), PG (X.blk s H scope (compEnvC scope cl C X.env) fp) tg (gT X.K t))
    (ht : ∀ (s : Shared) (H : Hp) (C : Addr) (cl : List (Str × Addr)) (fp : List Addr), PTs (X.blk s H scope (compEnvC scope cl C X.env) fp) ifs (tRb N X.K fifs))
    (he : ∀ (s : Shared) (H : Hp) (C : Addr) (cl : List (Str × Addr)) (fp : List Addr), PE (X.blk s H scope (compEnvC scope cl C X.env) fp) elt (tR N X.K felt)) :
    PS X (.Assign [.Name y py] (.ListComp elt [⟨tg, iter, ifs, 0⟩] scope pos) spos) (tS N X.K fun fr st => ((fit fr st).bind fun w =>
      (lcF w.1.ok (fun d st => match tgF t d (wipeF fr (own.map (·.2))) with
        | some fr2 => (fifs fr2 st).bind fun p => if p.1 then (felt fr2 p.2).bind fun q => .ok (some q.1, q.2) else .ok (none, p.2)
        | none => .no) w.1.ds [] w.2.1).bind fun q => newF (w.2.2 q.2) (.lst q.1)).stm fr fun p => match tgF (.v i) p.1 fr with
          | some fr => .nx fr p.2
          | none => .no) := by
  refine PS.by fun D σ H ⟨ρ, fr, st, R, F, P⟩ => ?_
  obtain ⟨p, e1, P⟩ := P.stm
  simp only [tgF] at P
  have hr := lc_read (X := X) (N := N) (σ := σ) (H := H) (Q := fun x H1 => D.nx (σ.set i (some x)) H1) hi hslots ⟨ρ, fr, st, p.1, p.2, R, F, e1, fun ρ1 H1 v E1 R1 r1 => P ρ1 H1 _ E1 R1 ((F.ext E1).set r1 i)⟩
  obtain ⟨wi, pi, hr | hr⟩ := hr
  · exact ⟨_, ps_setLc hc hN hy hyl hsw pi ok hg ht he hs, hr⟩
  · exact ⟨_, ps_lock (ps_setLc hc hN hy hyl hsw pi ok hg ht he hs), hr⟩
end
section
variable {T : Tab} {N : Nm} {P : Prog} {n : Nat} {sl : List Str} {X : Cx} {sc : Scope} {cl : List Str}
theorem castS {s : Stmt} {f f' : Fr → Sto → C} (h : PS X s (tS N X.K f)) (e : ∀ fr st, f' fr st = f fr st) : PS X s (tS N X.K f') := by
  have : f' = f := funext fun fr => funext fun st => e fr st
  rw [this]; exact h
theorem castSs {s : List Stmt} {f f' : Fr → Sto → C} (h : PSs X s (tS N X.K f)) (e : ∀ fr st, f' fr st = f fr st) : PSs X s (tS N X.K f') := by
  have : f' = f := funext fun fr => funext fun st => e fr st
  rw [this]; exact h
theorem swap_ok (g : GX T N P n sl X) {tg v : Expr} {l : Nat} (es : X.env.scope = sc) (h : swapB sc tg v l = true) : ∃ y py elt gs s p, tg = .Name y py ∧ v = .ListComp elt gs s p ∧ X.env.scope.names.lookup y = some .local ∧ swapsWith v (some tg) l X.env = pure true := by
  unfold swapB at h
  split at h
  · rename_i y py elt gs s p
    simp only [Bool.and_eq_true, Bool.not_eq_true'] at h
    obtain ⟨⟨h1, h2⟩, h3⟩ := h
    have hl : X.env.scope.names.lookup y = some .local := by
      rw [es]
      split at h2
      · assumption
      · cases h2
    exact ⟨y, py, elt, gs, s, p, rfl, rfl, hl, sw_true g.kd hl h1 h3⟩
  · cases h
theorem cell_ok {tg v : Expr} {l : Nat} (es : X.env.scope = sc) (h : cellTB sc tg = true) : swapsWith v (some tg) l X.env = pure false := by
  unfold cellTB at h
  split at h
  · rename_i y py
    have hl : X.env.kindOf y = some .cell := by
      show X.env.scope.names.lookup y = some .cell
      rw [es]
      split at h
      · assumption
      · cases h
    unfold swapsWith
    have hk : (NameKind.cell == NameKind.local) = false := rfl
    cases v <;> simp [hl, hk] <;> rfl
  · cases h
theorem lcl_ok {x : Str} (es : X.env.scope = sc) (h : lclB sc x = true) : X.env.scope.names.lookup x = some .local := by
  rw [es]
  unfold lclB at h
  split at h
  · assumption
  · cases h
theorem nostar {a : Expr} (h : starB a = true) : isStar a = false := by
  cases a <;> first | rfl | exact absurd h (by simp [starB])
mutual
theorem kS_ok (g : GX T N P n sl X) (hx : X.xe = fun _ _ => False) (es : X.env.scope = sc) (hf : ∀ y ∈ cl, X.fn y = true) : ∀ (s : S) (ast : Stmt), kS T sl s sc cl ast = true → PS X ast (tS N X.K (evS P (callF P n) (makeF P n) s))
  | .set t e, ast, h => by
    unfold kS at h
    split at h
    · rename_i tg v p
      simp only [Bool.and_eq_true] at h
      obtain ⟨⟨⟨h1, h2⟩, h3⟩, h4⟩ := h
      have he := kE_ok e _ g es h4
      have ht := kTg_ok g es hf t tg h3
      rw [Bool.or_eq_true] at h2
      rcases h2 with h2 | h2
      · exact castS (s_set he.pe ht (comp_ok h2) (seqT_ok h1) (assign1 h3)) fun fr st => by rw [evS] <;> rfl
      rw [Bool.or_eq_true] at h2
      rcases h2 with h2 | h2
      case inr => exact castS (s_set he.pe ht (cell_ok es h2) (seqT_ok h1) (assign1 h3)) fun fr st => by rw [evS] <;> rfl
      · obtain ⟨y, py, elt, gs, s, vp, rfl, rfl, hl, hsw⟩ := swap_ok g es h2
        cases e with
        | lc tg2 it ifs elt2 own =>
          unfold kE at h4
          split at h4
          · rename_i x t2 i fs scope pos heq
            cases heq
            simp only [Bool.and_eq_true] at h4
            obtain ⟨⟨⟨⟨⟨⟨a1, a2⟩, a3⟩, a4⟩, a5⟩, a6⟩, a7⟩ := h4
            have bo := blkOk_by a3
            have key : ∀ (s0 : Shared) (H : Hp) (C : Addr) (cl : List (Str × Addr)) (fp : List Addr), GX T N P n sl (X.blk s0 H s (compEnvC s cl C X.env) fp) ∧ (X.blk s0 H s (compEnvC s cl C X.env) fp).env.scope = relS s sc ∧ ∀ y ∈ cellsB s, (X.blk s0 H s (compEnvC s cl C X.env) fp).fn y = true :=
              fun s0 H C cl fp => ⟨g.blk s0 H s C cl fp bo.kind, by rw [← es]; rfl, fun y hy => cells_fn bo.uniq hy⟩
            cases t with
            | v j =>
              have hj : sl[j]? = some y := by
                simp only [kTg, Bool.and_eq_true, decide_eq_true_eq] at h3
                exact h3.1
              have hl2 := s_setLc (X := X) (N := N) (i := j) (t := tg2) (own := ownL sl own) g.calm (by rw [g.nm]; exact g.nd) (by rw [g.nm]; exact hj) hl hsw (kIt_ok it _ _ g es a1) (by rw [g.nm, es]; exact bo) (set_ok a2)
                (fun j hj => by rw [own_ix]; exact of_decide_eq_true (List.all_eq_true.mp a4 j hj))
                (fun s H C cl fp => let ⟨k1, k2, k3⟩ := key s H C cl fp; kTg_ok k1 k2 k3 tg2 _ a5)
                (fun s H C cl fp => let ⟨k1, k2, k3⟩ := key s H C cl fp; kIfs_ok ifs _ k1 k2 a6)
                (fun s H C cl fp => let ⟨k1, k2, k3⟩ := key s H C cl fp; (kE_ok elt2 _ k1 k2 a7).pe)
              rw [own_ix] at hl2
              exact castS hl2 fun fr st => by rw [evS, evE] <;> rfl
            | tup ts => simp [kTg] at h3
          · cases h4
        | v i => simp [kE] at h4
        | c d => simp [kE, conB] at h4
        | op o a b => simp [kE] at h4
        | neg a => simp [kE] at h4
        | not a => simp [kE] at h4
        | and a b => simp [kE] at h4
        | or a b => simp [kE] at h4
        | ife a b c => simp [kE] at h4
        | chain o o' a b c => simp [kE] at h4
        | isN a => simp [kE] at h4
        | notN a => simp [kE] at h4
        | isB a b c => simp [kE] at h4
        | tup a => simp [kE] at h4
        | lst a => simp [kE] at h4
        | dic a => simp [kE] at h4
        | call a b c => simp [kE] at h4
        | make a b c d => simp [kE] at h4
        | meth a b c => simp [kE] at h4
        | fld a b => simp [kE] at h4
        | ix a b => simp [kE] at h4
        | sl a b c => simp [kE] at h4
        | bi a b => simp [kE] at h4
        | isi a b => simp [kE] at h4
        | bm a b c => simp [kE] at h4
        | kix a b => simp [kE] at h4
        | kget a b c => simp [kE] at h4
        | kmem a b c => simp [kE] at h4
        | tzip a b => simp [kE] at h4
        | maxd a b => simp [kE] at h4
        | rvs a => simp [kE] at h4
        | pick a b c => simp [kE] at h4
        | lens a => simp [kE] at h4
        | isc a b => simp [kE] at h4
    · cases h
  | .par i j a b, ast, h => by
    unfold kS at h
    split at h
    · simp only [Bool.and_eq_true, decide_eq_true_eq, Bool.not_eq_true'] at h
      obtain ⟨h1, h2, h3, h4, h5, h6, h7, h8, h9, h10, h11, h12⟩ := h
      have lx := lcl_ok es h4
      have ly := lcl_ok es h5
      have hij : i ≠ j := fun e => h3 (by rw [e, h2] at h1; exact (Option.some.inj h1).symm)
      have pa := pa_cons (kE_ok a _ g es h11).pe (pa_cons (kE_ok b _ g es h12).pe pa_nil (star_cons h8)) (star_cons h7)
      refine castS (s_par g.calm (by rw [g.nm]; exact g.nd) (by rw [g.nm]; exact h1) (by rw [g.nm]; exact h2) hij lx ly (PA.imp pa fun σ H Q h => ?_) (sw_par g.kd lx ly h3 h6 (nostar h7) (nostar h8) h9 h10)) fun fr st => by rw [evS]
      obtain ⟨ρ, fr, st, ds, st', R, F, e, Po⟩ := h
      obtain ⟨p, e1, e⟩ := MP.R.bind_eq e
      obtain ⟨q, e2, e⟩ := MP.R.bind_eq e
      cases e
      exact ⟨ρ, fr, st, p.1, p.2, R, F, e1, fun ρ1 H1 v E1 R1 r1 => ⟨ρ1, fr, p.2, q.1, q.2, R1, F.ext E1, e2, fun ρ2 H2 u E2 R2 r2 => Po ρ2 H2 _ (E1.trans E2) R2 (.cons (r1.ext E2) (.cons r2 .nil))⟩⟩
    · cases h
  | .setu ts e, ast, h => by
    unfold kS at h
    split at h
    · simp only [Bool.and_eq_true] at h
      obtain ⟨⟨⟨h1, h2⟩, h3⟩, h4⟩ := h
      obtain ⟨g1, g2, g3⟩ := kTgs_ok g es hf ts _ h3
      exact castS (s_setu (kE_ok e _ g es h4).pe (pg_lst g.calm g1 g2 g3) (by rw [swapsWithSole]; exact comp_ok h2) (seqT_ok (by rw [h1, Bool.or_true])) rfl) fun fr st => by rw [evS] <;> rfl
    · cases h
  | .setix o i e, ast, h => by
    unfold kS at h
    split at h
    · rename_i a b ap v p
      simp only [Bool.and_eq_true] at h
      obtain ⟨⟨⟨h1, h2⟩, h3⟩, h4⟩ := h
      refine castS (s_setix g.room (kE_ok o _ g es h2).pe (kE_ok i _ g es h3).pe (kE_ok e _ g es h4).pe ?_ ?_ ?_) fun fr st => by rw [evS] <;> rfl
      · cases v <;> rfl
      · exact seqT_ok rfl
      · intro v
        cases b <;> first | rfl | exact absurd h1 (by simp [sliceB])
    · cases h
  | .setfld o f e, ast, h => by
    unfold kS at h
    split at h
    · rename_i a nm ap v p
      simp only [Bool.and_eq_true, decide_eq_true_eq] at h
      obtain ⟨⟨h1, h2⟩, h3⟩ := h
      refine castS (s_setfld g.meth (by rw [g.fld]; exact h1) (kE_ok o _ g es h2).pe (kE_ok e _ g es h3).pe ?_) fun fr st => by rw [evS] <;> rfl
      cases v <;> rfl
    · cases h
  | .augfld o f e, ast, h => by
    unfold kS at h
    split at h
    · rename_i a nm ap v p
      simp only [Bool.and_eq_true, decide_eq_true_eq] at h
      obtain ⟨⟨h1, h2⟩, h3⟩ := h
      exact castS (s_augfld g.meth (by rw [g.fld]; exact h1) (kE_ok o _ g es h2).pe (kE_ok e _ g es h3).pe) fun fr st => by rw [evS] <;> rfl
    · cases h
  | .ex e, ast, h => by
    unfold kS at h
    split at h
    · rw [Bool.and_eq_true] at h
      exact castS (s_ex (kE_ok e _ g es h.2).pe (comp_ok h.1)) fun fr st => by rw [evS]
    · cases h
  | .ret e, ast, h => by
    unfold kS at h
    split at h
    · exact castS (s_ret (kE_ok e _ g es h).pe) fun fr st => by rw [evS]
    · cases h
  | .retn, ast, h => by
    unfold kS at h
    split at h
    · exact castS s_retn fun fr st => by rw [evS]
    · cases h
  | .ife c a b, ast, h => by
    unfold kS at h
    split at h
    · simp only [Bool.and_eq_true] at h
      exact castS (s_if (kE_ok c _ g es h.1.1).pt (kSs_ok g hx es hf a _ h.1.2) (kSs_ok g hx es hf b _ h.2)) fun fr st => by rw [evS]
    · cases h
  | .forr t it b, ast, h => by
    unfold kS at h
    split at h
    · simp only [Bool.and_eq_true] at h
      obtain ⟨⟨⟨h1, h2⟩, h3⟩, h4⟩ := h
      exact castS (s_for (by rw [hx]; exact PassesOwn.never) g.calm (kIt_ok it _ _ g es h1) (kTg_ok g es hf t _ h3) (kSs_ok g hx es hf b _ h4) (set_ok h2)) fun fr st => by rw [evS] <;> rfl
    · cases h
  | .whl c b, ast, h => by
    unfold kS at h
    split at h
    · rw [Bool.and_eq_true] at h
      exact castS (s_while (by rw [hx]; exact PassesOwn.never) (kE_ok c _ g es h.1).pt (kSs_ok g hx es hf b _ h.2)) fun fr st => by rw [evS]
    · cases h
  | .pass, ast, h => by
    unfold kS at h
    split at h
    · exact castS s_pass fun fr st => by rw [evS]
    · cases h
  | .raise c, ast, h => by simp [kS] at h
  | .nev, ast, h => castS s_nev fun fr st => by rw [evS]
theorem kSs_ok (g : GX T N P n sl X) (hx : X.xe = fun _ _ => False) (es : X.env.scope = sc) (hf : ∀ y ∈ cl, X.fn y = true) : ∀ (ss : Ss) (as : List Stmt), kSs T sl ss sc cl as = true → PSs X as (tS N X.K (evSs P (callF P n) (makeF P n) ss))
  | .nil, as, h => by
    unfold kSs at h
    split at h
    · exact castSs s_nil fun fr st => by rw [evSs]
    · cases h
  | .cons s r, as, h => by
    unfold kSs at h
    split at h
    · rw [Bool.and_eq_true] at h
      exact castSs (s_cons (kS_ok g hx es hf s _ h.1) (kSs_ok g hx es hf r _ h.2)) fun fr st => by rw [evSs]
    · cases h
end
end
end MP
set_option maxHeartbeats 1000000
namespace MP
open PySem PySem.Spec PyProof.Rows L2
/-- a def: where it stands, its text, its slots, its parameters, its defaults -/
structure Dr where
  at_ : Str × Option Str
  name : Str
  qual : Str
  params : Arguments
  body : List Stmt
  scope : Scope
  sl : List Str
  ps : List Str
  dfl : List D
def dvOf : D → He.Dv
  | .non => .non
  | .bl b => .bl b
  | .int i => .int i
  | .str x => .str (toS x)
  | _ => .non
def flatD : D → Bool
  | .non => true
  | .bl _ => true
  | .int _ => true
  | .str _ => true
  | _ => false
theorem dv_rep {K : PySem.W.Frag} {ρ : List Addr} {H : Hp} : ∀ {d : D}, flatD d = true → Rep K ρ H d ((dvOf d).v K)
  | .non, _ => .non
  | .bl b, _ => .bl b
  | .int i, _ => .int i
  | .str x, _ => .str x
  | .tup _, h => by cases h
  | .kls _, h => by cases h
  | .ref _, h => by cases h
theorem dv_reps {K : PySem.W.Frag} {ρ : List Addr} {H : Hp} : ∀ {ds : List D}, ds.all flatD = true → Reps K ρ H ds ((ds.map dvOf).map (He.Dv.v K))
  | [], _ => .nil
  | d :: ds, h => by
    rw [List.all_cons, Bool.and_eq_true] at h
    exact .cons (dv_rep h.1) (dv_reps h.2)
def Dr.defD (d : Dr) : He.DefD := ⟨d.at_, d.name, d.qual, d.params, d.body, d.scope, d.dfl.map dvOf, []⟩
def scB (sl ps : List Str) (sc : Scope) : Bool :=
  (match sc.kind with | .function => true | _ => false) && !sc.isCoroutine && !sc.isGenerator && decide sl.Nodup && decide (sl.take ps.length = ps) && (ps.all fun x => match sc.names.lookup x with | some .local => true | some .cell => true | _ => false) && sc.names.all fun y => match y.2 with | .free => false | _ => true
theorem sc_ok {sl ps : List Str} {sc : Scope} (h : scB sl ps sc = true) : FnScope sl ps sc := by
  unfold scB at h
  simp only [Bool.and_eq_true, Bool.not_eq_true', decide_eq_true_eq, List.all_eq_true] at h
  obtain ⟨⟨⟨⟨⟨⟨h1, h2⟩, h3⟩, h4⟩, h5⟩, h6⟩, h7⟩ := h
  refine ⟨?_, h2, h3, h4, h5, fun x hx => ?_, fun y hy e => ?_⟩
  · split at h1
    · assumption
    · cases h1
  · have := h6 x hx
    split at this
    · rename_i q; exact .inl q
    · rename_i q; exact .inr q
    · cases this
  · have := h7 y hy
    rw [e] at this
    cases this
def Dr.okB (T : Tab) (d : Dr) (fd : FD) : Bool := scB d.sl d.ps d.scope && decide (d.ps.length = fd.np) && decide (d.sl.length = fd.nn) && d.dfl.all flatD && decide (d.dfl.length ≤ d.ps.length) && kSs T d.sl fd.body d.scope (cellsB d.scope) d.body
/-- how a def's arguments are bound -/
def BindOk (d : Dr) : Prop := match d.dfl with
  | [] => ∀ (kV doc pm : Value) (an : Option Addr) (cdv ct : Value) (us : List Value), us.length = d.ps.length → bindArgs (PySem.W.fnOf d.name d.qual d.params d.body d.scope .none kV doc pm an cdv ct) ⟨us, []⟩ = pure (d.ps.zip us)
  | dfl => ∀ j, j ≤ dfl.length → ∀ (T : Addr) (kV doc pm : Value) (an : Option Addr) (cdv ct : Value) (us its : List Value), us.length = d.ps.length - (dfl.length - j) → its.length = dfl.length →
      ∃ k, bindArgs (PySem.W.fnOf d.name d.qual d.params d.body d.scope (.ref T) kV doc pm an cdv ct) ⟨us, []⟩ = seqItems? (.ref T) >>= k ∧ k (some its.toArray) = pure (d.ps.zip (us ++ its.drop j))
section
variable {prog : Program} {w : World} {K : PySem.W.Frag} {mg : Str → Option Value} {base : Heap} {N : Nm} {T : Tab} {P : Prog}
/-- a def keeps the promise, with no context -/
structure FnB (prog : Program) (w : World) (K : PySem.W.Frag) (mg : Str → Option Value) (base : Heap) (N : Nm) (cf : Cf) (k : Nat) (id : Nat) (dfl : List D) (f : Addr) : Prop where
  ok : ∃ (fd : FuncData) (ps : List Str), FnOk prog w K mg base CX0 k f fd ps (spF N K cf id) ∧ ∀ j, j ≤ dfl.length → ∃ (ds : List Value) (dvs : List V), Vals dvs ds ∧ Binds K fd ps ds ∧ ∀ ρ H, Reps K ρ H (dfl.drop j) dvs
  kp : PySem.W.keepIn K (.ref f) = true
theorem FnB.at {X : Cx} {cf : Cf} {k id : Nat} {dfl : List D} {f : Addr} (h : FnB prog w K mg base N cf k id dfl f) (e1 : X.prog = prog) (e2 : X.w = w) (e3 : X.K = K) (e4 : X.mg = mg) (e5 : X.base = base) : FnG X N cf k id dfl f := by
  subst e1 e2 e3 e4 e5
  exact ⟨h.ok, h.kp⟩
/-- what the head tells -/
structure Say (K : PySem.W.Frag) (w : World) (mg : Str → Option Value) (N : Nm) (T : Tab) (P : Prog) (drs : List Dr) (ad : Nat → Addr) : Prop where
  fn : ∀ (i : Nat) (d : Dr), drs[i]? = some d → ∃ fd, FunD K d.name d.qual d.params d.body d.scope ((d.dfl.map dvOf).map (He.Dv.v K)) [] (ad i) fd
  ok : ∀ (i : Nat) (d : Dr), drs[i]? = some d → ∃ fd, P.fns[i]? = some fd ∧ d.okB T fd = true
  len : P.fns.length = drs.length
  bd : ∀ (i : Nat) (d : Dr), drs[i]? = some d → BindOk d
  fns : ∀ f q, T.fns[f]? = some q → ∃ d, drs[f]? = some d ∧ d.dfl = q.2 ∧ ∀ x ∈ q.1, mg x = some (.ref (ad f))
  cls : ∀ c x id dfl, T.cls[c]? = some (x, id, dfl) → ∃ C d, N.cls c = some C ∧ mg x = some (.ref C) ∧ drs[id]? = some d ∧ d.dfl = dfl ∧ Mk K C (ad id)
  con : ∀ x d, T.con.lookup x = some d → ∃ v u, mg x = some u ∧ RelV v u ∧ ∀ ρ H, Rep K ρ H d v
  kds : ∀ x kvs, T.kds.lookup x = some kvs → KdM K w mg x kvs
  free : ∀ x ∈ T.free, mg x = none
  cl : ∀ c C, N.cls c = some C → Cls K C
  no : ∀ c C, N.cls c = some C → ∀ (f : Nat) x, N.fld[f]? = some x → NoAttr K C x
  nd : N.fld.Nodup
  tot : ∀ c m fd, findM P c m = some fd → ∃ C, N.cls c = some C
  me : ∀ c C, N.cls c = some C → ∀ (m : Nat) x id dfl, T.mths[m]? = some x → findM P c m = some (id, dfl) → x ∉ N.fld ∧ ∃ d, drs[id]? = some d ∧ d.dfl = dfl ∧ Meth K C x (ad id)
  fld : N.fld = T.flds
  ins : ∀ c ∈ T.ins, ∀ q, T.cls[c]? = some q → ∃ C, N.cls c = some C ∧ mg q.1 = some (.ref C) ∧ C8.InsC K C
variable {drs : List Dr} {ad : Nat → Addr}
theorem binds_of (S : Say K w mg N T P drs ad) {i : Nat} {d : Dr} (hi : drs[i]? = some d) {fd : FuncData} (F : FunD K d.name d.qual d.params d.body d.scope ((d.dfl.map dvOf).map (He.Dv.v K)) [] (ad i) fd) :
    ∀ j, j ≤ d.dfl.length → ∃ (ds : List Value) (dvs : List V), Vals dvs ds ∧ Binds K fd d.ps ds ∧ ∀ ρ H, Reps K ρ H (d.dfl.drop j) dvs := by
  obtain ⟨fd0, _, hok⟩ := S.ok i d hi
  unfold Dr.okB at hok
  simp only [Bool.and_eq_true, decide_eq_true_eq] at hok
  obtain ⟨⟨⟨⟨⟨h1, h2⟩, h3⟩, h4⟩, h5⟩, h6⟩ := hok
  have hb := S.bd i d hi
  intro j hj
  unfold BindOk at hb
  split at hb
  · rename_i e
    rw [e] at F hj ⊢
    exact ⟨[], [], .nil, F.bindsN hb, fun ρ H => by rw [List.drop_nil]; exact .nil⟩
  · rename_i dfl hne
    have hne2 : d.dfl ≠ [] := fun e => hne e
    have hl : ((d.dfl.map dvOf).map (He.Dv.v K)).length = d.dfl.length := by rw [List.length_map, List.length_map]
    obtain ⟨ds, hv, hbd⟩ := F.binds1 (ps := d.ps) (d.ps.length - (d.dfl.length - j)) j (by simpa using hne2) (by rw [hl]; omega)
      (fun T kV doc pm an cdv ct us its e1 e2 => hb j hj T kV doc pm an cdv ct us its e1 (by rw [e2, hl]))
    refine ⟨ds, _, hv, hbd, fun ρ H => ?_⟩
    rw [← List.map_drop, ← List.map_drop]
    exact dv_reps (List.all_eq_true.mpr fun x hx => List.all_eq_true.mp h4 x (List.mem_of_mem_drop hx))
theorem none_of (S : Say K w mg N T P drs ad) {i : Nat} {d : Dr} (hi : drs[i]? = some d) (k : Nat) : FnB prog w K mg base N noF k i d.dfl (ad i) := by
  obtain ⟨fd, F⟩ := S.fn i d hi
  refine ⟨⟨fd, d.ps, ⟨fun vs H Q E h => ?_, fun A outer s H args us vs Q E _ _ _ _ h => ?_⟩, binds_of S hi F⟩, F.kp⟩
  · obtain ⟨_, _, _, _, _, _, _, e, _⟩ := h
    cases e
  · obtain ⟨_, _, _, _, _, _, _, e, _⟩ := h
    cases e
theorem start_rf {ρ : List Addr} {H : Hp} {ds : List D} {vs : List V} {sl : List Str} {nn : Nat} (r : Reps K ρ H ds vs) (h : sl.length = nn) (hl : ds.length ≤ nn) : Rf K ρ H (startF nn ds) (L2.start sl vs) := by
  have e1 := r.len
  refine ⟨by simp [startF, L2.start, h, ← e1], fun i d hi => ?_⟩
  unfold startF at hi
  by_cases hlt : i < ds.length
  · rw [List.getElem?_append_left (by simpa using hlt), List.getElem?_map] at hi
    have : ds[i]? = some d := by
      cases q : ds[i]? with
      | none => rw [q] at hi; cases hi
      | some x => rw [q] at hi; cases hi; rfl
    obtain ⟨v, hv, rv⟩ := r.get this
    refine ⟨v, ?_, rv⟩
    unfold L2.start
    rw [List.getElem?_append_left (by simp; omega), List.getElem?_map, hv]
    rfl
  · rw [List.getElem?_append_right (by simpa using hlt), List.getElem?_replicate] at hi
    split at hi <;> cases hi
theorem body_ok (S : Say K w mg N T P drs ad) {n : Nat} (ih1 : ∀ (i : Nat) (d : Dr), drs[i]? = some d → FnB prog w K mg base N (callF P n) (n + 1) i d.dfl (ad i)) (ih2 : ∀ (i : Nat) (d : Dr), drs[i]? = some d → FnB prog w K mg base N (makeF P n) n i d.dfl (ad i))
    {i : Nat} {d : Dr} (hi : drs[i]? = some d) {fd : FuncData} (F : FunD K d.name d.qual d.params d.body d.scope ((d.dfl.map dvOf).map (He.Dv.v K)) [] (ad i) fd) : FnOk prog w K mg base CX0 (n + 2) (ad i) fd d.ps (spF N K (callF P (n + 1)) i) := by
    obtain ⟨fd0, hfd, hok⟩ := S.ok i d hi
    unfold Dr.okB at hok
    simp only [Bool.and_eq_true, decide_eq_true_eq] at hok
    obtain ⟨⟨⟨⟨⟨h1, h2⟩, h3⟩, h4⟩, h5⟩, h6⟩ := hok
    have S1 := sc_ok h1
    refine F.ok S1 (fun vs H Q E h => ?_) (fun cdv A outer s H vs Q E hr h => ⟨tS N K (evSs P (callF P n) (makeF P n) fd0.body), ?_, ?_⟩)
    · obtain ⟨ρ, st, ds, dd, st', R, r, e, _⟩ := h
      rw [callF_succ, runF, hfd] at e
      dsimp only at e
      split at e
      · rename_i hl
        rw [← r.len, hl, h2]
      · cases e
    · refine PSs.nox ?_
      refine kSs_ok (T := T) (sl := d.sl) (sc := d.scope) (cl := cellsB d.scope) ?_ rfl rfl (fun _ _ => rfl) fd0.body d.body h6
      refine ⟨rfl, S1.nd, rfl, S1.kind, hr, fun f q hq => ?_, fun c x id dfl hc => ?_, S.con, S.kds, S.free, ⟨S.cl, S.no, S.nd, S.tot, fun c C hC m x id dfl hm hf => ?_⟩, S.fld, S.ins⟩
      · obtain ⟨d2, e1, e2, e3⟩ := S.fns f q hq
        exact ⟨ad f, by rw [← e2]; exact (ih1 f d2 e1).at rfl rfl rfl rfl rfl, e3⟩
      · obtain ⟨C, d2, e1, e2, e3, e4, e5⟩ := S.cls c x id dfl hc
        exact ⟨C, ad id, e1, e2, e5, by rw [← e4]; exact (ih2 id d2 e3).at rfl rfl rfl rfl rfl⟩
      · obtain ⟨a1, d2, a2, a3, a4⟩ := S.me c C hC m x id dfl hm hf
        exact ⟨a1, ad id, a4, by rw [← a3]; exact (ih1 id d2 a2).at rfl rfl rfl rfl rfl⟩
    · obtain ⟨ρ, st, ds, dd, st', R, r, e, Po⟩ := h
      rw [callF_succ, runF, hfd] at e
      dsimp only at e
      split at e
      · rename_i hl
        refine ⟨ρ, _, st, R, start_rf r h3 (by have := congrArg List.length S1.pre; rw [List.length_take] at this; omega), ?_⟩
        split at e
        · rename_i fr st2 he
          cases e
          rw [he]
          exact fun ρ' H' σ' E' R' F' => Po ρ' H' _ E' R' .non
        · rename_i d2 st2 he
          cases e
          rw [he]
          exact fun ρ' H' v E' R' r' => Po ρ' H' v E' R' r'
        · cases e
        · cases e
      · cases e
theorem floors (S : Say K w mg N T P drs ad) : ∀ n, (∀ (i : Nat) (d : Dr), drs[i]? = some d → FnB prog w K mg base N (callF P n) (n + 1) i d.dfl (ad i)) ∧ ∀ (i : Nat) (d : Dr), drs[i]? = some d → FnB prog w K mg base N (makeF P n) n i d.dfl (ad i)
  | 0 => ⟨fun i d hi => none_of S hi 1, fun i d hi => none_of S hi 0⟩
  | n + 1 => by
    obtain ⟨ih1, ih2⟩ := floors S n
    refine ⟨fun i d hi => ?_, fun i d hi => ih1 i d hi⟩
    obtain ⟨fd, F⟩ := S.fn i d hi
    exact ⟨⟨fd, d.ps, body_ok S ih1 ih2 hi F, binds_of S hi F⟩, F.kp⟩
end
end MP
namespace MP
open PySem PySem.Spec PyProof.Rows L2
/-- a law's table: defs, names, the interpreter's texts -/
structure LawTab where
  drs : List Dr
  T : Tab
  P : Prog
def conK (K : PySem.W.Frag) (x : Str) : D → Bool
  | .int i => (He.Fa.int x i).ok K
  | .str y => (He.Fa.str x (toS y)).ok K
  | .tup ds => (He.Fa.glo x).ok K && (He.tupB K x (ds.map dvOf) && ds.all flatD)
  | _ => false
def namesK (K : PySem.W.Frag) : List (List Str × List D) → List Dr → Bool
  | [], _ => true
  | q :: r, d :: ds => (q.1.all fun x => He.eqO (PySem.W.nsIn K mainGlobals x) (some (some (.ref (He.fAd K d.at_))))) && namesK K r ds
  | _ :: _, [] => false
def mthK (K : PySem.W.Frag) (L : LawTab) (x : Str) (ms : List (Nat × Nat × List D)) : Bool := ms.all fun p => match L.T.mths[p.1]? with
  | some m => (He.Fa.meth x m).ok K
  | none => true
def clsK (K : PySem.W.Frag) (L : LawTab) : List (Str × Nat × List D) → List (List (Nat × Nat × List D)) → Bool
  | [], _ => true
  | q :: r, ms => (He.Fa.glo q.1).ok K && ((He.Fa.cls q.1).ok K && ((He.Fa.mkr q.1).ok K && ((L.T.flds.all fun f => (He.Fa.noat q.1 f).ok K) && ((match ms with | m :: _ => mthK K L q.1 m | [] => true) && clsK K L r ms.tail))))
/-- a written dict's values -/
def prB : List DictEntry → List (List Char × D) → Bool
  | [], [] => true
  | e :: es, q :: r => (match q.2, e.val with | .int i, .int j _ => decide (i = j) | _, _ => false) && prB es r
  | _, _ => false
def kdV (K : PySem.W.Frag) (a : Addr) (kvs : List (List Char × D)) : Bool := match K.lookup a with
  | some ⟨_, _, .dict es _, _⟩ => prB es.toList kvs
  | _ => false
/-- what isinstance asks of a class -/
def insK (K : PySem.W.Frag) (C : Addr) : Bool := He.eqO (PySem.W.findIn K (.ref C) "__class__") (some (some (.builtin "object.__class__"))) && (He.eqO (PySem.W.specialIn K (.builtin "object.__class__") "__get__") (some (some (.builtin "getset_descriptor.__get__"))) && (decide (PySem.W.takesIn K (.builtin "object.__class__") = some true) && (decide (PySem.W.mroIn K C (.type "object") = some true) && decide (PySem.W.kitOne K (.ref C) (.ref C) = some true))))
theorem insK_ok {K : PySem.W.Frag} {C : Addr} (h : insK K C = true) (c : Cls K C) : C8.InsC K C := by
  unfold insK at h
  simp only [Bool.and_eq_true, decide_eq_true_eq] at h
  obtain ⟨h1, h2, h3, h4, h5⟩ := h
  exact ⟨c, He.eqO_ok h1, He.eqO_ok h2, h3, h4, h5⟩
def insAll (K : PySem.W.Frag) (L : LawTab) : Bool := L.T.ins.all fun c => match L.T.cls[c]? with
  | some q => insK K (He.ga K q.1)
  | none => true
/-- what the head must tell besides the defs' objects -/
def LawTab.chk (L : LawTab) (K : PySem.W.Frag) : Bool := (L.T.con.all fun q => conK K q.1 q.2) && ((L.T.kds.all fun q => (He.Fa.glo q.1).ok K && kdV K (He.ga K q.1) q.2) && ((L.T.free.all fun x => (He.Fa.free x).ok K) && (namesK K L.T.fns L.drs && (clsK K L L.T.cls L.P.mth && insAll K L))))
def okAll (T : Tab) : List Dr → List FD → Bool
  | [], [] => true
  | d :: ds, f :: fs => d.okB T f && okAll T ds fs
  | _, _ => false
def dflAll : List (List Str × List D) → List Dr → Bool
  | [], [] => true
  | q :: r, d :: ds => D.beqs d.dfl q.2 && dflAll r ds
  | _, _ => false
def atB (L : LawTab) (id : Nat) (x m : Str) (dfl : List D) : Bool := match L.drs[id]? with
  | some d => decide (d.at_ = (x, some m)) && D.beqs d.dfl dfl
  | none => false
def clsStat (L : LawTab) : List (Str × Nat × List D) → List (List (Nat × Nat × List D)) → Bool
  | [], [] => true
  | q :: r, [] => atB L q.2.1 q.1 "__init__" q.2.2 && clsStat L r []
  | q :: r, m :: ms => atB L q.2.1 q.1 "__init__" q.2.2 && (m.all fun p => match L.T.mths[p.1]? with
      | some n => atB L p.2.1 q.1 n p.2.2 && !decide (n ∈ L.T.flds)
      | none => true) && clsStat L r ms
  | [], _ :: _ => false
/-- what must be seen of the table alone -/
def LawTab.stat (L : LawTab) : Bool := okAll L.T L.drs L.P.fns && (dflAll L.T.fns L.drs && (decide L.T.flds.Nodup && clsStat L L.T.cls L.P.mth))
section
variable {K : PySem.W.Frag} {h : Heap} {mg : Str → Option Value} {L : LawTab}
theorem okAll_at {T : Tab} : ∀ {ds : List Dr} {fs : List FD}, okAll T ds fs = true → fs.length = ds.length ∧ ∀ (i : Nat) (d : Dr), ds[i]? = some d → ∃ fd, fs[i]? = some fd ∧ d.okB T fd = true
  | [], [], _ => ⟨rfl, fun i d h => by simp at h⟩
  | [], _ :: _, h => by cases h
  | _ :: _, [], h => by cases h
  | d :: ds, f :: fs, h => by
    rw [okAll, Bool.and_eq_true] at h
    obtain ⟨h1, h2⟩ := okAll_at h.2
    refine ⟨by rw [List.length_cons, List.length_cons, h1], fun i d' hi => ?_⟩
    cases i with
    | zero => cases hi; exact ⟨f, rfl, h.1⟩
    | succ i => exact h2 i d' hi
theorem dflAll_at : ∀ {qs : List (List Str × List D)} {ds : List Dr}, dflAll qs ds = true → ∀ (i : Nat) q, qs[i]? = some q → ∃ d, ds[i]? = some d ∧ d.dfl = q.2
  | [], [], _, i, q, h => by simp at h
  | [], _ :: _, h, _, _, _ => by cases h
  | _ :: _, [], h, _, _, _ => by cases h
  | p :: qs, d :: ds, h, i, q, hi => by
    rw [dflAll, Bool.and_eq_true] at h
    cases i with
    | zero => cases hi; exact ⟨d, rfl, D.beqs_eq h.1⟩
    | succ i => exact dflAll_at h.2 i q hi
theorem namesK_at (X : K.In h) (G : h.Ns mainGlobals mg) : ∀ {qs : List (List Str × List D)} {ds : List Dr}, namesK K qs ds = true → ∀ (i : Nat) q d, qs[i]? = some q → ds[i]? = some d → ∀ x ∈ q.1, mg x = some (.ref (He.fAd K d.at_))
  | [], _, _, i, q, d, h, _, _, _ => by simp at h
  | _ :: _, [], h, _, _, _, _, _, _, _ => by cases h
  | p :: qs, d0 :: ds, h, i, q, d, hi, hd, x, hx => by
    rw [namesK, Bool.and_eq_true] at h
    cases i with
    | zero =>
      cases hi
      cases hd
      exact PySem.W.mg_of X G (He.eqO_ok (List.all_eq_true.mp h.1 x hx))
    | succ i => exact namesK_at X G h.2 i q d hi hd x hx
structure ClsFacts (K : PySem.W.Frag) (mg : Str → Option Value) (L : LawTab) (x : Str) (ms : List (Nat × Nat × List D)) : Prop where
  glo : mg x = some (.ref (He.ga K x))
  cls : Cls K (He.ga K x)
  mkr : Mk K (He.ga K x) (He.ma K (He.ga K x) "__init__")
  no : ∀ f ∈ L.T.flds, NoAttr K (He.ga K x) f
  me : ∀ p ∈ ms, ∀ m, L.T.mths[p.1]? = some m → Meth K (He.ga K x) m (He.ma K (He.ga K x) m)
theorem clsK_at (X : K.In h) (G : h.Ns mainGlobals mg) : ∀ {qs : List (Str × Nat × List D)} {mss : List (List (Nat × Nat × List D))}, clsK K L qs mss = true → ∀ (c : Nat) q, qs[c]? = some q → ClsFacts K mg L q.1 ((mss[c]?).getD [])
  | [], _, _, c, q, h => by simp at h
  | q0 :: qs, mss, hk, c, q, hc => by
    unfold clsK at hk
    simp only [Bool.and_eq_true] at hk
    obtain ⟨h1, h2, h3, h4, h5, h6⟩ := hk
    cases c with
    | zero =>
      cases hc
      refine ⟨He.glo_ok X G h1, He.cls_ok h2, He.mkr_ok h3, fun f hf => He.noat_ok (List.all_eq_true.mp h4 f hf), fun p hp m hm => ?_⟩
      cases mss with
      | nil => cases hp
      | cons ms mss =>
        have := List.all_eq_true.mp h5 p hp
        rw [hm] at this
        exact He.meth_ok this
    | succ c =>
      have := clsK_at X G h6 c q hc
      cases mss with
      | nil => exact this
      | cons => exact this
theorem atB_ok {id : Nat} {x m : Str} {dfl : List D} (h : atB L id x m dfl = true) : ∃ d, L.drs[id]? = some d ∧ d.at_ = (x, some m) ∧ d.dfl = dfl := by
  unfold atB at h
  split at h
  · rename_i d hd
    rw [Bool.and_eq_true, decide_eq_true_eq] at h
    exact ⟨d, hd, h.1, D.beqs_eq h.2⟩
  · cases h
theorem clsStat_at : ∀ {qs : List (Str × Nat × List D)} {mss : List (List (Nat × Nat × List D))}, clsStat L qs mss = true → mss.length ≤ qs.length ∧ ∀ (c : Nat) q, qs[c]? = some q → atB L q.2.1 q.1 "__init__" q.2.2 = true ∧ ∀ p ∈ (mss[c]?).getD [], ∀ n, L.T.mths[p.1]? = some n → atB L p.2.1 q.1 n p.2.2 = true ∧ n ∉ L.T.flds
  | [], [], _ => ⟨Nat.le_refl _, fun c q h => by simp at h⟩
  | [], _ :: _, h => by cases h
  | q0 :: qs, [], h => by
    rw [clsStat, Bool.and_eq_true] at h
    obtain ⟨h1, h2⟩ := clsStat_at h.2
    refine ⟨Nat.zero_le _, fun c q hc => ?_⟩
    cases c with
    | zero => cases hc; exact ⟨h.1, fun p hp => by cases hp⟩
    | succ c => exact ⟨(h2 c q hc).1, fun p hp => by simp at hp⟩
  | q0 :: qs, m :: mss, h => by
    rw [clsStat, Bool.and_eq_true, Bool.and_eq_true] at h
    obtain ⟨⟨ha, hb⟩, hc⟩ := h
    obtain ⟨h1, h2⟩ := clsStat_at hc
    refine ⟨Nat.succ_le_succ h1, fun c q hq => ?_⟩
    cases c with
    | zero =>
      cases hq
      refine ⟨ha, fun p hp n hn => ?_⟩
      have := List.all_eq_true.mp hb p hp
      rw [hn] at this
      simp only [Bool.and_eq_true, Bool.not_eq_true', decide_eq_false_iff_not] at this
      exact this
    | succ c => exact h2 c q hq
theorem con_of (X : K.In h) (G : h.Ns mainGlobals mg) {x : Str} {d : D} (c : conK K x d = true) : ∃ v u, mg x = some u ∧ RelV v u ∧ ∀ ρ H, Rep K ρ H d v := by
  cases d with
  | int i =>
    obtain ⟨t, e⟩ := He.int_ok X G c
    exact ⟨.int i, _, e, ⟨_, rfl⟩, fun _ _ => .int i⟩
  | str y =>
    obtain ⟨t, e⟩ := He.str_ok X G c
    exact ⟨.str (toS y), _, e, ⟨_, rfl⟩, fun _ _ => .str y⟩
  | tup ds =>
    rw [conK, Bool.and_eq_true, Bool.and_eq_true] at c
    exact ⟨.ref (He.ga K x), _, He.glo_ok X G c.1, rfl, fun ρ H => .tup (He.tupB_ok c.2.1 H) (dv_reps c.2.2)⟩
  | _ => cases c
theorem pr_find {P : Params} : ∀ {l : List DictEntry} {kvs : List (List Char × D)}, l.map He.keyOf = He.keysIn P (kvs.map fun kv => toS kv.1) → prB l kvs = true → ∀ z : List Char,
    (l.any (·.refKey) = false) ∧ ((l.find? (·.key.isStr (toS z)) = none ∧ getKk kvs z = none) ∨ ∃ e i t, l.find? (·.key.isStr (toS z)) = some e ∧ e.val = .int i t ∧ getKk kvs z = some (.int i))
  | [], [], _, _, z => ⟨rfl, .inl ⟨rfl, rfl⟩⟩
  | [], _ :: _, _, h, _ => by cases h
  | _ :: _, [], _, h, _ => by cases h
  | e :: l, (x, d) :: kvs, h1, h2, z => by
    have h1' : He.keyOf e :: l.map He.keyOf = some (toS x, PyData.keyHash P (toS x)) :: He.keysIn P (kvs.map fun kv => toS kv.1) := h1
    injection h1' with h3 h4
    rw [prB, Bool.and_eq_true] at h2
    obtain ⟨g1, g2⟩ := pr_find h4 h2.2 z
    unfold He.keyOf at h3
    split at h3
    · rename_i y t q
      have h5 := Option.some.inj h3
      obtain ⟨h6, h7⟩ := Prod.mk.inj h5
      subst h6
      have hr : e.refKey = false := by unfold DictEntry.refKey; rw [q]
      refine ⟨by rw [List.any_cons, hr, g1]; rfl, ?_⟩
      have hk : e.key.isStr (toS z) = decide (x = z) := by
        rw [q]
        show (toS x == toS z) = decide (x = z)
        by_cases hx : x = z
        · subst hx; simp
        · rw [decide_eq_false hx]
          exact beq_eq_false_iff_ne.mpr fun w => hx (toS_inj w)
      have hg : getKk ((x, d) :: kvs) z = if x = z then some d else getKk kvs z := by
        unfold getKk
        rw [List.find?_cons]
        by_cases hx : x = z
        · rw [decide_eq_true hx, if_pos hx]; rfl
        · rw [decide_eq_false hx, if_neg hx]
      rw [List.find?_cons, hk, hg]
      by_cases hx : x = z
      · rw [decide_eq_true hx, if_pos hx]
        have h8 := h2.1
        split at h8
        · rename_i i j t2 d1 d2
          dsimp only at d1
          rw [decide_eq_true_eq] at h8
          subst h8
          exact .inr ⟨e, i, t2, rfl, d2, by rw [d1]⟩
        · cases h8
      · rw [decide_eq_false hx, if_neg hx]
        exact g2
    · cases h3
theorem kdm_of {w : World} {x : Str} {kvs : List (List Char × D)} (X : K.In h) (G : h.Ns mainGlobals mg) (c1 : (He.Fa.glo x).ok K = true) (c2 : kdV K (He.ga K x) kvs = true) (c3 : He.dicW K (He.ga K x) = some (He.keysIn w.params (kvs.map fun kv => toS kv.1))) : KdM K w mg x kvs := by
  obtain ⟨es, n, D⟩ := He.dicW_ok c3
  have hk : es.toList.map He.keyOf = He.keysIn w.params (kvs.map fun kv => toS kv.1) := by
    unfold He.dicW at c3
    rw [D.at_] at c3
    dsimp only at c3
    rw [D.low] at c3
    exact Option.some.inj c3
  have hp : prB es.toList kvs = true := by
    unfold kdV at c2
    rw [D.at_] at c2
    exact c2
  refine ⟨He.ga K x, es, n, He.glo_ok X G c1, D, fun z => ?_⟩
  obtain ⟨g1, g2⟩ := pr_find hk hp z
  unfold PySem.W.nsIn
  rw [D.at_]
  dsimp only
  rcases g2 with ⟨e1, e2⟩ | ⟨e, i, t, e1, e2, e3⟩
  · rw [e1, g1]
    exact ⟨none, rfl, fun _ => rfl, fun d hd => by rw [e2] at hd; cases hd⟩
  · rw [e1]
    refine ⟨some e.val, ?_, ?_, fun d hd => ?_⟩
    · rfl
    · intro hn
      rw [e3] at hn
      cases hn
    rw [e3] at hd
    cases hd
    exact ⟨.int i, e.val, rfl, by rw [e2]; exact ⟨t, rfl⟩, fun _ _ => .int i⟩
def LawTab.fn (L : LawTab) : List He.DefD := L.drs.map Dr.defD
def obsM (L : LawTab) (K : PySem.W.Frag) : He.AlT := (((L.chk K && L.fn.all fun d => d.ok K), L.fn.map fun d => He.fnW K d.at_), L.T.kds.map fun q => He.dicW K (He.ga K q.1))
def valM (L : LawTab) (w : World) : He.AlT := (He.valD L.fn, L.T.kds.map fun q => some (He.keysIn w.params (q.2.map fun kv => toS kv.1)))
def obsMG (n : Nat) (L : LawTab) (g : Addr → Option Obj) : He.AlT := obsM L (He.frG g (He.asD g n))
def hookM (n : Nat) (L : LawTab) : PySem.W.Hook where
  α := He.AlT
  obs := fun s => obsMG n L s.heap.get?
  val := fun w => valM L w
  says := fun w h => ∃ K : PySem.W.Frag, K.In h ∧ obsM L K = valM L w
  of := fun _ _ e => ⟨_, He.frG_in, e⟩
  keeps := fun _ _ _ ⟨K, hK, c⟩ k => ⟨K, PySem.W.Frag.In.keeps hK k, c⟩
theorem lookup_mem {α : Type} {x : Str} {d : α} : ∀ {l : List (Str × α)}, l.lookup x = some d → (x, d) ∈ l
  | [], h => by simp at h
  | (y, e) :: l, h => by
    rw [List.lookup_cons] at h
    split at h
    · rename_i q
      cases h
      have : x = y := by simpa using q
      rw [this]; exact List.mem_cons_self
    · exact List.mem_cons_of_mem _ (lookup_mem h)
def nmOf (L : LawTab) (K : PySem.W.Frag) : Nm := ⟨L.T.flds, fun c => (L.T.cls[c]?).map fun q => He.ga K q.1⟩
def adOf (L : LawTab) (K : PySem.W.Frag) (i : Nat) : Addr := match L.drs[i]? with | some d => He.fAd K d.at_ | none => 0
theorem say_of (X : K.In h) (G : h.Ns mainGlobals mg) (hs : L.stat = true) (hb : ∀ (i : Nat) (d : Dr), L.drs[i]? = some d → BindOk d) {w : World} (c : obsM L K = valM L w) : Say K w mg (nmOf L K) L.T L.P L.drs (adOf L K) := by
  unfold LawTab.stat at hs
  simp only [Bool.and_eq_true, decide_eq_true_eq] at hs
  obtain ⟨s1, s2, s3, s4⟩ := hs
  have c1 : (L.chk K && L.fn.all fun d => d.ok K) = true := congrArg (fun z : He.AlT => z.1.1) c
  have c2 : L.fn.map (fun d => He.fnW K d.at_) = L.fn.map He.DefD.val := congrArg (fun z : He.AlT => z.1.2) c
  have c9 : L.T.kds.map (fun q => He.dicW K (He.ga K q.1)) = L.T.kds.map fun q => some (He.keysIn w.params (q.2.map fun kv => toS kv.1)) := congrArg (fun z : He.AlT => z.2) c
  rw [Bool.and_eq_true] at c1
  obtain ⟨c1, c3⟩ := c1
  unfold LawTab.chk at c1
  simp only [Bool.and_eq_true, List.all_eq_true] at c1
  obtain ⟨k1, k0, k2, k3, k4, k5⟩ := c1
  obtain ⟨o1, o2⟩ := okAll_at s1
  obtain ⟨t1, t2⟩ := clsStat_at s4
  have hcl : ∀ (c : Nat) (C : Addr), (nmOf L K).cls c = some C → ∃ q, L.T.cls[c]? = some q ∧ C = He.ga K q.1 := by
    intro c C hC
    obtain ⟨q, hq, e⟩ := Option.map_eq_some_iff.mp (show (L.T.cls[c]?).map (fun q => He.ga K q.1) = some C from hC)
    exact ⟨q, hq, e.symm⟩
  have had : ∀ (i : Nat) (d : Dr), L.drs[i]? = some d → adOf L K i = He.fAd K d.at_ := by
    intro i d hd
    unfold adOf
    rw [hd]
  refine ⟨fun i d hi => ?_, o2, o1, hb, fun f q hq => ?_, fun c x id dfl hc => ?_, fun x d hx => con_of X G (k1 _ (lookup_mem hx)), fun x kvs hx => kdm_of X G (k0 _ (lookup_mem hx)).1 (k0 _ (lookup_mem hx)).2 (List.map_inj_left.mp c9 _ (lookup_mem hx)), fun x hx => He.free_ok X G (k2 x hx), fun c C hC => ?_, fun c C hC f x hx => ?_, s3, fun c m fd hf => ?_, fun c C hC m x id dfl hm hf => ?_, rfl, fun c hc q hq => ?_⟩
  · have hi2 : L.fn[i]? = some d.defD := by unfold LawTab.fn; rw [List.getElem?_map, hi]; rfl
    have e2 : (L.fn.map fun d => He.fnW K d.at_)[i]? = (L.fn.map He.DefD.val)[i]? := by rw [c2]
    rw [List.getElem?_map, List.getElem?_map, hi2] at e2
    rw [had i d hi]
    exact He.DefD.funD (Option.some.inj e2) (List.all_eq_true.mp c3 _ (List.mem_of_getElem? hi2))
  · obtain ⟨d, e1, e2⟩ := dflAll_at s2 f q hq
    exact ⟨d, e1, e2, by rw [had f d e1]; exact namesK_at X G k3 f q d hq e1⟩
  · have F := clsK_at X G k4 c _ hc
    obtain ⟨d, e1, e2, e3⟩ := atB_ok (t2 c _ hc).1
    refine ⟨He.ga K x, d, by show (L.T.cls[c]?).map _ = _; rw [hc]; rfl, F.glo, e1, e3, ?_⟩
    rw [had id d e1, e2]
    exact F.mkr
  · obtain ⟨q, hq, rfl⟩ := hcl c C hC
    exact (clsK_at X G k4 c _ hq).cls
  · obtain ⟨q, hq, rfl⟩ := hcl c C hC
    exact (clsK_at X G k4 c _ hq).no x (List.mem_of_getElem? hx)
  · unfold findM at hf
    split at hf
    · rename_i ms hms
      have : c < L.T.cls.length := Nat.lt_of_lt_of_le (List.getElem?_eq_some_iff.mp hms).1 t1
      exact ⟨_, by show (L.T.cls[c]?).map _ = _; rw [List.getElem?_eq_getElem this]; rfl⟩
    · cases hf
  · obtain ⟨q, hq, rfl⟩ := hcl c C hC
    unfold findM at hf
    split at hf
    · rename_i ms hms
      obtain ⟨p, hp, e⟩ := Option.map_eq_some_iff.mp hf
      have hpm := List.mem_of_find?_eq_some hp
      have hpe : p.1 = m := by have := List.find?_some hp; simpa using this
      subst hpe
      obtain ⟨pa, pb, pc⟩ := p
      cases e
      have hin : (pa, id, dfl) ∈ (L.P.mth[c]?).getD [] := by rw [hms]; exact hpm
      obtain ⟨a1, a2⟩ := (t2 c _ hq).2 _ hin x hm
      obtain ⟨d, e1, e2, e3⟩ := atB_ok a1
      refine ⟨a2, d, e1, e3, ?_⟩
      rw [had id d e1, e2]
      exact (clsK_at X G k4 c _ hq).me _ hin x hm
    · cases hf
  · have F := clsK_at X G k4 c _ hq
    refine ⟨He.ga K q.1, by show (L.T.cls[c]?).map _ = _; rw [hq]; rfl, F.glo, insK_ok ?_ F.cls⟩
    unfold insAll at k5
    have := List.all_eq_true.mp k5 c hc
    rw [hq] at this
    exact this
end
/-- the law's end: what is left is plain Lean about the interpreter -/
theorem law_end {l : PySem.W.OpenLaw} {q : Program} {loose : List Str} {d : DefRec} {n0 n lv id : Nat} {L : LawTab} {x : Str} {nms : List Str} {dl : Dr} (hn : l.most = some n) (hn2 : n ≤ sizeLine) (hdf : d.params.defaults = []) (hr : Room (lv + 2) callerA) (hdn : d.name = "law")
    (hs : L.stat = true) (hb : ∀ (i : Nat) (d : Dr), L.drs[i]? = some d → BindOk d) (hid : L.drs[id]? = some dl) (hq : L.T.fns[id]? = some (nms, [])) (hm : ("law" : Str) ∈ nms) (hps : dl.ps = [x])
    (pure : ∀ ns : List Int, ns.length ≤ n → ∃ st', callF L.P (lv + 1) id [.kls (ns.map .int)] [] = .ok (.bl true, st')) :
    PySem.W.WalkO q loose (PySem.W.XL q []) (hookM n0 L).says l.row.toRowW d [] (fun f vs => PySem.call f vs) := by
  refine L2.walk_ofE (l := l) (n := n) (k := lv + 2) (x := x) (CX := L2.CX0) hn hn2 hdf hr ?_ (fun _ _ _ _ z => z)
  intro w mg fa h Y G hmg0
  obtain ⟨K, KX, c⟩ := Y
  have hmg : mg ("law" : PySem.Str) = some (.ref fa) := by rw [← hdn]; exact hmg0
  have S := say_of KX G hs hb c
  obtain ⟨d2, e1, e2, e3⟩ := S.fns id _ hq
  have e4 := (e3 _ hm).symm.trans hmg
  have hfa : adOf L K id = fa := by injection e4 with e4; injection e4
  obtain ⟨fd, F⟩ := S.fn id dl hid
  obtain rfl : dl = d2 := Option.some.inj (hid.symm.trans e1)
  have hdl : dl.dfl = [] := e2
  refine ⟨K, fd, spF (nmOf L K) K (callF L.P (lv + 1)) id, KX, ?_, ?_, fun base hK hG => ?_⟩
  · have hbd := hb id dl hid
    unfold BindOk at hbd
    rw [hdl] at hbd F
    intro s u
    have := FunD.bindsA F (ps := dl.ps) hbd s [u] (by rw [hps]; rfl)
    rw [hps] at this
    exact this
  · intro H a ns hl hO hS
    obtain ⟨st', e⟩ := pure ns hl
    refine ⟨[], [], _, _, st', ⟨rfl, List.nodup_nil, fun n a o h => by simp at h⟩, .cons (.kls (vs := ns.map V.int) ?_ ?_) .nil, e, fun ρ' H' v _ _ r => by cases r; rfl⟩
    · rcases hS with (h | ⟨o, h⟩) | h
      · rcases hO a with h2 | ⟨o, xs, h2⟩ <;> rw [h] at h2 <;> cases h2
      · exact .inl ⟨o, h⟩
      · exact .inr (.inr h)
    · have : ∀ l : List Int, Reps K [] H (l.map D.int) (l.map V.int) := fun l => by
        induction l with
        | nil => exact .nil
        | cons x l ih => exact .cons (.int x) ih
      exact this ns
  · have f := floors (prog := l.prog) (w := w) (base := base) S lv
    have := body_ok (prog := l.prog) (w := w) (base := base) S f.1 f.2 hid F
    rw [hps, hfa] at this
    exact this
end MP
namespace MP
/-- every def of a list binds its arguments -/
def AllB : List Dr → Prop
  | [] => True
  | d :: ds => BindOk d ∧ AllB ds
theorem AllB.at : ∀ {ds : List Dr}, AllB ds → ∀ (i : Nat) (d : Dr), ds[i]? = some d → BindOk d
  | [], _, i, d, h => by simp at h
  | d0 :: ds, h, 0, d, hi => by cases hi; exact h.1
  | d0 :: ds, h, i + 1, d, hi => AllB.at h.2 i d (by simpa using hi)
end MP
set_option maxHeartbeats 0
namespace MP
def fdIsNumber : FD := ⟨1, 1,
    (.cons (.ret (.and (.isi (.v 0) .int) (.and (.not (.isi (.v 0) .bool)) (.chain .lt .lt (.neg (.c (.int 1000000000000000000000000000000000000000000000000000000000000))) (.v 0) (.c (.int 1000000000000000000000000000000000000000000000000000000000000))))))
    .nil)⟩
def fdIsSign : FD := ⟨1, 1,
    (.cons (.ret (.and (.chain .le .le (.c (.str [' '])) (.v 0) (.c (.str ['~']))) (.and (.op .ne (.v 0) (.c (.str ['"']))) (.op .ne (.bi .ord (.cons (.v 0) .nil)) (.c (.int 37))))))
    .nil)⟩
def fdIsText (s : Nat) : FD := ⟨1, 2,
    (.cons (.ife (.or (.not (.isi (.v 0) .str)) (.op .gt (.bi .len (.cons (.v 0) .nil)) (.c (.int 400))))
    (.cons (.ret (.c (.bl false)))
    .nil)
    .nil)
    (.cons (.forr (.v 1) (.any (.v 0))
    (.cons (.ife (.not (.call s (.cons (.v 1) .nil) []))
    (.cons (.ret (.c (.bl false)))
    .nil)
    .nil)
    .nil))
    (.cons (.ret (.c (.bl true)))
    .nil)))⟩
def fdMeasured (num txt self : Nat) : FD := ⟨1, 5,
    (.cons (.ife (.call num (.cons (.v 0) .nil) [])
    (.cons (.ret (.tup (.cons (.c (.int 1)) (.cons (.c (.int 0)) .nil))))
    .nil)
    .nil)
    (.cons (.ife (.call txt (.cons (.v 0) .nil) [])
    (.cons (.ret (.tup (.cons (.op .add (.c (.int 1)) (.bi .len (.cons (.v 0) .nil))) (.cons (.c (.int 0)) .nil))))
    .nil)
    .nil)
    (.cons (.ife (.or (.not (.isi (.v 0) .tuple)) (.op .gt (.bi .len (.cons (.v 0) .nil)) (.c (.int 60))))
    (.cons (.ret (.c .non))
    .nil)
    .nil)
    (.cons (.set (.v 1) (.c (.int 1)))
    (.cons (.set (.v 2) (.c (.int 0)))
    (.cons (.forr (.v 3) (.any (.v 0))
    (.cons (.set (.v 4) (.call self (.cons (.v 3) .nil) []))
    (.cons (.ife (.isN (.v 4))
    (.cons (.ret (.c .non))
    .nil)
    .nil)
    (.cons (.set (.v 1) (.op .add (.v 1) (.ix (.v 4) (.c (.int 0)))))
    (.cons (.set (.v 2) (.bi .max2 (.cons (.v 2) (.cons (.ix (.v 4) (.c (.int 1))) .nil))))
    .nil)))))
    (.cons (.ret (.tup (.cons (.v 1) (.cons (.op .add (.v 2) (.c (.int 1))) .nil))))
    .nil)))))))⟩
def fdCell : FD := ⟨2, 2,
    (.cons (.ife (.op .lt (.v 1) (.bi .len (.cons (.v 0) .nil)))
    (.cons (.ret (.ix (.v 0) (.v 1)))
    .nil)
    .nil)
    (.cons (.ret (.op .add (.op .mul (.c (.int 7919)) (.v 1)) (.c (.int 11))))
    .nil))⟩
def fdBox (c : Nat) : FD := ⟨2, 5,
    (.cons (.set (.v 2) (.call c (.cons (.v 0) (.cons (.v 1) .nil)) []))
    (.cons (.set (.v 3) (.op .mod (.op .mul (.op .add (.op .mod (.v 2) (.c (.int 2147483629))) (.c (.int 11))) (.c (.int 69621))) (.c (.int 2147483629))))
    (.cons (.set (.v 4) (.op .mod (.op .add (.op .mul (.v 3) (.op .add (.op .mod (.v 3) (.c (.int 104729))) (.c (.int 1)))) (.op .mul (.c (.int 7919)) (.v 1))) (.c (.int 2147483587))))
    (.cons (.ife (.op .eq (.op .mod (.call c (.cons (.v 0) (.cons (.c (.int 0)) .nil)) []) (.c (.int 2))) (.c (.int 0)))
    (.cons (.ret (.lst (.cons (.v 2) (.cons (.c (.int 0)) (.cons (.v 4) .nil)))))
    .nil)
    .nil)
    (.cons (.ret (.lst (.cons (.v 4) (.cons (.c (.int 1)) (.cons (.c (.int 0)) .nil)))))
    .nil)))))⟩
def fdTake : FD := ⟨2, 3,
    (.cons (.ife (.and (.op .eq (.ix (.v 0) (.c (.int 1))) (.c (.int 0))) (.op .mem (.ix (.v 0) (.c (.int 0))) (.tup (.cons (.c (.int 0)) (.cons (.neg (.c (.int 1))) .nil)))))
    (.cons (.setix (.v 0) (.c (.int 0)) (.ix (.v 0) (.c (.int 2))))
    (.cons (.setix (.v 0) (.c (.int 1)) (.c (.int 1)))
    .nil))
    .nil)
    (.cons (.ife (.op .eq (.ix (.v 0) (.c (.int 1))) (.c (.int 0)))
    (.cons (.set (.v 2) (.op .mod (.ix (.v 0) (.c (.int 0))) (.v 1)))
    (.cons (.setix (.v 0) (.c (.int 0)) (.op .fdiv (.ix (.v 0) (.c (.int 0))) (.v 1)))
    (.cons (.ret (.v 2))
    .nil)))
    .nil)
    (.cons (.setix (.v 0) (.c (.int 0)) (.op .mod (.op .add (.op .mul (.ix (.v 0) (.c (.int 0))) (.c (.int 69621))) (.c (.int 104729))) (.c (.int 2147483587))))
    (.cons (.set (.v 2) (.op .mod (.op .mul (.ix (.v 0) (.c (.int 0))) (.op .add (.op .mod (.ix (.v 0) (.c (.int 0))) (.c (.int 16807))) (.c (.int 1)))) (.c (.int 2147483579))))
    (.cons (.ife (.op .gt (.v 1) (.op .pow (.c (.int 10)) (.c (.int 9))))
    (.cons (.set (.v 2) (.op .add (.op .pow (.v 2) (.c (.int 7))) (.v 2)))
    .nil)
    .nil)
    (.cons (.ret (.op .mod (.v 2) (.v 1)))
    .nil))))))⟩
def fdNumber (t : Nat) : FD := ⟨1, 2,
    (.cons (.set (.v 1) (.call t (.cons (.v 0) (.cons (.c (.int 4)) .nil)) []))
    (.cons (.ife (.op .eq (.v 1) (.c (.int 0)))
    (.cons (.ret (.op .add (.op .sub (.call t (.cons (.v 0) (.cons (.op .sub (.op .mul (.c (.int 2)) (.op .pow (.c (.int 10)) (.c (.int 60)))) (.c (.int 1))) .nil)) []) (.op .pow (.c (.int 10)) (.c (.int 60)))) (.c (.int 1))))
    .nil)
    .nil)
    (.cons (.ife (.op .eq (.v 1) (.c (.int 1)))
    (.cons (.ret (.ix (.lst (.cons (.op .sub (.op .pow (.c (.int 10)) (.c (.int 60))) (.c (.int 1))) (.cons (.op .sub (.c (.int 1)) (.op .pow (.c (.int 10)) (.c (.int 60)))) (.cons (.c (.int 0)) (.cons (.neg (.c (.int 1))) .nil))))) (.call t (.cons (.v 0) (.cons (.c (.int 4)) .nil)) [])))
    .nil)
    .nil)
    (.cons (.ret (.op .sub (.call t (.cons (.v 0) (.cons (.c (.int 12)) .nil)) []) (.c (.int 3))))
    .nil))))⟩
def fdWorth (take num txt self : Nat) : FD := ⟨3, 9,
    (.cons (.set (.v 3) (.call take (.cons (.v 0) (.cons (.c (.int 3)) .nil)) []))
    (.cons (.ife (.or (.op .eq (.v 3) (.c (.int 0))) (.and (.op .eq (.v 3) (.c (.int 2))) (.op .lt (.v 2) (.c (.int 1)))))
    (.cons (.ret (.call num (.cons (.v 0) .nil) []))
    .nil)
    .nil)
    (.cons (.ife (.op .eq (.v 3) (.c (.int 1)))
    (.cons (.ret (.call txt (.cons (.v 0) (.cons (.c (.int 15)) .nil)) []))
    .nil)
    .nil)
    (.cons (.set (.v 4) (.call take (.cons (.v 0) (.cons (.bi .min2 (.cons (.v 1) (.cons (.c (.int 61)) .nil))) .nil)) []))
    (.cons (.set (.v 5) (.op .sub (.v 1) (.c (.int 1))))
    (.cons (.set (.v 6) (.lst .nil))
    (.cons (.forr (.v 7) (.range1 (.v 4))
    (.cons (.set (.v 8) (.op .add (.c (.int 1)) (.call take (.cons (.v 0) (.cons (.op .sub (.v 5) (.op .sub (.op .sub (.v 4) (.c (.int 1))) (.v 7))) .nil)) [])))
    (.cons (.ex (.bm .append (.v 6) (.cons (.call self (.cons (.v 0) (.cons (.v 8) (.cons (.op .sub (.v 2) (.c (.int 1))) .nil))) []) .nil)))
    (.cons (.set (.v 5) (.op .sub (.v 5) (.v 8)))
    .nil))))
    (.cons (.ret (.bi .tuple (.cons (.v 6) .nil)))
    .nil))))))))⟩
end MP
namespace K02
open MP PySem PySem.Spec PyProof.Rows L2
def top (i : Nat) : Stmt := PySem.Challenge.pw_leastforge_k02_size_and_depth.main.body.getD i (.Pass ⟨0, 0, 0, 0⟩)
def fd0 : FD := MP.fdIsNumber
def fd1 : FD := MP.fdIsSign
def fd2 : FD := MP.fdIsText 1
def fd3 : FD := MP.fdMeasured 0 2 3
/-- size -/
def fd4 : FD := ⟨1, 1,
    (.cons (.ret (.ix (.call 3 (.cons (.v 0) .nil) []) (.c (.int 0))))
    .nil)⟩
/-- depth -/
def fd5 : FD := ⟨1, 1,
    (.cons (.ret (.ix (.call 3 (.cons (.v 0) .nil) []) (.c (.int 1))))
    .nil)⟩
def fd6 : FD := MP.fdCell
def fd7 : FD := MP.fdBox 6
def fd8 : FD := MP.fdTake
/-- _law_text -/
def fd9 : FD := ⟨2, 5,
    (.cons (.set (.v 2) (.c (.str [' ', '!', '#', '$', '&', '\'', '(', ')', '*', '+', ',', '-', '.', '/', '0', '1', '2', '3', '4', '5', '6', '7', '8', '9', ':', ';', '<', '=', '>', '?', '@', 'A', 'B', 'C', 'D', 'E', 'F', 'G', 'H', 'I', 'J', 'K', 'L', 'M', 'N', 'O', 'P', 'Q', 'R', 'S', 'T', 'U', 'V', 'W', 'X', 'Y', 'Z'])))
    (.cons (.set (.v 2) (.op .add (.v 2) (.c (.str ['[', '\\', ']', '^', '_', '`', 'a', 'b', 'c', 'd', 'e', 'f', 'g', 'h', 'i', 'j', 'k', 'l', 'm', 'n', 'o', 'p', 'q', 'r', 's', 't', 'u', 'v', 'w', 'x', 'y', 'z', '{', '|', '}', '~']))))
    (.cons (.set (.v 3) (.c (.str [])))
    (.cons (.forr (.v 4) (.range1 (.call 8 (.cons (.v 0) (.cons (.op .add (.v 1) (.c (.int 1))) .nil)) []))
    (.cons (.set (.v 3) (.op .add (.v 3) (.ix (.v 2) (.call 8 (.cons (.v 0) (.cons (.bi .len (.cons (.v 2) .nil)) .nil)) []))))
    .nil))
    (.cons (.ret (.v 3))
    .nil)))))⟩
def fd10 : FD := MP.fdNumber 8
def fd11 : FD := MP.fdWorth 8 10 9 11
/-- _law_size -/
def fd12 : FD := ⟨1, 2,
    (.cons (.ife (.isi (.v 0) .tuple)
    (.cons (.ret (.op .add (.c (.int 1)) (.bi .sum (.cons (.lc (.v 1) (.any (.v 0)) .nil (.call 12 (.cons (.v 1) .nil) []) [1]) .nil))))
    .nil)
    .nil)
    (.cons (.ret (.op .add (.c (.int 1)) (.op .mul (.bi .int (.cons (.isi (.v 0) .str) .nil)) (.bi .len (.cons (.bi .str (.cons (.v 0) .nil)) .nil)))))
    .nil))⟩
/-- _law_depth -/
def fd13 : FD := ⟨1, 2,
    (.cons (.ife (.isi (.v 0) .tuple)
    (.cons (.ret (.op .add (.c (.int 1)) (.maxd (.lc (.v 1) (.any (.v 0)) .nil (.call 13 (.cons (.v 1) .nil) []) [1]) 0)))
    .nil)
    .nil)
    (.cons (.ret (.c (.int 0)))
    .nil))⟩
/-- _law_told -/
def fd14 : FD := ⟨1, 3,
    (.cons (.set (.v 1) (.lst (.cons (.call 4 (.cons (.v 0) .nil) []) (.cons (.call 5 (.cons (.v 0) .nil) []) .nil))))
    (.cons (.forr (.v 2) (.any (.v 1))
    (.cons (.ife (.or (.not (.isi (.v 2) .int)) (.isi (.v 2) .bool))
    (.cons (.ret (.c (.bl false)))
    .nil)
    .nil)
    .nil))
    (.cons (.ret (.op .eq (.v 1) (.lst (.cons (.call 12 (.cons (.v 0) .nil) []) (.cons (.call 13 (.cons (.v 0) .nil) []) .nil)))))
    .nil)))⟩
/-- law -/
def fd15 : FD := ⟨1, 6,
    (.cons (.set (.v 1) (.lst .nil))
    (.cons (.forr (.v 2) (.range2 (.c (.int 1)) (.op .add (.c (.int 1)) (.bi .len (.cons (.sl (.v 0) (.so (.c (.int 1))) (.so (.c (.int 21)))) .nil))))
    (.cons (.set (.v 3) (.call 7 (.cons (.v 0) (.cons (.v 2) .nil)) []))
    (.cons (.ex (.bm .append (.v 1) (.cons (.call 11 (.cons (.v 3) (.cons (.op .add (.c (.int 1)) (.call 8 (.cons (.v 3) (.cons (.c (.int 30)) .nil)) [])) (.cons (.c (.int 12)) .nil))) []) .nil)))
    .nil)))
    (.cons (.forr (.v 4) (.any (.v 1))
    (.cons (.ife (.not (.call 14 (.cons (.v 4) .nil) []))
    (.cons (.ret (.c (.bl false)))
    .nil)
    .nil)
    .nil))
    (.cons (.set (.v 5) (.bi .tuple (.cons (.sl (.lc (.v 4) (.any (.v 1)) (.cons (.and (.op .lt (.call 13 (.cons (.v 4) .nil) []) (.c (.int 12))) (.op .lt (.call 12 (.cons (.v 4) .nil) []) (.c (.int 40)))) .nil) (.v 4) [4]) .no (.so (.c (.int 20)))) .nil)))
    (.cons (.ret (.and (.call 14 (.cons (.v 5) .nil) []) (.and (.call 14 (.cons (.tup .nil) .nil) []) (.bi .all (.cons (.lc (.v 4) (.any (.sl (.v 1) .no (.so (.c (.int 1))))) .nil (.call 14 (.cons (.v 4) .nil) []) [4]) .nil)))))
    .nil)))))⟩
def P : Prog := ⟨[fd0, fd1, fd2, fd3, fd4, fd5, fd6, fd7, fd8, fd9, fd10, fd11, fd12, fd13, fd14, fd15], [], []⟩
def T : Tab where
  fns := [(["is_number"], []),
    (["is_sign"], []),
    (["is_text"], []),
    (["measured"], []),
    (["size"], []),
    (["depth"], []),
    (["_law_cell"], []),
    (["_law_box"], []),
    (["_law_take"], []),
    (["_law_text"], []),
    (["_law_number"], []),
    (["_law_worth"], []),
    (["_law_size"], []),
    (["_law_depth"], []),
    (["_law_told"], []),
    (["law"], [])]
  cls := []
  con := [("BEYOND", (.int 1000000000000000000000000000000000000000000000000000000000000)), ("LONGEST", (.int 400)), ("ITEMS", (.int 60))]
  kds := []
  free := ["all", "bool", "int", "isinstance", "len", "max", "min", "ord", "range", "str", "sum", "tuple"]
  flds := []
  mths := []
def dr0 : Dr := ⟨("is_number", none), "is_number", "is_number", defArgs (top 4), defBody (top 4), defScope (top 4), ["thing"], ["thing"], []⟩
def dr1 : Dr := ⟨("is_sign", none), "is_sign", "is_sign", defArgs (top 5), defBody (top 5), defScope (top 5), ["sign"], ["sign"], []⟩
def dr2 : Dr := ⟨("is_text", none), "is_text", "is_text", defArgs (top 6), defBody (top 6), defScope (top 6), ["thing", "sign"], ["thing"], []⟩
def dr3 : Dr := ⟨("measured", none), "measured", "measured", defArgs (top 7), defBody (top 7), defScope (top 7), ["thing", "most", "deep", "item", "found"], ["thing"], []⟩
def dr4 : Dr := ⟨("size", none), "size", "size", defArgs (top 8), defBody (top 8), defScope (top 8), ["worth"], ["worth"], []⟩
def dr5 : Dr := ⟨("depth", none), "depth", "depth", defArgs (top 9), defBody (top 9), defScope (top 9), ["worth"], ["worth"], []⟩
def dr6 : Dr := ⟨("_law_cell", none), "_law_cell", "_law_cell", defArgs (top 11), defBody (top 11), defScope (top 11), ["_law_script", "_law_k"], ["_law_script", "_law_k"], []⟩
def dr7 : Dr := ⟨("_law_box", none), "_law_box", "_law_box", defArgs (top 12), defBody (top 12), defScope (top 12), ["_law_script", "_law_k", "_law_cell_here", "_law_number_here", "_law_mixed"], ["_law_script", "_law_k"], []⟩
def dr8 : Dr := ⟨("_law_take", none), "_law_take", "_law_take", defArgs (top 13), defBody (top 13), defScope (top 13), ["_law_box_here", "_law_wide", "_law_found"], ["_law_box_here", "_law_wide"], []⟩
def dr9 : Dr := ⟨("_law_text", none), "_law_text", "_law_text", defArgs (top 14), defBody (top 14), defScope (top 14), ["_law_box_here", "_law_most", "_law_signs", "_law_found", "_law_k"], ["_law_box_here", "_law_most"], []⟩
def dr10 : Dr := ⟨("_law_number", none), "_law_number", "_law_number", defArgs (top 15), defBody (top 15), defScope (top 15), ["_law_box_here", "_law_kind"], ["_law_box_here"], []⟩
def dr11 : Dr := ⟨("_law_worth", none), "_law_worth", "_law_worth", defArgs (top 16), defBody (top 16), defScope (top 16), ["_law_box_here", "_law_room", "_law_deep", "_law_kind", "_law_wide", "_law_left", "_law_found", "_law_k", "_law_share"], ["_law_box_here", "_law_room", "_law_deep"], []⟩
def dr12 : Dr := ⟨("_law_size", none), "_law_size", "_law_size", defArgs (top 17), defBody (top 17), defScope (top 17), ["_law_worth_here", "_law_item"], ["_law_worth_here"], []⟩
def dr13 : Dr := ⟨("_law_depth", none), "_law_depth", "_law_depth", defArgs (top 18), defBody (top 18), defScope (top 18), ["_law_worth_here", "_law_item"], ["_law_worth_here"], []⟩
def dr14 : Dr := ⟨("_law_told", none), "_law_told", "_law_told", defArgs (top 19), defBody (top 19), defScope (top 19), ["_law_worth_here", "_law_some", "_law_found"], ["_law_worth_here"], []⟩
def dr15 : Dr := ⟨("law", none), "law", "law", defArgs (top 20), defBody (top 20), defScope (top 20), ["_law_script", "_law_worths", "_law_k", "_law_box_here", "_law_worth_here", "_law_short"], ["_law_script"], []⟩
theorem bd0 : BindOk dr0 := fun _ _ _ _ _ _ us hl => match us, hl with | [_], _ => rfl
theorem bd1 : BindOk dr1 := fun _ _ _ _ _ _ us hl => match us, hl with | [_], _ => rfl
theorem bd2 : BindOk dr2 := fun _ _ _ _ _ _ us hl => match us, hl with | [_], _ => rfl
theorem bd3 : BindOk dr3 := fun _ _ _ _ _ _ us hl => match us, hl with | [_], _ => rfl
theorem bd4 : BindOk dr4 := fun _ _ _ _ _ _ us hl => match us, hl with | [_], _ => rfl
theorem bd5 : BindOk dr5 := fun _ _ _ _ _ _ us hl => match us, hl with | [_], _ => rfl
theorem bd6 : BindOk dr6 := fun _ _ _ _ _ _ us hl => match us, hl with | [_, _], _ => rfl
theorem bd7 : BindOk dr7 := fun _ _ _ _ _ _ us hl => match us, hl with | [_, _], _ => rfl
theorem bd8 : BindOk dr8 := fun _ _ _ _ _ _ us hl => match us, hl with | [_, _], _ => rfl
theorem bd9 : BindOk dr9 := fun _ _ _ _ _ _ us hl => match us, hl with | [_, _], _ => rfl
theorem bd10 : BindOk dr10 := fun _ _ _ _ _ _ us hl => match us, hl with | [_], _ => rfl
theorem bd11 : BindOk dr11 := fun _ _ _ _ _ _ us hl => match us, hl with | [_, _, _], _ => rfl
theorem bd12 : BindOk dr12 := fun _ _ _ _ _ _ us hl => match us, hl with | [_], _ => rfl
theorem bd13 : BindOk dr13 := fun _ _ _ _ _ _ us hl => match us, hl with | [_], _ => rfl
theorem bd14 : BindOk dr14 := fun _ _ _ _ _ _ us hl => match us, hl with | [_], _ => rfl
theorem bd15 : BindOk dr15 := fun _ _ _ _ _ _ us hl => match us, hl with | [_], _ => rfl
def drs : List Dr := [dr0, dr1, dr2, dr3, dr4, dr5, dr6, dr7, dr8, dr9, dr10, dr11, dr12, dr13, dr14, dr15]
def L : LawTab := ⟨drs, T, P⟩
theorem stat : L.stat = true := by kernel_rfl
theorem bds : AllB drs := ⟨bd0, bd1, bd2, bd3, bd4, bd5, bd6, bd7, bd8, bd9, bd10, bd11, bd12, bd13, bd14, bd15, trivial⟩
abbrev R : PySem.W.OpenRow := PySem.W.OpenLaw.row PySem.Challenge.rw_leastforge_k02_size_and_depth
def lawId : Nat := 15
end K02
namespace MP
open PySem PySem.Spec PyProof.Rows L2
def obA (as : List Addr) (L : LawTab) (s : PySem.W.SharedT) : He.AlT := obsM L (He.frG (HandSHeadRun.getT s) as)
def hookA (as : List Addr) (L : LawTab) : PySem.W.Hook where
  α := He.AlT
  obs := fun s => obsM L (He.frG s.heap.get? as)
  val := fun w => valM L w
  says := (hookM 4 L).says
  of := fun _ _ e => ⟨_, He.frG_in, e⟩
  keeps := (hookM 4 L).keeps
theorem obA_eq (as : List Addr) (L : LawTab) (s : PySem.W.SharedT) : obA as L s = (hookA as L).obs s.abs := by
  have e : HandSHeadRun.getT s = s.abs.heap.get? := funext (HandSHeadRun.getT_eq s)
  show obsM L (He.frG (HandSHeadRun.getT s) as) = obsM L (He.frG s.abs.heap.get? as)
  rw [e]
section
variable {r : PySem.W.OpenRow} {q : Program} {H : PySem.W.Hook} {ob : PySem.W.SharedT → H.α} {M : Nat} {loose : List PySem.Str} {w : World}
/-- the top's end -/
noncomputable abbrev endO (r : PySem.W.OpenRow) (M : Nat) (w : World) (os : OsState) : Option PySem.W.SharedT := HandSHeadRun.endF (HandSHeadRun.stepQ (HandSHeadRun.denQ HandSHeadRun.tabQ) r.prog w) M r.prog w os
abbrev RunL (r : PySem.W.OpenRow) (M : Nat) (w : World) : Prop := ∀ os, (endO r M w os).map (fun s => HandSHeadRun.looksF r.prog (PySem.W.boot_heap w.params) s.abs) = some true
abbrev RunS (r : PySem.W.OpenRow) (q : Program) (M : Nat) (loose : List PySem.Str) (w : World) : Prop := ∀ os, (endO r M w os).map (fun s => HandSHeadRun.seenQ q loose (importedModules r.prog.main.body) (fun s => PySem.W.xlAt q [] s && PySem.W.recOk r.toRowW.records s) s.abs) = some (PySem.W.openGood q loose)
abbrev RunO (r : PySem.W.OpenRow) (H : PySem.W.Hook) (ob : PySem.W.SharedT → H.α) (M : Nat) (w : World) : Prop := ∀ os, (endO r M w os).map ob = some (H.val w)
theorem run_parts (h1 : RunL r M w) (h2 : RunS r q M loose w) (h3 : RunO r H ob M w) : HandSHeadRun.RunEq r q H ob M loose w := by
  intro os
  have a1 := h1 os
  have a2 := h2 os
  have a3 := h3 os
  show (endO r M w os).map _ = _
  cases e : endO r M w os with
  | none => rw [e] at a1; cases a1
  | some s =>
    rw [e] at a1 a2 a3
    have b1 := Option.some.inj a1
    have b2 := Option.some.inj a2
    have b3 := Option.some.inj a3
    show some _ = some _
    exact congrArg some (Prod.ext b1 (Prod.ext b2 b3))
end
end MP
namespace K02
open MP PySem PySem.Spec PyProof.Rows L2
def as0 : List Nat := ([3, 6, 4, 21, 28, 35, 42, 49, 56, 63, 70, 77, 84, 91, 98, 103, 108, 115, 120, 20, 27, 34, 41, 48, 55, 62, 69, 76, 83, 90, 97, 102, 107, 114, 119, 15, 16, 17, 18, 19] : List Nat) ++ ([22, 23, 24, 25, 26, 29, 30, 31, 32, 33, 36, 37, 38, 39, 40, 43, 44, 45, 46, 47, 50, 51, 52, 53, 54, 57, 58, 59, 60, 61, 64, 65, 66, 67, 68, 71, 72, 73, 74, 75] : List Nat) ++ ([78, 79, 80, 81, 82, 85, 86, 87, 88, 89, 92, 93, 94, 95, 96, 99, 100, 101, 104, 105, 106, 109, 110, 111, 112, 113, 116, 117, 118] : List Nat)
abbrev hk : PySem.W.Hook := hookA as0 L
abbrev q0 : Program := PySem.W.view R.prog [20]
def ob (s : PySem.W.SharedT) : He.AlT := obA as0 L s
theorem ob_eq (s : PySem.W.SharedT) : ob s = hk.obs s.abs := obA_eq as0 L s
def names : List PySem.Str := (["BEYOND", "LONGEST", "ITEMS", "is_number", "is_sign", "is_text", "measured", "size", "depth", "_law_cell", "_law_box", "_law_take", "_law_text", "_law_number", "_law_worth", "_law_size", "_law_depth", "_law_told"] : List PySem.Str)
theorem runL (w : World) : RunL R 20000 w := by
  intro os
  kernel_rfl
theorem runS (w : World) : RunS R q0 20000 names w := by
  intro os
  kernel_rfl
theorem runO (w : World) : RunO R hk ob 20000 w := by
  intro os
  kernel_rfl
theorem run (w : World) : HandSHeadRun.RunEq R q0 hk ob 20000 names w := run_parts (runL w) (runS w) (runO w)
end K02
namespace MP
section
variable {α : Type} {p : α → Prop} {a b : α}
theorem z_ex1 : (∃ x, x = a ∧ p x) ↔ p a := exists_eq_left
theorem z_ex2 : (∃ x, a = x ∧ p x) ↔ p a := exists_eq_left'
theorem z_some : (some a = some b) = (a = b) := by simp
theorem z_int {i j : Int} : (D.int i = D.int j) = (i = j) := by simp
theorem z_bl {i j : Bool} : (D.bl i = D.bl j) = (i = j) := by simp
theorem z_str {i j : List Char} : (D.str i = D.str j) = (i = j) := by simp
theorem z_tup {i j : List D} : (D.tup i = D.tup j) = (i = j) := by simp
theorem z_tt {q : Prop} : (True ∧ q) ↔ q := by simp
theorem z_t2 {q : Prop} : (q ∧ True) ↔ q := by simp
theorem z_dec {q : Prop} [Decidable q] : (decide q = true) = q := decide_eq_true_eq
theorem z_ndec {q : Bool} : ((!q) = true) = (q = false) := by simp
theorem z_dec2 {q : Prop} [Decidable q] : (decide q = false) = ¬ q := by simp
theorem z_beq {i j : Int} : ((i == j) = true) = (i = j) := by simp
theorem z_bne {i j : Int} : ((i != j) = true) = (i ≠ j) := by simp
theorem z_tf : ((true : Bool) = false) = False := by simp
theorem z_ft : ((false : Bool) = true) = False := by simp
theorem z_t : ((true : Bool) = true) = True := by simp
theorem z_f : ((false : Bool) = false) = True := by simp
theorem z_nt : (!true) = false := rfl
theorem z_nf : (!false) = true := rfl
theorem z_l0 {l : List α} : (a :: l)[0]? = some a := rfl
theorem z_ls {l : List α} {n : Nat} : (a :: l)[n + 1]? = l[n]? := by simp
theorem z_s0 {l : List α} : (a :: l).set 0 b = b :: l := rfl
theorem z_ss {l : List α} {n : Nat} : (a :: l).set (n + 1) b = a :: l.set n b := rfl
theorem z_ap {l m : List α} : a :: l ++ m = a :: (l ++ m) := rfl
theorem z_an {m : List α} : [] ++ m = m := rfl
theorem z_na {m : List α} : m ++ [] = m := List.append_nil m
theorem z_ln : ([] : List α).length = 0 := rfl
theorem z_lc {l : List α} : (a :: l).length = l.length + 1 := rfl
end
def R.wp {α : Type} (x : R α) (Q : α → Prop) : Prop := ∃ a, x = .ok a ∧ Q a
def C.wp (c : C) (N : Fr → Sto → Prop) (T : D → Sto → Prop) : Prop := (∃ fr st, c = .nx fr st ∧ N fr st) ∨ ∃ d st, c = .rt d st ∧ T d st
section
variable {α β : Type} {Q : α → Prop}
@[simp] theorem wp_ok {a : α} : (R.ok a).wp Q ↔ Q a := ⟨fun h => (by obtain ⟨_, e, h⟩ := h; cases e; exact h), fun h => ⟨a, rfl, h⟩⟩
@[simp] theorem wp_no : (R.no : R α).wp Q ↔ False := ⟨fun h => (by obtain ⟨_, e, _⟩ := h; cases e), fun h => h.elim⟩
@[simp] theorem wp_ex {c : Nat} {st : Sto} : (R.ex c st : R α).wp Q ↔ False := ⟨fun h => (by obtain ⟨_, e, _⟩ := h; cases e), fun h => h.elim⟩
@[simp] theorem wp_bind {x : R β} {f : β → R α} : (x.bind f).wp Q ↔ x.wp fun b => (f b).wp Q := by
  constructor
  · rintro ⟨a, e, h⟩
    cases x with
    | ok b => exact ⟨b, rfl, a, e, h⟩
    | ex c st => cases e
    | no => cases e
  · rintro ⟨b, rfl, a, e, h⟩
    exact ⟨a, e, h⟩
@[simp] theorem wp_of {o : Option α} : (R.of o).wp Q ↔ ∃ a, o = some a ∧ Q a := by
  cases o with
  | none => simp
  | some a => simp
@[simp] theorem wp_ite {p : Prop} [Decidable p] {x y : R α} : (if p then x else y).wp Q ↔ if p then x.wp Q else y.wp Q := by split <;> rfl
theorem wp_mono {x : R α} {Q' : α → Prop} (h : x.wp Q) (i : ∀ a, Q a → Q' a) : x.wp Q' := let ⟨a, e, q⟩ := h; ⟨a, e, i a q⟩
@[simp] theorem wp_newF {st : Sto} {o : O} {Q : D × Sto → Prop} : (newF st o).wp Q ↔ Q (.ref st.length, st ++ [o]) := wp_ok
end
section
variable {N : Fr → Sto → Prop} {T : D → Sto → Prop}
@[simp] theorem cw_nx {fr : Fr} {st : Sto} : (C.nx fr st).wp N T ↔ N fr st := by
  constructor
  · rintro (⟨_, _, e, h⟩ | ⟨_, _, e, h⟩)
    · cases e; exact h
    · cases e
  · exact fun h => .inl ⟨_, _, rfl, h⟩
@[simp] theorem cw_rt {d : D} {st : Sto} : (C.rt d st).wp N T ↔ T d st := by
  constructor
  · rintro (⟨_, _, e, h⟩ | ⟨_, _, e, h⟩)
    · cases e
    · cases e; exact h
  · exact fun h => .inr ⟨_, _, rfl, h⟩
@[simp] theorem cw_no : C.no.wp N T ↔ False := by
  constructor
  · rintro (⟨_, _, e, h⟩ | ⟨_, _, e, h⟩) <;> cases e
  · exact fun h => h.elim
@[simp] theorem cw_ex {c : Nat} {fr : Fr} {st : Sto} : (C.ex c fr st).wp N T ↔ False := by
  constructor
  · rintro (⟨_, _, e, h⟩ | ⟨_, _, e, h⟩) <;> cases e
  · exact fun h => h.elim
@[simp] theorem cw_seq {c : C} {f : Fr → Sto → C} : (c.seq f).wp N T ↔ c.wp (fun fr st => (f fr st).wp N T) T := by cases c <;> simp [C.seq]
@[simp] theorem cw_stm {α : Type} {fr : Fr} {x : R α} {f : α → C} : (x.stm fr f).wp N T ↔ x.wp fun a => (f a).wp N T := by
  cases x with
  | ok a => exact (wp_ok (Q := fun a => (f a).wp N T)).symm
  | ex c st => exact cw_ex.trans (wp_ex (Q := fun a => (f a).wp N T)).symm
  | no => exact cw_no.trans (wp_no (Q := fun a => (f a).wp N T)).symm
@[simp] theorem cw_un {c : C} {u : Sto → Sto} : (c.un u).wp N T ↔ c.wp (fun fr st => N fr (u st)) (fun d st => T d (u st)) := by cases c <;> simp [C.un]
@[simp] theorem cw_ite {p : Prop} [Decidable p] {x y : C} : (if p then x else y).wp N T ↔ if p then x.wp N T else y.wp N T := by split <;> rfl
theorem cw_mono {c : C} {N' : Fr → Sto → Prop} {T' : D → Sto → Prop} (h : c.wp N T) (i : ∀ fr st, N fr st → N' fr st) (j : ∀ d st, T d st → T' d st) : c.wp N' T' := by
  rcases h with ⟨fr, st, e, h⟩ | ⟨d, st, e, h⟩
  · exact .inl ⟨fr, st, e, i _ _ h⟩
  · exact .inr ⟨d, st, e, j _ _ h⟩
end
section
variable {P : Prog} {cf mf : Cf} {fr : Fr} {st : Sto} {Q : D × Sto → Prop}
@[simp] theorem w_v {i : Nat} : (evE P cf mf (.v i) fr st).wp Q ↔ ∃ d, fr[i]? = some (some d) ∧ Q (d, st) := by
  rw [evE]
  split
  · rename_i d h; simp [h]
  · rename_i h
    simp only [wp_no, false_iff]
    rintro ⟨d, e, _⟩
    exact h d e
@[simp] theorem w_c {d : D} : (evE P cf mf (.c d) fr st).wp Q ↔ Q (d, st) := by rw [evE]; exact wp_ok
@[simp] theorem w_op {o : Op} {a b : E} : (evE P cf mf (.op o a b) fr st).wp Q ↔ (evE P cf mf a fr st).wp fun p => (evE P cf mf b fr p.2).wp fun q => (opF o p.1 q.1 q.2).wp Q := by rw [evE]; simp
@[simp] theorem w_neg {a : E} : (evE P cf mf (.neg a) fr st).wp Q ↔ (evE P cf mf a fr st).wp fun p => ∃ i, p.1 = .int i ∧ Q (.int (-i), p.2) := by
  rw [evE]
  simp only [wp_bind]
  refine exists_congr fun p => and_congr_right fun _ => ?_
  dsimp only
  split
  · rename_i i h; simp [h]
  · rename_i h; simp only [wp_no, false_iff]; rintro ⟨i, e, _⟩; exact h i e
@[simp] theorem w_not {a : E} : (evE P cf mf (.not a) fr st).wp Q ↔ (evE P cf mf a fr st).wp fun p => ∃ b, truthF p.2 p.1 = some b ∧ Q (.bl (!b), p.2) := by
  rw [evE]
  simp only [wp_bind]
  refine exists_congr fun p => and_congr_right fun _ => ?_
  dsimp only
  split
  · rename_i i h; simp [h]
  · rename_i h; simp [h]
@[simp] theorem w_and {a b : E} : (evE P cf mf (.and a b) fr st).wp Q ↔ (evE P cf mf a fr st).wp fun p => ∃ k, truthF p.2 p.1 = some k ∧ if k = true then (evE P cf mf b fr p.2).wp Q else Q p := by
  rw [evE]
  simp only [wp_bind]
  refine exists_congr fun p => and_congr_right fun _ => ?_
  dsimp only
  split
  · rename_i h; simp [h]
  · rename_i h; simp [h]
  · rename_i h; simp [h]
@[simp] theorem w_or {a b : E} : (evE P cf mf (.or a b) fr st).wp Q ↔ (evE P cf mf a fr st).wp fun p => ∃ k, truthF p.2 p.1 = some k ∧ if k = true then Q p else (evE P cf mf b fr p.2).wp Q := by
  rw [evE]
  simp only [wp_bind]
  refine exists_congr fun p => and_congr_right fun _ => ?_
  dsimp only
  split
  · rename_i h; simp [h]
  · rename_i h; simp [h]
  · rename_i h; simp [h]
@[simp] theorem w_ife {c a b : E} : (evE P cf mf (.ife c a b) fr st).wp Q ↔ (evE P cf mf c fr st).wp fun p => ∃ k, truthF p.2 p.1 = some k ∧ if k = true then (evE P cf mf a fr p.2).wp Q else (evE P cf mf b fr p.2).wp Q := by
  rw [evE]
  simp only [wp_bind]
  refine exists_congr fun p => and_congr_right fun _ => ?_
  dsimp only
  split
  · rename_i h; simp [h]
  · rename_i h; simp [h]
  · rename_i h; simp [h]
@[simp] theorem w_chain {o o' : Op} {a b c : E} : (evE P cf mf (.chain o o' a b c) fr st).wp Q ↔ (evE P cf mf a fr st).wp fun p => (evE P cf mf b fr p.2).wp fun q => (opF o p.1 q.1 q.2).wp fun r => ∃ k, r.1 = .bl k ∧ if k = true then (evE P cf mf c fr r.2).wp fun s => (opF o' q.1 s.1 s.2).wp Q else Q (.bl false, r.2) := by
  rw [evE]
  simp only [wp_bind]
  refine exists_congr fun p => and_congr_right fun _ => exists_congr fun q => and_congr_right fun _ => exists_congr fun r => and_congr_right fun _ => ?_
  dsimp only
  obtain ⟨d, st'⟩ := r
  split
  · rename_i h
    dsimp only at h
    subst h
    simp
  · rename_i h
    dsimp only at h
    subst h
    simp
  · rename_i h1 h2
    simp only [wp_no, false_iff]
    rintro ⟨k, e, _⟩
    cases k with
    | true => exact h1 e
    | false => exact h2 e
@[simp] theorem w_isN {a : E} : (evE P cf mf (.isN a) fr st).wp Q ↔ (evE P cf mf a fr st).wp fun p => Q (.bl (match p.1 with | .non => true | _ => false), p.2) := by rw [evE]; first | (simp only [wp_bind, wp_ok]; done) | (simp only [wp_bind, wp_ok]; rfl)
@[simp] theorem w_notN {a : E} : (evE P cf mf (.notN a) fr st).wp Q ↔ (evE P cf mf a fr st).wp fun p => Q (.bl (match p.1 with | .non => false | _ => true), p.2) := by rw [evE]; first | (simp only [wp_bind, wp_ok]; done) | (simp only [wp_bind, wp_ok]; rfl)
@[simp] theorem w_isB {a : E} {neg b : Bool} : (evE P cf mf (.isB a neg b) fr st).wp Q ↔ (evE P cf mf a fr st).wp fun p => ∃ c, p.1 = .bl c ∧ Q (.bl (if neg = true then !(decide (c = b)) else decide (c = b)), p.2) := by
  rw [evE]
  simp only [wp_bind]
  refine exists_congr fun p => and_congr_right fun _ => ?_
  dsimp only
  split
  · rename_i c h; simp [h]
  · rename_i h; simp only [wp_no, false_iff]; rintro ⟨c, e, _⟩; exact h c e
@[simp] theorem w_tup {es : Es} : (evE P cf mf (.tup es) fr st).wp Q ↔ (evEs P cf mf es fr st).wp fun p => p.1.length ≤ SZ ∧ Q (.tup p.1, p.2) := by rw [evE]; simp
@[simp] theorem w_lst {es : Es} : (evE P cf mf (.lst es) fr st).wp Q ↔ (evEs P cf mf es fr st).wp fun p => p.1.length ≤ SZ ∧ Q (.ref p.2.length, p.2 ++ [.lst p.1]) := by rw [evE]; simp
@[simp] theorem w_dic {es : Es} : (evE P cf mf (.dic es) fr st).wp Q ↔ (evEs P cf mf es fr st).wp fun p => ∃ kvs, pairF p.1 = some kvs ∧ kvs.length ≤ 15 ∧ Q (.ref p.2.length, p.2 ++ [.dct (kvs.foldl (fun acc kv => putK acc kv.1 kv.2) [])]) := by
  rw [evE]
  simp only [wp_bind]
  refine exists_congr fun p => and_congr_right fun _ => ?_
  dsimp only
  split
  · rename_i h; simp [h]
  · rename_i h; simp [h]
@[simp] theorem w_call {f : Nat} {es : Es} {ds : List D} : (evE P cf mf (.call f es ds) fr st).wp Q ↔ (evEs P cf mf es fr st).wp fun p => (cf f (p.1 ++ ds) p.2).wp Q := by rw [evE]; simp
@[simp] theorem w_make {c f : Nat} {es : Es} {ds : List D} : (evE P cf mf (.make c f es ds) fr st).wp Q ↔ (evEs P cf mf es fr st).wp fun p => (mf f (.ref p.2.length :: (p.1 ++ ds)) (p.2 ++ [.ins c []])).wp fun q => q.1 = .non ∧ Q (.ref p.2.length, q.2) := by
  rw [evE]
  simp only [wp_bind]
  refine exists_congr fun p => and_congr_right fun _ => exists_congr fun q => and_congr_right fun _ => ?_
  dsimp only
  split
  · rename_i h; simp [h]
  · rename_i h; simp only [wp_no, false_iff]; rintro ⟨e, _⟩; exact h e
@[simp] theorem w_meth {m : Nat} {o : E} {es : Es} : (evE P cf mf (.meth m o es) fr st).wp Q ↔ (evE P cf mf o fr st).wp fun p => ∃ c, clsF p.2 p.1 = some c ∧ ∃ fd, findM P c m = some fd ∧ (evEs P cf mf es fr p.2).wp fun q => (cf fd.1 (p.1 :: (q.1 ++ dflF P fd.1 fd.2 (q.1.length + 1))) q.2).wp Q := by
  rw [evE]
  simp only [wp_bind]
  refine exists_congr fun p => and_congr_right fun _ => ?_
  dsimp only
  split
  · rename_i c h
    split
    · rename_i fd h2
      simp only [wp_bind]
      constructor
      · intro z; exact ⟨c, h, fd, h2, z⟩
      · rintro ⟨c', e1, fd', e2, z⟩; rw [h] at e1; cases e1; rw [h2] at e2; cases e2; exact z
    · rename_i h2; simp [h, h2]
  · rename_i h; simp [h]
@[simp] theorem w_fld {o : E} {f : Nat} : (evE P cf mf (.fld o f) fr st).wp Q ↔ (evE P cf mf o fr st).wp fun p => ∃ d, fldF p.2 p.1 f = some d ∧ Q (d, p.2) := by rw [evE]; simp
@[simp] theorem w_ix {a b : E} : (evE P cf mf (.ix a b) fr st).wp Q ↔ (evE P cf mf a fr st).wp fun p => (evE P cf mf b fr p.2).wp fun q => ∃ d, ixF q.2 p.1 q.1 = some d ∧ Q (d, q.2) := by rw [evE]; simp
@[simp] theorem w_sl {a : E} {lo hi : Eo} : (evE P cf mf (.sl a lo hi) fr st).wp Q ↔ (evE P cf mf a fr st).wp fun p => (evEo P cf mf lo fr p.2).wp fun q => (evEo P cf mf hi fr q.2).wp fun r => (slF r.2 p.1 q.1 r.1).wp Q := by rw [evE]; simp
@[simp] theorem w_bi {b : Bi} {es : Es} : (evE P cf mf (.bi b es) fr st).wp Q ↔ (evEs P cf mf es fr st).wp fun p => (biF b p.1 p.2).wp Q := by rw [evE]; simp
@[simp] theorem w_isi {a : E} {t : Ty} : (evE P cf mf (.isi a t) fr st).wp Q ↔ (evE P cf mf a fr st).wp fun p => ∃ b, isiF P p.2 p.1 t = some b ∧ Q (.bl b, p.2) := by rw [evE]; simp
@[simp] theorem w_bm {m : Bm} {o : E} {es : Es} : (evE P cf mf (.bm m o es) fr st).wp Q ↔ (evE P cf mf o fr st).wp fun p => ∃ k, kindF p.2 p.1 = some k ∧ (evEs P cf mf es fr p.2).wp fun q => (bmF k m p.1 q.1 q.2).wp Q := by
  rw [evE]
  simp only [wp_bind]
  refine exists_congr fun p => and_congr_right fun _ => ?_
  dsimp only
  split
  · rename_i h; simp [h]
  · rename_i h; simp [h]
@[simp] theorem w_nil {Q : List D × Sto → Prop} : (evEs P cf mf .nil fr st).wp Q ↔ Q ([], st) := by rw [evEs]; exact wp_ok
@[simp] theorem w_cons {e : E} {r : Es} {Q : List D × Sto → Prop} : (evEs P cf mf (.cons e r) fr st).wp Q ↔ (evE P cf mf e fr st).wp fun p => (evEs P cf mf r fr p.2).wp fun q => Q (p.1 :: q.1, q.2) := by rw [evEs]; simp
@[simp] theorem w_ono {Q : Option Int × Sto → Prop} : (evEo P cf mf .no fr st).wp Q ↔ Q (none, st) := by rw [evEo]; exact wp_ok
@[simp] theorem w_oso {e : E} {Q : Option Int × Sto → Prop} : (evEo P cf mf (.so e) fr st).wp Q ↔ (evE P cf mf e fr st).wp fun p => ∃ i, p.1 = .int i ∧ Q (some i, p.2) := by
  rw [evEo]
  simp only [wp_bind]
  refine exists_congr fun p => and_congr_right fun _ => ?_
  dsimp only
  split
  · rename_i i h; simp [h]
  · rename_i h; simp only [wp_no, false_iff]; rintro ⟨i, e, _⟩; exact h i e
@[simp] theorem w_ifs0 {Q : Bool × Sto → Prop} : (evIfs P cf mf .nil fr st).wp Q ↔ Q (true, st) := by rw [evIfs]; exact wp_ok
@[simp] theorem w_ifs1 {e : E} {r : Es} {Q : Bool × Sto → Prop} : (evIfs P cf mf (.cons e r) fr st).wp Q ↔ (evE P cf mf e fr st).wp fun p => ∃ k, truthF p.2 p.1 = some k ∧ if k = true then (evIfs P cf mf r fr p.2).wp Q else Q (false, p.2) := by
  rw [evIfs]
  simp only [wp_bind]
  refine exists_congr fun p => and_congr_right fun _ => ?_
  dsimp only
  split
  · rename_i h; simp [h]
  · rename_i h; simp [h]
  · rename_i h; simp [h]
section
variable {Q : Wk × Sto × (Sto → Sto) → Prop}
/-- what is walked by itself -/
def walkF (e : E) (d : D) (st : Sto) : R (Wk × Sto × (Sto → Sto)) := match d with
    | .tup ds => .ok (⟨ds, fun _ => true⟩, st, id)
    | .kls ds => .ok (⟨ds, fun _ => true⟩, st, id)
    | .str x => .ok (⟨signsF x, fun _ => true⟩, st, id)
    | .ref n => match st[n]? with
      | some (.lst ds) => .ok (⟨ds, stands n ds⟩, st, id)
      | some (.dct kvs) => if pathE e then .ok (⟨kvs.map fun kv => keyD kv.1, fun _ => true⟩, st.set n (.fdc kvs), fun st => st.set n (.dct kvs)) else .no
      | _ => .no
    | _ => .no
@[simp] theorem w_any {e : E} : (evIt P cf mf (.any e) fr st).wp Q ↔ (evE P cf mf e fr st).wp fun p => (walkF e p.1 p.2).wp Q := by rw [evIt]; first | (simp only [wp_bind]; done) | (simp only [wp_bind]; rfl)
@[simp] theorem w_range1 {e : E} : (evIt P cf mf (.range1 e) fr st).wp Q ↔ (evE P cf mf e fr st).wp fun p => ∃ j : Int, p.1 = .int j ∧ -(2 ^ 62) ≤ j ∧ j < 2 ^ 62 ∧ Q (⟨rangeF 0 j.toNat, fun _ => true⟩, p.2, id) := by
  rw [evIt]
  simp only [wp_bind]
  refine exists_congr fun p => and_congr_right fun _ => ?_
  dsimp only
  split
  · rename_i j h
    simp only [wp_ite, wp_ok, wp_no, h]
    constructor
    · intro h; split at h
      · rename_i q; exact ⟨j, rfl, q.1, q.2, h⟩
      · exact h.elim
    · rintro ⟨j', e, h1, h2, h3⟩
      cases e
      rw [if_pos ⟨h1, h2⟩]; exact h3
  · rename_i h; simp only [wp_no, false_iff]; rintro ⟨i, e, _⟩; exact h i e
@[simp] theorem w_ezip {a b : E} : (evIt P cf mf (.ezip a b) fr st).wp Q ↔ (evE P cf mf a fr st).wp fun p => (evE P cf mf b fr p.2).wp fun q => ∃ xs, listF q.2 p.1 = some xs ∧ ∃ ys, listF q.2 q.1 = some ys ∧ Q (⟨enumF 0 (zipF xs ys), fun s => standsD p.1 xs s && standsD q.1 ys s⟩, q.2, id) := by
  rw [evIt]
  simp only [wp_bind]
  constructor
  · intro h
    refine wp_mono h fun p hp => wp_mono hp fun q hq => ?_
    split at hq
    · rename_i xs ys hx hy
      exact ⟨xs, hx, ys, hy, wp_ok.mp hq⟩
    · obtain ⟨_, e, _⟩ := hq; cases e
  · intro h
    refine wp_mono h fun p hp => wp_mono hp fun q ⟨xs, hx, ys, hy, hq⟩ => ?_
    rw [hx, hy]
    exact wp_ok.mpr hq
@[simp] theorem w_revr {e : E} : (evIt P cf mf (.revr e) fr st).wp Q ↔ (evE P cf mf e fr st).wp fun p => ∃ j : Int, p.1 = .int j ∧ -(2 ^ 62) ≤ j ∧ j < 2 ^ 62 ∧ Q (⟨(rangeF 0 j.toNat).reverse, fun _ => true⟩, p.2, id) := by
  rw [evIt]
  simp only [wp_bind]
  refine exists_congr fun p => and_congr_right fun _ => ?_
  dsimp only
  split
  · rename_i j h
    simp only [wp_ite, wp_ok, wp_no, h]
    constructor
    · intro h; split at h
      · rename_i q; exact ⟨j, rfl, q.1, q.2, h⟩
      · exact h.elim
    · rintro ⟨j', e, h1, h2, h3⟩
      cases e
      rw [if_pos ⟨h1, h2⟩]; exact h3
  · rename_i h; simp only [wp_no, false_iff]; rintro ⟨i, e, _⟩; exact h i e
@[simp] theorem w_range2 {a b : E} : (evIt P cf mf (.range2 a b) fr st).wp Q ↔ (evE P cf mf a fr st).wp fun p => (evE P cf mf b fr p.2).wp fun q => ∃ i : Int, p.1 = .int i ∧ ∃ j : Int, q.1 = .int j ∧ -(2 ^ 62) ≤ i ∧ i < 2 ^ 62 ∧ -(2 ^ 62) ≤ j ∧ j < 2 ^ 62 ∧ Q (⟨rangeF i (j - i).toNat, fun _ => true⟩, q.2, id) := by
  rw [evIt]
  simp only [wp_bind]
  refine exists_congr fun p => and_congr_right fun _ => exists_congr fun q => and_congr_right fun _ => ?_
  dsimp only
  split
  · rename_i i j h h'
    simp only [wp_ite, wp_ok, wp_no, h, h']
    constructor
    · intro h; split at h
      · rename_i q; exact ⟨i, rfl, j, rfl, q.1, q.2.1, q.2.2.1, q.2.2.2, h⟩
      · exact h.elim
    · rintro ⟨i', e, j', e', h1, h2, h3, h4, h5⟩
      cases e
      cases e'
      rw [if_pos ⟨h1, h2, h3, h4⟩]; exact h5
  · rename_i h; simp only [wp_no, false_iff]; rintro ⟨i, e, j, e', _⟩; exact h i j e e'
end
section
variable {N : Fr → Sto → Prop} {T : D → Sto → Prop}
@[simp] theorem s_set_w {t : Tg} {e : E} : (evS P cf mf (.set t e) fr st).wp N T ↔ (evE P cf mf e fr st).wp fun p => ∃ fr2, tgF t p.1 fr = some fr2 ∧ N fr2 p.2 := by
  rw [evS]
  simp only [cw_stm]
  refine exists_congr fun p => and_congr_right fun _ => ?_
  dsimp only
  split
  · rename_i h; simp [h]
  · rename_i h; simp [h]
@[simp] theorem s_setu_w {ts : Tgs} {e : E} : (evS P cf mf (.setu ts e) fr st).wp N T ↔ (evE P cf mf e fr st).wp fun p => ∃ fr2, tglF ts p.1 p.2 fr = some fr2 ∧ N fr2 p.2 := by
  rw [evS]
  simp only [cw_stm]
  refine exists_congr fun p => and_congr_right fun _ => ?_
  dsimp only
  split
  · rename_i h; simp [h]
  · rename_i h; simp [h]
@[simp] theorem s_setix_w {o i e : E} : (evS P cf mf (.setix o i e) fr st).wp N T ↔ (evE P cf mf e fr st).wp fun p => (evE P cf mf o fr p.2).wp fun q => (evE P cf mf i fr q.2).wp fun r => ∃ st2, setIxF r.2 q.1 r.1 p.1 = some st2 ∧ N fr st2 := by
  rw [evS]
  simp only [cw_stm]
  refine exists_congr fun p => and_congr_right fun _ => exists_congr fun q => and_congr_right fun _ => exists_congr fun r => and_congr_right fun _ => ?_
  dsimp only
  split
  · rename_i h; simp [h]
  · rename_i h; simp [h]
@[simp] theorem s_setfld_w {o e : E} {f : Nat} : (evS P cf mf (.setfld o f e) fr st).wp N T ↔ (evE P cf mf e fr st).wp fun p => (evE P cf mf o fr p.2).wp fun q => ∃ st2, setFldF q.2 q.1 f p.1 = some st2 ∧ N fr st2 := by
  rw [evS]
  simp only [cw_stm]
  refine exists_congr fun p => and_congr_right fun _ => exists_congr fun q => and_congr_right fun _ => ?_
  dsimp only
  split
  · rename_i h; simp [h]
  · rename_i h; simp [h]
@[simp] theorem s_ex_w {e : E} : (evS P cf mf (.ex e) fr st).wp N T ↔ (evE P cf mf e fr st).wp fun p => N fr p.2 := by rw [evS]; simp
@[simp] theorem s_ret_w {e : E} : (evS P cf mf (.ret e) fr st).wp N T ↔ (evE P cf mf e fr st).wp fun p => T p.1 p.2 := by rw [evS]; simp
@[simp] theorem s_retn_w : (evS P cf mf .retn fr st).wp N T ↔ T .non st := by rw [evS]; simp
@[simp] theorem s_pass_w : (evS P cf mf .pass fr st).wp N T ↔ N fr st := by rw [evS]; simp
@[simp] theorem s_nev_w : (evS P cf mf .nev fr st).wp N T ↔ False := by rw [evS]; simp
@[simp] theorem s_ife_w {c : E} {a b : Ss} : (evS P cf mf (.ife c a b) fr st).wp N T ↔ (evE P cf mf c fr st).wp fun p => ∃ k, truthF p.2 p.1 = some k ∧ if k = true then (evSs P cf mf a fr p.2).wp N T else (evSs P cf mf b fr p.2).wp N T := by
  rw [evS]
  simp only [cw_stm, testF, wp_bind, wp_of, wp_ok, cw_ite]
@[simp] theorem s_nil_w : (evSs P cf mf .nil fr st).wp N T ↔ N fr st := by rw [evSs]; simp
@[simp] theorem s_cons_w {s : S} {r : Ss} : (evSs P cf mf (.cons s r) fr st).wp N T ↔ (evS P cf mf s fr st).wp (fun fr st => (evSs P cf mf r fr st).wp N T) T := by rw [evSs]; simp
@[simp] theorem s_for_w {t : Tg} {it : It} {b : Ss} : (evS P cf mf (.forr t it b) fr st).wp N T ↔ (evIt P cf mf it fr st).wp fun w => (forF w.1.ok (fun d fr st => match tgF t d fr with
      | some fr => evSs P cf mf b fr st
      | none => .no) w.1.ds fr w.2.1).wp (fun fr st => N fr (w.2.2 st)) (fun d st => T d (w.2.2 st)) := by
  rw [evS]
  first | (simp only [cw_stm, cw_un]; done) | (simp only [cw_stm, cw_un]; rfl)
/-- a walk by an invariant over what is left -/
theorem for_wp {ok : Sto → Bool} {turn : D → Fr → Sto → C} (I : List D → Fr → Sto → Prop) (hok : ∀ ds fr st, I ds fr st → ok st = true) (hs : ∀ d ds fr st, I (d :: ds) fr st → (turn d fr st).wp (fun fr st => I ds fr st) T) (he : ∀ fr st, I [] fr st → N fr st) :
    ∀ (ds : List D) (fr : Fr) (st : Sto), I ds fr st → (forF ok turn ds fr st).wp N T
  | [], fr, st, h => by
    rw [forF, if_pos (hok _ _ _ h)]
    exact cw_nx.mpr (he fr st h)
  | d :: ds, fr, st, h => by
    rw [forF, if_pos (hok _ _ _ h), cw_seq]
    exact cw_mono (hs d ds fr st h) (fun fr st h => for_wp I hok hs he ds fr st h) fun _ _ h => h
end
theorem start0 {nn : Nat} : startF nn [] = List.replicate nn none := by simp [startF]
theorem start_cons {nn : Nat} {d : D} {ds : List D} : startF (nn + 1) (d :: ds) = some d :: startF nn ds := by simp [startF]
theorem rep0 : List.replicate 0 (none : Option D) = [] := rfl
theorem repS {n : Nat} : List.replicate (n + 1) (none : Option D) = none :: List.replicate n none := rfl
/-- a def's call -/
theorem call_wp {n i : Nat} {fd : FD} {ds : List D} (h : P.fns[i]? = some fd) (hl : ds.length = fd.np) (hb : (evSs P (callF P n) (makeF P n) fd.body (startF fd.nn ds) st).wp (fun _ st => Q (.non, st)) (fun d st => Q (d, st))) : (callF P (n + 1) i ds st).wp Q := by
  rw [callF_succ, runF, h]
  dsimp only
  rw [if_pos hl]
  rcases hb with ⟨fr, st, e, h⟩ | ⟨d, st, e, h⟩
  · rw [e]; exact ⟨_, rfl, h⟩
  · rw [e]; exact ⟨_, rfl, h⟩
/-- turns of a comprehension by an invariant -/
theorem lc_wp {ok : Sto → Bool} {turn : D → Sto → R (Option D × Sto)} {Q : List D × Sto → Prop} (I : List D → List D → Sto → Prop) (hok : ∀ ds acc st, I ds acc st → ok st = true)
    (hs : ∀ d ds acc st, I (d :: ds) acc st → (turn d st).wp fun p => match p.1 with | some y => acc.length < SZ ∧ I ds (acc ++ [y]) p.2 | none => I ds acc p.2) (he : ∀ acc st, I [] acc st → Q (acc, st)) :
    ∀ (ds acc : List D) (st : Sto), I ds acc st → (lcF ok turn ds acc st).wp Q
  | [], acc, st, h => by
    rw [lcF, if_pos (hok _ _ _ h)]
    exact wp_ok.mpr (he _ _ h)
  | d :: ds, acc, st, h => by
    rw [lcF, if_pos (hok _ _ _ h), wp_bind]
    refine wp_mono (hs d ds acc st h) fun p hp => ?_
    split at hp
    · rename_i y hy
      try simp only [hy]
      rw [if_pos hp.1]
      exact lc_wp I hok hs he ds _ _ hp.2
    · rename_i hy
      try simp only [hy]
      exact lc_wp I hok hs he ds _ _ hp
@[simp] theorem w_lc {tg : Tg} {it : It} {ifs : Es} {elt : E} {own : List Nat} : (evE P cf mf (.lc tg it ifs elt own) fr st).wp Q ↔ (evIt P cf mf it fr st).wp fun w => (lcF w.1.ok (fun d st => match tgF tg d (wipeF fr own) with
        | some fr2 => (evIfs P cf mf ifs fr2 st).bind fun p => if p.1 then (evE P cf mf elt fr2 p.2).bind fun q => .ok (some q.1, q.2) else .ok (none, p.2)
        | none => .no) w.1.ds [] w.2.1).wp fun q => Q (.ref (w.2.2 q.2).length, w.2.2 q.2 ++ [.lst q.1]) := by rw [evE]; first | (simp; done) | (simp; rfl)
end
end MP
namespace MP
section
variable {P : Prog} {cf mf : Cf} {fr : Fr} {st : Sto} {Q : D × Sto → Prop}
theorem w_kix {kvs : List (List Char × D)} {k : E} : (evE P cf mf (.kix kvs k) fr st).wp Q ↔ (evE P cf mf k fr st).wp fun p => ∃ x, p.1 = .str x ∧ ∃ d, getKk kvs x = some d ∧ Q (d, p.2) := by
  rw [evE]
  simp only [wp_bind]
  refine exists_congr fun p => and_congr_right fun _ => ?_
  dsimp only
  split
  · rename_i x h; simp [h]
  · rename_i h; simp only [wp_no, false_iff]; rintro ⟨x, e, _⟩; exact h x e
theorem w_maxd {a : E} {d : Int} : (evE P cf mf (.maxd a d) fr st).wp Q ↔ (evE P cf mf a fr st).wp fun p => ∃ ns, (listF p.2 p.1).bind intsF = some ns ∧ Q (.int ((maxI ns).getD d), p.2) := by
  rw [evE]
  simp only [wp_bind]
  refine exists_congr fun p => and_congr_right fun _ => ?_
  dsimp only
  split
  · rename_i h; simp [h]
  · rename_i h; simp [h]
theorem w_rvs {a : E} : (evE P cf mf (.rvs a) fr st).wp Q ↔ (evE P cf mf a fr st).wp fun p => (revF p.2 p.1).wp Q := by
  rw [evE]
  simp only [wp_bind]
theorem w_pick {fs : List Nat} {k : E} {es : Es} : (evE P cf mf (.pick fs k es) fr st).wp Q ↔ (evE P cf mf k fr st).wp fun p => ∃ i f, p.1 = .int i ∧ atF fs i = some f ∧ (evEs P cf mf es fr p.2).wp fun q => (cf f q.1 q.2).wp Q := by
  rw [evE]
  simp only [wp_bind]
  refine exists_congr fun p => and_congr_right fun _ => ?_
  dsimp only
  split
  · rename_i i h
    split
    · rename_i f h2
      simp only [wp_bind]
      constructor
      · intro z; exact ⟨i, f, h, h2, z⟩
      · rintro ⟨i', f', e1, e2, z⟩; rw [h] at e1; cases e1; rw [h2] at e2; cases e2; exact z
    · rename_i h2
      simp only [wp_no, false_iff]
      rintro ⟨i', f', e1, e2, z⟩; rw [h] at e1; cases e1; rw [h2] at e2; cases e2
  · rename_i h; simp only [wp_no, false_iff]; rintro ⟨i, f, e, _⟩; exact h i e
theorem w_isc {a : E} {c : Nat} : (evE P cf mf (.isc a c) fr st).wp Q ↔ (evE P cf mf a fr st).wp fun p => clsF p.2 p.1 = some c ∧ Q (.bl true, p.2) := by
  rw [evE]
  simp only [wp_bind]
  refine exists_congr fun p => and_congr_right fun _ => ?_
  dsimp only
  split
  · rename_i h; simp [h]
  · rename_i h; simp [h]
theorem s_par_w {i j : Nat} {a b : E} {N : Fr → Sto → Prop} {T : D → Sto → Prop} : (evS P cf mf (.par i j a b) fr st).wp N T ↔ (evE P cf mf a fr st).wp fun p => (evE P cf mf b fr p.2).wp fun q => N ((fr.set i (some p.1)).set j (some q.1)) q.2 := by
  rw [evS]
  simp only [cw_stm, cw_nx]
theorem w_tzip {a b : E} : (evE P cf mf (.tzip a b) fr st).wp Q ↔ (evE P cf mf a fr st).wp fun p => (evE P cf mf b fr p.2).wp fun q => ∃ xs, listF q.2 p.1 = some xs ∧ ∃ ys, listF q.2 q.1 = some ys ∧ Q (.tup (zipF xs ys), q.2) := by
  rw [evE]
  simp only [wp_bind]
  refine exists_congr fun p => and_congr_right fun _ => exists_congr fun q => and_congr_right fun _ => ?_
  dsimp only
  split
  · rename_i xs ys h1 h2; simp [h1, h2]
  · rename_i h
    simp only [wp_no, false_iff]
    rintro ⟨xs, h1, ys, h2, _⟩
    exact h xs ys h1 h2
theorem w_kget {kvs : List (List Char × D)} {k d : E} : (evE P cf mf (.kget kvs k d) fr st).wp Q ↔ (evE P cf mf k fr st).wp fun p => (evE P cf mf d fr p.2).wp fun q => ∃ x, p.1 = .str x ∧ Q ((getKk kvs x).getD q.1, q.2) := by
  rw [evE]
  simp only [wp_bind]
  refine exists_congr fun p => and_congr_right fun _ => exists_congr fun q => and_congr_right fun _ => ?_
  dsimp only
  split
  · rename_i x h; simp [h]
  · rename_i h; simp only [wp_no, false_iff]; rintro ⟨x, e, _⟩; exact h x e
theorem w_kmem {kvs : List (List Char × D)} {neg : Bool} {k : E} : (evE P cf mf (.kmem kvs neg k) fr st).wp Q ↔ (evE P cf mf k fr st).wp fun p => ∃ x, p.1 = .str x ∧ Q (.bl (if neg = true then !(getKk kvs x).isSome else (getKk kvs x).isSome), p.2) := by
  rw [evE]
  simp only [wp_bind]
  refine exists_congr fun p => and_congr_right fun _ => ?_
  dsimp only
  split
  · rename_i x h; simp [h]
  · rename_i h; simp only [wp_no, false_iff]; rintro ⟨x, e, _⟩; exact h x e
end
end MP
namespace MP
/-- a list so many times -/
def repF {α : Type} (k : Nat) (a : List α) : List α := (List.replicate k a).flatten
theorem sz_eq : SZ = 1000000 := rfl
def mulG (i j : Int) : Prop := i.natAbs.log2 + j.natAbs.log2 < 1000000
def divG (j : Int) : Prop := j.natAbs.log2 < 9000
def powG (i : Int) : Prop := i.natAbs < 2 ^ 64
section
variable {P : Prog} {cf mf : Cf} {fr : Fr} {st : Sto} {Q : D × Sto → Prop}
theorem wp_guard {α : Type} {p : Prop} [Decidable p] {a : α} {Q : α → Prop} : (if p then R.ok a else R.no).wp Q ↔ (p ∧ Q a) := by
  split
  · rename_i h; simp [h]
  · rename_i h; simp [h]
@[simp] theorem op_add_i {i j : Int} : opF .add (.int i) (.int j) st = .ok (.int (i + j), st) := rfl
@[simp] theorem op_sub_i {i j : Int} : opF .sub (.int i) (.int j) st = .ok (.int (i - j), st) := rfl
@[simp] theorem op_mul_i {i j : Int} : (opF .mul (.int i) (.int j) st).wp Q ↔ (mulG i j ∧ Q (.int (i * j), st)) := by
  simp only [opF, wp_guard, and_assoc, mulG]
@[simp] theorem op_mod_i {i j : Int} : (opF .mod (.int i) (.int j) st).wp Q ↔ (0 < j ∧ Q (.int (i % j), st)) := by
  simp only [opF, wp_guard, and_assoc]
@[simp] theorem op_fdiv_i {i j : Int} : (opF .fdiv (.int i) (.int j) st).wp Q ↔ (0 < j ∧ divG j ∧ Q (.int (i / j), st)) := by
  simp only [opF, wp_guard, and_assoc, divG]
@[simp] theorem op_modN_i {i j : Int} : (opF .modN (.int i) (.int j) st).wp Q ↔ (j ≠ 0 ∧ Q (.int (i.fmod j), st)) := by
  simp only [opF]; exact wp_guard
@[simp] theorem op_fdivN_i {i j : Int} : (opF .fdivN (.int i) (.int j) st).wp Q ↔ ((j ≠ 0 ∧ divG j) ∧ Q (.int (i.fdiv j), st)) := by
  simp only [opF]; exact wp_guard
@[simp] theorem op_pow_i {i j : Int} : (opF .pow (.int i) (.int j) st).wp Q ↔ (0 ≤ j ∧ j ≤ 1000000 ∧ powG i ∧ Q (.int (i ^ j.toNat), st)) := by
  simp only [opF, wp_guard, and_assoc, powG]
@[simp] theorem op_add_s {a b : List Char} : (opF .add (.str a) (.str b) st).wp Q ↔ (a.length + b.length ≤ SZ ∧ Q (.str (a ++ b), st)) := by
  simp only [opF, wp_guard, and_assoc]
@[simp] theorem op_add_t {a b : List D} : (opF .add (.tup a) (.tup b) st).wp Q ↔ (a.length + b.length ≤ SZ ∧ Q (.tup (a ++ b), st)) := by
  simp only [opF, wp_guard, and_assoc]
@[simp] theorem op_mul_s {a : List Char} {j : Int} : (opF .mul (.str a) (.int j) st).wp Q ↔ (0 ≤ j ∧ j ≤ 100000 ∧ a.length * j.toNat ≤ SZ ∧ Q (.str (repF j.toNat a), st)) := by
  simp only [opF, wp_guard, and_assoc, repF]
@[simp] theorem op_mul_t {a : List D} {j : Int} : (opF .mul (.tup a) (.int j) st).wp Q ↔ (a ≠ [] ∧ 2 ≤ j ∧ j ≤ 1000 ∧ a.length ≤ 1000 ∧ Q (.tup (repF j.toNat a), st)) := by
  simp only [opF, wp_guard, and_assoc, repF]
@[simp] theorem op_eq {x y : D} : (opF .eq x y st).wp Q ↔ ∃ b, eqF st x y = some b ∧ Q (.bl b, st) := by simp [opF]
@[simp] theorem op_eqt {x y : D} : (opF .eqt x y st).wp Q ↔ ∃ b, eqG st x y = some b ∧ Q (.bl b, st) := by simp [opF]
@[simp] theorem op_net {x y : D} : (opF .net x y st).wp Q ↔ ∃ b, eqG st x y = some b ∧ Q (.bl (!b), st) := by simp [opF]
@[simp] theorem op_ne {x y : D} : (opF .ne x y st).wp Q ↔ ∃ b, eqF st x y = some b ∧ Q (.bl (!b), st) := by simp [opF]
@[simp] theorem op_mem {x y : D} : (opF .mem x y st).wp Q ↔ ∃ b, memF st x y = some b ∧ Q (.bl b, st) := by simp [opF]
@[simp] theorem op_nmem {x y : D} : (opF .nmem x y st).wp Q ↔ ∃ b, memF st x y = some b ∧ Q (.bl (!b), st) := by simp [opF]
@[simp] theorem op_lt_i {i j : Int} : opF .lt (.int i) (.int j) st = .ok (.bl (decide (i < j)), st) := rfl
@[simp] theorem op_le_i {i j : Int} : opF .le (.int i) (.int j) st = .ok (.bl (decide (i ≤ j)), st) := rfl
@[simp] theorem op_gt_i {i j : Int} : opF .gt (.int i) (.int j) st = .ok (.bl (decide (j < i)), st) := rfl
@[simp] theorem op_ge_i {i j : Int} : opF .ge (.int i) (.int j) st = .ok (.bl (decide (j ≤ i)), st) := rfl
@[simp] theorem op_le_s {a b : List Char} : opF .le (.str a) (.str b) st = .ok (.bl (!cmpS b a), st) := rfl
@[simp] theorem eq_ii {i j : Int} : eqF st (.int i) (.int j) = some (i == j) := by simp [eqF, eqT, treeF, T.eqv]
@[simp] theorem eq_bb {i j : Bool} : eqF st (.bl i) (.bl j) = some (i == j) := by simp [eqF, eqT, treeF, T.eqv]
@[simp] theorem eq_ss {i j : List Char} : eqF st (.str i) (.str j) = some (i == j) := by simp [eqF, eqT, treeF, T.eqv]
@[simp] theorem tr_bl {b : Bool} : truthF st (.bl b) = some b := rfl
@[simp] theorem tr_int {i : Int} : truthF st (.int i) = some (i != 0) := rfl
@[simp] theorem tr_non : truthF st .non = some false := rfl
@[simp] theorem tr_tup {xs : List D} : truthF st (.tup xs) = some (!xs.isEmpty) := rfl
@[simp] theorem ix_ref {n : Nat} {xs : List D} {i : Int} (h : st[n]? = some (.lst xs)) : ixF st (.ref n) (.int i) = atF xs i := by simp [ixF, h]
@[simp] theorem ix_tup {xs : List D} {i : Int} : ixF st (.tup xs) (.int i) = atF xs i := rfl
@[simp] theorem ix_kls {xs : List D} {i : Int} : ixF st (.kls xs) (.int i) = atF xs i := rfl
@[simp] theorem len_str {a : List Char} : (biF .len [.str a] st).wp Q ↔ (a.length ≤ SZ ∧ Q (.int a.length, st)) := by
  simp only [biF, wp_guard, and_assoc]
@[simp] theorem len_tup {a : List D} : biF .len [.tup a] st = .ok (.int a.length, st) := rfl
@[simp] theorem len_kls {a : List D} : biF .len [.kls a] st = .ok (.int a.length, st) := rfl
@[simp] theorem len_ref {n : Nat} {xs : List D} (h : st[n]? = some (.lst xs)) : biF .len [.ref n] st = .ok (.int xs.length, st) := by simp [biF, h]
@[simp] theorem min2_i {i j : Int} : biF .min2 [.int i, .int j] st = .ok (.int (if j < i then j else i), st) := rfl
@[simp] theorem max2_i {i j : Int} : biF .max2 [.int i, .int j] st = .ok (.int (if j > i then j else i), st) := rfl
@[simp] theorem ord_s {c : Char} : biF .ord [.str [c]] st = .ok (.int c.toNat, st) := rfl
theorem at_nat {α : Type} {xs : List α} {i : Int} {x : α} (h0 : 0 ≤ i) (h : xs[i.toNat]? = some x) : atF xs i = some x := by
  have hl : i.toNat < xs.length := (List.getElem?_eq_some_iff.mp h).1
  unfold atF idxF
  rw [if_pos h0, if_pos (by omega)]
  exact h
@[simp] theorem at_0 {α : Type} {x : α} {xs : List α} : atF (x :: xs) 0 = some x := at_nat (by decide) rfl
@[simp] theorem at_1 {α : Type} {x y : α} {xs : List α} : atF (x :: y :: xs) 1 = some y := at_nat (by decide) rfl
@[simp] theorem at_2 {α : Type} {x y z : α} {xs : List α} : atF (x :: y :: z :: xs) 2 = some z := at_nat (by decide) rfl
@[simp] theorem ap_ref {n : Nat} {xs : List D} {x : D} (h : st[n]? = some (.lst xs)) : (bmF .l .append (.ref n) [x] st).wp Q ↔ (xs.length < SZ ∧ Q (.non, st.set n (.lst (xs ++ [x])))) := by
  simp only [bmF, lstF, h, lmF, wp_guard]
@[simp] theorem kd_ref {n : Nat} {xs : List D} (h : st[n]? = some (.lst xs)) : kindF st (.ref n) = some .l := by simp [kindF, h]
@[simp] theorem tuple_ref {n : Nat} {xs : List D} (h : st[n]? = some (.lst xs)) : biF .tuple [.ref n] st = .ok (.tup xs, st) := by simp [biF, seqF, h]
theorem at_some {α : Type} {xs : List α} {j : Int} (h0 : 0 ≤ j) (h1 : j < xs.length) : ∃ x ∈ xs, atF xs j = some x :=
  ⟨xs[j.toNat]'(by omega), List.getElem_mem _, at_nat h0 (List.getElem?_eq_getElem (by omega))⟩
mutual
theorem D.beq_refl : ∀ d : D, D.beq d d = true
  | .non => rfl
  | .bl b => by simp [D.beq]
  | .int b => by simp [D.beq]
  | .str b => by simp [D.beq]
  | .tup xs => by rw [D.beq]; exact D.beqs_refl xs
  | .kls xs => by rw [D.beq]; exact D.beqs_refl xs
  | .ref n => by simp [D.beq]
theorem D.beqs_refl : ∀ ds : List D, D.beqs ds ds = true
  | [] => rfl
  | d :: ds => by rw [D.beqs, D.beq_refl d, D.beqs_refl ds]; rfl
end
theorem stands_at {n : Nat} {xs : List D} (h : st[n]? = some (.lst xs)) : stands n xs st = true := by rw [stands, h]; exact D.beqs_refl xs
theorem wk_ref {e : E} {n : Nat} {xs : List D} (h : st[n]? = some (.lst xs)) : walkF e (.ref n) st = .ok (⟨xs, stands n xs⟩, st, id) := by simp only [walkF, h]
theorem wk_tup {e : E} {xs : List D} : walkF e (.tup xs) st = .ok (⟨xs, fun _ => true⟩, st, id) := rfl
theorem wk_kls {e : E} {xs : List D} : walkF e (.kls xs) st = .ok (⟨xs, fun _ => true⟩, st, id) := rfl
theorem wk_str {e : E} {xs : List Char} : walkF e (.str xs) st = .ok (⟨signsF xs, fun _ => true⟩, st, id) := rfl
theorem tg_tup {ts : Tgs} {ds : List D} : tgF (.tup ts) (.tup ds) fr = tgsF ts ds fr := rfl
theorem tgs_nil : tgsF .nil [] fr = some fr := rfl
theorem tgs_cons {i : Nat} {ts : Tgs} {d : D} {ds : List D} : tgsF (.cons (.v i) ts) (d :: ds) fr = tgsF ts ds (fr.set i (some d)) := rfl
theorem sl_tup {xs : List D} {lo hi : Option Int} : slF st (.tup xs) lo hi = .ok (.tup (cutF xs lo hi), st) := rfl
theorem sl_kls {xs : List D} {lo hi : Option Int} : slF st (.kls xs) lo hi = .ok (.ref st.length, st ++ [.lst (cutF xs lo hi)]) := rfl
theorem cut_mem {α : Type} {xs : List α} {lo hi : Option Int} {x : α} (h : x ∈ cutF xs lo hi) : x ∈ xs := List.mem_of_mem_drop (List.mem_of_mem_take h)
theorem cut_len {α : Type} {xs : List α} {lo hi : Option Int} : (cutF xs lo hi).length ≤ xs.length := by unfold cutF; rw [List.length_take, List.length_drop]; omega
@[simp] theorem tg_v {i : Nat} {d : D} : tgF (.v i) d fr = some (fr.set i (some d)) := rfl
@[simp] theorem sto_top {o : O} : (st ++ [o])[st.length]? = some o := by simp
theorem sto_old {o o' : O} {n : Nat} (h : st[n]? = some o) : (st ++ [o'])[n]? = some o := by
  rw [List.getElem?_append_left (List.getElem?_eq_some_iff.mp h).1]; exact h
theorem sto_set {o o' : O} {n : Nat} (h : st[n]? = some o) : (st.set n o')[n]? = some o' := List.getElem?_set_self (List.getElem?_eq_some_iff.mp h).1
theorem setix_ref {n : Nat} {xs : List D} {i : Int} {d : D} (h : st[n]? = some (.lst xs)) (h0 : 0 ≤ i) (h1 : i < xs.length) : setIxF st (.ref n) (.int i) d = some (st.set n (.lst (xs.set i.toNat d))) := by
  simp only [setIxF, h]
  unfold idxF
  rw [if_pos h0, if_pos h1]
  rfl
theorem log_ok {i : Int} (h : -(2 ^ 250) < i ∧ i < 2 ^ 250) : i.natAbs.log2 < 250 := by
  by_cases h0 : i.natAbs = 0
  · rw [h0]; decide
  · exact (Nat.log2_lt h0).mpr (by omega)
theorem mul_ok {i j : Int} (hi : -(2 ^ 250) < i ∧ i < 2 ^ 250) (hj : -(2 ^ 250) < j ∧ j < 2 ^ 250) : mulG i j := by
  have h1 := log_ok hi
  have h2 := log_ok hj
  unfold mulG
  omega
theorem div_ok {j : Int} (hj : -(2 ^ 250) < j ∧ j < 2 ^ 250) : divG j := by
  have h1 := log_ok hj
  unfold divG
  omega
theorem pow_ok {i : Int} (h : -(2 ^ 64) < i ∧ i < 2 ^ 64) : powG i := by unfold powG; omega
theorem pow_10 : powG 10 = True := eq_true (pow_ok (by decide))
theorem mul_lit : mulG 2 1000000000000000000000000000000000000000000000000000000000000 = True := eq_true (mul_ok (by decide) (by decide))
/-- all but b stands as it was -/
def Keep (b : Nat) (st st' : Sto) : Prop := st.length ≤ st'.length ∧ ∀ n, n < st.length → n ≠ b → st'[n]? = st[n]?
theorem Keep.refl {b : Nat} : Keep b st st := ⟨Nat.le_refl _, fun _ _ _ => rfl⟩
theorem Keep.trans {b : Nat} {st1 st2 st3 : Sto} (h : Keep b st1 st2) (h' : Keep b st2 st3) : Keep b st1 st3 :=
  ⟨Nat.le_trans h.1 h'.1, fun n hn hb => (h'.2 n (Nat.lt_of_lt_of_le hn h.1) hb).trans (h.2 n hn hb)⟩
theorem Keep.at {b n : Nat} {st' : Sto} {o : O} (h : Keep b st st') (hn : st[n]? = some o) (hb : n ≠ b) : st'[n]? = some o := by rw [h.2 n (List.getElem?_eq_some_iff.mp hn).1 hb]; exact hn
theorem Keep.set {b : Nat} {o : O} : Keep b st (st.set b o) := ⟨by rw [List.length_set]; exact Nat.le_refl _, fun n _ hb => List.getElem?_set_ne (Ne.symm hb)⟩
theorem Keep.push {b : Nat} {o : O} : Keep b st (st ++ [o]) := ⟨by simp, fun n hn _ => List.getElem?_append_left hn⟩
/-- a law's box of digits -/
def Box (st : Sto) (b : Nat) : Prop := ∃ x m y : Int, st[b]? = some (.lst [.int x, .int m, .int y]) ∧ ((m = 0 ∧ 0 ≤ y ∧ y < 2147483647) ∨ (m = 1 ∧ 0 ≤ x ∧ x < 2147483647))
theorem Box.lt {b : Nat} (h : Box st b) : b < st.length := let ⟨_, _, _, h, _⟩ := h; (List.getElem?_eq_some_iff.mp h).1
theorem Box.keep {b c : Nat} {st' : Sto} (h : Box st b) (k : Keep c st st') (hn : b ≠ c) : Box st' b := let ⟨x, m, y, h, r⟩ := h; ⟨x, m, y, k.at h hn, r⟩
end
section
variable {P : Prog} {st : Sto} {Q : D × Sto → Prop} {n i : Nat}
theorem kls_at {ns : List Int} {k : Int} (h0 : 0 ≤ k) (h : k < ns.length) : ∃ v : Int, atF (ns.map D.int) k = some (.int v) := by
  have hl : k.toNat < ns.length := by omega
  exact ⟨ns[k.toNat], at_nat h0 (by rw [List.getElem?_map, List.getElem?_eq_getElem hl]; rfl)⟩
def _root_.MP.sv0 :=
  And.intro @z_ex1 (
  And.intro @z_ex2 (
  And.intro @z_some (
  And.intro @z_int (
  And.intro @z_bl (
  And.intro @z_str (
  And.intro @z_tup (
  And.intro @z_tt (
  And.intro @z_t2 (
  And.intro @z_dec (
  And.intro @z_ndec (
  And.intro @z_dec2 (
  And.intro @z_beq (
  And.intro @z_bne (
  And.intro @z_tf (
  And.intro @z_ft (
  And.intro @z_t (
  And.intro @z_f (
  And.intro @z_nt (
  And.intro @z_nf (
  And.intro @z_l0 (
  And.intro @z_ls (
  And.intro @z_s0 (
  And.intro @z_ss (
  And.intro @z_ap (
  And.intro @z_an (
  And.intro @z_na (
  And.intro @z_ln (
  And.intro @z_lc (
  And.intro @wp_ok (
  And.intro @wp_no (
  And.intro @wp_ex (
  And.intro @wp_bind (
  And.intro @wp_of (
  And.intro @wp_ite (
  And.intro @wp_newF (
  And.intro @cw_nx (
  And.intro @cw_rt (
  And.intro @cw_no (
  And.intro @cw_ex (
  And.intro @cw_seq (
  And.intro @cw_stm (
  And.intro @cw_un (
  And.intro @cw_ite (
  And.intro @w_v (
  And.intro @w_c (
  And.intro @w_op (
  And.intro @w_neg (
  And.intro @w_not (
  And.intro @w_and (
  And.intro @w_or (
  And.intro @w_ife (
  And.intro @w_chain (
  And.intro @w_isN (
  And.intro @w_notN (
  And.intro @w_isB (
  And.intro @w_tup (
  And.intro @w_lst (
  And.intro @w_dic (
  And.intro @w_call (
  And.intro @w_make (
  And.intro @w_meth (
  And.intro @w_fld (
  And.intro @w_ix (
  And.intro @w_sl (
  And.intro @w_bi (
  And.intro @w_isi (
  And.intro @w_bm (
  And.intro @w_nil (
  And.intro @w_cons (
  And.intro @w_ono (
  And.intro @w_oso (
  And.intro @w_ifs0 (
  And.intro @w_ifs1 (
  And.intro @w_any (
  And.intro @w_range1 (
  And.intro @w_ezip (
  And.intro @w_revr (
  And.intro @w_range2 (
  And.intro @s_set_w (
  And.intro @s_setu_w (
  And.intro @s_setix_w (
  And.intro @s_setfld_w (
  And.intro @s_ex_w (
  And.intro @s_ret_w (
  And.intro @s_retn_w (
  And.intro @s_pass_w (
  And.intro @s_nev_w (
  And.intro @s_ife_w (
  And.intro @s_nil_w (
  And.intro @s_cons_w (
  And.intro @s_for_w (
  And.intro @start0 (
  And.intro @start_cons (
  And.intro @rep0 (
  And.intro @repS (
  And.intro @w_lc (
  And.intro @w_kix (
  And.intro @w_maxd (
  And.intro @w_rvs (
  And.intro @w_pick (
  And.intro @w_isc (
  And.intro @s_par_w (
  And.intro @w_tzip (
  And.intro @w_kget (
  And.intro @w_kmem (
  And.intro @sz_eq (
  And.intro @op_add_i (
  And.intro @op_sub_i (
  And.intro @op_mul_i (
  And.intro @op_mod_i (
  And.intro @op_fdiv_i (
  And.intro @op_modN_i (
  And.intro @op_fdivN_i (
  And.intro @op_pow_i (
  And.intro @op_add_s (
  And.intro @op_add_t (
  And.intro @op_mul_s (
  And.intro @op_mul_t (
  And.intro @op_eq (
  And.intro @op_eqt (
  And.intro @op_net (
  And.intro @op_ne (
  And.intro @op_mem (
  And.intro @op_nmem (
  And.intro @op_lt_i (
  And.intro @op_le_i (
  And.intro @op_gt_i (
  And.intro @op_ge_i (
  And.intro @op_le_s (
  And.intro @eq_ii (
  And.intro @eq_bb (
  And.intro @eq_ss (
  And.intro @tr_bl (
  And.intro @tr_int (
  And.intro @tr_non (
  And.intro @tr_tup (
  And.intro @ix_ref (
  And.intro @ix_tup (
  And.intro @ix_kls (
  And.intro @len_str (
  And.intro @len_tup (
  And.intro @len_kls (
  And.intro @len_ref (
  And.intro @min2_i (
  And.intro @max2_i (
  And.intro @ord_s (
  And.intro @at_0 (
  And.intro @at_1 (
  And.intro @at_2 (
  And.intro @ap_ref (
  And.intro @kd_ref (
  And.intro @tuple_ref (
  And.intro @wk_tup (
  And.intro @wk_kls (
  And.intro @wk_str (
  And.intro @tg_tup (
  And.intro @tgs_nil (
  And.intro @tgs_cons (
  And.intro @sl_tup (
  And.intro @sl_kls (
  And.intro @tg_v (
  And.intro @sto_top (
  And.intro @pow_10 (
  @mul_lit))))))))))))))))))))))))))))))))))))))))))))))))))))))))))))))))))))))))))))))))))))))))))))))))))))))))))))))))))))))))))))))))))))))))))))))))))))))))))))))))))))
theorem cell_spec (h : P.fns[i]? = some fdCell) {ns : List Int} {k : Int} (h0 : 0 ≤ k) (h1 : k < 2 ^ 100) (q : ∀ v : Int, Q (.int v, st)) : (callF P (n + 1) i [.kls (ns.map .int), .int k] st).wp Q := by
  refine call_wp h rfl ?_
  simp only [fdCell, seval, sv0, List.length_map]
  split
  · rename_i hk
    obtain ⟨v, hv⟩ := kls_at h0 hk
    simp only [hv, seval, sv0]
    exact q v
  · exact ⟨mul_ok (by decide) (by omega), q _⟩
theorem box_spec {c : Nat} (h : P.fns[i]? = some (fdBox c)) (hc : P.fns[c]? = some fdCell) {ns : List Int} {k : Int} (h0 : 0 ≤ k) (h1 : k < 2 ^ 100) (q : ∀ st', Box st' st.length → Keep st.length st st' → st'.length = st.length + 1 → Q (.ref st.length, st')) : (callF P (n + 2) i [.kls (ns.map .int), .int k] st).wp Q := by
  refine call_wp h rfl ?_
  simp only [fdBox, seval, sv0]
  refine cell_spec hc h0 h1 fun v => ?_
  simp only [seval, sv0]
  refine ⟨mul_ok (by omega) (by decide), mul_ok (by omega) (by omega), mul_ok (by decide) (by omega), ?_⟩
  refine cell_spec hc (by decide) (by decide) fun v2 => ?_
  simp only [seval, sv0]
  have hsz : 3 ≤ SZ := by decide
  generalize (v % 2147483629 + 11) * 69621 % 2147483629 * ((v % 2147483629 + 11) * 69621 % 2147483629 % 104729 + 1) + 7919 * k = z
  split
  · exact q _ ⟨v, 0, _, sto_top, .inl ⟨rfl, by omega, by omega⟩⟩ Keep.push (by simp)
  · exact q _ ⟨_, 1, 0, sto_top, .inr ⟨rfl, by omega, by omega⟩⟩ Keep.push (by simp)
theorem mem_i {a : Int} : memF st (.int a) (.tup [.int 0, .int (-1)]) = some ((0 == a) || (-1 == a)) := by simp [memF, memF.memL, flatF, eqS]
theorem set_0 {m : Nat} {x d : D} {xs : List D} (h : st[m]? = some (.lst (x :: xs))) : setIxF st (.ref m) (.int 0) d = some (st.set m (.lst (d :: xs))) := setix_ref h (by decide) (by simp only [List.length_cons]; omega)
theorem set_1 {m : Nat} {x y d : D} {xs : List D} (h : st[m]? = some (.lst (x :: y :: xs))) : setIxF st (.ref m) (.int 1) d = some (st.set m (.lst (x :: d :: xs))) := setix_ref h (by decide) (by simp only [List.length_cons]; omega)
/-- how digits are drawn when they are mixed -/
theorem take_tail {b : Nat} {w x y : Int} {st0 : Sto} (hb : st0[b]? = some (.lst [.int x, .int 1, .int y])) (h0 : 0 < w) (hx : 0 ≤ x ∧ x < 2147483647) (hk : Keep b st st0) (hl : st0.length = st.length)
    (q : ∀ (v : Int) st', 0 ≤ v → v < w → Box st' b → Keep b st st' → st'.length = st.length → Q (.int v, st')) : mulG x 69621 ∧ (let z := (x * 69621 + 104729) % 2147483587
      mulG z (z % 16807 + 1) ∧ if 1000000000 < w then powG (z * (z % 16807 + 1) % 2147483579) ∧ 0 < w ∧ Q (.int (((z * (z % 16807 + 1) % 2147483579) ^ 7 + z * (z % 16807 + 1) % 2147483579) % w), st0.set b (.lst [.int z, .int 1, .int y])) else 0 < w ∧ Q (.int (z * (z % 16807 + 1) % 2147483579 % w), st0.set b (.lst [.int z, .int 1, .int y]))) := by
  refine ⟨mul_ok (by omega) (by decide), ?_⟩
  intro z
  have hz : 0 ≤ z ∧ z < 2147483587 := by omega
  have bx : Box (st0.set b (.lst [.int z, .int 1, .int y])) b := ⟨z, 1, y, sto_set hb, .inr ⟨rfl, by omega, by omega⟩⟩
  refine ⟨mul_ok (by omega) (by omega), ?_⟩
  have hu : 0 ≤ z * (z % 16807 + 1) % 2147483579 ∧ z * (z % 16807 + 1) % 2147483579 < 2147483579 := by omega
  generalize z * (z % 16807 + 1) % 2147483579 = u at hu ⊢
  split
  · exact ⟨pow_ok (by omega), h0, q _ _ (Int.emod_nonneg _ (by omega)) (Int.emod_lt_of_pos _ h0) bx (hk.trans Keep.set) (by rw [List.length_set, hl])⟩
  · exact ⟨h0, q _ _ (Int.emod_nonneg _ (by omega)) (Int.emod_lt_of_pos _ h0) bx (hk.trans Keep.set) (by rw [List.length_set, hl])⟩
def _root_.MP.sv1 :=
  And.intro @MP.sv0 (
  @mem_i)
theorem take_spec (h : P.fns[i]? = some fdTake) {b : Nat} {w : Int} (hb : Box st b) (h0 : 0 < w) (h1 : w < 2 ^ 240) (q : ∀ (v : Int) st', 0 ≤ v → v < w → Box st' b → Keep b st st' → st'.length = st.length → Q (.int v, st')) : (callF P (n + 1) i [.ref b, .int w] st).wp Q := by
  refine call_wp h rfl ?_
  obtain ⟨x, m, y, hb, hm⟩ := hb
  have gs : ∀ o, (st.set b o)[b]? = some o := fun o => sto_set hb
  have hsz : 2 ≤ SZ := by decide
  rcases hm with ⟨rfl, hy⟩ | ⟨rfl, hx⟩
  · simp only [fdTake, seval, sv1, ix_ref hb]
    by_cases hc : ((0 == x) || (-1 == x)) = true
    · simp only [hc, seval, sv1, set_0 hb, set_1 (gs _), ix_ref (sto_set (gs _)), set_0 (sto_set (gs _)), ix_ref (sto_set (sto_set (gs _)))]
      exact take_tail (st0 := (st.set b (.lst [.int y, .int 0, .int y])).set b (.lst [.int y, .int 1, .int y])) (sto_set (gs _)) h0 hy (Keep.set.trans Keep.set) (by rw [List.length_set, List.length_set]) q
    · have hc2 : ((0 == x) || (-1 == x)) = false := by simpa using hc
      simp only [hc2, seval, sv1, set_0 hb]
      exact ⟨h0, h0, div_ok (by omega), q _ _ (Int.emod_nonneg _ (by omega)) (Int.emod_lt_of_pos _ h0) ⟨_, 0, y, gs _, .inl ⟨rfl, hy⟩⟩ Keep.set (by rw [List.length_set])⟩
  · simp only [fdTake, seval, sv1, ix_ref hb, set_0 hb, ix_ref (gs _)]
    exact take_tail hb h0 hx Keep.refl rfl q
/-- the signs of a worth's text -/
def signC (c : Char) : Bool := decide (32 ≤ c.toNat) && decide (c.toNat ≤ 126) && !decide (c.toNat = 34) && !decide (c.toNat = 37)
def signsA : List Char := [' ', '!', '#', '$', '&', '\'', '(', ')', '*', '+', ',', '-', '.', '/', '0', '1', '2', '3', '4', '5', '6', '7', '8', '9', ':', ';', '<', '=', '>', '?', '@', 'A', 'B', 'C', 'D', 'E', 'F', 'G', 'H', 'I', 'J', 'K', 'L', 'M', 'N', 'O', 'P', 'Q', 'R', 'S', 'T', 'U', 'V', 'W', 'X', 'Y', 'Z']
def signsB : List Char := ['[', '\\', ']', '^', '_', '`', 'a', 'b', 'c', 'd', 'e', 'f', 'g', 'h', 'i', 'j', 'k', 'l', 'm', 'n', 'o', 'p', 'q', 'r', 's', 't', 'u', 'v', 'w', 'x', 'y', 'z', '{', '|', '}', '~']
def fdText (t : Nat) : FD := ⟨2, 5,
    (.cons (.set (.v 2) (.c (.str signsA)))
    (.cons (.set (.v 2) (.op .add (.v 2) (.c (.str signsB))))
    (.cons (.set (.v 3) (.c (.str [])))
    (.cons (.forr (.v 4) (.range1 (.call t (.cons (.v 0) (.cons (.op .add (.v 1) (.c (.int 1))) .nil)) []))
    (.cons (.set (.v 3) (.op .add (.v 3) (.ix (.v 2) (.call t (.cons (.v 0) (.cons (.bi .len (.cons (.v 2) .nil)) .nil)) []))))
    .nil))
    (.cons (.ret (.v 3))
    .nil)))))⟩
theorem signs_ok : (signsA ++ signsB).all signC = true := by decide +kernel
theorem signs_len : (signsA ++ signsB).length = 93 := by decide +kernel
theorem range_len (lo : Int) (k : Nat) : (rangeF lo k).length = k := by simp [rangeF]
theorem ix_str {a : List Char} {c : Char} {j : Int} (hl : a.length ≤ SZ) (h0 : 0 ≤ j) (h : a[j.toNat]? = some c) : ixF st (.str a) (.int j) = some (.str [c]) := by
  simp only [ixF, if_pos hl, at_nat h0 h, Option.map_some]
theorem text_spec {t : Nat} (h : P.fns[i]? = some (fdText t)) (ht : P.fns[t]? = some fdTake) {b : Nat} {w : Int} (hb : Box st b) (h0 : 0 ≤ w) (h1 : w < 100000) (q : ∀ (x : List Char) st', (x.length : Int) ≤ w → x.all signC = true → Box st' b → Keep b st st' → st'.length = st.length → Q (.str x, st')) : (callF P (n + 2) i [.ref b, .int w] st).wp Q := by
  refine call_wp h rfl ?_
  have hsz : SZ = 1000000 := rfl
  simp only [fdText, seval, sv1]
  refine ⟨by decide, ?_⟩
  refine take_spec ht hb (by omega) (by omega) fun k st1 hk0 hk1 hb1 kp1 hl1 => ?_
  simp only [seval, sv1]
  refine ⟨by omega, by omega, ?_⟩
  refine for_wp (I := fun ds fr st2 => ∃ x : List Char, ∃ e : Option D, fr = [some (.ref b), some (.int w), some (.str (signsA ++ signsB)), some (.str x), e] ∧ x.length + ds.length = k.toNat ∧ x.all signC = true ∧ Box st2 b ∧ Keep b st st2 ∧ st2.length = st.length) (fun _ _ _ _ => rfl) ?_ ?_ _ _ _ ?_
  · rintro d ds fr st2 ⟨x, e, rfl, hx, hs, hb2, kp2, hl2⟩
    simp only [seval, sv1]
    rw [List.length_cons] at hx
    refine ⟨by rw [signs_len]; omega, ?_⟩
    refine take_spec ht hb2 (by rw [signs_len]; decide) (by rw [signs_len]; decide) fun j st3 hj0 hj1 hb3 kp3 hl3 => ?_
    rw [signs_len] at hj1
    have hjl : j.toNat < (signsA ++ signsB).length := by rw [signs_len]; omega
    simp only [ix_str (by rw [signs_len]; omega) hj0 (List.getElem?_eq_getElem hjl), seval, sv1]
    refine ⟨by omega, _, _, rfl, by simp only [List.length_append, List.length_cons, List.length_nil]; omega, ?_, hb3, kp2.trans kp3, by omega⟩
    rw [List.all_append, hs, Bool.true_and, List.all_cons, List.all_nil, Bool.and_true]
    exact List.all_eq_true.mp signs_ok _ (List.getElem_mem hjl)
  · rintro fr st2 ⟨x, e, rfl, hx, hs, hb2, kp2, hl2⟩
    rw [List.length_nil] at hx
    exact ⟨_, rfl, q x st2 (by omega) hs hb2 kp2 hl2⟩
  · exact ⟨[], none, rfl, by rw [range_len]; simp, rfl, hb1, kp1, hl1⟩
theorem number_spec {t : Nat} (h : P.fns[i]? = some (fdNumber t)) (ht : P.fns[t]? = some fdTake) {b : Nat} (hb : Box st b) (q : ∀ (x : Int) st', -(10 ^ 60) < x → x < 10 ^ 60 → Box st' b → Keep b st st' → Q (.int x, st')) : (callF P (n + 2) i [.ref b] st).wp Q := by
  refine call_wp h rfl ?_
  simp only [fdNumber, seval, sv1]
  refine take_spec ht hb (by omega) (by omega) fun k st1 hk0 hk1 hb1 kp1 hl1 => ?_
  simp only [seval, sv1]
  split
  · refine take_spec ht hb1 (by decide) (by decide) fun v st2 hv0 hv1 hb2 kp2 hl2 => ?_
    simp only [seval, sv1]
    refine q _ _ ?_ ?_ hb2 (kp1.trans kp2)
    · omega
    · omega
  · split
    · have hbn : b ≠ st1.length := by have := hb1.lt; omega
      refine take_spec ht (hb1.keep (c := st1.length) Keep.push hbn) (by decide) (by decide) fun v st2 hv0 hv1 hb2 kp2 hl2 => ?_
      have hr := kp2.at sto_top (Ne.symm hbn)
      simp only [ix_ref hr]
      have hv : v = 0 ∨ v = 1 ∨ v = 2 ∨ v = 3 := by omega
      have kp3 := kp1.trans (Keep.push.trans kp2)
      rcases hv with rfl | rfl | rfl | rfl
      · exact ⟨_, at_0, q _ _ (by decide) (by decide) hb2 kp3⟩
      · exact ⟨_, at_1, q _ _ (by decide) (by decide) hb2 kp3⟩
      · exact ⟨_, at_2, q _ _ (by decide) (by decide) hb2 kp3⟩
      · exact ⟨_, at_nat (by decide) rfl, q _ _ (by decide) (by decide) hb2 kp3⟩
    · refine take_spec ht hb1 (by decide) (by decide) fun v st2 hv0 hv1 hb2 kp2 hl2 => ?_
      simp only [seval, sv1]
      exact q _ _ (by omega) (by omega) hb2 (kp1.trans kp2)
end
end MP
namespace MP
/-- a number of a worth -/
def numI (i : Int) : Bool := decide (-(10 ^ 60) < i) && decide (i < 10 ^ 60)
def txtOk (x : List Char) : Bool := decide (x.length ≤ 400) && x.all signC
mutual
/-- size and depth of a worth, or none -/
def mS : D → Option (Int × Int)
  | .int i => if numI i then some (1, 0) else none
  | .str x => if txtOk x then some (1 + x.length, 0) else none
  | .tup xs => if xs.length ≤ 60 then mSs xs 1 0 else none
  | _ => none
def mSs : List D → Int → Int → Option (Int × Int)
  | [], m, d => some (m, d + 1)
  | x :: xs, m, d => match mS x with
    | some p => mSs xs (m + p.1) (if p.2 > d then p.2 else d)
    | none => none
end
mutual
def depD : D → Nat
  | .tup xs => depDs xs + 1
  | _ => 0
def depDs : List D → Nat
  | [] => 0
  | x :: xs => max (depD x) (depDs xs)
end
mutual
/-- what isinstance may ask -/
def Saf (st : Sto) : D → Prop
  | .ref n => (∃ xs, st[n]? = some (.lst xs)) ∨ ∃ kvs, st[n]? = some (.dct kvs)
  | .tup xs => Safs st xs
  | .str x => x.length ≤ SZ
  | _ => True
def Safs (st : Sto) : List D → Prop
  | [] => True
  | x :: xs => Saf st x ∧ Safs st xs
end
def isW (d : D) : Bool := match mS d with
  | some p => decide (p.1 ≤ 1000) && decide (p.2 ≤ 12)
  | none => false
def encM : Option (Int × Int) → D
  | some p => .tup [.int p.1, .int p.2]
  | none => .non
def fdIsWorth (m : Nat) : FD := ⟨1, 2,
    (.cons (.set (.v 1) (.call m (.cons (.v 0) .nil) []))
    (.cons (.ret (.and (.notN (.v 1)) (.and (.op .le (.ix (.v 1) (.c (.int 0))) (.c (.int 1000))) (.op .le (.ix (.v 1) (.c (.int 1))) (.c (.int 12))))))
    .nil))⟩
section
variable {P : Prog} {st : Sto} {Q : D × Sto → Prop} {n i : Nat}
theorem z_if {α : Type} {a b : α} : (if (true : Bool) = true then a else b) = a := rfl
def isInt : D → Bool | .int _ => true | .bl _ => true | _ => false
def isBool : D → Bool | .bl _ => true | _ => false
def isStr : D → Bool | .str _ => true | _ => false
def isTup : D → Bool | .tup _ => true | _ => false
theorem isi_int {d : D} (h : Saf st d) : isiF P st d .int = some (isInt d) := by
  cases d <;> first | rfl | (simp only [Saf] at h; rcases h with ⟨xs, h⟩ | ⟨xs, h⟩ <;> simp only [isiF, h, isInt])
theorem isi_bool {d : D} (h : Saf st d) : isiF P st d .bool = some (isBool d) := by
  cases d <;> first | rfl | (simp only [Saf] at h; rcases h with ⟨xs, h⟩ | ⟨xs, h⟩ <;> simp only [isiF, h, isBool])
theorem isi_str {d : D} (h : Saf st d) : isiF P st d .str = some (isStr d) := by
  cases d <;> first | rfl | (simp only [Saf] at h; rcases h with ⟨xs, h⟩ | ⟨xs, h⟩ <;> simp only [isiF, h, isStr])
theorem isi_tup {d : D} (h : Saf st d) : isiF P st d .tuple = some (isTup d) := by
  cases d <;> first | rfl | (simp only [Saf] at h; rcases h with ⟨xs, h⟩ | ⟨xs, h⟩ <;> simp only [isiF, h, isTup])
def numD : D → Bool | .int i => numI i | _ => false
def _root_.MP.sv2 :=
  And.intro @MP.sv1 (
  @z_if)
theorem isNumber_spec (h : P.fns[i]? = some fdIsNumber) {d : D} (hs : Saf st d) (q : Q (.bl (numD d), st)) : (callF P (n + 1) i [d] st).wp Q := by
  refine call_wp h rfl ?_
  simp only [fdIsNumber, seval, sv2, isi_int hs, isi_bool hs]
  cases d <;> simp only [isInt, isBool, seval, sv2] <;> try exact q
  rename_i k
  simp only [numD, numI] at q
  split
  · rename_i hk
    rw [decide_eq_true (by simpa using hk), Bool.true_and] at q
    exact q
  · rename_i hk
    rw [decide_eq_false (by simpa using hk), Bool.false_and] at q
    exact q
theorem cmp1 (a b : Char) : cmpS [a] [b] = decide (a.toNat < b.toNat) := by
  simp only [cmpS]
  by_cases h : a.toNat < b.toNat
  · simp [h]
  · simp [h]
theorem beq1 (a b : Char) : ([a] == [b]) = decide (a.toNat = b.toNat) := by
  by_cases h : a = b
  · subst h; simp
  · have h2 : a.toNat ≠ b.toNat := fun e => h (Char.toNat_inj.mp e)
    rw [decide_eq_false h2]
    simpa using h
theorem isSign_spec (h : P.fns[i]? = some fdIsSign) {c : Char} (q : Q (.bl (signC c), st)) : (callF P (n + 1) i [.str [c]] st).wp Q := by
  refine call_wp h rfl ?_
  simp only [fdIsSign, seval, sv2, cmp1, beq1]
  have e : signC c = (decide (32 ≤ c.toNat) && decide (c.toNat ≤ 126) && !decide (c.toNat = 34) && !decide (c.toNat = 37)) := rfl
  rw [e] at q
  by_cases h1 : c.toNat < 32
  · rw [if_neg (by omega)]
    rw [decide_eq_false (by omega : ¬ 32 ≤ c.toNat)] at q
    exact q
  · rw [if_pos (by omega)]
    rw [decide_eq_true (by omega : 32 ≤ c.toNat)] at q
    by_cases h2 : 126 < c.toNat
    · rw [if_neg (by omega), decide_eq_true h2]
      rw [decide_eq_false (by omega : ¬ c.toNat ≤ 126)] at q
      exact q
    · rw [if_pos (by omega)]
      rw [decide_eq_true (by omega : c.toNat ≤ 126)] at q
      by_cases h3 : c.toNat = 34
      · rw [if_neg (by omega), decide_eq_true h3]
        rw [decide_eq_true h3] at q
        exact q
      · rw [if_pos (by omega)]
        rw [decide_eq_false h3] at q
        have e4 : ((c.toNat : Int) == 37) = decide (c.toNat = 37) := by
          by_cases h4 : c.toNat = 37
          · simp [h4]
          · rw [decide_eq_false h4]; simp; omega
        rw [e4]
        exact q
def txtD : D → Bool | .str x => txtOk x | _ => false
theorem isText_spec {s : Nat} (h : P.fns[i]? = some (fdIsText s)) (hc : P.fns[s]? = some fdIsSign) {d : D} (hs : Saf st d) (q : Q (.bl (txtD d), st)) : (callF P (n + 2) i [d] st).wp Q := by
  refine call_wp h rfl ?_
  simp only [fdIsText, seval, sv2, isi_str hs]
  cases d <;> simp only [isStr, seval, sv2] <;> try exact q
  rename_i x
  refine ⟨hs, ?_⟩
  simp only [txtD, txtOk] at q
  by_cases hl : x.length ≤ 400
  · rw [if_neg (by omega)]
    rw [decide_eq_true hl, Bool.true_and] at q
    refine for_wp (I := fun ds fr st2 => ∃ (y : List Char) (e : Option D), fr = [some (.str x), e] ∧ ds = signsF y ∧ st2 = st ∧ (Q (.bl (y.all signC), st))) (fun _ _ _ _ => rfl) ?_ ?_ _ _ _ ⟨x, none, rfl, rfl, rfl, q⟩
    · rintro d ds fr st2 ⟨y, e, rfl, hd, rfl, hq⟩
      cases y with
      | nil => cases hd
      | cons c y =>
        obtain ⟨rfl, rfl⟩ : d = .str [c] ∧ ds = signsF y := by
          simp only [signsF, List.map_cons, List.cons.injEq] at hd
          exact hd
        simp only [seval, sv2]
        refine isSign_spec hc ?_
        simp only [seval, sv2]
        rw [List.all_cons] at hq
        split
        · rename_i hf
          rw [hf] at hq
          exact hq
        · rename_i hf
          have ht : signC c = true := by simpa using hf
          rw [ht, Bool.true_and] at hq
          exact ⟨y, _, rfl, rfl, hq⟩
    · rintro fr st2 ⟨y, e, rfl, hd, rfl, hq⟩
      cases y with
      | nil => simp only [seval, sv2, id]; exact hq
      | cons c y => cases hd
  · rw [if_pos (by omega)]
    rw [decide_eq_false hl, Bool.false_and] at q
    exact q
theorem depDs_mem {d : D} : ∀ {xs : List D}, d ∈ xs → depD d ≤ depDs xs
  | [], h => by cases h
  | x :: xs, h => by
    rw [depDs]
    rcases List.mem_cons.mp h with rfl | h
    · omega
    · have := depDs_mem h; omega
theorem safs_mem {d : D} : ∀ {xs : List D}, Safs st xs → d ∈ xs → Saf st d
  | [], _, h => by cases h
  | x :: xs, hs, h => by
    rw [Safs] at hs
    rcases List.mem_cons.mp h with rfl | h
    · exact hs.1
    · exact safs_mem hs.2 h
theorem safs_of : ∀ {xs : List D}, (∀ x ∈ xs, Saf st x) → Safs st xs
  | [], _ => trivial
  | x :: xs, h => ⟨h x List.mem_cons_self, safs_of fun y hy => h y (List.mem_cons_of_mem _ hy)⟩
theorem depDs_le {k : Nat} : ∀ {xs : List D}, (∀ x ∈ xs, depD x ≤ k) → depDs xs ≤ k
  | [], _ => Nat.zero_le _
  | x :: xs, h => by
    rw [depDs]
    have h1 := h x List.mem_cons_self
    have h2 := depDs_le (xs := xs) fun y hy => h y (List.mem_cons_of_mem _ hy)
    omega
theorem mSs_some : ∀ {xs : List D} {a b : Int} {q : Int × Int}, mSs xs a b = some q → ∀ x ∈ xs, ∃ p, mS x = some p
  | [], _, _, _, _, x, hx => by cases hx
  | y :: ys, a, b, q, h, x, hx => by
    rw [mSs] at h
    split at h
    · rename_i p hp
      rcases List.mem_cons.mp hx with rfl | hx
      · exact ⟨p, hp⟩
      · exact mSs_some h x hx
    · cases h
theorem measured_spec {num txt sg : Nat} (h : P.fns[i]? = some (fdMeasured num txt i)) (h1 : P.fns[num]? = some fdIsNumber) (h2 : P.fns[txt]? = some (fdIsText sg)) (h3 : P.fns[sg]? = some fdIsSign) :
    ∀ (n : Nat) (d : D) (Q : D × Sto → Prop), Saf st d → depD d + 3 ≤ n → Q (encM (mS d), st) → (callF P n i [d] st).wp Q := by
  intro n
  induction n with
  | zero => intro d Q hs hn q; omega
  | succ n ih =>
    intro d Q hs hn q
    obtain ⟨m, rfl⟩ : ∃ m, n = m + 2 := ⟨n - 2, by omega⟩
    refine call_wp h rfl ?_
    simp only [fdMeasured, seval, sv2]
    refine isNumber_spec h1 hs ?_
    simp only [seval, sv2]
    split
    · rename_i hk
      cases d <;> simp only [numD, Bool.false_eq_true] at hk
      simp only [mS, hk, if_true, encM] at q
      exact q
    · rename_i hk
      refine isText_spec h2 h3 hs ?_
      simp only [seval, sv2]
      split
      · rename_i hk2
        cases d <;> simp only [txtD, Bool.false_eq_true] at hk2
        simp only [mS, hk2, if_true, encM] at q
        simp only [seval, sv2]
        first | exact ⟨hs, q⟩ | exact q
      · rename_i hk2
        simp only [isi_tup hs, seval, sv2]
        cases d <;> simp only [isTup, seval, sv2]
        case tup xs =>
          simp only [mS] at q
          by_cases hl : xs.length ≤ 60
          · rw [if_pos hl] at q
            rw [if_neg (by omega)]
            refine for_wp (I := fun ds fr st2 => ∃ (ys : List D) (a b : Int) (e e2 : Option D), fr = [some (.tup xs), some (.int a), some (.int b), e, e2] ∧ ds = ys ∧ st2 = st ∧ (∀ y ∈ ys, y ∈ xs) ∧ Q (encM (mSs ys a b), st)) (fun _ _ _ _ => rfl) ?_ ?_ _ _ _ ⟨xs, 1, 0, none, none, rfl, rfl, rfl, fun _ h => h, q⟩
            · rintro d ds fr st2 ⟨ys, a, b, e, e2, rfl, rfl, rfl, hm, hq⟩
              simp only [seval, sv2]
              have hd := hm d List.mem_cons_self
              have hdp := depDs_mem hd
              rw [depD] at hn
              refine ih d _ (safs_mem hs hd) (by omega) ?_
              simp only [seval, sv2]
              rw [mSs] at hq
              cases hms : mS d with
              | none =>
                rw [hms] at hq
                simp only [encM, seval, sv2]
                exact hq
              | some p =>
                rw [hms] at hq
                simp only [encM, seval, sv2]
                exact ⟨ds, _, _, _, _, rfl, rfl, fun y hy => hm y (List.mem_cons_of_mem _ hy), hq⟩
            · rintro fr st2 ⟨ys, a, b, e, e2, rfl, rfl, rfl, hm, hq⟩
              simp only [seval, sv2, id]
              exact hq
          · rw [if_neg hl] at q
            rw [if_pos (by omega)]
            exact q
        case int k =>
          simp only [mS] at q
          rw [if_neg (by simpa [numD] using hk)] at q
          exact q
        case str x =>
          simp only [mS] at q
          rw [if_neg (by simpa [txtD] using hk2)] at q
          exact q
        all_goals exact q
theorem isWorth_spec {ms num txt sg : Nat} (h : P.fns[i]? = some (fdIsWorth ms)) (hm : P.fns[ms]? = some (fdMeasured num txt ms)) (h1 : P.fns[num]? = some fdIsNumber) (h2 : P.fns[txt]? = some (fdIsText sg)) (h3 : P.fns[sg]? = some fdIsSign)
    {d : D} (hs : Saf st d) (hn : depD d + 4 ≤ n) (q : Q (.bl (isW d), st)) : (callF P n i [d] st).wp Q := by
  obtain ⟨m, rfl⟩ : ∃ m, n = m + 1 := ⟨n - 1, by omega⟩
  refine call_wp h rfl ?_
  simp only [fdIsWorth, seval, sv2]
  refine measured_spec hm h1 h2 h3 m d _ hs (by omega) ?_
  simp only [isW] at q
  cases hms : mS d with
  | none =>
    rw [hms] at q
    simp only [encM, seval, sv2]
    exact q
  | some p =>
    rw [hms] at q
    replace q : Q (.bl (decide (p.1 ≤ 1000) && decide (p.2 ≤ 12)), st) := q
    simp only [encM, seval, sv2]
    split
    · rename_i hk
      rw [decide_eq_true (by simpa using hk), Bool.true_and] at q
      exact q
    · rename_i hk
      have e : decide (p.1 ≤ 1000) = false := decide_eq_false hk
      rw [e, Bool.false_and] at q
      rw [e]
      exact q
end
end MP
namespace MP
section
variable {N : Fr → Sto → Prop} {T : D → Sto → Prop}
theorem for_range {turn : D → Fr → Sto → C} {lo : Int} {n : Nat} (I : Nat → Fr → Sto → Prop) (hs : ∀ k fr st, k < n → I k fr st → (turn (.int (lo + k)) fr st).wp (fun fr st => I (k + 1) fr st) T) (he : ∀ fr st, I n fr st → N fr st) {fr : Fr} {st : Sto} (h : I 0 fr st) :
    (forF (fun _ => true) turn (rangeF lo n) fr st).wp N T := by
  refine for_wp (I := fun ds fr st => ∃ k, k ≤ n ∧ ds = (rangeF lo n).drop k ∧ I k fr st) (fun _ _ _ _ => rfl) ?_ ?_ _ _ _ ⟨0, Nat.zero_le _, rfl, h⟩
  · rintro d ds fr st ⟨k, hk, hd, hi⟩
    have hl : (rangeF lo n).length = n := range_len lo n
    have hlt : k < n := by
      by_cases e : k < n
      · exact e
      · rw [List.drop_eq_nil_of_le (by omega)] at hd; cases hd
    rw [List.drop_eq_getElem_cons (by omega)] at hd
    injection hd with h1 h2
    have hd1 : d = .int (lo + k) := by rw [h1]; simp [rangeF]
    rw [hd1]
    exact cw_mono (hs k fr st hlt hi) (fun fr st h => ⟨k + 1, hlt, h2, h⟩) fun _ _ h => h
  · rintro fr st ⟨k, hk, hd, hi⟩
    have hl : (rangeF lo n).length = n := range_len lo n
    have : k = n := by
      by_cases e : k < n
      · rw [List.drop_eq_getElem_cons (by omega)] at hd; cases hd
      · omega
    rw [this] at hi
    exact he fr st hi
end
theorem Keep.new {b f : Nat} {st st' : Sto} {o : O} (h : Keep b st st') (hf : st.length ≤ f) : Keep b st (st'.set f o) := ⟨by rw [List.length_set]; exact h.1, fun n hn hb => by rw [List.getElem?_set_ne (by omega)]; exact h.2 n hn hb⟩
/-- a drawn worth: of so many parts, so deep -/
structure Wd (room deep : Int) (d : D) : Prop where
  saf : ∀ st, Saf st d
  dep : (depD d : Int) ≤ deep
  ms : ∃ s p, mS d = some (s, p) ∧ s ≤ 16 * room ∧ p ≤ deep
theorem Wd.int {room deep i : Int} (hr : 1 ≤ room) (hd : 0 ≤ deep) (h : -(10 ^ 60) < i ∧ i < 10 ^ 60) : Wd room deep (.int i) :=
  ⟨fun _ => trivial, by simp only [depD]; exact hd, 1, 0, by rw [mS, if_pos (by simp only [numI, Bool.and_eq_true, decide_eq_true_eq]; exact h)], by omega, hd⟩
theorem Wd.str {room deep : Int} {x : List Char} (hr : 1 ≤ room) (hd : 0 ≤ deep) (h : (x.length : Int) ≤ 15) (hs : x.all signC = true) : Wd room deep (.str x) :=
  ⟨fun _ => by show x.length ≤ SZ; have : SZ = 1000000 := rfl; omega, by simp only [depD]; exact hd, 1 + x.length, 0, by rw [mS, if_pos (by rw [txtOk, hs, decide_eq_true (by omega : x.length ≤ 400)]; rfl)], by omega, hd⟩
theorem mSs_app (x : D) : ∀ (xs : List D) (a b : Int), mSs (xs ++ [x]) a b = match mSs xs a b with
    | some p => (match mS x with | some q => some (p.1 + q.1, (if q.2 > p.2 - 1 then q.2 else p.2 - 1) + 1) | none => none)
    | none => none
  | [], a, b => by
    rw [List.nil_append, mSs, mSs]
    cases mS x with
    | none => rfl
    | some q => simp only [mSs]; rw [show b + 1 - 1 = b by omega]
  | y :: ys, a, b => by
    rw [List.cons_append, mSs, mSs]
    cases mS y with
    | none => rfl
    | some q => exact mSs_app x ys _ _
theorem depDs_app (x : D) : ∀ xs : List D, depDs (xs ++ [x]) = max (depDs xs) (depD x)
  | [] => by simp [depDs]
  | y :: ys => by rw [List.cons_append, depDs, depDs, depDs_app x ys]; omega
theorem safs_app {st : Sto} {x : D} : ∀ {xs : List D}, Safs st xs → Saf st x → Safs st (xs ++ [x])
  | [], _, h => ⟨h, trivial⟩
  | y :: ys, hs, h => by rw [Safs] at hs; exact ⟨hs.1, safs_app hs.2 h⟩
/-- drawn worths in a row: S parts in all -/
structure Wds (S deep : Int) (xs : List D) : Prop where
  saf : ∀ st, Safs st xs
  dep : (depDs xs : Int) ≤ deep - 1
  ms : ∃ s p, mSs xs 1 0 = some (s, p) ∧ s ≤ 1 + 16 * S ∧ p ≤ deep
theorem Wds.nil {deep : Int} (h : 1 ≤ deep) : Wds 0 deep [] := ⟨fun _ => trivial, by rw [depDs]; omega, 1, 1, rfl, by omega, h⟩
theorem Wds.app {S deep r : Int} {xs : List D} {x : D} (h : Wds S deep xs) (hx : Wd r (deep - 1) x) : Wds (S + r) deep (xs ++ [x]) := by
  obtain ⟨s, p, e1, h1, h2⟩ := h.ms
  obtain ⟨s', p', e2, h3, h4⟩ := hx.ms
  refine ⟨fun st => safs_app (h.saf st) (hx.saf st), by have := h.dep; have := hx.dep; rw [depDs_app]; omega, s + s', _, by rw [mSs_app, e1, e2], by omega, ?_⟩
  split <;> omega
theorem Wds.tup {S deep room : Int} {xs : List D} (h : Wds S deep xs) (hl : xs.length ≤ 60) (hS : S ≤ room - 1) : Wd room deep (.tup xs) := by
  obtain ⟨s, p, e1, h1, h2⟩ := h.ms
  exact ⟨fun st => h.saf st, by rw [depD]; have := h.dep; omega, s, p, by rw [mS, if_pos hl, e1], by omega, h2⟩
section
variable {P : Prog} {i : Nat}
theorem worth_spec {take num txt : Nat} (h : P.fns[i]? = some (fdWorth take num txt i)) (ht : P.fns[take]? = some fdTake) (hn : P.fns[num]? = some (fdNumber take)) (hx : P.fns[txt]? = some (fdText take)) :
    ∀ (n : Nat) (st : Sto) (Q : D × Sto → Prop) (b : Nat) (room deep : Int), Box st b → 1 ≤ room → room < 2 ^ 100 → 0 ≤ deep → deep + 3 ≤ n → (∀ d st', Wd room deep d → Box st' b → Keep b st st' → Q (d, st')) → (callF P n i [.ref b, .int room, .int deep] st).wp Q := by
  intro n
  induction n with
  | zero => intro st Q b room deep hb h1 h2 h3 h4 q; omega
  | succ n ih =>
    intro st Q b room deep hb h1 h2 h3 h4 q
    obtain ⟨m, rfl⟩ : ∃ m, n = m + 2 := ⟨n - 2, by omega⟩
    have hsz : SZ = 1000000 := rfl
    refine call_wp h rfl ?_
    simp only [fdWorth, seval, sv2]
    refine take_spec ht hb (by omega) (by omega) fun k st1 hk0 hk1 hb1 kp1 hl1 => ?_
    simp only [seval, sv2]
    have numc : (callF P (m + 2) num [.ref b] st1).wp Q := number_spec hn ht hb1 fun x st2 hx1 hx2 hb2 kp2 => q _ _ (Wd.int h1 h3 ⟨hx1, hx2⟩) hb2 (kp1.trans kp2)
    have hk : k = 0 ∨ k = 1 ∨ k = 2 := by omega
    rcases hk with rfl | rfl | rfl
    · simp only [seval, sv2]
      exact numc
    · simp only [seval, sv2]
      exact text_spec hx ht hb1 (by decide) (by decide) fun x st2 hx1 hx2 hb2 kp2 hl2 => q _ _ (Wd.str h1 h3 hx1 hx2) hb2 (kp1.trans kp2)
    · by_cases hd : deep < 1
      · simp only [seval, sv2, hd]
        exact numc
      · simp only [seval, sv2, hd]
        refine take_spec ht hb1 (by split <;> omega) (by split <;> omega) fun wide st2 hw0 hw1 hb2 kp2 hl2 => ?_
        have hw61 : wide < 61 := by split at hw1 <;> omega
        have hwr : wide < room := by split at hw1 <;> omega
        simp only [seval, sv2]
        refine ⟨by omega, by omega, ?_⟩
        have hbn : b < st2.length := hb2.lt
        have kp3 : Keep b st (st2 ++ [.lst []]) := (kp1.trans kp2).trans Keep.push
        have hbs : Box (st2 ++ [.lst []]) b := hb2.keep (c := st2.length) Keep.push (by omega)
        refine for_range (I := fun j fr st3 => ∃ (left : Int) (items : List D) (e7 e8 : Option D), fr = [some (.ref b), some (.int room), some (.int deep), some (.int 2), some (.int wide), some (.int left), some (.ref st2.length), e7, e8] ∧
          st3[st2.length]? = some (.lst items) ∧ items.length = j ∧ wide - j ≤ left ∧ left ≤ room - 1 ∧ Wds (room - 1 - left) deep items ∧ Box st3 b ∧ Keep b st st3) ?_ ?_ ⟨room - 1, [], none, none, rfl, sto_top, rfl, by omega, by omega, by rw [show room - 1 - (room - 1) = 0 by omega]; exact Wds.nil (by omega), hbs, kp3⟩
        · rintro j fr st3 hj ⟨left, items, e7, e8, rfl, hf, hl, hle, hle2, hW, hb3, kp4⟩
          simp only [seval, sv2]
          refine take_spec ht hb3 (by omega) (by omega) fun v st4 hv0 hv1 hb4 kp5 hl4 => ?_
          have hf4 := kp5.at hf (by omega)
          simp only [seval, sv2, kd_ref hf4]
          refine ih st4 _ b (1 + v) (deep - 1) hb4 (by omega) (by omega) (by omega) (by omega) fun d st5 hd hb5 kp6 => ?_
          have hf5 := kp6.at hf4 (by omega)
          simp only [ap_ref hf5, seval, sv2]
          refine ⟨by omega, left - (1 + v), items ++ [d], _, _, rfl, sto_set hf5, by rw [List.length_append, hl]; rfl, by omega, by omega, ?_, hb5.keep (c := st2.length) Keep.set (by omega), ?_⟩
          · have := hW.app hd
            rw [show room - 1 - left + (1 + v) = room - 1 - (left - (1 + v)) by omega] at this
            exact this
          · exact ((kp4.trans kp5).trans kp6).new (by have := kp1.1; have := kp2.1; omega)
        · rintro fr st3 ⟨left, items, e7, e8, rfl, hf, hl, hle, hle2, hW, hb3, kp4⟩
          simp only [seval, sv2, id, tuple_ref hf]
          exact q _ _ (hW.tup (by omega) (by omega)) hb3 kp4
end
end MP
namespace MP
/-- what stood stands as it was, new things behind -/
def Grow (st st' : Sto) : Prop := ∃ r, st' = st ++ r
section
variable {st st' st2 : Sto}
theorem Grow.refl : Grow st st := ⟨[], by simp⟩
theorem Grow.trans (h : Grow st st') (h' : Grow st' st2) : Grow st st2 := by
  obtain ⟨r, rfl⟩ := h
  obtain ⟨r', rfl⟩ := h'
  exact ⟨r ++ r', by simp⟩
theorem Grow.push {o : O} : Grow st (st ++ [o]) := ⟨[o], rfl⟩
theorem Grow.at (h : Grow st st') {n : Nat} {o : O} (e : st[n]? = some o) : st'[n]? = some o := by
  obtain ⟨r, rfl⟩ := h
  rw [List.getElem?_append_left (List.getElem?_eq_some_iff.mp e).1]
  exact e
theorem Grow.keep (h : Grow st st') (b : Nat) : Keep b st st' := by
  obtain ⟨r, rfl⟩ := h
  exact ⟨by simp, fun n hn _ => List.getElem?_append_left hn⟩
theorem Grow.len (h : Grow st st') : st.length ≤ st'.length := by
  obtain ⟨r, rfl⟩ := h
  simp
theorem Grow.box (h : Grow st st') {b : Nat} (hb : Box st b) : Box st' b := let ⟨x, m, y, e, r⟩ := hb; ⟨x, m, y, h.at e, r⟩
mutual
theorem Grow.saf (h : Grow st st') : ∀ {d : D}, Saf st d → Saf st' d
  | .non, _ => trivial
  | .bl _, _ => trivial
  | .int _, _ => trivial
  | .kls _, _ => trivial
  | .str _, h => h
  | .tup xs, hs => Grow.safs h (xs := xs) hs
  | .ref n, hs => by
    rcases hs with ⟨xs, e⟩ | ⟨xs, e⟩
    · exact .inl ⟨xs, h.at e⟩
    · exact .inr ⟨xs, h.at e⟩
theorem Grow.safs (h : Grow st st') : ∀ {xs : List D}, Safs st xs → Safs st' xs
  | [], _ => trivial
  | x :: xs, hs => ⟨Grow.saf h hs.1, Grow.safs h hs.2⟩
end
end
section
variable {P : Prog} {cf mf : Cf} {fr : Fr} {st : Sto} {Q : D × Sto → Prop}
/-- a comprehension over a range -/
theorem lc_range {turn : D → Sto → R (Option D × Sto)} {lo : Int} {n : Nat} {Q : List D × Sto → Prop} (I : Nat → List D → Sto → Prop) (hn : n ≤ SZ)
    (hs : ∀ k acc st, k < n → acc.length ≤ k → I k acc st → (turn (.int (lo + k)) st).wp fun p => match p.1 with | some y => I (k + 1) (acc ++ [y]) p.2 | none => I (k + 1) acc p.2) (he : ∀ acc st, I n acc st → Q (acc, st)) (h : I 0 [] st) : (lcF (fun _ => true) turn (rangeF lo n) [] st).wp Q := by
  refine lc_wp (I := fun ds acc st => ∃ k, k ≤ n ∧ ds = (rangeF lo n).drop k ∧ acc.length ≤ k ∧ I k acc st) (fun _ _ _ _ => rfl) ?_ ?_ _ _ _ ⟨0, Nat.zero_le _, rfl, Nat.le_refl _, h⟩
  · rintro d ds acc st ⟨k, hk, hd, ha, hi⟩
    have hl : (rangeF lo n).length = n := range_len lo n
    have hlt : k < n := by
      by_cases e : k < n
      · exact e
      · rw [List.drop_eq_nil_of_le (by omega)] at hd; cases hd
    rw [List.drop_eq_getElem_cons (by omega)] at hd
    injection hd with h1 h2
    have hd1 : d = .int (lo + k) := by rw [h1]; simp [rangeF]
    rw [hd1]
    refine wp_mono (hs k acc st hlt ha hi) fun p hp => ?_
    obtain ⟨p1, p2⟩ := p
    cases p1 with
    | some y => exact ⟨by omega, k + 1, hlt, h2, by rw [List.length_append]; simp only [List.length_cons, List.length_nil]; omega, hp⟩
    | none => exact ⟨k + 1, hlt, h2, by omega, hp⟩
  · rintro acc st ⟨k, hk, hd, ha, hi⟩
    have hl : (rangeF lo n).length = n := range_len lo n
    have : k = n := by
      by_cases e : k < n
      · rw [List.drop_eq_getElem_cons (by omega)] at hd; cases hd
      · omega
    rw [this] at hi
    exact he acc st hi
theorem z_nT : (¬ True) = False := by simp
theorem z_nF : (¬ False) = True := by simp
theorem z_btt : (true == true) = true := rfl
theorem z_bff : (false == false) = true := rfl
theorem z_btf : (true == false) = false := rfl
theorem z_bft : (false == true) = false := rfl
theorem z_bb {b : Bool} : (b == b) = true := by simp
theorem z_sss {x : List Char} : (x == x) = true := by simp
theorem kd_str {x : List Char} : kindF st (.str x) = some .s := rfl
theorem mem_s {c : Char} {b : List Char} : memF st (.str [c]) (.str b) = some (decide (c ∈ b)) := rfl
theorem bls_map : ∀ bs : List Bool, blsF (bs.map D.bl) = some bs
  | [] => rfl
  | b :: bs => by rw [List.map_cons, blsF, bls_map bs]; rfl
theorem ints_map : ∀ bs : List Int, intsF (bs.map D.int) = some bs
  | [] => rfl
  | b :: bs => by rw [List.map_cons, intsF, ints_map bs]; rfl
theorem all_ref {n : Nat} {bs : List Bool} (h : st[n]? = some (.lst (bs.map D.bl))) : biF .all [.ref n] st = .ok (.bl (bs.all id), st) := by
  simp only [biF, listF, h, Option.bind_some, bls_map]
theorem sum_ref {n : Nat} {bs : List Int} (h : st[n]? = some (.lst (bs.map D.int))) : biF .sum [.ref n] st = .ok (.int bs.sum, st) := by
  simp only [biF, listF, h, Option.bind_some, ints_map]
theorem part_s {a : List Char} {c : Char} : (bmF .s .partition (.str a) [.str [c]] st).wp Q ↔ (a.length ≤ SZ ∧ Q ((match partF c a with | some p => .tup [.str p.1, .str [c], .str p.2] | none => .tup [.str a, .str [], .str []]), st)) := by
  simp only [bmF, smF]
  split
  · rename_i h
    cases partF c a <;> simp [h]
  · rename_i h
    simp [h]
theorem split_s {a : List Char} {c : Char} : (bmF .s .split (.str a) [.str [c]] st).wp Q ↔ ((a.length + 2 ≤ SZ ∧ c.toNat < 256) ∧ Q (.ref st.length, st ++ [.lst ((splitF c a).map .str)])) := by
  simp only [bmF, smF, newF, wp_guard]
theorem sl_str {a : List Char} {lo hi : Option Int} : (slF st (.str a) lo hi).wp Q ↔ (a.length ≤ SZ ∧ Q (.str (cutF a lo hi), st)) := by
  simp only [slF, wp_guard]
theorem str_str {a : List Char} : biF .str [.str a] st = .ok (.str a, st) := rfl
theorem starts_s {a : List Char} {c : Char} : bmF .s .startswith (.str a) [.str [c]] st = .ok (.bl (headIs c a), st) := rfl
theorem find_s {a : List Char} {c : Char} : (bmF .s .find (.str a) [.str [c]] st).wp Q ↔ (a.length ≤ SZ ∧ Q (.int (findF c 0 a), st)) := by
  simp only [bmF, smF]; exact wp_guard
theorem find_s2 {a : List Char} {c : Char} {i : Int} : (bmF .s .find (.str a) [.str [c], .int i] st).wp Q ↔ ((a.length ≤ SZ ∧ 0 ≤ i) ∧ Q (.int (findF c i.toNat (a.drop i.toNat)), st)) := by
  simp only [bmF, smF]; exact wp_guard
end
end MP
namespace MP
section
variable {st : Sto} {Q : D × Sto → Prop}
theorem int_bl {b : Bool} : biF .int [.bl b] st = .ok (.int (if b then 1 else 0), st) := rfl
theorem abs_i {i : Int} : biF .abs [.int i] st = .ok (.int (if i < 0 then -i else i), st) := rfl
end
mutual
/-- numbers, texts of worths' signs, tuples of them -/
def rawD : D → Bool
  | .int _ => true
  | .str x => x.all signC && decide (x.length ≤ 2000)
  | .tup xs => decide (xs.length ≤ 2000) && rawDs xs
  | _ => false
def rawDs : List D → Bool
  | [] => true
  | x :: xs => rawD x && rawDs xs
end
mutual
def sizD : D → Nat
  | .str x => 1 + x.length
  | .tup xs => 1 + sizDs xs
  | _ => 1
def sizDs : List D → Nat
  | [] => 0
  | x :: xs => sizD x + sizDs xs
end
mutual
def fitD : D → Bool
  | .int i => decide ((if i < 0 then -i else i) < 10 ^ 60)
  | .str x => decide (x.length ≤ 400)
  | .tup xs => decide (xs.length ≤ 60) && fitDs xs
  | _ => false
def fitDs : List D → Bool
  | [] => true
  | x :: xs => fitD x && fitDs xs
end
theorem rawDs_mem {d : D} : ∀ {xs : List D}, rawDs xs = true → d ∈ xs → rawD d = true
  | [], _, h => by cases h
  | x :: xs, hs, h => by
    rw [rawDs, Bool.and_eq_true] at hs
    rcases List.mem_cons.mp h with rfl | h
    · exact hs.1
    · exact rawDs_mem hs.2 h
theorem rawDs_of : ∀ {xs : List D}, (∀ d ∈ xs, rawD d = true) → rawDs xs = true
  | [], _ => rfl
  | x :: xs, h => by rw [rawDs, h x List.mem_cons_self, rawDs_of fun y hy => h y (List.mem_cons_of_mem _ hy)]; rfl
mutual
theorem raw_saf (st : Sto) : ∀ d : D, rawD d = true → Saf st d
  | .int _, _ => trivial
  | .str x, h => by
    rw [rawD, Bool.and_eq_true, decide_eq_true_eq] at h
    show x.length ≤ 1000000
    omega
  | .tup xs, h => by
    rw [rawD, Bool.and_eq_true] at h
    exact raws_saf st xs h.2
  | .non, h => by cases h
  | .bl _, h => by cases h
  | .kls _, h => by cases h
  | .ref _, h => by cases h
theorem raws_saf (st : Sto) : ∀ ds : List D, rawDs ds = true → Safs st ds
  | [], _ => trivial
  | x :: xs, h => by
    rw [rawDs, Bool.and_eq_true] at h
    exact ⟨raw_saf st x h.1, raws_saf st xs h.2⟩
end
theorem ite_cond {α : Type} {b : Bool} {x y : α} : (if b = true then x else y) = cond b x y := by cases b <;> rfl
mutual
theorem raw_ms : ∀ d : D, rawD d = true → mS d = cond (fitD d) (some ((sizD d : Int), (depD d : Int))) none
  | .int i, _ => by
    have e : numI i = fitD (.int i) := by
      simp only [numI, fitD]
      rw [Bool.eq_iff_iff]
      simp only [Bool.and_eq_true, decide_eq_true_eq]
      split <;> omega
    simp only [mS, ite_cond]
    rw [e]
    rfl
  | .str x, h => by
    rw [rawD, Bool.and_eq_true] at h
    have e : txtOk x = fitD (.str x) := by simp only [txtOk, fitD, h.1, Bool.and_true]
    have e2 : ((sizD (.str x) : Nat) : Int) = 1 + (x.length : Int) := by simp only [sizD]; omega
    simp only [mS, ite_cond]
    rw [e, e2]
    rfl
  | .tup xs, h => by
    rw [rawD, Bool.and_eq_true] at h
    have e : fitD (.tup xs) = (decide (xs.length ≤ 60) && fitDs xs) := by simp only [fitD]
    rw [e]
    simp only [mS]
    by_cases hl : xs.length ≤ 60
    · rw [if_pos hl, decide_eq_true hl, Bool.true_and, raws_ms xs h.2 1 0 (by decide), sizD, depD]
      rw [show max (depDs xs : Int) 0 = depDs xs by omega, show (1 + (sizDs xs : Int)) = ((1 + sizDs xs : Nat) : Int) by omega, show ((depDs xs : Int) + 1) = ((depDs xs + 1 : Nat) : Int) by omega]
    · rw [if_neg hl, decide_eq_false hl, Bool.false_and]
      rfl
  | .non, h => by cases h
  | .bl _, h => by cases h
  | .kls _, h => by cases h
  | .ref _, h => by cases h
theorem raws_ms : ∀ ds : List D, rawDs ds = true → ∀ (a b : Int), 0 ≤ b → mSs ds a b = cond (fitDs ds) (some (a + sizDs ds, max (depDs ds : Int) b + 1)) none
  | [], _, a, b, hb => by
    simp only [mSs, fitDs, sizDs, depDs, cond_true]
    rw [show max ((0 : Nat) : Int) b = b by omega]
    simp
  | x :: xs, h, a, b, hb => by
    rw [rawDs, Bool.and_eq_true] at h
    rw [mSs, raw_ms x h.1, fitDs]
    cases hf : fitD x with
    | true =>
      rw [cond_true, Bool.true_and]
      dsimp only
      rw [raws_ms xs h.2 _ _ (by split <;> omega), sizDs, depDs]
      have e1 : a + (sizD x : Int) + (sizDs xs : Int) = a + ((sizD x + sizDs xs : Nat) : Int) := by omega
      have e2 : max (depDs xs : Int) (if (depD x : Int) > b then (depD x : Int) else b) = max ((max (depD x) (depDs xs) : Nat) : Int) b := by
        split <;> omega
      rw [e1, e2]
    | false => rfl
end
theorem raw_isW {d : D} (h : rawD d = true) : isW d = (fitD d && (decide ((sizD d : Int) ≤ 1000) && decide ((depD d : Int) ≤ 12))) := by
  unfold isW
  rw [raw_ms d h]
  cases fitD d <;> simp
section
variable {P : Prog} {st : Sto} {i : Nat}
def _root_.MP.sv3 :=
  And.intro @MP.sv2 (
  And.intro @z_nT (
  And.intro @z_nF (
  And.intro @z_btt (
  And.intro @z_bff (
  And.intro @z_btf (
  And.intro @z_bft (
  And.intro @z_bb (
  And.intro @z_sss (
  And.intro @kd_str (
  And.intro @mem_s (
  And.intro @part_s (
  And.intro @split_s (
  And.intro @sl_str (
  And.intro @str_str (
  And.intro @starts_s (
  And.intro @find_s (
  And.intro @find_s2 (
  And.intro @int_bl (
  @abs_i)))))))))))))))))))
def fdMade (w : Nat) : FD := ⟨1, 1,
    (.cons (.ife (.call w (.cons (.v 0) .nil) [])
    (.cons (.ret (.tup (.cons (.c (.str ['m', 'a', 'd', 'e'])) (.cons (.v 0) .nil))))
    .nil)
    .nil)
    (.cons (.ret (.c (.tup [(.str ['w', 'r', 'o', 'n', 'g']), (.str ['g', 'r', 'e', 'a', 't']), (.str [])])))
    .nil))⟩
def madeD (d : D) : D := if isW d = true then .tup [.str ['m', 'a', 'd', 'e'], d] else .tup [.str ['w', 'r', 'o', 'n', 'g'], .str ['g', 'r', 'e', 'a', 't'], .str []]
theorem made_spec {w ms num txt sg n : Nat} {Q : D × Sto → Prop} (h0 : P.fns[i]? = some (fdMade w)) (h : P.fns[w]? = some (fdIsWorth ms)) (hm : P.fns[ms]? = some (fdMeasured num txt ms)) (h1 : P.fns[num]? = some fdIsNumber) (h2 : P.fns[txt]? = some (fdIsText sg)) (h3 : P.fns[sg]? = some fdIsSign)
    {d : D} (hs : Saf st d) (hn : depD d + 5 ≤ n) (q : Q (madeD d, st)) : (callF P n i [d] st).wp Q := by
  obtain ⟨m, rfl⟩ : ∃ m, n = m + 1 := ⟨n - 1, by omega⟩
  refine call_wp h0 rfl ?_
  simp only [fdMade, seval, sv3]
  refine isWorth_spec h hm h1 h2 h3 hs (by omega) ?_
  simp only [seval, sv3]
  unfold madeD at q
  split
  · rename_i hk
    rw [if_pos hk] at q
    exact q
  · rename_i hk
    rw [if_neg hk] at q
    exact q
def fdSame (self : Nat) : FD := ⟨2, 3,
    (.cons (.ife (.or (.isi (.v 0) .bool) (.isi (.v 1) .bool))
    (.cons (.ret (.and (.isi (.v 0) .bool) (.and (.isi (.v 1) .bool) (.op .eq (.v 0) (.v 1)))))
    .nil)
    .nil)
    (.cons (.ife (.or (.isi (.v 1) .tuple) (.isi (.v 1) .list))
    (.cons (.ife (.and (.not (.isi (.v 0) .tuple)) (.not (.isi (.v 0) .list)))
    (.cons (.ret (.c (.bl false)))
    .nil)
    .nil)
    (.cons (.ife (.or (.op .ne (.isi (.v 0) .list) (.isi (.v 1) .list)) (.op .ne (.bi .len (.cons (.v 0) .nil)) (.bi .len (.cons (.v 1) .nil))))
    (.cons (.ret (.c (.bl false)))
    .nil)
    .nil)
    (.cons (.ret (.bi .all (.cons (.lc (.v 2) (.range1 (.bi .len (.cons (.v 1) .nil))) .nil (.call self (.cons (.ix (.v 0) (.v 2)) (.cons (.ix (.v 1) (.v 2)) .nil)) []) [2]) .nil)))
    .nil)))
    .nil)
    (.cons (.ife (.isi (.v 1) .str)
    (.cons (.ret (.and (.isi (.v 0) .str) (.op .eq (.v 0) (.v 1))))
    .nil)
    .nil)
    (.cons (.ife (.isi (.v 1) .int)
    (.cons (.ret (.and (.isi (.v 0) .int) (.op .eq (.v 0) (.v 1))))
    .nil)
    .nil)
    (.cons (.ret (.and (.isN (.v 0)) (.isN (.v 1))))
    .nil)))))⟩
def isLst : D → Bool | .kls _ => true | _ => false
theorem isi_list {d : D} (h : rawD d = true) : isiF P st d .list = some (isLst d) := by
  cases d <;> first | rfl | (exact absurd h Bool.false_ne_true)
theorem all_true : ∀ k, (List.replicate k true).all id = true
  | 0 => rfl
  | k + 1 => by rw [List.replicate_succ, List.all_cons, all_true k]; rfl
theorem same_spec (h : P.fns[i]? = some (fdSame i)) : ∀ (n : Nat) (st : Sto) (Q : D × Sto → Prop) (d : D), rawD d = true → depD d + 1 ≤ n → (∀ st', Grow st st' → Q (.bl true, st')) → (callF P n i [d, d] st).wp Q := by
  intro n
  induction n with
  | zero => intro st Q d hr hn q; omega
  | succ n ih =>
    intro st Q d hr hn q
    refine call_wp h rfl ?_
    have hs := raw_saf st d hr
    simp only [fdSame, seval, sv3, isi_str hs, isi_tup hs, isi_bool hs, isi_int hs, isi_list hr]
    cases d <;> simp only [isStr, isTup, isBool, isInt, isLst, seval, sv3] <;> try (exact absurd hr Bool.false_ne_true)
    case int k =>
      have e : (k == k) = true := by simp
      rw [e]
      exact q st Grow.refl
    case str x => exact q st Grow.refl
    case tup xs =>
      rw [rawD, Bool.and_eq_true, decide_eq_true_eq] at hr
      rw [depD] at hn
      have e0 : ¬ (((xs.length : Int) == (xs.length : Int)) = false) := by simp
      rw [if_neg e0]
      have hz : SZ = 1000000 := rfl
      refine ⟨by omega, by omega, ?_⟩
      refine lc_range (I := fun k acc st2 => acc = List.replicate k (.bl true) ∧ Grow st st2) (by omega) ?_ ?_ ⟨rfl, Grow.refl⟩
      · rintro k acc st2 hk ha ⟨rfl, g⟩
        have hkl : k < xs.length := by omega
        have e : atF xs (0 + (k : Int)) = some xs[k] := at_nat (by omega) (by rw [show (0 + (k : Int)).toNat = k by omega]; exact List.getElem?_eq_getElem hkl)
        simp only [seval, sv3, wipeF, e]
        have hm := List.getElem_mem hkl
        have := depDs_mem hm
        refine ih st2 _ _ (rawDs_mem hr.2 hm) (by omega) fun st3 g3 => ?_
        simp only [seval, sv3]
        exact ⟨List.replicate_succ'.symm, g.trans g3⟩
      · rintro acc st2 ⟨rfl, g⟩
        simp only [seval, sv3, id]
        have e : (st2 ++ [O.lst (List.replicate (xs.length : Int).toNat (D.bl true))])[st2.length]? = some (.lst ((List.replicate (xs.length : Int).toNat true).map .bl)) := by rw [sto_top, List.map_replicate]
        rw [all_ref e, wp_ok, all_true]
        exact q _ (g.trans Grow.push)
mutual
theorem ms_raw : ∀ (d : D) (p : Int × Int), mS d = some p → rawD d = true
  | .int _, _, _ => rfl
  | .str x, p, h => by
    simp only [mS] at h
    split at h
    · rename_i hk
      rw [txtOk, Bool.and_eq_true, decide_eq_true_eq] at hk
      rw [rawD, hk.2, decide_eq_true (by omega)]
      rfl
    · cases h
  | .tup xs, p, h => by
    simp only [mS] at h
    split at h
    · rw [rawD, decide_eq_true (by omega), mss_raw xs _ _ p h]
      rfl
    · cases h
  | .non, p, h => by simp [mS] at h
  | .bl b, p, h => by simp [mS] at h
  | .kls b, p, h => by simp [mS] at h
  | .ref b, p, h => by simp [mS] at h
theorem mss_raw : ∀ (xs : List D) (a b : Int) (p : Int × Int), mSs xs a b = some p → rawDs xs = true
  | [], _, _, _, _ => rfl
  | x :: xs, a, b, p, h => by
    rw [mSs] at h
    split at h
    · rename_i q hq
      rw [rawDs, ms_raw x q hq, mss_raw xs _ _ p h]
      rfl
    · cases h
end
theorem Wd.raw {room deep : Int} {d : D} (h : Wd room deep d) : rawD d = true := by
  obtain ⟨s, p, e, _⟩ := h.ms
  exact ms_raw d _ e
section
variable {cf mf : Cf} {fr : Fr} {N : Fr → Sto → Prop} {T : D → Sto → Prop}
theorem w_test {x : RD} {Q : Bool × Sto → Prop} : (testF x).wp Q ↔ x.wp fun p => ∃ b, truthF p.2 p.1 = some b ∧ Q (b, p.2) := by
  simp only [testF, wp_bind, wp_of, wp_ok]
theorem s_whl_w {c : E} {b : Ss} : (evS P cf mf (.whl c b) fr st).wp N T ↔ (whlF (fun fr st => testF (evE P cf mf c fr st)) (fun fr st => evSs P cf mf b fr st) WF fr st).wp N T := by rw [evS]
end
end
end MP
namespace MP
mutual
/-- None, truths, numbers, texts, tuples of them -/
def purD : D → Bool
  | .str x => decide (x.length ≤ 100000)
  | .tup xs => decide (xs.length ≤ 100000) && purDs xs
  | .kls _ => false
  | .ref _ => false
  | _ => true
def purDs : List D → Bool
  | [] => true
  | x :: xs => purD x && purDs xs
end
theorem purDs_mem {d : D} : ∀ {xs : List D}, purDs xs = true → d ∈ xs → purD d = true
  | [], _, h => by cases h
  | x :: xs, hs, h => by
    rw [purDs, Bool.and_eq_true] at hs
    rcases List.mem_cons.mp h with rfl | h
    · exact hs.1
    · exact purDs_mem hs.2 h
theorem purDs_of : ∀ {xs : List D}, (∀ d ∈ xs, purD d = true) → purDs xs = true
  | [], _ => rfl
  | x :: xs, h => by rw [purDs, h x List.mem_cons_self, purDs_of fun y hy => h y (List.mem_cons_of_mem _ hy)]; rfl
mutual
theorem pur_saf (st : Sto) : ∀ d : D, purD d = true → Saf st d
  | .int _, _ => trivial
  | .non, _ => trivial
  | .bl _, _ => trivial
  | .str x, h => by
    rw [purD, decide_eq_true_eq] at h
    show x.length ≤ 1000000
    omega
  | .tup xs, h => by
    rw [purD, Bool.and_eq_true] at h
    exact purs_saf st xs h.2
  | .kls _, h => by cases h
  | .ref _, h => by cases h
theorem purs_saf (st : Sto) : ∀ ds : List D, purDs ds = true → Safs st ds
  | [], _ => trivial
  | x :: xs, h => by
    rw [purDs, Bool.and_eq_true] at h
    exact ⟨pur_saf st x h.1, purs_saf st xs h.2⟩
end
mutual
theorem raw_pur : ∀ d : D, rawD d = true → purD d = true
  | .int _, _ => rfl
  | .str x, h => by
    rw [rawD, Bool.and_eq_true, decide_eq_true_eq] at h
    rw [purD, decide_eq_true (by omega)]
  | .tup xs, h => by
    rw [rawD, Bool.and_eq_true, decide_eq_true_eq] at h
    rw [purD, decide_eq_true (by omega), raws_pur xs h.2]
    rfl
  | .non, h => by cases h
  | .bl _, h => by cases h
  | .kls _, h => by cases h
  | .ref _, h => by cases h
theorem raws_pur : ∀ ds : List D, rawDs ds = true → purDs ds = true
  | [], _ => rfl
  | x :: xs, h => by
    rw [rawDs, Bool.and_eq_true] at h
    rw [purDs, raw_pur x h.1, raws_pur xs h.2]
    rfl
end
mutual
/-- no truth within, nor None: then == is alikeness -/
def numD' : D → Bool
  | .int _ => true
  | .str _ => true
  | .tup xs => numDs' xs
  | _ => false
def numDs' : List D → Bool
  | [] => true
  | x :: xs => numD' x && numDs' xs
end
mutual
def toT : D → T
  | .non => .non
  | .bl b => .bl b
  | .int i => .int i
  | .str x => .str x
  | .tup xs => .tup (toTs xs)
  | .kls _ => .non
  | .ref _ => .non
def toTs : List D → List T
  | [] => []
  | x :: xs => toT x :: toTs xs
end
mutual
theorem tree_pur (st : Sto) : ∀ (d : D) (n : Nat), purD d = true → depD d ≤ n → treeF st n d = some (toT d)
  | .non, n, _, _ => by cases n <;> simp [treeF, toT]
  | .bl b, n, _, _ => by cases n <;> simp [treeF, toT]
  | .int i, n, _, _ => by cases n <;> simp [treeF, toT]
  | .str x, n, _, _ => by cases n <;> simp [treeF, toT]
  | .tup xs, n, h, hn => by
    rw [purD, Bool.and_eq_true] at h
    rw [depD] at hn
    obtain ⟨m, rfl⟩ : ∃ m, n = m + 1 := ⟨n - 1, by omega⟩
    rw [treeF, trees_pur st xs m h.2 (by omega)]
    rfl
  | .kls _, n, h, _ => by cases h
  | .ref _, n, h, _ => by cases h
theorem trees_pur (st : Sto) : ∀ (ds : List D) (n : Nat), purDs ds = true → depDs ds ≤ n → treesF st n ds = some (toTs ds)
  | [], n, _, _ => by simp [treesF, toTs]
  | x :: xs, n, h, hn => by
    rw [purDs, Bool.and_eq_true] at h
    rw [depDs] at hn
    rw [treesF, tree_pur st x n h.1 (by omega), trees_pur st xs n h.2 (by omega)]
    rfl
end
mutual
theorem eqv_num : ∀ (a b : D), numD' a = true → numD' b = true → T.eqv (toT a) (toT b) = D.beq a b
  | .int i, b, _, hb => by
    cases b <;> first | (exact absurd hb Bool.false_ne_true) | rfl
  | .str x, b, _, hb => by
    cases b <;> first | (exact absurd hb Bool.false_ne_true) | rfl
  | .tup xs, b, ha, hb => by
    cases b with
    | tup ys =>
      rw [numD'] at ha hb
      rw [toT, toT, T.eqv, D.beq]
      exact eqvs_num xs ys ha hb
    | _ => first | (exact absurd hb Bool.false_ne_true) | rfl
  | .non, _, h, _ => by cases h
  | .bl _, _, h, _ => by cases h
  | .kls _, _, h, _ => by cases h
  | .ref _, _, h, _ => by cases h
theorem eqvs_num : ∀ (as bs : List D), numDs' as = true → numDs' bs = true → T.eqvs (toTs as) (toTs bs) = D.beqs as bs
  | [], [], _, _ => rfl
  | [], _ :: _, _, _ => rfl
  | _ :: _, [], _, _ => rfl
  | a :: as, b :: bs, ha, hb => by
    rw [numDs', Bool.and_eq_true] at ha hb
    rw [toTs, toTs, T.eqvs, D.beqs, eqv_num a b ha.1 hb.1, eqvs_num as bs ha.2 hb.2]
end
theorem eq_num {st : Sto} {a b : D} (ha : purD a = true) (hb : purD b = true) (na : numD' a = true) (nb : numD' b = true) (da : depD a ≤ 60) (db : depD b ≤ 60) : eqF st a b = some (D.beq a b) := by
  rw [eqF, eqT, tree_pur st a 60 ha da, tree_pur st b 60 hb db]
  simp only [eqv_num a b na nb]
mutual
theorem raw_num : ∀ d : D, rawD d = true → numD' d = true
  | .int _, _ => rfl
  | .str x, h => rfl
  | .tup xs, h => by
    rw [rawD, Bool.and_eq_true] at h
    rw [numD', raws_num xs h.2]
  | .non, h => by cases h
  | .bl _, h => by cases h
  | .kls _, h => by cases h
  | .ref _, h => by cases h
theorem raws_num : ∀ ds : List D, rawDs ds = true → numDs' ds = true
  | [], _ => rfl
  | x :: xs, h => by
    rw [rawDs, Bool.and_eq_true] at h
    rw [numDs', raw_num x h.1, raws_num xs h.2]
    rfl
end
/-- an int's figures: how many -/
theorem digC_len : ∀ (f k n : Nat) (acc : List Char), n < 10 ^ (k + 1) → (Nat.toDigitsCore 10 f n acc).length ≤ acc.length + k + 1
  | 0, k, n, acc, _ => by rw [Nat.toDigitsCore]; omega
  | f + 1, k, n, acc, h => by
    rw [Nat.toDigitsCore]
    split
    · simp only [List.length_cons]; omega
    · cases k with
      | zero =>
        rename_i hne
        exact absurd (Nat.div_eq_of_lt (by simpa using h)) hne
      | succ k =>
        have := digC_len f k (n / 10) (Nat.digitChar (n % 10) :: acc) (by rw [Nat.div_lt_iff_lt_mul (by decide)]; rw [Nat.pow_succ] at h; exact h)
        rw [List.length_cons] at this
        omega
theorem showI_len {i : Int} {k : Nat} (h : i.natAbs < 10 ^ (k + 1)) : (showI i).length ≤ k + 2 := by
  cases i with
  | ofNat n =>
    have := digC_len (n + 1) k n [] h
    show (Nat.toDigits 10 n).length ≤ _
    unfold Nat.toDigits
    simp only [List.length_nil] at this
    omega
  | negSucc n =>
    have := digC_len (n + 1 + 1) k (n + 1) [] h
    show ('-' :: Nat.toDigits 10 (n + 1)).length ≤ _
    unfold Nat.toDigits
    simp only [List.length_nil, List.length_cons] at this ⊢
    omega
end MP
namespace MP
section
variable {P : Prog} {cf mf : Cf} {fr : Fr} {st : Sto}
def zipD (x y : D) (st : Sto) : R (Wk × Sto × (Sto → Sto)) := match listF st x, listF st y with
    | some xs, some ys => .ok (⟨zipF xs ys, fun s => standsD x xs s && standsD y ys s⟩, st, id)
    | _, _ => match x, y with
      | .tup xs, .tup ys => .ok (⟨zipF xs ys, fun _ => true⟩, st, id)
      | _, _ => .no
theorem w_zip {a b : E} {Q : Wk × Sto × (Sto → Sto) → Prop} : (evIt P cf mf (.zip a b) fr st).wp Q ↔ (evE P cf mf a fr st).wp fun p => (evE P cf mf b fr p.2).wp fun q => (zipD p.1 q.1 q.2).wp Q := by
  rw [evIt]; first | (simp only [wp_bind]; done) | (simp only [wp_bind]; rfl)
theorem zip_tup {xs ys : List D} : zipD (.tup xs) (.tup ys) st = .ok (⟨zipF xs ys, fun _ => true⟩, st, id) := rfl
/-- plain, so deep -/
structure Pu (k : Nat) (d : D) : Prop where
  pur : purD d = true
  dep : depD d ≤ k
theorem Pu.mem {k : Nat} {xs : List D} (h : Pu (k + 1) (.tup xs)) {d : D} (hd : d ∈ xs) : Pu k d := by
  have h1 := h.pur
  have h3 := h.dep
  rw [purD, Bool.and_eq_true] at h1
  rw [depD] at h3
  have := depDs_mem hd
  exact ⟨purDs_mem h1.2 hd, by omega⟩
theorem Pu.mono {k l : Nat} {d : D} (h : Pu k d) (hl : k ≤ l) : Pu l d := ⟨h.pur, Nat.le_trans h.dep hl⟩
theorem Pu.len {k : Nat} {xs : List D} (h : Pu k (.tup xs)) : xs.length ≤ 100000 := by
  have := h.pur
  rw [purD, Bool.and_eq_true, decide_eq_true_eq] at this
  exact this.1
theorem Pu.saf {k : Nat} {d : D} (h : Pu k d) (st : Sto) : Saf st d := pur_saf st d h.pur
theorem fld_ins {s c f : Nat} {fs : List (Nat × D)} {d : D} (h : st[s]? = some (.ins c fs)) (hf : fldN fs f = some d) : fldF st (.ref s) f = some d := by simp only [fldF, h, hf]
theorem cls_ins {s c : Nat} {fs : List (Nat × D)} (h : st[s]? = some (.ins c fs)) : clsF st (.ref s) = some c := by simp only [clsF, h]
end
end MP
set_option maxHeartbeats 4000000
namespace MP
theorem z_sbeq {i j : List Char} : ((i == j) = true) = (i = j) := by simp
theorem str_i {st : Sto} {i : Int} {Q : D × Sto → Prop} : (biF .str [.int i] st).wp Q ↔ (i.natAbs.log2 < 1900 ∧ Q (.str (showI i), st)) := by
  simp only [biF]; exact wp_guard
def wrD (x : List Char) : D := .tup [.str ['w', 'r', 'o', 'n', 'g'], .str x, .str []]
def kindD : D := wrD ['k', 'i', 'n', 'd']
def noughtD : D := wrD ['n', 'o', 'u', 'g', 'h', 't']
def placeD : D := wrD ['p', 'l', 'a', 'c', 'e']
abbrev sList : List Char := ['l', 'i', 's', 't']
abbrev sCount : List Char := ['c', 'o', 'u', 'n', 't']
abbrev sFigures : List Char := ['f', 'i', 'g', 'u', 'r', 'e', 's']
abbrev sSame : List Char := ['s', 'a', 'm', 'e']
abbrev sJoin : List Char := ['j', 'o', 'i', 'n']
abbrev sItem : List Char := ['i', 't', 'e', 'm']
def numW (w : List Char) : D → D → D
  | .int i, .int j => if w = ['/'] ∧ j = 0 then noughtD else if w = ['+'] then madeD (.int (i + j)) else if w = ['-'] then madeD (.int (i - j)) else if w = ['*'] then madeD (.int (i * j)) else if w = ['/'] then madeD (.int (i.fdiv j)) else madeD (.int (if i < j then 1 else 0))
  | _, _ => kindD
def joinD : D → D → D
  | .str x, .str y => madeD (.str (x ++ y))
  | .tup xs, .tup ys => madeD (.tup (xs ++ ys))
  | _, _ => kindD
def itemD : D → D → D
  | .tup xs, .int i => if 0 ≤ i ∧ i < xs.length then madeD ((atF xs i).getD .non) else placeD
  | _, _ => kindD
def countD : D → D
  | .str x => madeD (.int x.length)
  | .tup xs => madeD (.int xs.length)
  | _ => kindD
def figD : D → D
  | .int i => madeD (.str (showI i))
  | _ => kindD
def rekD (w : List Char) (ws : List D) : D :=
  if w = sList then madeD (.tup ws) else if w = sCount then countD (ws.headD .non) else if w = sFigures then figD (ws.headD .non)
  else if w = sSame then madeD (.int (if D.beq (ws.headD .non) (ws.tail.headD .non) = true then 1 else 0)) else if w = sJoin then joinD (ws.headD .non) (ws.tail.headD .non)
  else if w = sItem then itemD (ws.headD .non) (ws.tail.headD .non) else numW w (ws.headD .non) (ws.tail.headD .non)
def fdSameP : FD := ⟨2, 2,
    (.cons (.ret (.op .eq (.v 0) (.v 1)))
    .nil)⟩
def fdSum (m : Nat) : FD := ⟨3, 3,
    (.cons (.ife (.or (.not (.isi (.v 1) .int)) (.not (.isi (.v 2) .int)))
    (.cons (.ret (.c (.tup [(.str ['w', 'r', 'o', 'n', 'g']), (.str ['k', 'i', 'n', 'd']), (.str [])])))
    .nil)
    .nil)
    (.cons (.ife (.and (.op .eq (.v 0) (.c (.str ['/']))) (.op .eq (.v 2) (.c (.int 0))))
    (.cons (.ret (.c (.tup [(.str ['w', 'r', 'o', 'n', 'g']), (.str ['n', 'o', 'u', 'g', 'h', 't']), (.str [])])))
    .nil)
    .nil)
    (.cons (.ife (.op .eq (.v 0) (.c (.str ['+'])))
    (.cons (.ret (.call m (.cons (.op .add (.v 1) (.v 2)) .nil) []))
    .nil)
    .nil)
    (.cons (.ife (.op .eq (.v 0) (.c (.str ['-'])))
    (.cons (.ret (.call m (.cons (.op .sub (.v 1) (.v 2)) .nil) []))
    .nil)
    .nil)
    (.cons (.ife (.op .eq (.v 0) (.c (.str ['*'])))
    (.cons (.ret (.call m (.cons (.op .mul (.v 1) (.v 2)) .nil) []))
    .nil)
    .nil)
    (.cons (.ife (.op .eq (.v 0) (.c (.str ['/'])))
    (.cons (.ret (.call m (.cons (.op .fdivN (.v 1) (.v 2)) .nil) []))
    .nil)
    .nil)
    (.cons (.ret (.call m (.cons (.bi .int (.cons (.op .lt (.v 1) (.v 2)) .nil)) .nil) []))
    .nil)))))))⟩
def fdJoined (m : Nat) : FD := ⟨2, 2,
    (.cons (.ife (.and (.isi (.v 0) .str) (.isi (.v 1) .str))
    (.cons (.ret (.call m (.cons (.op .add (.v 0) (.v 1)) .nil) []))
    .nil)
    .nil)
    (.cons (.ife (.and (.isi (.v 0) .tuple) (.isi (.v 1) .tuple))
    (.cons (.ret (.call m (.cons (.op .add (.v 0) (.v 1)) .nil) []))
    .nil)
    .nil)
    (.cons (.ret (.c (.tup [(.str ['w', 'r', 'o', 'n', 'g']), (.str ['k', 'i', 'n', 'd']), (.str [])])))
    .nil)))⟩
def fdItem (m : Nat) : FD := ⟨2, 2,
    (.cons (.ife (.or (.not (.isi (.v 0) .tuple)) (.not (.isi (.v 1) .int)))
    (.cons (.ret (.c (.tup [(.str ['w', 'r', 'o', 'n', 'g']), (.str ['k', 'i', 'n', 'd']), (.str [])])))
    .nil)
    .nil)
    (.cons (.ife (.not (.chain .le .lt (.c (.int 0)) (.v 1) (.bi .len (.cons (.v 0) .nil))))
    (.cons (.ret (.c (.tup [(.str ['w', 'r', 'o', 'n', 'g']), (.str ['p', 'l', 'a', 'c', 'e']), (.str [])])))
    .nil)
    .nil)
    (.cons (.ret (.call m (.cons (.ix (.v 0) (.v 1)) .nil) []))
    .nil)))⟩
def fdReck (m sm su jo it : Nat) : FD := ⟨2, 3,
    (.cons (.ife (.op .eq (.v 0) (.c (.str ['l', 'i', 's', 't'])))
    (.cons (.ret (.call m (.cons (.bi .tuple (.cons (.v 1) .nil)) .nil) []))
    .nil)
    .nil)
    (.cons (.set (.v 2) (.ix (.v 1) (.c (.int 0))))
    (.cons (.ife (.op .eq (.v 0) (.c (.str ['c', 'o', 'u', 'n', 't'])))
    (.cons (.ife (.isi (.v 2) .int)
    (.cons (.ret (.c (.tup [(.str ['w', 'r', 'o', 'n', 'g']), (.str ['k', 'i', 'n', 'd']), (.str [])])))
    .nil)
    .nil)
    (.cons (.ret (.call m (.cons (.bi .len (.cons (.v 2) .nil)) .nil) []))
    .nil))
    .nil)
    (.cons (.ife (.op .eq (.v 0) (.c (.str ['f', 'i', 'g', 'u', 'r', 'e', 's'])))
    (.cons (.ife (.not (.isi (.v 2) .int))
    (.cons (.ret (.c (.tup [(.str ['w', 'r', 'o', 'n', 'g']), (.str ['k', 'i', 'n', 'd']), (.str [])])))
    .nil)
    .nil)
    (.cons (.ret (.call m (.cons (.bi .str (.cons (.v 2) .nil)) .nil) []))
    .nil))
    .nil)
    (.cons (.ife (.op .eq (.v 0) (.c (.str ['s', 'a', 'm', 'e'])))
    (.cons (.ret (.call m (.cons (.bi .int (.cons (.call sm (.cons (.v 2) (.cons (.ix (.v 1) (.c (.int 1))) .nil)) []) .nil)) .nil) []))
    .nil)
    .nil)
    (.cons (.ife (.op .eq (.v 0) (.c (.str ['j', 'o', 'i', 'n'])))
    (.cons (.ret (.call jo (.cons (.v 2) (.cons (.ix (.v 1) (.c (.int 1))) .nil)) []))
    .nil)
    .nil)
    (.cons (.ife (.op .eq (.v 0) (.c (.str ['i', 't', 'e', 'm'])))
    (.cons (.ret (.call it (.cons (.v 2) (.cons (.ix (.v 1) (.c (.int 1))) .nil)) []))
    .nil)
    .nil)
    (.cons (.ret (.call su (.cons (.v 0) (.cons (.v 2) (.cons (.ix (.v 1) (.c (.int 1))) .nil))) []))
    .nil))))))))⟩
theorem isW_num {i : Int} (h : isW (.int i) = true) : -(10 ^ 60) < i ∧ i < 10 ^ 60 := by
  unfold isW at h
  rw [mS] at h
  split at h
  · rename_i p hp
    split at hp
    · rename_i hn
      unfold numI at hn
      rw [Bool.and_eq_true, decide_eq_true_eq, decide_eq_true_eq] at hn
      exact hn
    · cases hp
  · cases h
theorem isW_raw {d : D} (h : isW d = true) : rawD d = true := by
  unfold isW at h
  split at h
  · rename_i p hp; exact ms_raw d p hp
  · cases h
theorem isW_dep {d : D} (h : isW d = true) : depD d ≤ 12 := by
  have := raw_isW (isW_raw h)
  rw [h] at this
  simp only [Bool.true_eq, Bool.and_eq_true, decide_eq_true_eq] at this
  omega
theorem isW_len {xs : List D} (h : isW (.tup xs) = true) : xs.length ≤ 60 := by
  have := raw_isW (isW_raw h)
  rw [h] at this
  simp only [fitD, Bool.true_eq, Bool.and_eq_true, decide_eq_true_eq] at this
  omega
theorem isW_text {x : List Char} (h : isW (.str x) = true) : x.length ≤ 400 := by
  have := raw_isW (isW_raw h)
  rw [h] at this
  simp only [fitD, Bool.true_eq, Bool.and_eq_true, decide_eq_true_eq] at this
  omega
theorem sizDs_mem {d : D} : ∀ {xs : List D}, d ∈ xs → sizD d ≤ sizDs xs
  | [], h => by cases h
  | x :: xs, h => by
    rw [sizDs]
    rcases List.mem_cons.mp h with rfl | h
    · omega
    · have := sizDs_mem h; omega
theorem fitDs_mem {d : D} : ∀ {xs : List D}, fitDs xs = true → d ∈ xs → fitD d = true
  | [], _, h => by cases h
  | x :: xs, hs, h => by
    rw [fitDs, Bool.and_eq_true] at hs
    rcases List.mem_cons.mp h with rfl | h
    · exact hs.1
    · exact fitDs_mem hs.2 h
theorem isW_mem {xs : List D} {d : D} (h : isW (.tup xs) = true) (hd : d ∈ xs) : isW d = true := by
  have hr := isW_raw h
  have e := raw_isW hr
  rw [h] at e
  simp only [fitD, sizD, depD, Bool.true_eq, Bool.and_eq_true, decide_eq_true_eq] at e
  rw [rawD, Bool.and_eq_true] at hr
  obtain ⟨⟨_, e0⟩, e1, e2⟩ := e
  rw [raw_isW (rawDs_mem hr.2 hd), fitDs_mem e0 hd]
  have := sizDs_mem hd
  have := depDs_mem hd
  simp only [Bool.true_and, Bool.and_eq_true, decide_eq_true_eq]
  have e1 := of_decide_eq_true e1
  have e2 := of_decide_eq_true e2
  constructor <;> omega
section
variable {P : Prog} {st : Sto} {Q : D × Sto → Prop} {n i : Nat}
/-- made, and what it needs, by number -/
structure MadeAt (P : Prog) (m : Nat) : Prop where
  ex : ∃ w ms num txt sg, P.fns[m]? = some (fdMade w) ∧ P.fns[w]? = some (fdIsWorth ms) ∧ P.fns[ms]? = some (fdMeasured num txt ms) ∧ P.fns[num]? = some fdIsNumber ∧ P.fns[txt]? = some (fdIsText sg) ∧ P.fns[sg]? = some fdIsSign
theorem MadeAt.spec {m : Nat} (h : MadeAt P m) {d : D} (hs : Saf st d) (hn : depD d + 5 ≤ n) (q : Q (madeD d, st)) : (callF P n m [d] st).wp Q := by
  obtain ⟨w, ms, num, txt, sg, a1, a2, a3, a4, a5, a6⟩ := h.ex
  exact made_spec a1 a2 a3 a4 a5 a6 hs hn q
def _root_.MP.sv4 :=
  And.intro @MP.sv3 (
  And.intro @w_test (
  And.intro @s_whl_w (
  And.intro @w_zip (
  And.intro @zip_tup (
  And.intro @z_sbeq (
  @str_i))))))
theorem sum_spec {m : Nat} (hm : MadeAt P m) (h : P.fns[i]? = some (fdSum m)) {w : List Char} {a b : D} (ha : isW a = true) (hb : isW b = true) (hn : 20 ≤ n) (q : Q (numW w a b, st)) : (callF P n i [.str w, a, b] st).wp Q := by
  obtain ⟨k, rfl⟩ : ∃ k, n = k + 1 := ⟨n - 1, by omega⟩
  refine call_wp h rfl ?_
  have ra := isW_raw ha
  have rb := isW_raw hb
  have sa := raw_saf st a ra
  have sb := raw_saf st b rb
  simp only [fdSum, seval, sv4, isi_int sa, isi_int sb]
  cases a <;> simp only [isInt, seval, sv4] <;> try exact q
  case bl => exact absurd ra Bool.false_ne_true
  rename_i i1
  cases b <;> simp only [isInt, seval, sv4] <;> try exact q
  case bl => exact absurd rb Bool.false_ne_true
  rename_i i2
  have b1 := isW_num ha
  have b2 := isW_num hb
  simp only [numW] at q
  have m1 : ∀ j, Q (madeD (.int j), st) → (callF P k m [.int j] st).wp Q := fun j q => hm.spec trivial (by simp only [depD]; omega) q
  by_cases e1 : w = ['/']
  · subst e1
    by_cases e2 : i2 = 0
    · subst e2
      simp only [seval, sv4]
      exact q
    · rw [if_neg (by simp [e2]), if_neg (by decide), if_neg (by decide), if_neg (by decide), if_pos rfl] at q
      rw [if_pos rfl, if_neg e2, if_neg (by decide), if_neg (by decide), if_neg (by decide), if_pos rfl]
      exact ⟨⟨e2, div_ok (by omega)⟩, m1 _ q⟩
  · have e0 : ¬ (w = ['/'] ∧ i2 = 0) := fun h => e1 h.1
    by_cases e2 : w = ['+']
    · simp only [if_neg e1, if_neg e0, if_pos e2] at q ⊢
      exact m1 _ q
    · by_cases e3 : w = ['-']
      · simp only [if_neg e1, if_neg e0, if_neg e2, if_pos e3] at q ⊢
        exact m1 _ q
      · by_cases e4 : w = ['*']
        · simp only [if_neg e1, if_neg e0, if_neg e2, if_neg e3, if_pos e4] at q ⊢
          exact ⟨mul_ok (by omega) (by omega), m1 _ q⟩
        · simp only [if_neg e1, if_neg e0, if_neg e2, if_neg e3, if_neg e4, int_bl, wp_ok, decide_eq_true_eq] at q ⊢
          exact m1 _ q
theorem raw_tup_app {xs ys : List D} (hx : isW (.tup xs) = true) (hy : isW (.tup ys) = true) : rawD (.tup (xs ++ ys)) = true ∧ depD (.tup (xs ++ ys)) ≤ 13 := by
  have l1 := isW_len hx
  have l2 := isW_len hy
  have hz : ∀ d ∈ xs ++ ys, isW d = true := fun d hd => by
    rcases List.mem_append.mp hd with hd | hd
    · exact isW_mem hx hd
    · exact isW_mem hy hd
  refine ⟨by rw [rawD, decide_eq_true (by rw [List.length_append]; omega), rawDs_of fun d hd => isW_raw (hz d hd)]; rfl, ?_⟩
  rw [depD]
  have := depDs_le fun d hd => isW_dep (hz d hd)
  omega
theorem joined_spec {m : Nat} (hm : MadeAt P m) (h : P.fns[i]? = some (fdJoined m)) {a b : D} (ha : isW a = true) (hb : isW b = true) (hn : 20 ≤ n) (q : Q (joinD a b, st)) : (callF P n i [a, b] st).wp Q := by
  obtain ⟨k, rfl⟩ : ∃ k, n = k + 1 := ⟨n - 1, by omega⟩
  refine call_wp h rfl ?_
  have ra := isW_raw ha
  have rb := isW_raw hb
  have sa := raw_saf st a ra
  have sb := raw_saf st b rb
  simp only [fdJoined, seval, sv4, isi_str sa, isi_str sb, isi_tup sa, isi_tup sb]
  cases a <;> simp only [isStr, isTup, seval, sv4] <;> try exact q
  case str x =>
    cases b <;> simp only [isStr, isTup, seval, sv4] <;> try exact q
    rename_i y
    have l1 := isW_text ha
    have l2 := isW_text hb
    exact ⟨by omega, hm.spec (by show (x ++ y).length ≤ 1000000; rw [List.length_append]; omega) (by simp only [depD]; omega) q⟩
  case tup xs =>
    cases b <;> simp only [isStr, isTup, seval, sv4] <;> try exact q
    rename_i ys
    have l1 := isW_len ha
    have l2 := isW_len hb
    obtain ⟨r, d⟩ := raw_tup_app ha hb
    exact ⟨by omega, hm.spec (raw_saf _ _ r) (by omega) q⟩
theorem item_spec {m : Nat} (hm : MadeAt P m) (h : P.fns[i]? = some (fdItem m)) {a b : D} (ha : isW a = true) (hb : isW b = true) (hn : 20 ≤ n) (q : Q (itemD a b, st)) : (callF P n i [a, b] st).wp Q := by
  obtain ⟨k, rfl⟩ : ∃ k, n = k + 1 := ⟨n - 1, by omega⟩
  refine call_wp h rfl ?_
  have ra := isW_raw ha
  have rb := isW_raw hb
  have sa := raw_saf st a ra
  have sb := raw_saf st b rb
  simp only [fdItem, seval, sv4, isi_int sb, isi_tup sa]
  cases a <;> simp only [isInt, isTup, seval, sv4] <;> try exact q
  rename_i xs
  cases b <;> simp only [isInt, isTup, seval, sv4] <;> try exact q
  case bl => exact absurd rb Bool.false_ne_true
  rename_i j
  simp only [itemD] at q
  by_cases h1 : 0 ≤ j
  · rw [if_pos h1]
    by_cases h2 : j < xs.length
    · rw [if_neg (fun z => z h2)]
      rw [if_pos ⟨h1, h2⟩] at q
      obtain ⟨d, hd, e⟩ := at_some (xs := xs) h1 h2
      rw [e] at q ⊢
      have hw := isW_mem ha hd
      have := isW_dep hw
      exact ⟨d, rfl, hm.spec (raw_saf _ _ (isW_raw hw)) (by omega) q⟩
    · rw [if_pos h2]
      rw [if_neg (fun z => h2 z.2)] at q
      exact q
  · rw [if_neg h1]
    rw [if_neg (fun z => h1 z.1)] at q
    exact q
theorem log_lt {m : Nat} {k : Nat} (h : m < 2 ^ k) (hk : 0 < k) : m.log2 < k := by
  by_cases e : m = 0
  · subst e; simpa using hk
  · exact (Nat.log2_lt e).mpr h
/-- what a word asks of its parts -/
structure Arg (w : List Char) (ws : List D) : Prop where
  wor : ∀ d ∈ ws, isW d = true
  len : ws.length ≤ 60
  one : w ≠ sList → 1 ≤ ws.length
  two : w ≠ sList → w ≠ sCount → w ≠ sFigures → 2 ≤ ws.length
structure ReckAt (P : Prog) (i : Nat) : Prop where
  ex : ∃ m sm su jo it, MadeAt P m ∧ P.fns[i]? = some (fdReck m sm su jo it) ∧ P.fns[sm]? = some fdSameP ∧ P.fns[su]? = some (fdSum m) ∧ P.fns[jo]? = some (fdJoined m) ∧ P.fns[it]? = some (fdItem m)
theorem reck_spec (h : ReckAt P i) {r : Nat} {w : List Char} {ws : List D} (hr : st[r]? = some (.lst ws)) (ha : Arg w ws) (hn : 30 ≤ n) (q : Q (rekD w ws, st)) : (callF P n i [.str w, .ref r] st).wp Q := by
  obtain ⟨k, rfl⟩ : ∃ k, n = k + 1 := ⟨n - 1, by omega⟩
  obtain ⟨m, sm, su, jo, it, hm, h, h1, h2, h3, h4⟩ := h.ex
  refine call_wp h rfl ?_
  simp only [fdReck, seval, sv4]
  unfold rekD at q
  have m1 : ∀ d, rawD d = true → depD d ≤ 13 → Q (madeD d, st) → (callF P k m [d] st).wp Q := fun d hd h2 q => hm.spec (raw_saf _ _ hd) (by omega) q
  by_cases e1 : w = ['l', 'i', 's', 't']
  · rw [if_pos e1] at q
    rw [if_pos e1]
    simp only [tuple_ref hr, seval, sv4]
    refine m1 _ ?_ ?_ q
    · have := ha.len
      rw [rawD, decide_eq_true (by omega), rawDs_of fun d hd => isW_raw (ha.wor d hd)]; rfl
    · rw [depD]
      have := depDs_le fun d hd => isW_dep (ha.wor d hd)
      omega
  · have l1 := ha.one e1
    obtain ⟨a, ws', rfl⟩ : ∃ a ws', ws = a :: ws' := by
      cases ws with
      | nil => simp at l1
      | cons a ws' => exact ⟨a, ws', rfl⟩
    have wa := ha.wor a List.mem_cons_self
    have ra := isW_raw wa
    have sa := raw_saf st a ra
    rw [if_neg e1] at q
    rw [if_neg e1]
    simp only [ix_ref hr, seval, sv4]
    simp only [List.headD_cons, List.tail_cons] at q
    by_cases e2 : w = ['c', 'o', 'u', 'n', 't']
    · rw [if_pos e2] at q
      rw [if_pos e2]
      simp only [isi_int sa]
      cases a <;> simp only [isInt, seval, sv4] <;> try (first | exact q | exact absurd ra Bool.false_ne_true)
      · rename_i x
        have := isW_text wa
        exact ⟨by omega, m1 _ rfl (Nat.zero_le _) q⟩
      · rename_i xs
        exact m1 _ rfl (Nat.zero_le _) q
    · rw [if_neg e2] at q
      rw [if_neg e2]
      by_cases e3 : w = ['f', 'i', 'g', 'u', 'r', 'e', 's']
      · rw [if_pos e3] at q
        rw [if_pos e3]
        simp only [isi_int sa]
        cases a <;> simp only [isInt, seval, sv4] <;> try (first | exact q | exact absurd ra Bool.false_ne_true)
        rename_i j
        have b1 := isW_num wa
        have hl := showI_len (i := j) (k := 60) (by omega)
        refine ⟨Nat.lt_of_lt_of_le (log_lt (k := 250) (by omega) (by decide)) (by decide), hm.spec (by show (showI j).length ≤ 1000000; omega) (by simp only [depD]; omega) q⟩
      · have l2 := ha.two e1 e2 e3
        obtain ⟨b, ws', rfl⟩ : ∃ b ws2, ws' = b :: ws2 := by
          cases ws' with
          | nil => simp at l2
          | cons a ws' => exact ⟨a, ws', rfl⟩
        have wb := ha.wor b (List.mem_cons_of_mem _ List.mem_cons_self)
        have rb := isW_raw wb
        simp only [List.headD_cons] at q
        rw [if_neg e3] at q
        rw [if_neg e3]
        by_cases e4 : w = ['s', 'a', 'm', 'e']
        · rw [if_pos e4] at q
          rw [if_pos e4]
          simp only [seval, sv4]
          have da := isW_dep wa
          have db := isW_dep wb
          refine wp_mono (Q := fun p => p = (D.bl (D.beq a b), st)) ?_ fun p hp => ?_
          · obtain ⟨k2, rfl⟩ : ∃ k2, k = k2 + 1 := ⟨k - 1, by omega⟩
            refine call_wp h1 rfl ?_
            simp only [fdSameP, seval, sv4, eq_num (st := st) (raw_pur a ra) (raw_pur b rb) (raw_num a ra) (raw_num b rb) (by omega) (by omega)]
          · subst hp
            simp only [seval, sv4]
            exact m1 _ rfl (Nat.zero_le _) q
        · rw [if_neg e4] at q
          rw [if_neg e4]
          by_cases e5 : w = ['j', 'o', 'i', 'n']
          · rw [if_pos e5] at q
            rw [if_pos e5]
            simp only [seval, sv4]
            exact joined_spec hm h3 wa wb (by omega) q
          · rw [if_neg e5] at q
            rw [if_neg e5]
            by_cases e6 : w = ['i', 't', 'e', 'm']
            · rw [if_pos e6] at q
              rw [if_pos e6]
              simp only [seval, sv4]
              exact item_spec hm h4 wa wb (by omega) q
            · rw [if_neg e6] at q
              rw [if_neg e6]
              simp only [seval, sv4]
              exact sum_spec hm h2 wa wb (by omega) q
end
end MP
namespace MP
section
variable {P : Prog} {cf mf : Cf} {fr : Fr} {st : Sto} {N : Fr → Sto → Prop} {T : D → Sto → Prop}
theorem skip_ife {c : E} {a b r : Ss} (h : (evE P cf mf c fr st).wp fun p => truthF p.2 p.1 = some false ∧ p.2 = st) (k : (evSs P cf mf b fr st).wp (fun fr st => (evSs P cf mf r fr st).wp N T) T) : (evSs P cf mf (.cons (.ife c a b) r) fr st).wp N T := by
  rw [s_cons_w, s_ife_w]
  refine wp_mono h fun p hp => ?_
  obtain ⟨d, st'⟩ := p
  obtain ⟨h1, rfl⟩ := hp
  exact ⟨false, h1, by simpa using k⟩
theorem skip_if {c : E} {a r : Ss} (h : (evE P cf mf c fr st).wp fun p => truthF p.2 p.1 = some false ∧ p.2 = st) (k : (evSs P cf mf r fr st).wp N T) : (evSs P cf mf (.cons (.ife c a .nil) r) fr st).wp N T :=
  skip_ife h (s_nil_w.mpr k)
theorem take_if {c : E} {a b r : Ss} (h : (evE P cf mf c fr st).wp fun p => truthF p.2 p.1 = some true ∧ p.2 = st) (k : (evSs P cf mf a fr st).wp (fun fr st => (evSs P cf mf r fr st).wp N T) T) : (evSs P cf mf (.cons (.ife c a b) r) fr st).wp N T := by
  rw [s_cons_w, s_ife_w]
  refine wp_mono h fun p hp => ?_
  obtain ⟨d, st'⟩ := p
  obtain ⟨h1, rfl⟩ := hp
  exact ⟨true, h1, by simpa using k⟩
theorem ret_step {e : E} {r : Ss} (h : (evE P cf mf e fr st).wp fun p => T p.1 p.2) : (evSs P cf mf (.cons (.ret e) r) fr st).wp N T := by
  rw [s_cons_w, s_ret_w]; exact h
theorem ret_one {e : E} (h : (evE P cf mf e fr st).wp fun p => T p.1 p.2) : (evSs P cf mf (.cons (.ret e) .nil) fr st).wp N T := ret_step h
theorem seq_wp {s : S} {r : Ss} (M : Fr → Sto → Prop) (h1 : (evS P cf mf s fr st).wp M T) (h2 : ∀ fr st, M fr st → (evSs P cf mf r fr st).wp N T) : (evSs P cf mf (.cons s r) fr st).wp N T := by
  rw [s_cons_w]
  exact cw_mono h1 h2 fun _ _ h => h
/-- a statement by itself, what follows it put by -/
theorem stm_k {s : S} {r : Ss} (h : ∀ K : Fr → Sto → Prop, (∀ fr st, (evSs P cf mf r fr st).wp N T → K fr st) → (evS P cf mf s fr st).wp K T) : (evSs P cf mf (.cons s r) fr st).wp N T := by
  rw [s_cons_w]
  exact h _ fun _ _ z => z
end
end MP
namespace MP
def kParts : List (List Char × D) := [(['i', 'f'], .int 3), (['+'], .int 2), (['-'], .int 2), (['*'], .int 2), (['/'], .int 2), (['s', 'a', 'm', 'e'], .int 2), (['l', 'e', 's', 's'], .int 2), (['j', 'o', 'i', 'n'], .int 2), (['i', 't', 'e', 'm'], .int 2), (['c', 'o', 'u', 'n', 't'], .int 1), (['f', 'i', 'g', 'u', 'r', 'e', 's'], .int 1), (['l', 'o', 'o', 'k'], .int 1), (['e', 'l', 's', 'e'], .int 2), (['c', 'r', 'y'], .int 1), (['l', 'e', 't'], .int 2), (['e', 'a', 'c', 'h'], .int 2), (['o', 'v', 'e', 'r'], .int 3)]
abbrev sLit : List Char := ['l', 'i', 't']
abbrev sVar : List Char := ['v', 'a', 'r']
abbrev sLet : List Char := ['l', 'e', 't']
abbrev sEach : List Char := ['e', 'a', 'c', 'h']
abbrev sOver : List Char := ['o', 'v', 'e', 'r']
/-- how many names a word binds -/
def boundN (w : List Char) : Nat := if w = sLet then 1 else if w = sEach then 1 else if w = sOver then 2 else 0
abbrev lettersC : List Char := ['a', 'b', 'c', 'd', 'e', 'f', 'g', 'h', 'i', 'j', 'k', 'l', 'm', 'n', 'o', 'p', 'q', 'r', 's', 't', 'u', 'v', 'w', 'x', 'y', 'z']
def varS (x : List Char) : Bool := decide (1 ≤ x.length) && (decide (x.length ≤ 8) && x.all fun c => decide (c ∈ lettersC))
def varD : D → Bool
  | .str x => varS x
  | _ => false
/-- the form of an expression's head -/
def formB : D → Bool
  | .tup (.str w :: r) =>
    if w = sLit then decide (r.length = 1) && isW (r.headD .non) else
    if w = sVar then decide (r.length = 1) && varD (r.headD .non) else
    if w = sList then decide (r.length ≤ 8) else
    match getKk kParts w with
    | some (.int k) => decide ((r.length : Int) = boundN w + k) && ((r.take (boundN w)).all varD && (decide (boundN w < 2) || !(D.beq (r.headD .non) (r.tail.headD .non))))
    | _ => false
  | _ => false
def partsD : D → List D
  | .tup (.str w :: r) => if w = sLit ∨ w = sVar then [] else r.drop (boundN w)
  | _ => []
def bndD : D → List D
  | .tup (.str w :: r) => r.take (boundN w)
  | _ => []
def repW : D → Bool
  | .tup (.str w :: _) => decide (w = sEach ∨ w = sOver)
  | _ => false
end MP
namespace MP
theorem cut_prt {α : Type} (x : α) (xs : List α) (k : Nat) : cutF (x :: xs) (some (1 + (k : Int))) none = xs.drop k := by
  have e1 : slIx (x :: xs).length 0 (some (1 + (k : Int))) = min (1 + k) (xs.length + 1) := by
    simp only [slIx, List.length_cons]; rw [if_neg (by omega)]; omega
  rw [cutF, e1]
  simp only [slIx, List.length_cons]
  by_cases h : k ≤ xs.length
  · rw [show min (1 + k) (xs.length + 1) = k + 1 by omega, List.drop_succ_cons, List.take_of_length_le (by rw [List.length_drop]; omega)]
  · rw [show min (1 + k) (xs.length + 1) = xs.length + 1 by omega, List.drop_succ_cons, List.drop_eq_nil_of_le (Nat.le_refl _), List.drop_eq_nil_of_le (by omega), List.take_nil]
theorem bound_le (w : List Char) : boundN w ≤ 2 := by unfold boundN; split <;> (try split) <;> (try split) <;> omega
section
variable {P : Prog} {st : Sto} {Q : D × Sto → Prop} {n i : Nat}
theorem formB_def (w : List Char) (r : List D) : formB (.tup (.str w :: r)) = if w = sLit then decide (r.length = 1) && isW (r.headD .non) else
    if w = sVar then decide (r.length = 1) && varD (r.headD .non) else
    if w = sList then decide (r.length ≤ 8) else
    match getKk kParts w with
    | some (.int k) => decide ((r.length : Int) = boundN w + k) && ((r.take (boundN w)).all varD && (decide (boundN w < 2) || !(D.beq (r.headD .non) (r.tail.headD .non))))
    | _ => false := rfl
theorem kparts_int {w : List Char} {d : D} (h : getKk kParts w = some d) : ∃ k : Int, 0 ≤ k ∧ k ≤ 3 ∧ d = .int k := by
  unfold getKk at h
  cases hf : kParts.find? (fun kv => decide (kv.1 = w)) with
  | none => rw [hf] at h; cases h
  | some p =>
    rw [hf] at h
    have hm := List.mem_of_find?_eq_some hf
    injection h with h
    replace h : p.2 = d := h
    have : kParts.all (fun kv => match kv.2 with | .int k => decide (0 ≤ k ∧ k ≤ 3) | _ => false) = true := by rfl
    have := List.all_eq_true.mp this p hm
    rw [h] at this
    cases d <;> first | exact ⟨_, (of_decide_eq_true this).1, (of_decide_eq_true this).2, rfl⟩ | cases this
def enumD (x : D) (st : Sto) : R (Wk × Sto × (Sto → Sto)) := match x with
    | .kls ds => .ok (⟨enumF 0 ds, fun _ => true⟩, st, id)
    | .ref n => match st[n]? with
      | some (.lst ds) => .ok (⟨enumF 0 ds, stands n ds⟩, st, id)
      | _ => .no
    | _ => .no
end
section
variable {P : Prog} {cf mf : Cf} {fr : Fr} {st : Sto}
theorem w_enum {a : E} {Q : Wk × Sto × (Sto → Sto) → Prop} : (evIt P cf mf (.enum a) fr st).wp Q ↔ (evE P cf mf a fr st).wp fun p => (enumD p.1 p.2).wp Q := by
  rw [evIt]; first | (simp only [wp_bind]; done) | (simp only [wp_bind]; rfl)
theorem Grow.new {st st' : Sto} (g : Grow st st') {f : Nat} (h : st.length ≤ f) {o : O} : Grow st (st'.set f o) := by
  obtain ⟨r, rfl⟩ := g
  exact ⟨r.set (f - st.length) o, by rw [List.set_append_right _ _ h]⟩
end
/-- a place of a rule: the thing there, the names bound there, how deep, within how many rounds -/
structure RI where
  d : D
  bs : List D
  deep : Int
  rep : Int
def RI.enc (x : RI) : D := .tup [x.d, .tup x.bs, .int x.deep, .int x.rep]
def wiF (bn : List D) (rw : Bool) (bs : List D) (deep rep : Int) : List D → List RI
  | [] => []
  | [p] => [⟨p, bs ++ bn, deep + 1, if rw = true then rep + 1 else rep⟩]
  | p :: q :: r => ⟨p, bs, deep + 1, rep⟩ :: wiF bn rw bs deep rep (q :: r)
def withinI (x : RI) : List RI := wiF (bndD x.d) (repW x.d) x.bs x.deep x.rep (partsD x.d)
section
variable {P : Prog} {st : Sto} {Q : D × Sto → Prop} {n i : Nat}
def _root_.MP.sv5 :=
  And.intro @MP.sv4 (
  @w_enum)
/-- a variable that stands there is bound there -/
def varOk (x : RI) : Bool := match x.d with
  | .tup (.str w :: r) => !decide (w = sVar) || x.bs.any fun z => eqS z (r.headD .non)
  | _ => true
def ruleGo : Nat → List RI → Bool
  | _, [] => true
  | 0, _ :: _ => false
  | k + 1, x :: s => decide (x.deep ≤ 12) && (decide (x.rep ≤ 2) && (formB x.d && (varOk x && ruleGo k ((withinI x).reverse ++ s))))
def ruleB (d : D) : Bool := ruleGo 60 [⟨d, [], 0, 0⟩]
structure RIok (k : Nat) (x : RI) : Prop where
  pur : purD x.d = true
  dep : depD x.d ≤ k
  bs : ∀ b ∈ x.bs, ∃ s, b = .str s ∧ s.length ≤ 8
  len : (x.bs.length : Int) ≤ 2 * x.deep
  dp : x.deep ≤ 13
theorem RIok.enc {k : Nat} {x : RI} (h : RIok k x) (hk : 1 ≤ k) : purD x.enc = true ∧ depD x.enc ≤ k + 1 := by
  have hl := h.len
  have hd := h.dp
  have h1 : purDs x.bs = true := purDs_of fun b hb => by
    obtain ⟨s, rfl, hs⟩ := h.bs b hb
    rw [purD, decide_eq_true (by omega)]
  have h2 : depDs x.bs ≤ 0 := depDs_le fun b hb => by
    obtain ⟨s, rfl, hs⟩ := h.bs b hb
    simp [depD]
  have hdp := h.dep
  constructor
  · rw [RI.enc, purD, purDs, h.pur, purDs, purD, h1, decide_eq_true (by omega : x.bs.length ≤ 100000)]
    rfl
  · simp only [RI.enc, depD, depDs]
    omega
end
end MP
namespace MP
abbrev sgN : List Char := ['a', 'b', 'c', 'd', 'e', 'f', 'g', 'h', 'i', 'j', 'k', 'l', 'm', 'n', 'o', 'p', 'q', 'r', 's', 't', 'u', 'v', 'w', 'x', 'y', 'z', '0', '1', '2', '3', '4', '5', '6', '7', '8', '9']
def wordN (x : List Char) : Bool := decide (1 ≤ x.length) && decide (x.length ≤ 12) && x.all fun c => decide (c ∈ sgN)
def nameN (x : List Char) : Bool := match partF '.' x with
  | some p => wordN p.1 && wordN p.2
  | none => false
theorem wordN_iff {x : List Char} : wordN x = true ↔ 1 ≤ x.length ∧ x.length ≤ 12 ∧ ∀ c ∈ x, c ∈ sgN := by
  rw [wordN, Bool.and_eq_true, Bool.and_eq_true, decide_eq_true_eq, decide_eq_true_eq, List.all_eq_true]
  simp only [decide_eq_true_eq, and_assoc]
theorem partN_app {c : Char} {a : List Char} (b : List Char) (h : c ∉ a) : partF c (a ++ c :: b) = some (a, b) := by
  induction a with
  | nil => simp [partF]
  | cons x a ih =>
    rw [List.cons_append, partF, if_neg (fun e => h (by rw [e]; exact List.mem_cons_self)), ih (fun hm => h (List.mem_cons_of_mem _ hm))]
    rfl
theorem findN {c : Char} {a : List Char} (b : List Char) (h : c ∉ a) : ∀ k, findF c k (a ++ c :: b) = (k + a.length : Nat) := by
  induction a with
  | nil => intro k; simp [findF]
  | cons x a ih =>
    intro k
    rw [List.cons_append, findF, if_neg (fun e => h (by rw [e]; exact List.mem_cons_self)), ih (fun hm => h (List.mem_cons_of_mem _ hm)), List.length_cons]
    congr 1
    omega
/-- a name of two words -/
structure NameOk (x : List Char) (r w : List Char) : Prop where
  eq : x = r ++ '.' :: w
  hr : wordN r = true
  hw : wordN w = true
theorem NameOk.dot {x r w : List Char} (h : NameOk x r w) : '.' ∉ r := fun hm => absurd ((wordN_iff.mp h.hr).2.2 _ hm) (by decide)
theorem NameOk.len {x r w : List Char} (h : NameOk x r w) : x.length ≤ 25 := by
  rw [h.eq, List.length_append, List.length_cons]
  have := (wordN_iff.mp h.hr).2.1
  have := (wordN_iff.mp h.hw).2.1
  omega
theorem NameOk.part {x r w : List Char} (h : NameOk x r w) : partF '.' x = some (r, w) := by rw [h.eq]; exact partN_app _ h.dot
theorem NameOk.name {x r w : List Char} (h : NameOk x r w) : nameN x = true := by rw [nameN, h.part]; dsimp only; rw [h.hr, h.hw]; rfl
theorem NameOk.find {x r w : List Char} (h : NameOk x r w) : findF '.' 0 x = r.length := by rw [h.eq, findN _ h.dot]; simp
theorem NameOk.cut {x r w : List Char} (h : NameOk x r w) : cutF x none (some (r.length : Int)) = r := by
  rw [h.eq, cutF]
  have e1 : slIx (r ++ '.' :: w).length 0 none = 0 := rfl
  have e2 : slIx (r ++ '.' :: w).length (r ++ '.' :: w).length (some (r.length : Int)) = r.length := by
    simp only [slIx, List.length_append, List.length_cons]
    rw [if_neg (by omega)]
    omega
  rw [e1, e2, List.drop_zero, Nat.sub_zero, List.take_append_of_le_length (Nat.le_refl _), List.take_length]
end MP
namespace MP
section
variable {P : Prog} {st : Sto} {Q : D × Sto → Prop} {n i : Nat}
theorem sl_refN {r : Nat} {xs : List D} {lo hi : Option Int} (h : st[r]? = some (.lst xs)) : slF st (.ref r) lo hi = .ok (.ref st.length, st ++ [.lst (cutF xs lo hi)]) := by simp only [slF, h, newF]
def IsName (x : List Char) : Prop := ∃ r w, NameOk x r w
end
end MP
namespace MP
abbrev sLook : List Char := ['l', 'o', 'o', 'k']
abbrev sElse : List Char := ['e', 'l', 's', 'e']
theorem Wd.w {room deep : Int} {d : D} (h : Wd room deep d) (hr : room ≤ 50) (hd : deep ≤ 12) : isW d = true := by
  obtain ⟨s, p, e, h1, h2⟩ := h.ms
  rw [isW, e]
  dsimp only
  rw [decide_eq_true (by omega : s ≤ 1000), decide_eq_true (by omega : p ≤ 12)]
  rfl
/-- a rule, and plain -/
structure RuleGood (d : D) : Prop where
  ok : ruleB d = true
  pur : purD d = true
  dep : depD d ≤ 26
section
variable {P : Prog} {st : Sto} {Q : D × Sto → Prop} {n i : Nat}
structure WorthAt (P : Prog) (i tk num txt : Nat) : Prop where
  h : P.fns[i]? = some (fdWorth tk num txt i)
  ht : P.fns[tk]? = some fdTake
  hn : P.fns[num]? = some (fdNumber tk)
  hx : P.fns[txt]? = some (fdText tk)
end
end MP
namespace MP
inductive DK where
  | put | rule | drop | opn | sht | wish | lets
deriving DecidableEq
def DK.nm : DK → List Char
  | .put => ['p', 'u', 't']
  | .rule => ['r', 'u', 'l', 'e']
  | .drop => ['d', 'r', 'o', 'p']
  | .opn => ['o', 'p', 'e', 'n']
  | .sht => ['s', 'h', 'u', 't']
  | .wish => ['w', 'i', 's', 'h']
  | .lets => ['l', 'e', 't']
structure Deed where
  k : DK
  n : List Char
  v : D
def Deed.toD (d : Deed) : D := match d.k with
  | .put => .tup [.str (DK.nm .put), .str d.n, d.v]
  | .rule => .tup [.str (DK.nm .rule), .str d.n, d.v]
  | k => .tup [.str k.nm, .str d.n]
structure Deed.Ok (d : Deed) : Prop where
  n : IsName d.n
  src : d.k = .put → isW d.v = true
  rul : d.k = .rule → RuleGood d.v
end MP
namespace MP
structure HS where
  src : List (Kk × D)
  rul : List (Kk × D)
  opn : List (List Char)
  wis : List (List Char)
def HS.step (h : HS) (d : Deed) : HS where
  src := match d.k with
    | .put => putK (dropK h.src (.s d.n)) (.s d.n) d.v
    | .rule => dropK h.src (.s d.n)
    | .drop => dropK h.src (.s d.n)
    | _ => h.src
  rul := match d.k with
    | .put => dropK h.rul (.s d.n)
    | .rule => putK (dropK h.rul (.s d.n)) (.s d.n) d.v
    | .drop => dropK h.rul (.s d.n)
    | _ => h.rul
  opn := match d.k with
    | .opn => if d.n ∈ h.opn then h.opn else h.opn ++ [d.n]
    | .sht => h.opn.erase d.n
    | _ => h.opn
  wis := match d.k with
    | .wish => if d.n ∈ h.wis then h.wis else h.wis ++ [d.n]
    | .lets => h.wis.erase d.n
    | _ => h.wis
/-- no part longer than so much -/
structure HS.Sm (h : HS) (k : Nat) : Prop where
  src : h.src.length ≤ k
  rul : h.rul.length ≤ k
  opn : h.opn.length ≤ k
  wis : h.wis.length ≤ k
theorem putK_len (l : List (Kk × D)) (k : Kk) (v : D) : (putK l k v).length ≤ l.length + 1 := by
  unfold putK
  split
  · rw [List.length_map]; omega
  · rw [List.length_append]; simp
theorem dropK_len (l : List (Kk × D)) (k : Kk) : (dropK l k).length ≤ l.length := List.length_filter_le _ _
theorem HS.Sm.step {h : HS} {k : Nat} (s : h.Sm k) (d : Deed) : (h.step d).Sm (k + 1) := by
  obtain ⟨s1, s2, s3, s4⟩ := s
  have a1 := dropK_len h.src (.s d.n)
  have a2 := dropK_len h.rul (.s d.n)
  have b1 := putK_len (dropK h.src (.s d.n)) (.s d.n) d.v
  have b2 := putK_len (dropK h.rul (.s d.n)) (.s d.n) d.v
  have c1 := List.length_erase_le (a := d.n) (l := h.opn)
  have c2 := List.length_erase_le (a := d.n) (l := h.wis)
  obtain ⟨k', n, v⟩ := d
  cases k' <;> refine ⟨?_, ?_, ?_, ?_⟩ <;> simp only [HS.step] at * <;> (try split) <;> (try simp only [List.length_append, List.length_cons, List.length_nil]) <;> omega
/-- the four things of a house -/
structure At (st : Sto) (a b c d : Nat) (h : HS) : Prop where
  ha : st[a]? = some (.dct h.src)
  hb : st[b]? = some (.dct h.rul)
  hc : st[c]? = some (.lst (h.opn.map .str))
  hd : st[d]? = some (.lst (h.wis.map .str))
  ab : a ≠ b
  cd : c ≠ d
/-- all but these stands as it was -/
def K4 (a b c d : Nat) (st st' : Sto) : Prop := st.length ≤ st'.length ∧ ∀ n, n < st.length → n ≠ a → n ≠ b → n ≠ c → n ≠ d → st'[n]? = st[n]?
section
variable {st st' st2 : Sto} {a b c d : Nat} {h : HS}
theorem K4.refl : K4 a b c d st st := ⟨Nat.le_refl _, fun _ _ _ _ _ _ => rfl⟩
theorem K4.trans (k : K4 a b c d st st') (k' : K4 a b c d st' st2) : K4 a b c d st st2 := ⟨Nat.le_trans k.1 k'.1, fun n hn h1 h2 h3 h4 => (k'.2 n (Nat.lt_of_lt_of_le hn k.1) h1 h2 h3 h4).trans (k.2 n hn h1 h2 h3 h4)⟩
theorem Grow.k4 (g : Grow st st') : K4 a b c d st st' := ⟨g.len, fun n hn _ _ _ _ => by obtain ⟨r, rfl⟩ := g; exact List.getElem?_append_left hn⟩
theorem K4.at (k : K4 a b c d st st') {n : Nat} {o : O} (e : st[n]? = some o) (h1 : n ≠ a) (h2 : n ≠ b) (h3 : n ≠ c) (h4 : n ≠ d) : st'[n]? = some o := by rw [k.2 n (List.getElem?_eq_some_iff.mp e).1 h1 h2 h3 h4]; exact e
theorem ne_of {m n : Nat} {x y : O} (h1 : st[m]? = some x) (h2 : st[n]? = some y) (h : x ≠ y) : m ≠ n := fun e => h (by subst e; rw [h1] at h2; exact Option.some.inj h2)
theorem At.ac (h : At st a b c d h') : a ≠ c := ne_of h.ha h.hc (by simp)
theorem At.ad (h : At st a b c d h') : a ≠ d := ne_of h.ha h.hd (by simp)
theorem At.bc (h : At st a b c d h') : b ≠ c := ne_of h.hb h.hc (by simp)
theorem At.bd (h : At st a b c d h') : b ≠ d := ne_of h.hb h.hd (by simp)
theorem At.grow (h' : At st a b c d h) (g : Grow st st') : At st' a b c d h := ⟨g.at h'.ha, g.at h'.hb, g.at h'.hc, g.at h'.hd, h'.ab, h'.cd⟩
/-- another house stands as it stood -/
theorem At.off {a' b' c' d' : Nat} {h' : HS} (h1 : At st a' b' c' d' h') (k : K4 a b c d st st') (h : ∀ n, n = a' ∨ n = b' ∨ n = c' ∨ n = d' → n ≠ a ∧ n ≠ b ∧ n ≠ c ∧ n ≠ d) : At st' a' b' c' d' h' :=
  have f := fun n o (e : st[n]? = some o) hn => k.at e (h n hn).1 (h n hn).2.1 (h n hn).2.2.1 (h n hn).2.2.2
  ⟨f _ _ h1.ha (.inl rfl), f _ _ h1.hb (.inr (.inl rfl)), f _ _ h1.hc (.inr (.inr (.inl rfl))), f _ _ h1.hd (.inr (.inr (.inr rfl))), h1.ab, h1.cd⟩
theorem set_same {n : Nat} {o : O} (h : st[n]? = some o) : st.set n o = st := by
  apply List.ext_getElem?
  intro i
  by_cases e : n = i
  · subst e; rw [sto_set h, h]
  · rw [List.getElem?_set_ne e]
theorem setix_dct {n : Nat} {kvs : List (Kk × D)} {x : List Char} {v : D} (h : st[n]? = some (.dct kvs)) (hl : kvs.length < SZ) : setIxF st (.ref n) (.str x) v = some (st.set n (.dct (putK kvs (.s x) v))) := by simp only [setIxF, h, keyF, if_pos hl]
end
def DK.two : DK → Bool
  | .put => true
  | .rule => true
  | _ => false
def DK.three : DK → Bool
  | .put => true
  | .rule => true
  | .drop => true
  | _ => false
theorem Deed.eq (d : Deed) : d.toD = .tup (.str d.k.nm :: .str d.n :: if d.k.two = true then [d.v] else []) := by
  obtain ⟨k, n, v⟩ := d
  cases k <;> rfl
end MP
namespace MP
/-- a house at r -/
structure Hs (st : Sto) (r a b c d : Nat) (h : HS) : Prop where
  hi : st[r]? = some (.ins 0 [(0, .ref a), (1, .ref b), (2, .ref c), (3, .ref d)])
  A : At st a b c d h
section
variable {P : Prog} {st st' : Sto} {Q : D × Sto → Prop} {n i r a b c d : Nat} {h : HS}
theorem Hs.grow (H : Hs st r a b c d h) (g : Grow st st') : Hs st' r a b c d h := ⟨g.at H.hi, H.A.grow g⟩
theorem Hs.k4 {h' : HS} (H : Hs st r a b c d h) (k : K4 a b c d st st') (A : At st' a b c d h') : Hs st' r a b c d h' :=
  ⟨k.at H.hi (ne_of H.hi H.A.ha (by simp)) (ne_of H.hi H.A.hb (by simp)) (ne_of H.hi H.A.hc (by simp)) (ne_of H.hi H.A.hd (by simp)), A⟩
theorem Hs.f0 (H : Hs st r a b c d h) : fldF st (.ref r) 0 = some (.ref a) := fld_ins H.hi rfl
theorem Hs.f1 (H : Hs st r a b c d h) : fldF st (.ref r) 1 = some (.ref b) := fld_ins H.hi rfl
theorem Hs.f2 (H : Hs st r a b c d h) : fldF st (.ref r) 2 = some (.ref c) := fld_ins H.hi rfl
theorem Hs.f3 (H : Hs st r a b c d h) : fldF st (.ref r) 3 = some (.ref d) := fld_ins H.hi rfl
theorem Hs.cl (H : Hs st r a b c d h) : clsF st (.ref r) = some 0 := cls_ins H.hi
end
end MP
namespace MP
section
variable {P : Prog} {st st' : Sto} {Q : D × Sto → Prop} {n i r a b c d : Nat} {h : HS}
def HS.nil : HS := ⟨[], [], [], []⟩
end
end MP
set_option maxHeartbeats 400000
namespace MP
/-- all but these eight stands as it was -/
def K8 (a b c d a' b' c' d' : Nat) (st st' : Sto) : Prop := st.length ≤ st'.length ∧ ∀ n, n < st.length → (n ≠ a ∧ n ≠ b ∧ n ≠ c ∧ n ≠ d) → (n ≠ a' ∧ n ≠ b' ∧ n ≠ c' ∧ n ≠ d') → st'[n]? = st[n]?
section
variable {st st' st2 : Sto} {r a b c d a' b' c' d' p : Nat} {h h' : HS}
theorem K8.refl : K8 a b c d a' b' c' d' st st := ⟨Nat.le_refl _, fun _ _ _ _ => rfl⟩
theorem K8.trans (k : K8 a b c d a' b' c' d' st st') (k' : K8 a b c d a' b' c' d' st' st2) : K8 a b c d a' b' c' d' st st2 := ⟨Nat.le_trans k.1 k'.1, fun n hn h1 h2 => (k'.2 n (Nat.lt_of_lt_of_le hn k.1) h1 h2).trans (k.2 n hn h1 h2)⟩
theorem K4.l8 (k : K4 a b c d st st') : K8 a b c d a' b' c' d' st st' := ⟨k.1, fun n hn h1 _ => k.2 n hn h1.1 h1.2.1 h1.2.2.1 h1.2.2.2⟩
theorem K4.r8 (k : K4 a' b' c' d' st st') : K8 a b c d a' b' c' d' st st' := ⟨k.1, fun n hn _ h1 => k.2 n hn h1.1 h1.2.1 h1.2.2.1 h1.2.2.2⟩
theorem K8.at (k : K8 a b c d a' b' c' d' st st') {n : Nat} {o : O} (e : st[n]? = some o) (h1 : n ≠ a ∧ n ≠ b ∧ n ≠ c ∧ n ≠ d) (h2 : n ≠ a' ∧ n ≠ b' ∧ n ≠ c' ∧ n ≠ d') : st'[n]? = some o := by rw [k.2 n (List.getElem?_eq_some_iff.mp e).1 h1 h2]; exact e
/-- a house and its picture, each by what hands did -/
structure Both (st : Sto) (r a' b' c' d' p a b c d : Nat) (h' h : HS) : Prop where
  H : Hs st r a' b' c' d' h'
  A : At st a b c d h
  hp : st[p]? = some (.lst [.ref a, .ref b, .ref c, .ref d])
  ne : ∀ n, n = a' ∨ n = b' ∨ n = c' ∨ n = d' → n ≠ a ∧ n ≠ b ∧ n ≠ c ∧ n ≠ d
theorem Both.pA (B : Both st r a' b' c' d' p a b c d h' h) : p ≠ a ∧ p ≠ b ∧ p ≠ c ∧ p ≠ d :=
  ⟨ne_of B.hp B.A.ha (by simp), ne_of B.hp B.A.hb (by simp), ne_of B.hp B.A.hc (by cases h.opn <;> simp), ne_of B.hp B.A.hd (by cases h.wis <;> simp)⟩
theorem Both.pH (B : Both st r a' b' c' d' p a b c d h' h) : p ≠ a' ∧ p ≠ b' ∧ p ≠ c' ∧ p ≠ d' :=
  ⟨ne_of B.hp B.H.A.ha (by simp), ne_of B.hp B.H.A.hb (by simp), ne_of B.hp B.H.A.hc (by cases h'.opn <;> simp), ne_of B.hp B.H.A.hd (by cases h'.wis <;> simp)⟩
theorem Both.rA (B : Both st r a' b' c' d' p a b c d h' h) : r ≠ a ∧ r ≠ b ∧ r ≠ c ∧ r ≠ d :=
  ⟨ne_of B.H.hi B.A.ha (by simp), ne_of B.H.hi B.A.hb (by simp), ne_of B.H.hi B.A.hc (by simp), ne_of B.H.hi B.A.hd (by simp)⟩
theorem Both.grow (B : Both st r a' b' c' d' p a b c d h' h) (g : Grow st st') : Both st' r a' b' c' d' p a b c d h' h := ⟨B.H.grow g, B.A.grow g, g.at B.hp, B.ne⟩
end
end MP
namespace MP
section
variable {st : Sto}
/-- values that == may walk -/
structure VOk (v : D) : Prop where
  pur : purD v = true
  dep : depD v ≤ 60
theorem getK_mem {l : List (Kk × D)} (hn : (l.map (·.1)).Nodup) {p : Kk × D} (hp : p ∈ l) : getK l p.1 = some p.2 := by
  unfold getK
  induction l with
  | nil => cases hp
  | cons q l ih =>
    rw [List.map_cons, List.nodup_cons] at hn
    rcases List.mem_cons.mp hp with rfl | hp
    · rw [List.find?_cons_of_pos (by simp)]; rfl
    · rw [List.find?_cons_of_neg (by
        simp only [decide_eq_true_eq]
        intro e
        exact hn.1 (by rw [e]; exact List.mem_map_of_mem hp))]
      exact ih hn.2 hp
end
theorem nodup_len {α : Type} [DecidableEq α] : ∀ {l m : List α}, l.Nodup → (∀ x ∈ l, x ∈ m) → l.length ≤ m.length
  | [], m, _, _ => Nat.zero_le _
  | x :: l, m, hn, h => by
    rw [List.nodup_cons] at hn
    have hx := h x List.mem_cons_self
    have := nodup_len (l := l) (m := m.erase x) hn.2 (fun y hy => by
      have hne : y ≠ x := fun e => hn.1 (e ▸ hy)
      exact (List.mem_erase_of_ne hne).mpr (h y (List.mem_cons_of_mem _ hy)))
    rw [List.length_erase_of_mem hx] at this
    have : 0 < m.length := List.length_pos_of_mem hx
    rw [List.length_cons]
    omega
theorem putK_new {l : List (Kk × D)} {k : Kk} {v : D} (h : ∀ p ∈ l, p.1 ≠ k) : putK l k v = l ++ [(k, v)] := by
  unfold putK
  rw [if_neg]
  intro e
  obtain ⟨p, hp, e⟩ := List.any_eq_true.mp e
  exact h p hp (of_decide_eq_true e)
theorem dropK_ne {l : List (Kk × D)} {k : Kk} : ∀ p ∈ dropK l k, p.1 ≠ k := by
  intro p hp
  unfold dropK at hp
  have := (List.mem_filter.mp hp).2
  simpa using this
theorem dropK_mem {l : List (Kk × D)} {k : Kk} {p : Kk × D} (h : p ∈ dropK l k) : p ∈ l := (List.mem_filter.mp h).1
/-- a dict of names' things -/
structure DOk (l : List (Kk × D)) (F : D → Prop) : Prop where
  nd : (l.map (·.1)).Nodup
  vs : ∀ p ∈ l, F p.2
theorem DOk.drop {l : List (Kk × D)} {F : D → Prop} (h : DOk l F) (k : Kk) : DOk (dropK l k) F :=
  ⟨(List.filter_sublist.map _).nodup h.nd, fun p hp => h.vs p (dropK_mem hp)⟩
theorem DOk.put {l : List (Kk × D)} {F : D → Prop} (h : DOk l F) (k : Kk) {v : D} (hv : F v) : DOk (putK (dropK l k) k v) F := by
  rw [putK_new dropK_ne]
  refine ⟨?_, ?_⟩
  · rw [List.map_append, List.nodup_append]
    refine ⟨(h.drop k).nd, by simp, ?_⟩
    intro a ha b hb e
    rw [List.map_cons, List.map_nil, List.mem_singleton] at hb
    subst hb
    obtain ⟨p, hp, rfl⟩ := List.mem_map.mp ha
    exact dropK_ne p hp e
  · intro p hp
    rcases List.mem_append.mp hp with hp | hp
    · exact (h.drop k).vs p hp
    · rw [List.mem_singleton.mp hp]; exact hv
structure HS.Good (xs : List (List Char)) (h : HS) : Prop where
  src : DOk h.src fun v => isW v = true
  rul : DOk h.rul RuleGood
  opn : h.opn.Nodup
  opx : ∀ x ∈ h.opn, x ∈ xs
  wis : h.wis.Nodup
  wix : ∀ x ∈ h.wis, x ∈ xs
theorem HS.Good.nil {xs : List (List Char)} : HS.nil.Good xs := ⟨⟨List.nodup_nil, by simp [HS.nil]⟩, ⟨List.nodup_nil, by simp [HS.nil]⟩, List.nodup_nil, by simp [HS.nil], List.nodup_nil, by simp [HS.nil]⟩
theorem HS.Good.step {xs : List (List Char)} {h : HS} (g : h.Good xs) {d : Deed} (hd : d.Ok) (hx : d.n ∈ xs) : (h.step d).Good xs := by
  obtain ⟨k, n, v⟩ := d
  have add : ∀ {l : List (List Char)}, l.Nodup → (∀ x ∈ l, x ∈ xs) → (if n ∈ l then l else l ++ [n]).Nodup ∧ ∀ x ∈ (if n ∈ l then l else l ++ [n]), x ∈ xs := by
    intro l h1 h2
    split
    · exact ⟨h1, h2⟩
    · rename_i hn
      refine ⟨?_, ?_⟩
      · rw [List.nodup_append]
        refine ⟨h1, by simp, ?_⟩
        intro a ha b hb e
        rw [List.mem_singleton] at hb
        exact hn (by rw [← hb, ← e]; exact ha)
      · intro y hy
        rcases List.mem_append.mp hy with hy | hy
        · exact h2 y hy
        · rw [List.mem_singleton.mp hy]; exact hx
  have sub : ∀ {l : List (List Char)}, l.Nodup → (∀ x ∈ l, x ∈ xs) → (l.erase n).Nodup ∧ ∀ x ∈ l.erase n, x ∈ xs := fun h1 h2 => ⟨h1.erase _, fun y hy => h2 y (List.mem_of_mem_erase hy)⟩
  cases k
  case put => exact ⟨g.src.put _ (hd.src rfl), g.rul.drop _, g.opn, g.opx, g.wis, g.wix⟩
  case rule => exact ⟨g.src.drop _, g.rul.put _ (hd.rul rfl), g.opn, g.opx, g.wis, g.wix⟩
  case drop => exact ⟨g.src.drop _, g.rul.drop _, g.opn, g.opx, g.wis, g.wix⟩
  case opn => exact ⟨g.src, g.rul, (add g.opn g.opx).1, (add g.opn g.opx).2, g.wis, g.wix⟩
  case sht => exact ⟨g.src, g.rul, (sub g.opn g.opx).1, (sub g.opn g.opx).2, g.wis, g.wix⟩
  case wish => exact ⟨g.src, g.rul, g.opn, g.opx, (add g.wis g.wix).1, (add g.wis g.wix).2⟩
  case lets => exact ⟨g.src, g.rul, g.opn, g.opx, (sub g.wis g.wix).1, (sub g.wis g.wix).2⟩
theorem VOk.src {v : D} (h : isW v = true) : VOk v := ⟨raw_pur v (isW_raw h), Nat.le_trans (isW_dep h) (by decide)⟩
theorem VOk.rul {v : D} (h : RuleGood v) : VOk v := ⟨h.pur, Nat.le_trans h.dep (by decide)⟩
theorem HS.Good.len {xs : List (List Char)} {h : HS} (g : h.Good xs) : h.opn.length ≤ xs.length := nodup_len g.opn g.opx
end MP
namespace MP
theorem dig_iff {c : Char} : isDig c = true ↔ 48 ≤ c.toNat ∧ c.toNat ≤ 57 := by rw [isDig, Bool.and_eq_true, decide_eq_true_eq, decide_eq_true_eq]
theorem digF_dig {n : Nat} {c : Char} (h : c ∈ digF n) : isDig c = true := by
  have := Nat.isDigit_of_mem_toDigits (by decide) (by decide) h
  rw [dig_iff]
  simp only [Char.isDigit, Bool.and_eq_true, decide_eq_true_eq] at this
  exact ⟨this.1, this.2⟩
theorem digF_ne (n : Nat) : digF n ≠ [] := Nat.toDigits_ne_nil
/-- a number's figures, and whether a sign stands ahead -/
theorem showI_cases (z : Int) : (0 ≤ z ∧ showI z = digF z.toNat) ∨ (z < 0 ∧ showI z = '-' :: digF (-z).toNat) := by
  cases z with
  | ofNat n => exact .inl ⟨Int.natCast_nonneg n, rfl⟩
  | negSucc n => exact .inr ⟨Int.negSucc_lt_zero n, rfl⟩
end MP
namespace MP
inductive Tk where
  | wrd (w : List Char) | txt (x : List Char) | lp | rp
abbrev sWord : List Char := ['w', 'o', 'r', 'd']
abbrev sText : List Char := ['t', 'e', 'x', 't']
abbrev sBracket : List Char := ['b', 'r', 'a', 'c', 'k', 'e', 't']
def Tk.toD : Tk → D
  | .wrd w => .tup [.str sWord, .str w]
  | .txt x => .tup [.str sText, .str x]
  | .lp => .tup [.str sBracket, .str ['(']]
  | .rp => .tup [.str sBracket, .str [')']]
def Dl (c : Char) : Prop := c ∈ [' ', '\n'] ∨ c ∈ ['(', ')'] ∨ c = '"'
/-- a text goes into these -/
inductive Toks : List Char → List Tk → Prop where
  | nil : Toks [] []
  | blank {c : Char} {r : List Char} {ts : List Tk} : c ∈ [' ', '\n'] → Toks r ts → Toks (c :: r) ts
  | lp {r : List Char} {ts : List Tk} : Toks r ts → Toks ('(' :: r) (.lp :: ts)
  | rp {r : List Char} {ts : List Tk} : Toks r ts → Toks (')' :: r) (.rp :: ts)
  | txt {x r : List Char} {ts : List Tk} : '"' ∉ x → Toks r ts → Toks ('"' :: (x ++ '"' :: r)) (.txt x :: ts)
  | wrd {c : Char} {w r : List Char} {ts : List Tk} : (∀ d ∈ c :: w, ¬ Dl d) → (∀ d r', r = d :: r' → Dl d) → Toks r ts → Toks (c :: (w ++ r)) (.wrd (c :: w) :: ts)
theorem Toks.len {s : List Char} {ts : List Tk} (h : Toks s ts) : ts.length ≤ s.length := by
  induction h with
  | nil => exact Nat.le_refl _
  | blank _ _ ih => rw [List.length_cons]; omega
  | lp _ ih => simp only [List.length_cons]; omega
  | rp _ ih => simp only [List.length_cons]; omega
  | txt _ _ ih => simp only [List.length_cons, List.length_append]; omega
  | wrd _ _ _ ih => simp only [List.length_cons, List.length_append]; omega
end MP
namespace MP
inductive Tr where
  | wrd (w : List Char) | txt (x : List Char) | lst (ts : List Tr)
mutual
/-- a thing of the store that is a tree; its lists are none of the open ones -/
inductive TrAt (st : Sto) (op : List Nat) : D → Tr → Prop where
  | wrd {w : List Char} : TrAt st op (.tup [.str sWord, .str w]) (.wrd w)
  | txt {x : List Char} : TrAt st op (.tup [.str sText, .str x]) (.txt x)
  | lst {n : Nat} {ds : List D} {ts : List Tr} : st[n]? = some (.lst ds) → n ∉ op → TrsAt st op ds ts → TrAt st op (.tup [.str sList, .ref n]) (.lst ts)
inductive TrsAt (st : Sto) (op : List Nat) : List D → List Tr → Prop where
  | nil : TrsAt st op [] []
  | cons {d : D} {t : Tr} {ds : List D} {ts : List Tr} : TrAt st op d t → TrsAt st op ds ts → TrsAt st op (d :: ds) (t :: ts)
end
section
variable {st st' : Sto} {op op' : List Nat}
mutual
theorem TrAt.mono (h : ∀ n o, st[n]? = some o → n ∉ op → st'[n]? = some o ∧ n ∉ op') : ∀ {d : D} {t : Tr}, TrAt st op d t → TrAt st' op' d t
  | _, _, .wrd => .wrd
  | _, _, .txt => .txt
  | _, _, .lst e hn z => .lst (h _ _ e hn).1 (h _ _ e hn).2 (TrsAt.mono h z)
theorem TrsAt.mono (h : ∀ n o, st[n]? = some o → n ∉ op → st'[n]? = some o ∧ n ∉ op') : ∀ {ds : List D} {ts : List Tr}, TrsAt st op ds ts → TrsAt st' op' ds ts
  | _, _, .nil => .nil
  | _, _, .cons a z => .cons (TrAt.mono h a) (TrsAt.mono h z)
end
theorem TrsAt.app : ∀ {ds es : List D} {ts us : List Tr}, TrsAt st op ds ts → TrsAt st op es us → TrsAt st op (ds ++ es) (ts ++ us)
  | _, _, _, _, .nil, h => h
  | _, _, _, _, .cons a z, h => .cons a (TrsAt.app z h)
theorem TrsAt.len : ∀ {ds : List D} {ts : List Tr}, TrsAt st op ds ts → ds.length = ts.length
  | _, _, .nil => rfl
  | _, _, .cons _ z => by rw [List.length_cons, List.length_cons, TrsAt.len z]
end
/-- the open lists in the store -/
inductive Stk (st : Sto) (op : List Nat) (m : Nat) : List Nat → List (List Tr) → Prop where
  | nil : Stk st op m [] []
  | cons {r : Nat} {ds : List D} {ts : List Tr} {R : List Nat} {S : List (List Tr)} : st[r]? = some (.lst ds) → TrsAt st op ds ts → ts.length ≤ m → Stk st op m R S → Stk st op m (r :: R) (ts :: S)
theorem Stk.mono {st st' : Sto} {op op' : List Nat} {m m' : Nat} (hm : m ≤ m') (h : ∀ n o, st[n]? = some o → n ∉ op → st'[n]? = some o ∧ n ∉ op') : ∀ {R : List Nat} {S : List (List Tr)}, (∀ r ∈ R, ∀ o, st[r]? = some o → st'[r]? = some o) → Stk st op m R S → Stk st' op' m' R S
  | _, _, _, .nil => .nil
  | _, _, hR, .cons e z hl k => .cons (hR _ List.mem_cons_self _ e) (z.mono h) (Nat.le_trans hl hm) (Stk.mono hm h (fun r hr => hR r (List.mem_cons_of_mem _ hr)) k)
theorem Stk.len {st : Sto} {op : List Nat} {m : Nat} : ∀ {R : List Nat} {S : List (List Tr)}, Stk st op m R S → R.length = S.length
  | _, _, .nil => rfl
  | _, _, .cons _ _ _ k => by rw [List.length_cons, List.length_cons, k.len]
theorem at_neg {α : Type} {l : List α} {x : α} : atF (l ++ [x]) (-1) = some x := by
  unfold atF idxF
  rw [if_neg (by decide), if_pos (by simp; omega)]
  have : ((-1 : Int) + ((l ++ [x]).length : Nat)).toNat = l.length := by simp; omega
  rw [this]
  simp
/-- the state of the walk -/
structure TW (st0 st : Sto) (o : Nat) (m : Nat) (R : List Nat) (S : List (List Tr)) : Prop where
  ho : st[o]? = some (.lst (R.map D.ref).reverse)
  nd : (o :: R).Nodup
  stk : Stk st (o :: R) m R S
  g : Grow st0 st
  ge : ∀ r ∈ o :: R, st0.length ≤ r
section
variable {st0 st : Sto} {o m : Nat} {R : List Nat} {S : List (List Tr)}
theorem Stk.has {op : List Nat} : ∀ {R : List Nat} {S : List (List Tr)}, Stk st op m R S → ∀ r ∈ R, ∃ ds, st[r]? = some (.lst ds)
  | _, _, .cons e _ _ k, r, hr => by
    rcases List.mem_cons.mp hr with rfl | hr
    · exact ⟨_, e⟩
    · exact Stk.has k r hr
theorem lt_of {n : Nat} {x : O} (h : st[n]? = some x) : n < st.length := (List.getElem?_eq_some_iff.mp h).1
theorem TW.push {r : Nat} {a : List Tr} {d : D} {t : Tr} {ds : List D} (W : TW st0 st o m (r :: R) (a :: S)) (hd : TrAt st (o :: r :: R) d t) (hr : st[r]? = some (.lst ds)) : TW st0 (st.set r (.lst (ds ++ [d]))) o (m + 1) (r :: R) ((a ++ [t]) :: S) := by
  obtain ⟨ho, nd, stk, g, ge⟩ := W
  have nd' := nd
  rw [List.nodup_cons, List.nodup_cons] at nd
  obtain ⟨n1, n2, n3⟩ := nd
  have hor : r ≠ o := fun e => n1 (by rw [e]; exact List.mem_cons_self)
  have hm : ∀ n x, st[n]? = some x → n ∉ o :: r :: R → (st.set r (.lst (ds ++ [d])))[n]? = some x ∧ n ∉ o :: r :: R := by
    intro n x hx hn
    refine ⟨?_, hn⟩
    rw [List.getElem?_set_ne (fun e => hn (by rw [← e]; exact List.mem_cons_of_mem _ List.mem_cons_self))]
    exact hx
  cases stk with
  | cons e z hl k =>
    rw [hr] at e
    cases e
    refine ⟨by rw [List.getElem?_set_ne hor]; exact ho, nd', .cons (sto_set hr) ((z.app (.cons hd .nil)).mono hm) (by simp; omega) (k.mono (by omega) hm fun r' hr' x hx => ?_), g.new (ge r (List.mem_cons_of_mem _ List.mem_cons_self)), ge⟩
    rw [List.getElem?_set_ne (fun e => n2 (by rw [e]; exact hr'))]
    exact hx
end
end MP
namespace MP
mutual
def tkW : D → List Tk
  | .int i => [.wrd (showI i)]
  | .str x => [.txt x]
  | .tup xs => .lp :: (tkWs xs ++ [.rp])
  | _ => []
def tkWs : List D → List Tk
  | [] => []
  | x :: xs => tkW x ++ tkWs xs
end
mutual
def trW : D → Tr
  | .int i => .wrd (showI i)
  | .str x => .txt x
  | .tup xs => .lst (trWs xs)
  | _ => .wrd []
def trWs : List D → List Tr
  | [] => []
  | x :: xs => trW x :: trWs xs
end
mutual
def shW : D → List Char
  | .int i => showI i
  | .str x => '"' :: (x ++ ['"'])
  | .tup xs => '(' :: (joinF [' '] (shWs xs) ++ [')'])
  | _ => []
def shWs : List D → List (List Char)
  | [] => []
  | x :: xs => shW x :: shWs xs
end
theorem isW_fit {d : D} (h : isW d = true) : rawD d = true ∧ fitD d = true ∧ sizD d ≤ 1000 ∧ depD d ≤ 12 := by
  have hr := isW_raw h
  have e := raw_isW hr
  rw [h] at e
  have e := e.symm
  rw [Bool.and_eq_true, Bool.and_eq_true, decide_eq_true_eq, decide_eq_true_eq] at e
  exact ⟨hr, e.1, by omega, by omega⟩
theorem isW_kind {d : D} (h : isW d = true) : (∃ i, d = .int i) ∨ (∃ x, d = .str x) ∨ ∃ xs, d = .tup xs := by
  match d, isW_raw h with
  | .int i, _ => exact .inl ⟨i, rfl⟩
  | .str x, _ => exact .inr (.inl ⟨x, rfl⟩)
  | .tup xs, _ => exact .inr (.inr ⟨xs, rfl⟩)
section
variable {P : Prog} {st : Sto} {Q : D × Sto → Prop} {n i : Nat}
theorem isW_saf {d : D} (st : Sto) (h : isW d = true) : Saf st d := raw_saf st d (isW_raw h)
end
inductive F2 (F : D → D → Prop) : List D → List D → Prop where
  | nil : F2 F [] []
  | cons {a b : D} {l m : List D} : F a b → F2 F l m → F2 F (a :: l) (b :: m)
theorem F2.imp {F G : D → D → Prop} (h : ∀ a b, F a b → G a b) : ∀ {l m : List D}, F2 F l m → F2 G l m
  | _, _, .nil => .nil
  | _, _, .cons a z => .cons (h _ _ a) (F2.imp h z)
section
variable {P : Prog} {st : Sto} {Q : D × Sto → Prop} {n i : Nat}
theorem TrAt.grow {st st' : Sto} (g : Grow st st') {d : D} {t : Tr} (h : TrAt st [] d t) : TrAt st' [] d t := h.mono fun n o e _ => ⟨g.at e, by simp⟩
end
end MP
namespace MP
/-- expressions -/
inductive Ex where
  | lit (w : D) | var (x : List Char) | node (w : List Char) (bs : List (List Char)) (ps : List Ex)
mutual
def Ex.toD : Ex → D
  | .lit w => .tup [.str sLit, w]
  | .var x => .tup [.str sVar, .str x]
  | .node w bs ps => .tup (.str w :: (bs.map D.str ++ Ex.toDs ps))
def Ex.toDs : List Ex → List D
  | [] => []
  | p :: ps => p.toD :: Ex.toDs ps
end
mutual
def Ex.cnt : Ex → Nat
  | .node _ _ ps => 1 + Ex.cnts ps
  | _ => 1
def Ex.cnts : List Ex → Nat
  | [] => 0
  | p :: ps => p.cnt + Ex.cnts ps
end
theorem Ex.toDs_map : ∀ ps : List Ex, Ex.toDs ps = ps.map Ex.toD
  | [] => rfl
  | p :: ps => by rw [Ex.toDs, Ex.toDs_map ps, List.map_cons]
def repB (w : List Char) : Bool := decide (w = sEach ∨ w = sOver)
/-- a node's word, how many names it binds, how many parts -/
inductive FormOk : List Char → List (List Char) → Nat → Prop where
  | lst {k : Nat} : k ≤ 8 → FormOk sList [] k
  | wrd {w : List Char} {bs : List (List Char)} {k : Nat} : getKk kParts w = some (.int k) → bs.length = boundN w → (∀ b ∈ bs, varS b = true) → bs.Nodup → FormOk w bs k
mutual
/-- an expression that stands where these names are bound, so many floors and rounds left -/
inductive ExOk : List (List Char) → Nat → Nat → Ex → Prop where
  | lit {sc : List (List Char)} {fl rd : Nat} {w : D} : isW w = true → sizD w ≤ 100 → ExOk sc fl rd (.lit w)
  | var {sc : List (List Char)} {fl rd : Nat} {x : List Char} : x ∈ sc → varS x = true → ExOk sc fl rd (.var x)
  | node {sc : List (List Char)} {fl rd : Nat} {w : List Char} {bs : List (List Char)} {ps : List Ex} : FormOk w bs ps.length → (ps ≠ [] → 1 ≤ fl) → (repB w = true → 1 ≤ rd) → PsOk sc bs (fl - 1) rd (if repB w = true then rd - 1 else rd) ps → ExOk sc fl rd (.node w bs ps)
/-- a node's parts: in the last one its names are bound, its rounds counted -/
inductive PsOk : List (List Char) → List (List Char) → Nat → Nat → Nat → List Ex → Prop where
  | nil {sc bs : List (List Char)} {fl rd rl : Nat} : PsOk sc bs fl rd rl []
  | one {sc bs : List (List Char)} {fl rd rl : Nat} {p : Ex} : ExOk (sc ++ bs) fl rl p → PsOk sc bs fl rd rl [p]
  | cons {sc bs : List (List Char)} {fl rd rl : Nat} {p q : Ex} {r : List Ex} : ExOk sc fl rd p → PsOk sc bs fl rd rl (q :: r) → PsOk sc bs fl rd rl (p :: q :: r)
end
theorem Ex.cnt_pos : ∀ e : Ex, 1 ≤ e.cnt
  | .lit _ => by simp [Ex.cnt]
  | .var _ => by simp [Ex.cnt]
  | .node _ _ _ => by rw [Ex.cnt]; omega
/-- parts each by its own names and rounds -/
inductive Each2 (fl : Nat) : List (List (List Char) × Nat) → List Ex → Prop where
  | nil : Each2 fl [] []
  | cons {sc : List (List Char)} {rd : Nat} {e : Ex} {l : List (List (List Char) × Nat)} {m : List Ex} : ExOk sc fl rd e → Each2 fl l m → Each2 fl ((sc, rd) :: l) (e :: m)
theorem Each2.len {fl : Nat} : ∀ {l : List (List (List Char) × Nat)} {m : List Ex}, Each2 fl l m → l.length = m.length
  | _, _, .nil => rfl
  | _, _, .cons _ z => by rw [List.length_cons, List.length_cons, z.len]
theorem Each2.app {fl : Nat} : ∀ {l : List (List (List Char) × Nat)} {m : List Ex} {sc : List (List Char)} {rd : Nat} {e : Ex}, Each2 fl l m → ExOk sc fl rd e → Each2 fl (l ++ [(sc, rd)]) (m ++ [e])
  | _, _, _, _, _, .nil, h => .cons h .nil
  | _, _, _, _, _, .cons a z, h => .cons a (z.app h)
theorem varS_iff {x : List Char} : varS x = true ↔ 1 ≤ x.length ∧ x.length ≤ 8 ∧ ∀ c ∈ x, c ∈ lettersC := by
  rw [varS, Bool.and_eq_true, Bool.and_eq_true, decide_eq_true_eq, decide_eq_true_eq, List.all_eq_true]
  simp only [decide_eq_true_eq]
section
variable {P : Prog} {st : Sto} {Q : D × Sto → Prop} {n i : Nat}
/-- names that a rule may look at -/
structure NmAt (st : Sto) (f : Nat) (xs : List (List Char)) : Prop where
  at_ : st[f]? = some (.lst (xs.map .str))
  w : ∀ x ∈ xs, isW (.str x) = true
  sh : ∀ x ∈ xs, x.length ≤ 90
  len : xs.length ≤ 1000
theorem Wd.siz {d : D} (h : Wd 6 3 d) : sizD d ≤ 100 := by
  obtain ⟨s, p, e, h1, h2⟩ := h.ms
  have := raw_ms d h.raw
  rw [e] at this
  cases hf : fitD d with
  | false => rw [hf] at this; cases this
  | true =>
    rw [hf] at this
    have := (Prod.mk.inj (Option.some.inj this)).1
    omega
end
end MP
namespace MP
abbrev sIf : List Char := ['i', 'f']
abbrev sCry : List Char := ['c', 'r', 'y']
def m2 (w a b : List Char) : Bool := (a == w) || (b == w)
section
variable {P : Prog} {st : Sto} {Q : D × Sto → Prop} {n i : Nat}
theorem Ex.cnts_app : ∀ (l m : List Ex), Ex.cnts (l ++ m) = Ex.cnts l + Ex.cnts m
  | [], m => by simp [Ex.cnts]
  | p :: l, m => by rw [List.cons_append, Ex.cnts, Ex.cnts, Ex.cnts_app l m]; omega
theorem NmAt.keep {b f : Nat} {st st' : Sto} {xs : List (List Char)} (h : NmAt st f xs) (k : Keep b st st') (hb : b ≠ f) : NmAt st' f xs := ⟨k.at h.at_ (Ne.symm hb), h.w, h.sh, h.len⟩
end
end MP
namespace MP
end MP
namespace MP
theorem nd_fig {c : Char} (h : isDig c = true ∨ c = '-') : ¬ Dl c := by
  intro hd
  rcases h with h | rfl
  · rw [dig_iff] at h
    rcases hd with hd | hd | hd
    · simp only [List.mem_cons, List.not_mem_nil, or_false] at hd
      rcases hd with rfl | rfl <;> exact absurd h (by decide)
    · simp only [List.mem_cons, List.not_mem_nil, or_false] at hd
      rcases hd with rfl | rfl <;> exact absurd h (by decide)
    · subst hd; exact absurd h (by decide)
  · rcases hd with hd | hd | hd
    · exact absurd hd (by decide)
    · exact absurd hd (by decide)
    · exact absurd hd (by decide)
theorem showI_mem {z : Int} {c : Char} (h : c ∈ showI z) : isDig c = true ∨ c = '-' := by
  rcases showI_cases z with ⟨_, e⟩ | ⟨_, e⟩
  · rw [e] at h; exact .inl (digF_dig h)
  · rw [e] at h
    rcases List.mem_cons.mp h with h | h
    · exact .inr h
    · exact .inl (digF_dig h)
theorem showI_ne (z : Int) : showI z ≠ [] := by
  rcases showI_cases z with ⟨_, e⟩ | ⟨_, e⟩
  · rw [e]; exact digF_ne _
  · rw [e]; simp
theorem raw_noq {x : List Char} (h : rawD (.str x) = true) : '"' ∉ x := by
  rw [rawD, Bool.and_eq_true] at h
  intro hm
  exact absurd (List.all_eq_true.mp h.1 _ hm) (by decide)
def txK : Tk → List Char
  | .wrd w => w
  | .txt x => '"' :: (x ++ ['"'])
  | .lp => ['(']
  | .rp => [')']
def isLpK : Tk → Bool
  | .lp => true
  | _ => false
def isRpK : Tk → Bool
  | .rp => true
  | _ => false
/-- one blank between two, but for brackets -/
def gapC (b : Bool) (t : Tk) : List Char := if (b && !isRpK t) = true then [' '] else []
def clF (b : Bool) : List Tk → List Char
  | [] => []
  | t :: r => gapC b t ++ (txK t ++ clF (!isLpK t) r)
def joinT (ss : List (List Char)) : List Char := (ss.map fun s => ' ' :: s).flatten
theorem joinF_T : ∀ (ss : List (List Char)) (s : List Char), joinF [' '] (s :: ss) = s ++ joinT ss
  | [], s => by simp [joinF, joinT]
  | x :: ss, s => by rw [joinF, joinF_T ss x]; simp [joinT]
def gapB (b : Bool) : List Char := if b = true then [' '] else []
mutual
def tkE : Ex → List Tk
  | .lit w => match w with
    | .tup ws => .lp :: .wrd sLit :: (tkW (.tup ws) ++ [.rp])
    | w => tkW w
  | .var x => [.wrd x]
  | .node w bs ps => .lp :: .wrd w :: (bs.map .wrd ++ (tkEs ps ++ [.rp]))
def tkEs : List Ex → List Tk
  | [] => []
  | p :: ps => tkE p ++ tkEs ps
end
mutual
def trE : Ex → Tr
  | .lit w => match w with
    | .tup ws => .lst [.wrd sLit, trW (.tup ws)]
    | w => trW w
  | .var x => .wrd x
  | .node w bs ps => .lst (.wrd w :: (bs.map .wrd ++ trEs ps))
def trEs : List Ex → List Tr
  | [] => []
  | p :: ps => trE p :: trEs ps
end
mutual
def shE : Ex → List Char
  | .lit w => match w with
    | .tup ws => ['(', 'l', 'i', 't', ' '] ++ (shW (.tup ws) ++ [')'])
    | w => shW w
  | .var x => x
  | .node w bs ps => '(' :: (joinF [' '] (w :: (bs ++ shEs ps)) ++ [')'])
def shEs : List Ex → List (List Char)
  | [] => []
  | p :: ps => shE p :: shEs ps
end
/-- literals are worths -/
inductive ExW : Ex → Prop where
  | lit {w : D} : isW w = true → ExW (.lit w)
  | var {x : List Char} : varS x = true → ExW (.var x)
  | node {w : List Char} {bs : List (List Char)} {ps : List Ex} : FormOk w bs ps.length → (∀ p ∈ ps, ExW p) → ExW (.node w bs ps)
mutual
theorem ExOk.w : ∀ {sc : List (List Char)} {fl rd : Nat} {e : Ex}, ExOk sc fl rd e → ExW e
  | _, _, _, _, .lit h _ => .lit h
  | _, _, _, _, .var _ h => .var h
  | _, _, _, _, .node h _ _ z => .node h (PsOk.w z)
theorem PsOk.w : ∀ {sc bs : List (List Char)} {fl rd rl : Nat} {ps : List Ex}, PsOk sc bs fl rd rl ps → ∀ p ∈ ps, ExW p
  | _, _, _, _, _, _, .nil, _, h => by cases h
  | _, _, _, _, _, _, .one a, p, h => by rw [List.mem_singleton.mp h]; exact ExOk.w a
  | _, _, _, _, _, _, .cons a z, p, h => by
    rcases List.mem_cons.mp h with e | h
    · rw [e]; exact ExOk.w a
    · exact PsOk.w z p h
end
end MP
namespace MP
theorem formOk_facts {w : List Char} {bs : List (List Char)} {k : Nat} (h : FormOk w bs k) : bs.length = boundN w ∧ w ≠ sLit ∧ w ≠ sVar ∧ (∀ b ∈ bs, varS b = true) ∧ k ≤ 8 := by
  cases h with
  | lst hk => exact ⟨rfl, by decide, by decide, by simp, hk⟩
  | wrd h1 h2 h3 h4 =>
    refine ⟨h2, ?_, ?_, h3, ?_⟩
    · rintro rfl; exact absurd h1 (by rw [show getKk kParts sLit = none from rfl]; simp)
    · rintro rfl; exact absurd h1 (by rw [show getKk kParts sVar = none from rfl]; simp)
    · obtain ⟨k', h0, h5, e⟩ := kparts_int h1
      cases e
      omega
theorem node_toD (w : List Char) (bs : List (List Char)) (ps : List Ex) : (Ex.node w bs ps).toD = .tup (.str w :: (bs.map D.str ++ Ex.toDs ps)) := by rw [Ex.toD]
theorem toDs_len (ps : List Ex) : (Ex.toDs ps).length = ps.length := by rw [Ex.toDs_map, List.length_map]
theorem node_bnd {w : List Char} {bs : List (List Char)} {ps : List Ex} (h : FormOk w bs ps.length) : (bs.map D.str ++ Ex.toDs ps).take (boundN w) = bs.map D.str := by
  rw [← (formOk_facts h).1, List.take_append_of_le_length (by simp), List.take_of_length_le (by simp)]
theorem node_drop {w : List Char} {bs : List (List Char)} {ps : List Ex} (h : FormOk w bs ps.length) : (bs.map D.str ++ Ex.toDs ps).drop (boundN w) = Ex.toDs ps := by
  rw [← (formOk_facts h).1]
  have : bs.length = (bs.map D.str).length := by simp
  rw [this, List.drop_left']
  rfl
theorem node_parts {w : List Char} {bs : List (List Char)} {ps : List Ex} (h : FormOk w bs ps.length) : partsD (Ex.node w bs ps).toD = Ex.toDs ps := by
  obtain ⟨_, h2, h3, _⟩ := formOk_facts h
  rw [node_toD, partsD, if_neg (by rintro (h | h); exact h2 h; exact h3 h), node_drop h]
theorem all_varD (bs : List (List Char)) (h : ∀ b ∈ bs, varS b = true) : (bs.map D.str).all varD = true := by
  rw [List.all_eq_true]
  intro d hd
  obtain ⟨b, hb, rfl⟩ := List.mem_map.mp hd
  exact h b hb
theorem ExW.form {e : Ex} (h : ExW e) : formB e.toD = true := by
  cases h with
  | lit hw =>
    rw [Ex.toD, formB_def, if_pos rfl]
    simpa using hw
  | var hx =>
    rw [Ex.toD, formB_def, if_neg (by decide), if_pos rfl]
    show (decide (1 = 1) && varS _) = true
    rw [hx]; rfl
  | node hf hp =>
    rename_i w bs ps
    have hbnd := node_bnd hf
    obtain ⟨h1, h2, h3, h4, h5⟩ := formOk_facts hf
    rw [node_toD, formB_def, if_neg h2, if_neg h3]
    cases hf with
    | lst hk =>
      rw [if_pos rfl]
      simp only [List.map_nil, List.nil_append, toDs_len, decide_eq_true_eq]
      exact hk
    | wrd g1 g2 g3 g4 =>
      rw [if_neg (by rintro rfl; exact absurd g1 (by rw [show getKk kParts sList = none from rfl]; simp)), g1]
      show (decide (((bs.map D.str ++ Ex.toDs ps).length : Int) = boundN w + (ps.length : Int)) && (((bs.map D.str ++ Ex.toDs ps).take (boundN w)).all varD && (decide (boundN w < 2) || !(D.beq ((bs.map D.str ++ Ex.toDs ps).headD .non) ((bs.map D.str ++ Ex.toDs ps).tail.headD .non))))) = true
      rw [hbnd, all_varD bs h4, decide_eq_true (by rw [List.length_append, List.length_map, toDs_len, h1]; push_cast; rfl), Bool.true_and, Bool.true_and]
      by_cases hb2 : boundN w < 2
      · rw [decide_eq_true hb2]; rfl
      · have hbl := bound_le w
        have : bs.length = 2 := by omega
        match bs, this, g4 with
        | [x, y], _, g4 =>
          rw [List.nodup_cons] at g4
          have hne : x ≠ y := fun e => g4.1 (by rw [e]; exact List.mem_cons_self)
          have : D.beq (.str x) (.str y) = false := by
            rw [D.beq]
            exact beq_eq_false_iff_ne.mpr hne
          simp [this]
/-- a place of a rule where an expression stands -/
structure GoodI (x : RI) (e : Ex) : Prop where
  d : x.d = e.toD
  ex : ∃ sc fl rd, ExOk sc fl rd e ∧ x.bs = sc.map .str ∧ x.deep + fl ≤ 12 ∧ x.rep + rd ≤ 2
inductive GoodIs : List RI → List Ex → Prop where
  | nil : GoodIs [] []
  | cons {x : RI} {e : Ex} {l : List RI} {m : List Ex} : GoodI x e → GoodIs l m → GoodIs (x :: l) (e :: m)
theorem GoodIs.app : ∀ {l l' : List RI} {m m' : List Ex}, GoodIs l m → GoodIs l' m' → GoodIs (l ++ l') (m ++ m')
  | _, _, _, _, .nil, h => h
  | _, _, _, _, .cons a z, h => .cons a (z.app h)
theorem GoodIs.rev : ∀ {l : List RI} {m : List Ex}, GoodIs l m → GoodIs l.reverse m.reverse
  | _, _, .nil => .nil
  | _, _, .cons a z => by
    rw [List.reverse_cons, List.reverse_cons]
    exact z.rev.app (.cons a .nil)
theorem cnts_rev (m : List Ex) : Ex.cnts m.reverse = Ex.cnts m := by
  induction m with
  | nil => rfl
  | cons p m ih => rw [List.reverse_cons, Ex.cnts_app, ih]; simp [Ex.cnts]; omega
theorem within_good {sc bs : List (List Char)} {fl rd rl : Nat} {rw : Bool} {deep rep : Int} (h1 : deep + 1 + fl ≤ 12) (h2 : rep + rd ≤ 2) (h3 : (if rw = true then rep + 1 else rep) + rl ≤ 2) : ∀ {ps : List Ex}, PsOk sc bs fl rd rl ps → GoodIs (wiF (bs.map .str) rw (sc.map .str) deep rep (Ex.toDs ps)) ps
  | _, .nil => .nil
  | _, .one a => by
    rw [Ex.toDs, Ex.toDs, wiF]
    exact .cons ⟨rfl, _, _, _, a, by rw [List.map_append], h1, h3⟩ .nil
  | _, .cons a z => by
    have ih := within_good (rw := rw) h1 h2 h3 z
    rw [Ex.toDs] at ih ⊢
    rw [Ex.toDs, wiF]
    exact .cons ⟨rfl, _, _, _, a, rfl, h1, h2⟩ ih
theorem any_names {sc : List (List Char)} {x : List Char} (h : x ∈ sc) : ((sc.map D.str).any fun z => eqS z (.str x)) = true := by
  rw [List.any_eq_true]
  exact ⟨.str x, List.mem_map_of_mem h, by simp [eqS]⟩
theorem repW_node {w : List Char} {r : List D} : repW (.tup (.str w :: r)) = repB w := rfl
theorem ruleGo_good : ∀ (k : Nat) (S : List RI) (es : List Ex), GoodIs S es → Ex.cnts es ≤ k → ruleGo k S = true
  | k, [], _, _, _ => by cases k <;> rfl
  | 0, x :: s, _, .cons (e := e) a z, hk => by
    have := e.cnt_pos
    rw [Ex.cnts] at hk
    omega
  | k + 1, x :: s, _, .cons (e := e) (m := m) a z, hk => by
    obtain ⟨hd, sc, fl, rd, hok, hbs, h12, h2⟩ := a
    have hw := hok.w
    rw [Ex.cnts] at hk
    rw [ruleGo, decide_eq_true (by omega : x.deep ≤ 12), decide_eq_true (by omega : x.rep ≤ 2), hd, hw.form, Bool.true_and, Bool.true_and, Bool.true_and]
    cases hok with
    | lit h _ =>
      rename_i w
      have e1 : varOk x = true := by unfold varOk; rw [hd, Ex.toD]; simp
      have e2 : withinI x = [] := by unfold withinI; rw [hd, Ex.toD]; simp [partsD, wiF]
      rw [e1, e2, Bool.true_and]
      exact ruleGo_good k s m z (by rw [Ex.cnt] at hk; omega; all_goals simp)
    | var hx hv =>
      have e1 : varOk x = true := by
        unfold varOk
        rw [hd, Ex.toD]
        simp only [decide_true, Bool.not_true, Bool.false_or, List.headD_cons, hbs]
        exact any_names hx
      have e2 : withinI x = [] := by unfold withinI; rw [hd, Ex.toD]; simp [partsD, wiF]
      rw [e1, e2, Bool.true_and]
      exact ruleGo_good k s m z (by rw [Ex.cnt] at hk; omega; all_goals simp)
    | node hf hp hr hz =>
      rename_i w bs ps
      obtain ⟨f1, f2, f3, f4, f5⟩ := formOk_facts hf
      have e1 : varOk x = true := by unfold varOk; rw [hd, node_toD]; simp [f3]
      have e2 : withinI x = wiF (bs.map .str) (repB w) (sc.map .str) x.deep x.rep (Ex.toDs ps) := by
        unfold withinI
        rw [hd, node_parts hf, hbs, node_toD, repW_node, bndD, node_bnd hf]
      rw [e1, e2, Bool.true_and]
      have hg : GoodIs (wiF (bs.map .str) (repB w) (sc.map .str) x.deep x.rep (Ex.toDs ps)) ps := by
        cases ps with
        | nil => exact .nil
        | cons p ps =>
          have hfl := hp (by simp)
          refine within_good (by omega) h2 ?_ hz
          cases hrb : repB w with
          | true =>
            have := hr hrb
            simp only [if_true]
            omega
          | false =>
            simp only [Bool.false_eq_true, if_false]
            omega
      refine ruleGo_good k _ (ps.reverse ++ m) (hg.rev.app z) ?_
      rw [Ex.cnts_app, cnts_rev]
      rw [Ex.cnt] at hk
      omega
theorem rule_good {e : Ex} {fl rd : Nat} (h : ExOk [] fl rd e) (hf : fl ≤ 12) (hr : rd ≤ 2) (hc : e.cnt ≤ 60) : ruleB e.toD = true := by
  refine ruleGo_good 60 _ [e] (.cons ⟨rfl, [], fl, rd, h, rfl, ?_, ?_⟩ .nil) (by simpa [Ex.cnts] using hc)
  · show (0 : Int) + fl ≤ 12; omega
  · show (0 : Int) + rd ≤ 2; omega
mutual
def Ex.dep : Ex → Nat
  | .node _ _ ps => 1 + Ex.deps ps
  | _ => 0
def Ex.deps : List Ex → Nat
  | [] => 0
  | p :: ps => max p.dep (Ex.deps ps)
end
theorem Ex.dep_mem {p : Ex} : ∀ {ps : List Ex}, p ∈ ps → p.dep ≤ Ex.deps ps
  | [], h => by cases h
  | q :: ps, h => by
    rw [Ex.deps]
    rcases List.mem_cons.mp h with rfl | h
    · omega
    · have := Ex.dep_mem h; omega
mutual
theorem ExOk.dep : ∀ {sc : List (List Char)} {fl rd : Nat} {e : Ex}, ExOk sc fl rd e → e.dep ≤ fl + 1 ∧ (1 ≤ fl → e.dep ≤ fl + 1)
  | _, _, _, _, .lit h _ => by simp [Ex.dep]
  | _, _, _, _, .var _ h => by simp [Ex.dep]
  | _, fl, _, .node w bs ps, .node h hp _ z => by
    have := PsOk.dep z
    rw [Ex.dep]
    cases ps with
    | nil => simp [Ex.deps]
    | cons p ps => have := hp (by simp); omega
theorem PsOk.dep : ∀ {sc bs : List (List Char)} {fl rd rl : Nat} {ps : List Ex}, PsOk sc bs fl rd rl ps → Ex.deps ps ≤ fl + 1
  | _, _, _, _, _, _, .nil => by simp [Ex.deps]
  | _, _, _, _, _, _, .one a => by have := (ExOk.dep a).1; simp only [Ex.deps]; omega
  | _, _, _, _, _, _, .cons a z => by have := (ExOk.dep a).1; have := PsOk.dep z; rw [Ex.deps]; omega
end
mutual
theorem ExW.pur : ∀ (e : Ex), ExW e → purD e.toD = true ∧ depD e.toD ≤ e.dep + 13
  | .lit w, h => by
    cases h with
    | lit h =>
      have h1 := raw_pur w (isW_raw h)
      have h2 := isW_dep h
      constructor
      · simp [Ex.toD, purD, purDs, h1]
      · simp only [Ex.toD, depD, depDs, Ex.dep]; omega
  | .var x, h => by
    cases h with
    | var h =>
      have := (varS_iff.mp h).2.1
      constructor
      · have : decide (x.length ≤ 100000) = true := decide_eq_true (by omega)
        simp [Ex.toD, purD, purDs, this]
      · simp only [Ex.toD, depD, depDs, Ex.dep]; omega
  | .node w bs ps, h => by
    cases h with
    | node hf hp =>
      obtain ⟨f1, f2, f3, f4, f5⟩ := formOk_facts hf
      have hb := bound_le w
      obtain ⟨h1, h2⟩ := ExWs.pur ps hp
      have hwl : w.length ≤ 100000 := by
        cases hf with
        | lst _ => decide
        | wrd g _ _ _ =>
          unfold getKk at g
          cases hq : kParts.find? (fun kv => decide (kv.1 = w)) with
          | none => rw [hq] at g; cases g
          | some p =>
            have hm := List.mem_of_find?_eq_some hq
            have he := List.find?_some hq
            have he : p.1 = w := of_decide_eq_true he
            have : kParts.all (fun kv => decide (kv.1.length ≤ 100000)) = true := by rfl
            have := of_decide_eq_true (List.all_eq_true.mp this p hm)
            rw [he] at this
            exact this
      have hbp : ∀ d ∈ bs.map D.str, purD d = true ∧ depD d = 0 := by
        intro d hd
        obtain ⟨b, hb, rfl⟩ := List.mem_map.mp hd
        have := (varS_iff.mp (f4 b hb)).2.1
        exact ⟨by rw [purD, decide_eq_true (by omega)], by simp [depD]⟩
      rw [node_toD]
      constructor
      · rw [purD, purDs]
        have e1 : purDs (bs.map D.str ++ Ex.toDs ps) = true := purDs_of fun d hd => by
          rcases List.mem_append.mp hd with hd | hd
          · exact (hbp d hd).1
          · exact purDs_mem h1 hd
        rw [e1, decide_eq_true (by simp only [List.length_cons, List.length_append, List.length_map, toDs_len]; omega), purD, decide_eq_true hwl]
        rfl
      · rw [depD, depDs, Ex.dep]
        have : depDs (bs.map D.str ++ Ex.toDs ps) ≤ Ex.deps ps + 13 := depDs_le fun d hd => by
          rcases List.mem_append.mp hd with hd | hd
          · rw [(hbp d hd).2]; omega
          · exact Nat.le_trans (depDs_mem hd) h2
        have e0 : depD (.str w) = 0 := by simp [depD]
        omega
theorem ExWs.pur : ∀ (ps : List Ex), (∀ p ∈ ps, ExW p) → purDs (Ex.toDs ps) = true ∧ depDs (Ex.toDs ps) ≤ Ex.deps ps + 13
  | [], _ => by simp [Ex.toDs, purDs, depDs]
  | p :: ps, h => by
    obtain ⟨h1, h2⟩ := ExW.pur p (h p List.mem_cons_self)
    obtain ⟨h3, h4⟩ := ExWs.pur ps fun q hq => h q (List.mem_cons_of_mem _ hq)
    rw [Ex.toDs, purDs, depDs, Ex.deps, h1, h3]
    exact ⟨rfl, by omega⟩
end
end MP
namespace MP
instance : DecidablePred Dl := fun c => by unfold Dl; exact inferInstance
theorem var_nd {x : List Char} (h : varS x = true) : x ≠ [] ∧ ∀ c ∈ x, ¬ Dl c := by
  obtain ⟨h1, h2, h3⟩ := varS_iff.mp h
  refine ⟨by rintro rfl; simp at h1, fun c hc => ?_⟩
  have : ∀ c ∈ lettersC, ¬ Dl c := by decide
  exact this c (h3 c hc)
theorem word_nd {w : List Char} {bs : List (List Char)} {k : Nat} (h : FormOk w bs k) : w ≠ [] ∧ ∀ c ∈ w, ¬ Dl c := by
  cases h with
  | lst _ => decide
  | wrd g _ _ _ =>
    unfold getKk at g
    cases hq : kParts.find? (fun kv => decide (kv.1 = w)) with
    | none => rw [hq] at g; cases g
    | some p =>
      have hm := List.mem_of_find?_eq_some hq
      have he := List.find?_some hq
      have he : p.1 = w := of_decide_eq_true he
      have : kParts.all (fun kv => !kv.1.isEmpty && kv.1.all fun c => !decide (Dl c)) = true := by decide
      have := List.all_eq_true.mp this p hm
      rw [he, Bool.and_eq_true, List.all_eq_true] at this
      refine ⟨by rintro rfl; simp at this, fun c hc => ?_⟩
      have := this.2 c hc
      simpa using this
theorem show_nd (z : Int) : showI z ≠ [] ∧ ∀ c ∈ showI z, ¬ Dl c := ⟨showI_ne z, fun c hc => nd_fig (showI_mem hc)⟩
/-- a literal's kinds -/
inductive LitK : D → Prop where
  | num (z : Int) : LitK (.int z)
  | txt (x : List Char) : LitK (.str x)
  | tup (ws : List D) : LitK (.tup ws)
theorem isW_lit {w : D} (h : isW w = true) : LitK w := by
  rcases isW_kind h with ⟨z, rfl⟩ | ⟨x, rfl⟩ | ⟨ws, rfl⟩
  · exact .num z
  · exact .txt x
  · exact .tup ws
mutual
def Tr.dep : Tr → Nat
  | .lst ts => 1 + Tr.deps ts
  | _ => 0
def Tr.deps : List Tr → Nat
  | [] => 0
  | t :: ts => max t.dep (Tr.deps ts)
end
section
variable {P : Prog} {st : Sto} {Q : D × Sto → Prop} {n i : Nat}
theorem TrAt.kind {ws : List D} {d : D} {op : List Nat} (h : TrAt st op d (trW (.tup ws))) : ∃ n, d = .tup [.str sList, .ref n] := by
  rw [trW] at h
  cases h
  exact ⟨_, rfl⟩
theorem TrsAt.grow {st st' : Sto} (g : Grow st st') {ds : List D} {ts : List Tr} (h : TrsAt st [] ds ts) : TrsAt st' [] ds ts := h.mono fun n o e _ => ⟨g.at e, by simp⟩
end
end MP
namespace MP
end MP
namespace MP
end MP
namespace MP
theorem cmpQ_irr : ∀ x : List Char, cmpS x x = false
  | [] => rfl
  | a :: x => by rw [cmpS, if_neg (Nat.lt_irrefl _), if_pos rfl, cmpQ_irr x]
theorem cmpQ_cons {a b : Char} {x y : List Char} : cmpS (a :: x) (b :: y) = true ↔ a.toNat < b.toNat ∨ (a.toNat = b.toNat ∧ cmpS x y = true) := by
  rw [cmpS]
  split
  · simp [*]
  · rename_i h
    split
    · rename_i h2
      simp [h, h2]
    · rename_i h2
      simp [h, h2]
theorem cmpQ_nil {y : List Char} : cmpS [] y = true ↔ y ≠ [] := by cases y <;> simp [cmpS]
theorem cmpQ_nil2 {x : List Char} : cmpS x [] = false := by cases x <;> rfl
theorem cmpQ_trans : ∀ {x y z : List Char}, cmpS x y = true → cmpS y z = true → cmpS x z = true
  | [], y, z, h1, h2 => by
    cases z with
    | nil => rw [cmpQ_nil2] at h2; cases h2
    | cons c z => exact cmpQ_nil.mpr (by simp)
  | a :: x, [], z, h1, h2 => by rw [cmpQ_nil2] at h1; cases h1
  | a :: x, b :: y, [], h1, h2 => by rw [cmpQ_nil2] at h2; cases h2
  | a :: x, b :: y, c :: z, h1, h2 => by
    rw [cmpQ_cons] at h1 h2 ⊢
    rcases h1 with h1 | ⟨h1, k1⟩ <;> rcases h2 with h2 | ⟨h2, k2⟩
    · exact .inl (by omega)
    · exact .inl (by omega)
    · exact .inl (by omega)
    · exact .inr ⟨by omega, cmpQ_trans k1 k2⟩
theorem cmpQ_tri : ∀ {x y : List Char}, x ≠ y → cmpS x y = false → cmpS y x = true
  | [], [], h, _ => absurd rfl h
  | [], b :: y, _, h => by rw [cmpQ_nil.mpr (by simp)] at h; cases h
  | a :: x, [], _, _ => cmpQ_nil.mpr (by simp)
  | a :: x, b :: y, hne, h => by
    rw [cmpQ_cons]
    have hn : ¬ (a.toNat < b.toNat ∨ (a.toNat = b.toNat ∧ cmpS x y = true)) := fun hh => by rw [cmpQ_cons.mpr hh] at h; cases h
    by_cases e : a.toNat = b.toNat
    · have ec : a = b := Char.ext (UInt32.toNat_inj.mp e)
      refine .inr ⟨e.symm, cmpQ_tri (fun hxy => hne (by rw [ec, hxy])) ?_⟩
      cases hh : cmpS x y with
      | false => rfl
      | true => exact absurd (.inr ⟨e, hh⟩) hn
    · exact .inl (by
        have : ¬ a.toNat < b.toNat := fun h => hn (.inl h)
        omega)
/-- in strict order -/
def SrtS : List (List Char) → Prop
  | [] => True
  | x :: l => (∀ y ∈ l, cmpS x y = true) ∧ SrtS l
theorem insS_mem {x : List Char} : ∀ {l : List (List Char)} {y : List Char}, y ∈ insS x l ↔ y = x ∨ y ∈ l
  | [], y => by simp [insS]
  | z :: l, y => by
    rw [insS]
    split
    · rw [List.mem_cons, insS_mem, List.mem_cons]
      constructor
      · rintro (h | h | h)
        · exact .inr (.inl h)
        · exact .inl h
        · exact .inr (.inr h)
      · rintro (h | h | h)
        · exact .inr (.inl h)
        · exact .inl h
        · exact .inr (.inr h)
    · rw [List.mem_cons]
theorem insS_srt {x : List Char} : ∀ {l : List (List Char)}, SrtS l → x ∉ l → SrtS (insS x l)
  | [], _, _ => ⟨by simp, trivial⟩
  | z :: l, h, hx => by
    rw [insS]
    have hzx : z ≠ x := fun e => hx (by rw [e]; exact List.mem_cons_self)
    cases hc : cmpS z x with
    | true =>
      simp only [if_true]
      refine ⟨?_, insS_srt h.2 fun hm => hx (List.mem_cons_of_mem _ hm)⟩
      intro y hy
      rcases insS_mem.mp hy with rfl | hy
      · exact hc
      · exact h.1 y hy
    | false =>
      simp only [Bool.false_eq_true, if_false]
      have hxz := cmpQ_tri hzx hc
      refine ⟨?_, h⟩
      intro y hy
      rcases List.mem_cons.mp hy with rfl | hy
      · exact hxz
      · exact cmpQ_trans hxz (h.1 y hy)
theorem sortS_mem : ∀ {l : List (List Char)} {y : List Char}, y ∈ sortS l ↔ y ∈ l
  | [], _ => Iff.rfl
  | x :: l, y => by rw [sortS, insS_mem, sortS_mem, List.mem_cons]
theorem sortS_srt : ∀ {l : List (List Char)}, l.Nodup → SrtS (sortS l)
  | [], _ => trivial
  | x :: l, h => by
    rw [List.nodup_cons] at h
    rw [sortS]
    exact insS_srt (sortS_srt h.2) fun hm => h.1 (sortS_mem.mp hm)
theorem srt_uniq : ∀ {l m : List (List Char)}, SrtS l → SrtS m → (∀ x, x ∈ l ↔ x ∈ m) → l = m
  | [], [], _, _, _ => rfl
  | [], y :: m, _, _, h => by have := (h y).mpr List.mem_cons_self; cases this
  | x :: l, [], _, _, h => by have := (h x).mp List.mem_cons_self; cases this
  | x :: l, y :: m, hl, hm, h => by
    have hirr : ∀ z : List Char, cmpS z z = true → False := fun z hz => by rw [cmpQ_irr] at hz; cases hz
    have e : x = y := by
      rcases List.mem_cons.mp ((h x).mp List.mem_cons_self) with e | hx
      · exact e
      · rcases List.mem_cons.mp ((h y).mpr List.mem_cons_self) with e | hy
        · exact e.symm
        · exact (hirr x (cmpQ_trans (hl.1 y hy) (hm.1 x hx))).elim
    subst e
    rw [srt_uniq hl.2 hm.2]
    intro z
    constructor
    · intro hz
      rcases List.mem_cons.mp ((h z).mp (List.mem_cons_of_mem _ hz)) with e | hz'
      · exact (hirr x (by have := hl.1 z hz; rw [e] at this; exact this)).elim
      · exact hz'
    · intro hz
      rcases List.mem_cons.mp ((h z).mpr (List.mem_cons_of_mem _ hz)) with e | hz'
      · exact (hirr x (by have := hm.1 z hz; rw [e] at this; exact this)).elim
      · exact hz'
theorem sort_uniq {l m : List (List Char)} (hl : l.Nodup) (hm : m.Nodup) (h : ∀ x, x ∈ l ↔ x ∈ m) : sortS l = sortS m :=
  srt_uniq (sortS_srt hl) (sortS_srt hm) fun x => by rw [sortS_mem, sortS_mem]; exact h x
end MP
namespace MP
mutual
def tkT : Tr → List Tk
  | .wrd w => [.wrd w]
  | .txt x => [.txt x]
  | .lst ts => .lp :: (tkTs ts ++ [.rp])
def tkTs : List Tr → List Tk
  | [] => []
  | t :: ts => tkT t ++ tkTs ts
end
mutual
def shT : Tr → List Char
  | .wrd w => w
  | .txt x => '"' :: (x ++ ['"'])
  | .lst ts => '(' :: (joinF [' '] (shTs ts) ++ [')'])
def shTs : List Tr → List (List Char)
  | [] => []
  | t :: ts => shT t :: shTs ts
end
mutual
def GT : Tr → Prop
  | .wrd w => w ≠ [] ∧ ∀ c ∈ w, ¬ Dl c
  | .txt x => '"' ∉ x
  | .lst ts => GTs ts
def GTs : List Tr → Prop
  | [] => True
  | t :: ts => GT t ∧ GTs ts
end
theorem tkTs_app : ∀ a b : List Tr, tkTs (a ++ b) = tkTs a ++ tkTs b
  | [], b => by simp [tkTs]
  | t :: a, b => by rw [List.cons_append, tkTs, tkTs, tkTs_app a b, List.append_assoc]
theorem shTs_map : ∀ ts : List Tr, shTs ts = ts.map shT
  | [] => rfl
  | t :: ts => by rw [shTs, shTs_map ts, List.map_cons]
theorem GTs_all : ∀ {ts : List Tr}, GTs ts ↔ ∀ t ∈ ts, GT t
  | [] => by simp [GTs]
  | t :: ts => by rw [GTs, GTs_all]; simp
mutual
theorem cl_T : ∀ (t : Tr) (b : Bool) (rest : List Tk), clF b (tkT t ++ rest) = gapB b ++ (shT t ++ clF true rest)
  | .wrd w, b, rest => by rw [tkT, shT]; simp [clF, gapC, gapB, isRpK, isLpK, txK]
  | .txt x, b, rest => by rw [tkT, shT]; simp [clF, gapC, gapB, isRpK, isLpK, txK]
  | .lst ts, b, rest => by
    rw [tkT, shT]
    have e : .lp :: (tkTs ts ++ [.rp]) ++ rest = Tk.lp :: (tkTs ts ++ (.rp :: rest)) := by simp
    rw [e, clF]
    have : clF (!isLpK .lp) (tkTs ts ++ .rp :: rest) = joinF [' '] (shTs ts) ++ (')' :: clF true rest) := cl_Ts0 ts rest
    rw [this]
    simp [gapC, gapB, isRpK, txK]
theorem cl_Ts0 : ∀ (ts : List Tr) (rest : List Tk), clF false (tkTs ts ++ .rp :: rest) = joinF [' '] (shTs ts) ++ (')' :: clF true rest)
  | [], rest => by rw [tkTs, shTs]; rfl
  | t :: ts, rest => by
    rw [tkTs, shTs, List.append_assoc, cl_T t, cl_Ts1 ts, joinF_T]
    simp [gapB]
theorem cl_Ts1 : ∀ (ts : List Tr) (rest : List Tk), clF true (tkTs ts ++ .rp :: rest) = joinT (shTs ts) ++ (')' :: clF true rest)
  | [], rest => by rw [tkTs, shTs]; rfl
  | t :: ts, rest => by
    rw [tkTs, shTs, List.append_assoc, cl_T t, cl_Ts1 ts]
    simp [gapB, joinT]
end
theorem cl_tree (t : Tr) : clF false (tkT t) = shT t := by
  have := cl_T t false []
  rw [List.append_nil] at this
  rw [this]
  simp [gapB, clF]
mutual
theorem tk_W : ∀ d : D, rawD d = true → tkW d = tkT (trW d) ∧ shW d = shT (trW d) ∧ GT (trW d)
  | .int z, _ => ⟨by rw [tkW, trW, tkT], by rw [shW, trW, shT], by
    rw [trW, GT]
    exact show_nd z⟩
  | .str x, h => ⟨by rw [tkW, trW, tkT], by rw [shW, trW, shT], by
    rw [trW, GT]
    exact raw_noq h⟩
  | .tup xs, h => by
    rw [rawD, Bool.and_eq_true] at h
    obtain ⟨h1, h2, h3⟩ := tk_Ws xs h.2
    rw [tkW, trW, tkT, shW, shT, GT, h1, h2]
    exact ⟨rfl, rfl, h3⟩
  | .non, h => by cases h
  | .bl _, h => by cases h
  | .kls _, h => by cases h
  | .ref _, h => by cases h
theorem tk_Ws : ∀ ds : List D, rawDs ds = true → tkWs ds = tkTs (trWs ds) ∧ shWs ds = shTs (trWs ds) ∧ GTs (trWs ds)
  | [], _ => ⟨by rw [tkWs, trWs, tkTs], by rw [shWs, trWs, shTs], by rw [trWs, GTs]; trivial⟩
  | x :: xs, h => by
    rw [rawDs, Bool.and_eq_true] at h
    obtain ⟨h1, h2, h3⟩ := tk_W x h.1
    obtain ⟨k1, k2, k3⟩ := tk_Ws xs h.2
    rw [tkWs, trWs, tkTs, shWs, shTs, GTs, h1, h2, k1, k2]
    exact ⟨rfl, rfl, h3, k3⟩
end
theorem tkTs_words : ∀ bs : List (List Char), tkTs (bs.map .wrd) = bs.map .wrd
  | [] => rfl
  | b :: bs => by rw [List.map_cons, tkTs, tkTs_words bs, tkT, List.map_cons]; rfl
theorem shTs_words : ∀ bs : List (List Char), shTs (bs.map .wrd) = bs
  | [] => rfl
  | b :: bs => by rw [List.map_cons, shTs, shTs_words bs, shT]
theorem shTs_app (a b : List Tr) : shTs (a ++ b) = shTs a ++ shTs b := by rw [shTs_map, shTs_map, shTs_map, List.map_append]
mutual
theorem tk_E : ∀ e : Ex, ExW e → tkE e = tkT (trE e) ∧ shE e = shT (trE e) ∧ GT (trE e)
  | .var x, h => by
    cases h with
    | var h => exact ⟨by rw [tkE, trE, tkT], by rw [shE, trE, shT], by rw [trE, GT]; exact var_nd h⟩
  | .lit w, h => by
    cases h with
    | lit h =>
      have hr := isW_raw h
      obtain ⟨h1, h2, h3⟩ := tk_W w hr
      cases isW_lit h with
      | tup ws =>
        rw [tkE, trE, shE]
        rw [tkT, tkTs, tkTs, tkTs, shT, shTs, shTs, shTs, GT, GTs, GTs, GTs, h1, h2]
        refine ⟨by simp [tkT.eq_1], ?_, ⟨by decide, ?_⟩, h3, trivial⟩
        · simp [joinF, shT, sLit]
        · unfold Dl; decide
      | num z => exact ⟨h1, h2, h3⟩
      | txt x => exact ⟨h1, h2, h3⟩
  | .node w bs ps, h => by
    cases h with
    | node hf hp =>
      obtain ⟨f1, f2, f3, f4, f5⟩ := formOk_facts hf
      obtain ⟨h1, h2, h3⟩ := tk_Es ps hp
      rw [tkE, trE, shE, tkT, tkTs, tkTs_app, tkTs_words, shT, shTs, shTs_app, shTs_words, tkT, shT, GT, GTs, h1, h2]
      refine ⟨by simp, rfl, word_nd hf, ?_⟩
      rw [GTs_all]
      intro t ht
      rcases List.mem_append.mp ht with ht | ht
      · obtain ⟨b, hb, rfl⟩ := List.mem_map.mp ht
        exact var_nd (f4 b hb)
      · exact GTs_all.mp h3 t ht
theorem tk_Es : ∀ ps : List Ex, (∀ p ∈ ps, ExW p) → tkEs ps = tkTs (trEs ps) ∧ shEs ps = shTs (trEs ps) ∧ GTs (trEs ps)
  | [], _ => ⟨by rw [tkEs, trEs, tkTs], by rw [shEs, trEs, shTs], by rw [trEs, GTs]; trivial⟩
  | p :: ps, h => by
    obtain ⟨h1, h2, h3⟩ := tk_E p (h p List.mem_cons_self)
    obtain ⟨k1, k2, k3⟩ := tk_Es ps fun q hq => h q (List.mem_cons_of_mem _ hq)
    rw [tkEs, trEs, tkTs, shEs, shTs, GTs, h1, h2, k1, k2]
    exact ⟨rfl, rfl, h3, k3⟩
end
end MP
namespace MP
abbrev sMade : List Char := ['m', 'a', 'd', 'e']
abbrev sWrong : List Char := ['w', 'r', 'o', 'n', 'g']
abbrev sCried : List Char := ['c', 'r', 'i', 'e', 'd']
abbrev sNone : List Char := ['n', 'o', 'n', 'e']
abbrev sShut : List Char := ['s', 'h', 'u', 't']
abbrev bare : List (List Char) := [['k', 'i', 'n', 'd'], ['g', 'r', 'e', 'a', 't'], ['n', 'o', 'u', 'g', 'h', 't'], ['p', 'l', 'a', 'c', 'e']]
def isE : D → Bool | .str [] => true | _ => false
/-- word and detail of what is wrong -/
def wwD (w d : D) : Bool := match w with
  | .str x => if x ∈ bare then isE d else if x = sNone ∨ x = sShut then isStr d && isW d else decide (x = sCried) && isW d
  | _ => false
end MP
namespace MP
inductive Oc where
  | made (w : D) | wrong (k : List Char) (d : D)
def Oc.toD : Oc → D
  | .made w => .tup [.str sMade, w]
  | .wrong k d => .tup [.str sWrong, .str k, d]
def Oc.w : Oc → D
  | .made w => w
  | .wrong _ d => d
def OcOk : Oc → Prop
  | .made w => isW w = true
  | .wrong k d => wwD (.str k) d = true
def trO : Oc → Tr
  | .made w => .lst [.wrd sMade, trW w]
  | .wrong k d => .lst [.wrd sWrong, .wrd k, trW d]
theorem ww_facts {k : List Char} {d : D} (h : wwD (.str k) d = true) : isW d = true ∧ k ∈ sNone :: sShut :: sCried :: bare := by
  unfold wwD at h
  dsimp only at h
  split at h
  · rename_i hb
    have : d = .str [] := by
      unfold isE at h
      split at h
      · rfl
      · cases h
    subst this
    exact ⟨by decide, by simp only [List.mem_cons] at hb ⊢; exact .inr (.inr (.inr hb))⟩
  · split at h
    · rename_i h2
      rw [Bool.and_eq_true] at h
      exact ⟨h.2, by rcases h2 with rfl | rfl <;> simp⟩
    · rw [Bool.and_eq_true, decide_eq_true_eq] at h
      exact ⟨h.2, by rw [h.1]; simp⟩
theorem OcOk.ww : ∀ {o : Oc}, OcOk o → isW o.w = true
  | .made _, h => h
  | .wrong _ _, h => (ww_facts h).1
theorem bad_nd {k : List Char} (h : k ∈ sNone :: sShut :: sCried :: bare) : k ≠ [] ∧ k.length ≤ 10 ∧ ∀ c ∈ k, ¬ Dl c := by
  have : ∀ k ∈ sNone :: sShut :: sCried :: bare, k ≠ [] ∧ k.length ≤ 10 ∧ ∀ c ∈ k, ¬ (c ∈ [' ', '\n'] ∨ c ∈ ['(', ')'] ∨ c = '"') := by decide
  exact this k h
section
variable {P : Prog} {st : Sto} {Q : D × Sto → Prop} {n i : Nat}
theorem oc_dep {o : Oc} (h : OcOk o) : depD o.toD ≤ 13 := by
  have hd := isW_dep h.ww
  cases o with
  | made w => rw [Oc.w] at hd; rw [Oc.toD, depD, depDs, depDs, depDs]; simp only [depD]; omega
  | wrong k d => rw [Oc.w] at hd; rw [Oc.toD, depD, depDs, depDs, depDs, depDs]; simp only [depD]; omega
end
end MP
namespace MP
abbrev sPaper : List Char := ['p', 'a', 'p', 'e', 'r']
abbrev sLooks : List Char := ['l', 'o', 'o', 'k', 's']
inductive Rc where
  | mk (o : Oc) (ps : List Rc)
mutual
def Rc.toD : Rc → D
  | .mk o ps => .tup [o.toD, .tup (Rc.toDs ps)]
def Rc.toDs : List Rc → List D
  | [] => []
  | p :: ps => p.toD :: Rc.toDs ps
end
mutual
def Rc.cnt : Rc → Nat
  | .mk _ ps => 1 + Rc.cnts ps
def Rc.cnts : List Rc → Nat
  | [] => 0
  | p :: ps => p.cnt + Rc.cnts ps
end
mutual
def trR : Rc → Tr
  | .mk o ps => .lst (trO o :: trRs ps)
def trRs : List Rc → List Tr
  | [] => []
  | p :: ps => trR p :: trRs ps
end
mutual
/-- outcomes of the form, so many parts in all -/
def RcOk : Rc → Prop
  | .mk o ps => OcOk o ∧ RcsOk ps
def RcsOk : List Rc → Prop
  | [] => True
  | p :: ps => RcOk p ∧ RcsOk ps
end
theorem Rc.toDs_map : ∀ ps : List Rc, Rc.toDs ps = ps.map Rc.toD
  | [] => rfl
  | p :: ps => by rw [Rc.toDs, Rc.toDs_map ps, List.map_cons]
theorem RcsOk_all : ∀ {ps : List Rc}, RcsOk ps ↔ ∀ p ∈ ps, RcOk p
  | [] => by simp [RcsOk]
  | p :: ps => by rw [RcsOk, RcsOk_all]; simp
/-- a paper -/
structure Pp where
  rule : Ex
  looks : List (List Char × Oc)
  rc : Rc
def lkD (x : List Char × Oc) : D := .tup [.str x.1, x.2.toD]
def lkT (x : List Char × Oc) : Tr := .lst [.txt x.1, trO x.2]
def Pp.toD (p : Pp) : D := .tup [p.rule.toD, .tup (p.looks.map lkD), p.rc.toD]
def trP (p : Pp) : Tr := .lst [.wrd sPaper, trE p.rule, .lst (.wrd sLooks :: p.looks.map lkT), trR p.rc]
structure PpOk (p : Pp) : Prop where
  w : ExW p.rule
  ok : ruleB p.rule.toD = true
  dep : p.rule.dep ≤ 15
  lk : ∀ l ∈ p.looks, isW (.str l.1) = true ∧ OcOk l.2
  rc : RcOk p.rc
  len : p.looks.length ≤ 10000
  cnt : p.rc.cnt ≤ 30
section
variable {P : Prog} {st : Sto} {Q : D × Sto → Prop} {n i : Nat}
theorem toDs_lenR (ps : List Rc) : (Rc.toDs ps).length = ps.length := by rw [Rc.toDs_map, List.length_map]
end
end MP
namespace MP
abbrev Env := List (Kk × D)
/-- what is bound -/
structure EnvOk (sc : List (List Char)) (v : Env) : Prop where
  has : ∀ x ∈ sc, ∃ d, getK v (.s x) = some d
  wor : ∀ p ∈ v, isW p.2 = true
theorem getK_cons (p : Kk × D) (v : Env) (k : Kk) : getK (p :: v) k = if p.1 = k then some p.2 else getK v k := by
  unfold getK
  rw [List.find?_cons]
  by_cases h : p.1 = k
  · rw [if_pos h, decide_eq_true h]; rfl
  · rw [if_neg h, decide_eq_false h]
theorem getK_in {v : Env} {k : Kk} {d : D} (h : getK v k = some d) : (k, d) ∈ v := by
  induction v with
  | nil => cases h
  | cons p v ih =>
    rw [getK_cons] at h
    split at h
    · rename_i e
      cases h
      rw [← e]
      exact List.mem_cons_self
    · exact List.mem_cons_of_mem _ (ih h)
theorem getK_app (v w : Env) (k : Kk) : getK (v ++ w) k = (getK v k).or (getK w k) := by
  induction v with
  | nil => rfl
  | cons p v ih =>
    rw [List.cons_append, getK_cons, getK_cons, ih]
    split <;> rfl
theorem any_iff {v : Env} {k : Kk} : (v.any fun kv => decide (kv.1 = k)) = true ↔ ∃ d, getK v k = some d := by
  induction v with
  | nil => simp [getK]
  | cons p v ih =>
    rw [List.any_cons, getK_cons, Bool.or_eq_true, ih, decide_eq_true_eq]
    by_cases h : p.1 = k
    · rw [if_pos h]; exact ⟨fun _ => ⟨_, rfl⟩, fun _ => .inl h⟩
    · rw [if_neg h]; exact ⟨fun x => x.resolve_left h, fun x => .inr x⟩
theorem getK_map {v : Env} {k k' : Kk} {d : D} : getK (v.map fun kv => if kv.1 = k then (kv.1, d) else kv) k' = if k' = k then (getK v k).map (fun _ => d) else getK v k' := by
  induction v with
  | nil => simp [getK]
  | cons p v ih =>
    rw [List.map_cons, getK_cons, ih, getK_cons, getK_cons]
    have e1 : (if p.1 = k then (p.1, d) else p).1 = p.1 := by split <;> rfl
    rw [e1]
    by_cases h : p.1 = k
    · by_cases h2 : k' = k
      · subst h2; simp [h]
      · have : p.1 ≠ k' := fun e => h2 (by rw [← e, h])
        simp [h2, this]
    · by_cases h2 : k' = k
      · subst h2; simp [h]
      · simp [h, h2]
theorem getK_put {v : Env} {k k' : Kk} {d : D} : getK (putK v k d) k' = if k' = k then some d else getK v k' := by
  unfold putK
  split
  · rename_i h
    obtain ⟨d', e⟩ := any_iff.mp h
    rw [getK_map, e]
    rfl
  · rename_i h
    have hn : getK v k = none := by
      cases e : getK v k with
      | none => rfl
      | some d' => exact absurd (any_iff.mpr ⟨d', e⟩) h
    rw [getK_app, getK_cons]
    by_cases h2 : k' = k
    · subst h2; simp [hn]
    · rw [if_neg h2, if_neg (fun e => h2 e.symm)]
      cases getK v k' <;> rfl
theorem putK_in {v : Env} {k : Kk} {d : D} {p : Kk × D} (h : p ∈ putK v k d) : p ∈ v ∨ p.2 = d := by
  unfold putK at h
  split at h
  · obtain ⟨q, hq, rfl⟩ := List.mem_map.mp h
    split
    · exact .inr rfl
    · exact .inl hq
  · rcases List.mem_append.mp h with h | h
    · exact .inl h
    · rw [List.mem_singleton.mp h]; exact .inr rfl
theorem putK_le (v : Env) (k : Kk) (d : D) : (putK v k d).length ≤ v.length + 1 := by
  unfold putK
  split
  · rw [List.length_map]; omega
  · simp
theorem EnvOk.put {sc : List (List Char)} {v : Env} (h : EnvOk sc v) (x : List Char) {d : D} (hd : isW d = true) : EnvOk (sc ++ [x]) (putK v (.s x) d) where
  has := by
    intro y hy
    rw [getK_put]
    by_cases e : Kk.s y = .s x
    · rw [if_pos e]; exact ⟨_, rfl⟩
    · rw [if_neg e]
      rcases List.mem_append.mp hy with h1 | h1
      · exact h.has y h1
      · exact absurd (by rw [List.mem_singleton.mp h1]) e
  wor := by
    intro p hp
    rcases putK_in hp with h1 | h1
    · exact h.wor p h1
    · rw [h1]; exact hd
mutual
/-- expressions that can be gone through where these names are bound -/
inductive ExC : List (List Char) → Ex → Prop where
  | lit {sc : List (List Char)} {w : D} : isW w = true → ExC sc (.lit w)
  | var {sc : List (List Char)} {x : List Char} : x ∈ sc → varS x = true → ExC sc (.var x)
  | node {sc : List (List Char)} {w : List Char} {bs : List (List Char)} {ps : List Ex} : FormOk w bs ps.length → PsC sc bs ps → ExC sc (.node w bs ps)
inductive PsC : List (List Char) → List (List Char) → List Ex → Prop where
  | nil {sc bs : List (List Char)} : PsC sc bs []
  | one {sc bs : List (List Char)} {p : Ex} : ExC (sc ++ bs) p → PsC sc bs [p]
  | cons {sc bs : List (List Char)} {p q : Ex} {r : List Ex} : ExC sc p → PsC sc bs (q :: r) → PsC sc bs (p :: q :: r)
end
mutual
theorem ExOk.c : ∀ {sc : List (List Char)} {fl rd : Nat} {e : Ex}, ExOk sc fl rd e → ExC sc e
  | _, _, _, _, .lit h _ => .lit h
  | _, _, _, _, .var h h2 => .var h h2
  | _, _, _, _, .node h _ _ z => .node h z.c
theorem PsOk.c : ∀ {sc bs : List (List Char)} {fl rd rl : Nat} {ps : List Ex}, PsOk sc bs fl rd rl ps → PsC sc bs ps
  | _, _, _, _, _, _, .nil => .nil
  | _, _, _, _, _, _, .one a => .one a.c
  | _, _, _, _, _, _, .cons a z => .cons a.c z.c
end
mutual
theorem ExC.w : ∀ {sc : List (List Char)} {e : Ex}, ExC sc e → ExW e
  | _, _, .lit h => .lit h
  | _, _, .var _ h => .var h
  | _, _, .node h z => .node h z.w
theorem PsC.w : ∀ {sc bs : List (List Char)} {ps : List Ex}, PsC sc bs ps → ∀ p ∈ ps, ExW p
  | _, _, _, .nil, _, h => by cases h
  | _, _, _, .one a, p, h => by rw [List.mem_singleton.mp h]; exact a.w
  | _, _, _, .cons a z, p, h => by
    rcases List.mem_cons.mp h with e | h
    · rw [e]; exact a.w
    · exact z.w p h
end
/-- an outcome that a tuple tells -/
def ocOf : D → Oc
  | .tup [_, w] => .made w
  | .tup [_, .str k, d] => .wrong k d
  | _ => .made .non
theorem ocOf_toD : ∀ o : Oc, ocOf o.toD = o
  | .made _ => rfl
  | .wrong _ _ => rfl
abbrev sGreat : List Char := ['g', 'r', 'e', 'a', 't']
abbrev sKind : List Char := ['k', 'i', 'n', 'd']
def kindO : Oc := .wrong sKind (.str [])
def greatO : Oc := .wrong sGreat (.str [])
def madeO (d : D) : Oc := if isW d = true then .made d else greatO
def rekO (w : List Char) (ws : List D) : Oc := ocOf (rekD w ws)
theorem madeO_toD (d : D) : (madeO d).toD = madeD d := by unfold madeO madeD; split <;> rfl
theorem madeO_ok (d : D) : OcOk (madeO d) := by
  unfold madeO
  split
  · rename_i h; exact h
  · rfl
/-- how far an expression is gone through -/
structure Gs where
  rs : List Rc
  wr : Option Oc
  wt : Bool
  ns : List (List Char)
abbrev Rec := Ex → Env → List (List Char) → Option Rc × List (List Char)
def Rc.o : Rc → Oc
  | .mk o _ => o
def Rc.ps : Rc → List Rc
  | .mk _ ps => ps
/-- the items of what is gone along, or the wrong -/
def itemsO : D → Oc ⊕ List D
  | .tup xs => if xs.length > 10 then .inl greatO else .inr xs
  | _ => .inl kindO
section
variable {fs : List Oc}
def RecOk (fs : List Oc) (rec : Rec) (sc : List (List Char)) (p : Ex) : Prop := ∀ v ns, EnvOk sc v → ns.length ≤ fs.length → (rec p v ns).2.length ≤ fs.length + 1 ∧ ∀ r, (rec p v ns).1 = some r → RcOk r ∧ (rec p v ns).2.length ≤ fs.length
theorem RcOk.oc {r : Rc} (h : RcOk r) : OcOk r.o := by cases r with | mk o ps => rw [RcOk] at h; exact h.1
end
theorem len2 {α : Type} : ∀ {l : List α}, l.length = 2 → ∃ a b, l = [a, b]
  | [a, b], _ => ⟨a, b, rfl⟩
  | [], h => by cases h
  | [_], h => by cases h
  | _ :: _ :: _ :: _, h => by simp at h
theorem len3 {α : Type} : ∀ {l : List α}, l.length = 3 → ∃ a b c, l = [a, b, c]
  | [a, b, c], _ => ⟨a, b, c, rfl⟩
  | [], h => by cases h
  | [_], h => by cases h
  | [_, _], h => by cases h
  | _ :: _ :: _ :: _ :: _, h => by simp at h
/-- the forms -/
inductive Shape : List Char → List (List Char) → Nat → Prop where
  | let1 {x : List Char} : varS x = true → Shape sLet [x] 2
  | if0 : Shape sIf [] 3
  | each {x : List Char} : varS x = true → Shape sEach [x] 2
  | over {x y : List Char} : varS x = true → varS y = true → x ≠ y → Shape sOver [x, y] 3
  | look : Shape sLook [] 1
  | els : Shape sElse [] 2
  | cry : Shape sCry [] 1
  | words {w : List Char} {k : Nat} : w ∉ [sLit, sVar, sLet, sIf, sEach, sOver, sLook, sElse, sCry] → k ≤ 8 → (w ≠ sList → 1 ≤ k) → (w ≠ sList → w ≠ sCount → w ≠ sFigures → 2 ≤ k) → Shape w [] k
theorem getKk_mem {kvs : List (List Char × D)} {w : List Char} {d : D} (h : getKk kvs w = some d) : (w, d) ∈ kvs := by
  unfold getKk at h
  obtain ⟨p, hp, rfl⟩ := Option.map_eq_some_iff.mp h
  have h1 := List.mem_of_find?_eq_some hp
  have h2 := List.find?_some hp
  rw [decide_eq_true_eq] at h2
  rw [← h2]
  exact h1
theorem FormOk.shape {w : List Char} {bs : List (List Char)} {k : Nat} (h : FormOk w bs k) : Shape w bs k := by
  cases h with
  | lst hk => exact .words (by decide) hk (fun h => absurd rfl h) (fun h => absurd rfl h)
  | wrd hg hb hv hn =>
    have hm := getKk_mem hg
    have b0 : boundN w = 0 → bs = [] := fun e => List.eq_nil_of_length_eq_zero (by rw [hb, e])
    have b1 : boundN w = 1 → ∃ x, bs = [x] ∧ varS x = true := fun e => by
      obtain ⟨x, e2⟩ := List.length_eq_one_iff.mp (hb.trans e)
      exact ⟨x, e2, hv x (by rw [e2]; exact List.mem_cons_self)⟩
    simp only [kParts, List.mem_cons, List.not_mem_nil, or_false, Prod.mk.injEq, D.int.injEq] at hm
    rcases hm with ⟨rfl, hk⟩ | ⟨rfl, hk⟩ | ⟨rfl, hk⟩ | ⟨rfl, hk⟩ | ⟨rfl, hk⟩ | ⟨rfl, hk⟩ | ⟨rfl, hk⟩ | ⟨rfl, hk⟩ | ⟨rfl, hk⟩ | ⟨rfl, hk⟩ | ⟨rfl, hk⟩ | ⟨rfl, hk⟩ | ⟨rfl, hk⟩ | ⟨rfl, hk⟩ | ⟨rfl, hk⟩ | ⟨rfl, hk⟩ | ⟨rfl, hk⟩
    · have : k = 3 := by omega
      subst this; rw [b0 (by decide)]; exact .if0
    · have : k = 2 := by omega
      subst this; rw [b0 (by decide)]; exact .words (by decide) (by decide) (fun _ => by decide) (fun _ _ _ => by decide)
    · have : k = 2 := by omega
      subst this; rw [b0 (by decide)]; exact .words (by decide) (by decide) (fun _ => by decide) (fun _ _ _ => by decide)
    · have : k = 2 := by omega
      subst this; rw [b0 (by decide)]; exact .words (by decide) (by decide) (fun _ => by decide) (fun _ _ _ => by decide)
    · have : k = 2 := by omega
      subst this; rw [b0 (by decide)]; exact .words (by decide) (by decide) (fun _ => by decide) (fun _ _ _ => by decide)
    · have : k = 2 := by omega
      subst this; rw [b0 (by decide)]; exact .words (by decide) (by decide) (fun _ => by decide) (fun _ _ _ => by decide)
    · have : k = 2 := by omega
      subst this; rw [b0 (by decide)]; exact .words (by decide) (by decide) (fun _ => by decide) (fun _ _ _ => by decide)
    · have : k = 2 := by omega
      subst this; rw [b0 (by decide)]; exact .words (by decide) (by decide) (fun _ => by decide) (fun _ _ _ => by decide)
    · have : k = 2 := by omega
      subst this; rw [b0 (by decide)]; exact .words (by decide) (by decide) (fun _ => by decide) (fun _ _ _ => by decide)
    · have : k = 1 := by omega
      subst this; rw [b0 (by decide)]; exact .words (by decide) (by decide) (fun _ => by decide) (fun _ h _ => absurd rfl h)
    · have : k = 1 := by omega
      subst this; rw [b0 (by decide)]; exact .words (by decide) (by decide) (fun _ => by decide) (fun _ _ h => absurd rfl h)
    · have : k = 1 := by omega
      subst this; rw [b0 (by decide)]; exact .look
    · have : k = 2 := by omega
      subst this; rw [b0 (by decide)]; exact .els
    · have : k = 1 := by omega
      subst this; rw [b0 (by decide)]; exact .cry
    · have : k = 2 := by omega
      subst this
      obtain ⟨x, e, hx⟩ := b1 (by decide)
      rw [e]; exact .let1 hx
    · have : k = 2 := by omega
      subst this
      obtain ⟨x, e, hx⟩ := b1 (by decide)
      rw [e]; exact .each hx
    · have : k = 3 := by omega
      subst this
      obtain ⟨x, y, e⟩ := len2 (hb.trans (by decide : boundN sOver = 2))
      subst e
      exact .over (hv x (by simp)) (hv y (by simp)) (by simpa using hn)
theorem kind_oc : ∃ o : Oc, kindD = o.toD ∧ OcOk o := ⟨kindO, rfl, rfl⟩
theorem made_oc (d : D) : ∃ o : Oc, madeD d = o.toD ∧ OcOk o := ⟨madeO d, (madeO_toD d).symm, madeO_ok d⟩
theorem rek_oc (w : List Char) (ws : List D) : ∃ o : Oc, rekD w ws = o.toD ∧ OcOk o := by
  have hnum : ∀ a b, ∃ o : Oc, numW w a b = o.toD ∧ OcOk o := by
    intro a b
    unfold numW
    split
    · split
      · exact ⟨.wrong ['n', 'o', 'u', 'g', 'h', 't'] (.str []), rfl, rfl⟩
      · (repeat' split) <;> exact made_oc _
    · exact kind_oc
  have hjoin : ∀ a b, ∃ o : Oc, joinD a b = o.toD ∧ OcOk o := by
    intro a b
    unfold joinD
    split
    · exact made_oc _
    · exact made_oc _
    · exact kind_oc
  have hitem : ∀ a b, ∃ o : Oc, itemD a b = o.toD ∧ OcOk o := by
    intro a b
    unfold itemD
    split
    · split
      · exact made_oc _
      · exact ⟨.wrong ['p', 'l', 'a', 'c', 'e'] (.str []), rfl, rfl⟩
    · exact kind_oc
  have hcount : ∀ a, ∃ o : Oc, countD a = o.toD ∧ OcOk o := by
    intro a
    unfold countD
    split
    · exact made_oc _
    · exact made_oc _
    · exact kind_oc
  have hfig : ∀ a, ∃ o : Oc, figD a = o.toD ∧ OcOk o := by
    intro a
    unfold figD
    split
    · exact made_oc _
    · exact kind_oc
  unfold rekD
  split
  · exact made_oc _
  · split
    · exact hcount _
    · split
      · exact hfig _
      · split
        · exact made_oc _
        · split
          · exact hjoin _ _
          · split
            · exact hitem _ _
            · exact hnum _ _
theorem rekO_toD (w : List Char) (ws : List D) : (rekO w ws).toD = rekD w ws := by
  obtain ⟨o, e, _⟩ := rek_oc w ws
  rw [rekO, e, ocOf_toD]
theorem rekO_ok (w : List Char) (ws : List D) : OcOk (rekO w ws) := by
  obtain ⟨o, e, h⟩ := rek_oc w ws
  rw [rekO, e, ocOf_toD]
  exact h
section
variable {fs : List Oc}
theorem items_ok {d : D} (h : isW d = true) : (∃ o, itemsO d = .inl o ∧ OcOk o) ∨ ∃ xs, itemsO d = .inr xs ∧ d = .tup xs ∧ xs.length ≤ 10 ∧ ∀ x ∈ xs, isW x = true := by
  unfold itemsO
  split
  · rename_i xs
    split
    · exact .inl ⟨_, rfl, rfl⟩
    · rename_i hl
      exact .inr ⟨xs, rfl, rfl, by omega, fun x hx => isW_mem h hx⟩
  · exact .inl ⟨_, rfl, rfl⟩
/-- parts of a good expression, by its form -/
theorem PsC.two {sc bs : List (List Char)} {a b : Ex} (h : PsC sc bs [a, b]) : ExC sc a ∧ ExC (sc ++ bs) b := by
  cases h with
  | cons h1 h2 => cases h2 with | one h3 => exact ⟨h1, h3⟩
theorem PsC.three {sc bs : List (List Char)} {a b c : Ex} (h : PsC sc bs [a, b, c]) : ExC sc a ∧ ExC sc b ∧ ExC (sc ++ bs) c := by
  cases h with
  | cons h1 h2 => exact ⟨h1, h2.two⟩
theorem PsC.only {sc bs : List (List Char)} {a : Ex} (h : PsC sc bs [a]) : ExC (sc ++ bs) a := by
  cases h with
  | one h => exact h
theorem PsC.all {sc : List (List Char)} : ∀ {ps : List Ex}, PsC sc [] ps → ∀ p ∈ ps, ExC sc p
  | _, .nil, _, h => by cases h
  | _, .one a, p, h => by rw [List.mem_singleton.mp h]; rw [List.append_nil] at a; exact a
  | _, .cons a z, p, h => by
    rcases List.mem_cons.mp h with e | h
    · rw [e]; exact a
    · exact z.all p h
theorem RcOk_mk {o : Oc} {ps : List Rc} (h : OcOk o) (hp : ∀ p ∈ ps, RcOk p) : RcOk (.mk o ps) := by rw [RcOk]; exact ⟨h, RcsOk_all.mpr hp⟩
end
end MP
namespace MP
/-- an answer, or a name looked at and what comes by what is found -/
inductive IT (α : Type) where
  | ret (a : α) | ask (x : List Char) (k : Oc → IT α)
def IT.bind {α β : Type} : IT α → (α → IT β) → IT β
  | .ret a, f => f a
  | .ask x k, f => .ask x fun o => (k o).bind f
/-- with these founds: the answer, if it comes to one, and the names looked at -/
def runI {α : Type} : IT α → List Oc → Option α × List (List Char)
  | .ret a, _ => (some a, [])
  | .ask x _, [] => (none, [x])
  | .ask x k, o :: fs => ((runI (k o) fs).1, x :: (runI (k o) fs).2)
structure Gr where
  rs : List Rc
  wr : Option Oc
abbrev TRec := Ex → Env → IT Rc
def outT (rec : TRec) (p : Ex) (v : Env) (g : Gr) : IT (Option Oc × Gr) := (rec p v).bind fun r => .ret (some r.o, ⟨g.rs ++ [r], g.wr⟩)
def wrC : Option Oc × Gr → Option D × Gr
  | (some (.made d), g) => (some d, g)
  | (some (.wrong k d), g) => (none, ⟨g.rs, some (.wrong k d)⟩)
  | (none, g) => (none, g)
def wrthT (rec : TRec) (p : Ex) (v : Env) (g : Gr) : IT (Option D × Gr) := (outT rec p v g).bind fun x => .ret (wrC x)
def withT (x : IT (Option D × Gr)) (f : D → Gr → IT (Option Oc × Gr)) : IT (Option Oc × Gr) := x.bind fun x => match x with
  | (none, g) => .ret (none, g)
  | (some d, g) => f d g
def lastT (rec : TRec) (p : Ex) (v : Env) (g : Gr) : IT (Option Oc × Gr) := withT (wrthT rec p v g) fun d g => .ret (some (.made d), g)
def eachT (rec : TRec) (x : List Char) (p : Ex) (v : Env) : List D → List D → Gr → IT (Option Oc × Gr)
  | [], acc, g => .ret (some (madeO (.tup acc)), g)
  | i :: r, acc, g => withT (wrthT rec p (putK v (.s x) i) g) fun d g => eachT rec x p v r (acc ++ [d]) g
def overT (rec : TRec) (x y : List Char) (p : Ex) (v : Env) : List D → D → Gr → IT (Option Oc × Gr)
  | [], a, g => .ret (some (.made a), g)
  | i :: r, a, g => withT (wrthT rec p (putK (putK v (.s x) i) (.s y) a) g) fun d g => overT rec x y p v r d g
def wordsT (rec : TRec) (w : List Char) (v : Env) : List Ex → List D → Gr → IT (Option Oc × Gr)
  | [], acc, g => .ret (some (rekO w acc), g)
  | p :: r, acc, g => withT (wrthT rec p v g) fun d g => wordsT rec w v r (acc ++ [d]) g
def ifT (rec : TRec) (v : Env) (a b : Ex) (d : D) (g : Gr) : IT (Option Oc × Gr) := match d with
  | .int i => if i = 0 then lastT rec b v g else lastT rec a v g
  | _ => .ret (some kindO, g)
def lookT (d : D) (g : Gr) : IT (Option Oc × Gr) := match d with
  | .str x => .ask x fun o => .ret (some o, g)
  | _ => .ret (some kindO, g)
def elseT (rec : TRec) (v : Env) (b : Ex) (x : IT (Option Oc × Gr)) : IT (Option Oc × Gr) := x.bind fun x => match x with
  | (none, g) => .ret (none, g)
  | (some (.made d), g) => .ret (some (.made d), g)
  | (some (.wrong _ _), g) => lastT rec b v g
def tLet (rec : TRec) (bs : List (List Char)) (ps : List Ex) (v : Env) (g : Gr) : IT (Option Oc × Gr) := match bs, ps with
  | [x], [a, b] => withT (wrthT rec a v g) fun d g => lastT rec b (putK v (.s x) d) g
  | _, _ => .ret (none, g)
def tIf (rec : TRec) (ps : List Ex) (v : Env) (g : Gr) : IT (Option Oc × Gr) := match ps with
  | [c, a, b] => withT (wrthT rec c v g) fun d g => ifT rec v a b d g
  | _ => .ret (none, g)
def eachBT (rec : TRec) (x : List Char) (b : Ex) (v : Env) (d : D) (g : Gr) : IT (Option Oc × Gr) := match itemsO d with
  | .inl o => .ret (some o, g)
  | .inr xs => eachT rec x b v xs [] g
def overBT (rec : TRec) (x y : List Char) (b : Ex) (v : Env) (d i : D) (g : Gr) : IT (Option Oc × Gr) := match itemsO d with
  | .inl o => .ret (some o, g)
  | .inr xs => overT rec x y b v xs i g
def tEach (rec : TRec) (bs : List (List Char)) (ps : List Ex) (v : Env) (g : Gr) : IT (Option Oc × Gr) := match bs, ps with
  | [x], [a, b] => withT (wrthT rec a v g) fun d g => eachBT rec x b v d g
  | _, _ => .ret (none, g)
def tOver (rec : TRec) (bs : List (List Char)) (ps : List Ex) (v : Env) (g : Gr) : IT (Option Oc × Gr) := match bs, ps with
  | [x, y], [a, c, b] => withT (wrthT rec a v g) fun d g => withT (wrthT rec c v g) fun i g => overBT rec x y b v d i g
  | _, _ => .ret (none, g)
def tLook (rec : TRec) (ps : List Ex) (v : Env) (g : Gr) : IT (Option Oc × Gr) := match ps with
  | [a] => withT (wrthT rec a v g) fun d g => lookT d g
  | _ => .ret (none, g)
def tElse (rec : TRec) (ps : List Ex) (v : Env) (g : Gr) : IT (Option Oc × Gr) := match ps with
  | [a, b] => elseT rec v b (outT rec a v g)
  | _ => .ret (none, g)
def tCry (rec : TRec) (ps : List Ex) (v : Env) (g : Gr) : IT (Option Oc × Gr) := match ps with
  | [a] => withT (wrthT rec a v g) fun d g => .ret (some (.wrong sCried d), g)
  | _ => .ret (none, g)
def tNode (rec : TRec) (w : List Char) (bs : List (List Char)) (ps : List Ex) (v : Env) (g : Gr) : IT (Option Oc × Gr) :=
  if w = sLet then tLet rec bs ps v g else if w = sIf then tIf rec ps v g else if w = sEach then tEach rec bs ps v g
  else if w = sOver then tOver rec bs ps v g else if w = sLook then tLook rec ps v g else if w = sElse then tElse rec ps v g
  else if w = sCry then tCry rec ps v g else wordsT rec w v ps [] g
def byT (rec : TRec) (e : Ex) (v : Env) (g : Gr) : IT (Option Oc × Gr) := match e with
  | .lit w => .ret (some (.made w), g)
  | .var x => .ret (some (.made ((getK v (.s x)).getD .non)), g)
  | .node w bs ps => tNode rec w bs ps v g
def recC (x : Option Oc × Gr) : Rc := match x.2.wr with
  | some w => .mk w x.2.rs
  | none => .mk (x.1.getD kindO) x.2.rs
def itF : Nat → TRec
  | 0, _, _ => .ret (.mk kindO [])
  | n + 1, e, v => (byT (itF n) e v ⟨[], none⟩).bind fun x => .ret (recC x)
section
variable {fs : List Oc} {α : Type}
/-- a step of the run does what the tree does -/
def Sim (fs : List Oc) (ns : List (List Char)) (x : Option α × Gs) (t : IT (Option α × Gr)) : Prop := match runI t (fs.drop ns.length) with
  | (some (a, gr), nt) => x = (a, ⟨gr.rs, gr.wr, false, ns ++ nt⟩) ∧ (gr.wr = none → a ≠ none) ∧ (a ≠ none → gr.wr = none)
  | (none, nt) => x.1 = none ∧ x.2.wt = true ∧ x.2.ns = ns ++ nt
theorem Sim.ret {ns : List (List Char)} {a : Option α} {gr : Gr} (h : gr.wr = none → a ≠ none) (h' : a ≠ none → gr.wr = none) : Sim fs ns (a, ⟨gr.rs, gr.wr, false, ns⟩) (.ret (a, gr)) := by
  simp only [Sim, runI, List.append_nil]
  exact ⟨trivial, h, h'⟩
theorem Sim.one {β : Type} {ns : List (List Char)} {a : β} {rs : List Rc} : Sim fs ns (some a, ⟨rs, none, false, ns⟩) (.ret (some a, ⟨rs, none⟩)) := Sim.ret (gr := ⟨rs, none⟩) (by simp) (by simp)
/-- a rule's tree -/
def treeE (e : Ex) : IT Rc := itF 20 e []
end
end MP
namespace MP
end MP
namespace MP
mutual
theorem tkW_sm : ∀ d : D, rawD d = true → fitD d = true → ((tkW d).map fun t => (txK t).length + 4).sum ≤ 66 * sizD d
  | .int z, _, h => by
    rw [fitD, decide_eq_true_eq] at h
    have := showI_len (i := z) (k := 59) (by split at h <;> omega)
    have e : sizD (.int z) = 1 := by simp [sizD]
    rw [tkW, e]
    simp only [List.map_cons, List.map_nil, List.sum_cons, List.sum_nil, txK]
    omega
  | .str x, _, h => by
    rw [tkW, sizD]
    simp only [List.map_cons, List.map_nil, List.sum_cons, List.sum_nil, txK, List.length_cons, List.length_nil, List.length_append]
    omega
  | .tup xs, hx, h => by
    rw [rawD, Bool.and_eq_true] at hx
    rw [fitD, Bool.and_eq_true] at h
    have h1 := tkWs_sm xs hx.2 h.2
    rw [tkW, sizD]
    have e1 : (txK .lp).length = 1 := rfl
    have e2 : (txK .rp).length = 1 := rfl
    simp only [List.map_cons, List.map_append, List.map_nil, List.sum_cons, List.sum_append, List.sum_nil, e1, e2]
    omega
  | .non, h, _ => by cases h
  | .bl _, h, _ => by cases h
  | .kls _, h, _ => by cases h
  | .ref _, h, _ => by cases h
theorem tkWs_sm : ∀ ds : List D, rawDs ds = true → fitDs ds = true → ((tkWs ds).map fun t => (txK t).length + 4).sum ≤ 66 * sizDs ds
  | [], _, _ => by simp [tkWs, sizDs]
  | x :: xs, hx, h => by
    rw [rawDs, Bool.and_eq_true] at hx
    rw [fitDs, Bool.and_eq_true] at h
    have h1 := tkW_sm x hx.1 h.1
    have h3 := tkWs_sm xs hx.2 h.2
    rw [tkWs, sizDs]
    simp only [List.map_append, List.sum_append]
    omega
end
/-- a rule that is not long -/
inductive ExS : Ex → Prop where
  | lit {w : D} : isW w = true → sizD w ≤ 100 → ExS (.lit w)
  | var {x : List Char} : varS x = true → ExS (.var x)
  | node {w : List Char} {bs : List (List Char)} {ps : List Ex} : FormOk w bs ps.length → (∀ p ∈ ps, ExS p) → ExS (.node w bs ps)
mutual
theorem exS_of : ∀ {sc : List (List Char)} {fl rd : Nat} {e : Ex}, ExOk sc fl rd e → ExS e
  | _, _, _, _, .lit h h2 => .lit h h2
  | _, _, _, _, .var _ h => .var h
  | _, _, _, _, .node h _ _ z => .node h (exSs_of z)
theorem exSs_of : ∀ {sc bs : List (List Char)} {fl rd rl : Nat} {ps : List Ex}, PsOk sc bs fl rd rl ps → ∀ p ∈ ps, ExS p
  | _, _, _, _, _, _, .nil, _, h => by cases h
  | _, _, _, _, _, _, .one a, p, h => by rw [List.mem_singleton.mp h]; exact exS_of a
  | _, _, _, _, _, _, .cons a z, p, h => by
    rcases List.mem_cons.mp h with e | h
    · rw [e]; exact exS_of a
    · exact exSs_of z p h
end
theorem form_len {w : List Char} {bs : List (List Char)} {k : Nat} (h : FormOk w bs k) : w.length ≤ 7 := by
  cases h with
  | lst _ => decide
  | wrd g _ _ _ =>
    unfold getKk at g
    cases hq : kParts.find? (fun kv => decide (kv.1 = w)) with
    | none => rw [hq] at g; cases g
    | some p =>
      have hm := List.mem_of_find?_eq_some hq
      have he := List.find?_some hq
      have he : p.1 = w := of_decide_eq_true he
      have : kParts.all (fun kv => decide (kv.1.length ≤ 7)) = true := by rfl
      have := of_decide_eq_true (List.all_eq_true.mp this p hm)
      rw [he] at this
      exact this
theorem vars_sm : ∀ (bs : List (List Char)), (∀ b ∈ bs, varS b = true) → ((bs.map Tk.wrd).map fun t => (txK t).length + 4).sum ≤ 12 * bs.length
  | [], _ => by simp
  | b :: bs, h => by
    have := vars_sm bs fun c hc => h c (List.mem_cons_of_mem _ hc)
    have := (varS_iff.mp (h b List.mem_cons_self)).2.1
    simp only [List.map_cons, List.sum_cons, List.length_cons, txK] at *
    omega
mutual
theorem tkE_sm : ∀ e : Ex, ExS e → ((tkE e).map fun t => (txK t).length + 4).sum ≤ 6640 * e.cnt
  | .lit w, h => by
    cases h with
    | lit h h2 =>
      obtain ⟨r1, r2, _, _⟩ := isW_fit h
      have := tkW_sm w r1 r2
      rw [Ex.cnt]
      · cases isW_lit h with
        | num z => show ((tkW (.int z)).map fun t => (txK t).length + 4).sum ≤ _; omega
        | txt x => show ((tkW (.str x)).map fun t => (txK t).length + 4).sum ≤ _; omega
        | tup ws =>
          have e1 : (txK .lp).length = 1 := rfl
          have e2 : (txK .rp).length = 1 := rfl
          have e3 : (txK (.wrd sLit)).length = 3 := rfl
          simp only [tkE, List.map_cons, List.map_append, List.map_nil, List.sum_cons, List.sum_append, List.sum_nil, e1, e2, e3]
          omega
      all_goals simp
  | .var x, h => by
    cases h with
    | var h =>
      have := (varS_iff.mp h).2.1
      rw [Ex.cnt, tkE]
      · simp only [List.map_cons, List.map_nil, List.sum_cons, List.sum_nil, txK]
        omega
      all_goals simp
  | .node w bs ps, h => by
    cases h with
    | node hf hp =>
      have := tkEs_sm ps hp
      obtain ⟨f1, f2, f3, f4, f5⟩ := formOk_facts hf
      have := vars_sm bs f4
      have := bound_le w
      have := form_len hf
      have e1 : (txK .lp).length = 1 := rfl
      have e2 : (txK .rp).length = 1 := rfl
      have e3 : (txK (.wrd w)).length = w.length := rfl
      rw [Ex.cnt, tkE]
      simp only [List.map_cons, List.map_append, List.map_nil, List.sum_cons, List.sum_append, List.sum_nil, e1, e2, e3] at *
      omega
theorem tkEs_sm : ∀ ps : List Ex, (∀ p ∈ ps, ExS p) → ((tkEs ps).map fun t => (txK t).length + 4).sum ≤ 6640 * Ex.cnts ps
  | [], _ => by simp [tkEs, Ex.cnts]
  | p :: ps, h => by
    have := tkE_sm p (h p List.mem_cons_self)
    have := tkEs_sm ps fun q hq => h q (List.mem_cons_of_mem _ hq)
    rw [tkEs, Ex.cnts]
    simp only [List.map_append, List.sum_append]
    omega
end
theorem clF_len : ∀ (ts : List Tk) (b : Bool), (clF b ts).length ≤ (ts.map fun t => (txK t).length + 4).sum
  | [], _ => by simp [clF]
  | t :: ts, b => by
    have := clF_len ts (!isLpK t)
    have hg : (gapC b t).length ≤ 1 := by unfold gapC; split <;> simp
    rw [clF, List.map_cons, List.sum_cons, List.length_append, List.length_append]
    omega
mutual
def itD : D → Bool
  | .int _ => true
  | .str x => decide (x.length ≤ 100000)
  | .tup xs => decide (xs.length ≤ 100000) && itDs xs
  | _ => false
def itDs : List D → Bool
  | [] => true
  | x :: xs => itD x && itDs xs
end
theorem itDs_all : ∀ {xs : List D}, itDs xs = true ↔ ∀ x ∈ xs, itD x = true
  | [] => by simp [itDs]
  | x :: xs => by rw [itDs, Bool.and_eq_true, itDs_all]; simp
mutual
theorem it_pur : ∀ d : D, itD d = true → purD d = true
  | .int _, _ => rfl
  | .str x, h => by rw [itD] at h; rw [purD]; exact h
  | .tup xs, h => by
    rw [itD, Bool.and_eq_true] at h
    rw [purD, h.1, its_pur xs h.2]; rfl
  | .non, h => by cases h
  | .bl _, h => by cases h
  | .kls _, h => by cases h
  | .ref _, h => by cases h
theorem its_pur : ∀ ds : List D, itDs ds = true → purDs ds = true
  | [], _ => rfl
  | x :: xs, h => by
    rw [itDs, Bool.and_eq_true] at h
    rw [purDs, it_pur x h.1, its_pur xs h.2]; rfl
end
mutual
theorem raw_it : ∀ d : D, rawD d = true → itD d = true
  | .int _, _ => rfl
  | .str x, h => by
    rw [rawD, Bool.and_eq_true, decide_eq_true_eq] at h
    rw [itD, decide_eq_true_eq]; omega
  | .tup xs, h => by
    rw [rawD, Bool.and_eq_true, decide_eq_true_eq] at h
    rw [itD, Bool.and_eq_true, decide_eq_true_eq]
    exact ⟨by omega, raws_it xs h.2⟩
  | .non, h => by cases h
  | .bl _, h => by cases h
  | .kls _, h => by cases h
  | .ref _, h => by cases h
theorem raws_it : ∀ ds : List D, rawDs ds = true → itDs ds = true
  | [], _ => rfl
  | x :: xs, h => by
    rw [rawDs, Bool.and_eq_true] at h
    rw [itDs, raw_it x h.1, raws_it xs h.2]; rfl
end
theorem isW_it {d : D} (h : isW d = true) : itD d = true := raw_it d (isW_raw h)
mutual
theorem ex_it : ∀ e : Ex, ExW e → itD e.toD = true
  | .lit w, h => by
    cases h with
    | lit h =>
      rw [Ex.toD, itD, itDs, itDs, itDs, isW_it h]
      rfl
  | .var x, h => by
    cases h with
    | var h =>
      have := (varS_iff.mp h).2.1
      rw [Ex.toD, itD, itDs, itDs, itDs, itD, itD, decide_eq_true (by omega : x.length ≤ 100000)]
      rfl
  | .node w bs ps, h => by
    cases h with
    | node hf hp =>
      obtain ⟨f1, f2, f3, f4, f5⟩ := formOk_facts hf
      have := bound_le w
      have := form_len hf
      rw [node_toD, itD, itDs, itD, decide_eq_true (by omega : w.length ≤ 100000), decide_eq_true (by simp only [List.length_cons, List.length_append, List.length_map, toDs_len]; omega), Bool.true_and, Bool.true_and, itDs_all]
      intro d hd
      rcases List.mem_append.mp hd with hd | hd
      · obtain ⟨b, hb, rfl⟩ := List.mem_map.mp hd
        have := (varS_iff.mp (f4 b hb)).2.1
        rw [itD, decide_eq_true_eq]; omega
      · exact ex_its ps hp d hd
theorem ex_its : ∀ ps : List Ex, (∀ p ∈ ps, ExW p) → ∀ d ∈ Ex.toDs ps, itD d = true
  | [], _, d, hd => by rw [Ex.toDs] at hd; cases hd
  | p :: ps, h, d, hd => by
    rw [Ex.toDs] at hd
    rcases List.mem_cons.mp hd with rfl | hd
    · exact ex_it p (h p List.mem_cons_self)
    · exact ex_its ps (fun q hq => h q (List.mem_cons_of_mem _ hq)) d hd
end
theorem oc_it {o : Oc} (h : OcOk o) : itD o.toD = true := by
  have hw := isW_it h.ww
  cases o with
  | made w =>
    rw [Oc.w] at hw
    rw [Oc.toD, itD, itDs, itDs, itDs, hw]
    rfl
  | wrong k d =>
    rw [Oc.w] at hw
    have := (bad_nd (ww_facts h).2).2.1
    rw [Oc.toD, itD, itDs, itDs, itDs, itDs, hw, itD, itD, decide_eq_true (by omega : k.length ≤ 100000)]
    rfl
theorem lk_it {l : List Char × Oc} (h : isW (.str l.1) = true ∧ OcOk l.2) : itD (lkD l) = true ∧ depD (lkD l) ≤ 14 := by
  have h1 := isW_it h.1
  have h2 := oc_dep h.2
  rw [lkD, itD, itDs, itDs, itDs, h1, oc_it h.2]
  refine ⟨rfl, ?_⟩
  simp only [depD, depDs]
  omega
end MP
namespace MP
def AllI {α : Type} (Q : α → Prop) : IT α → Prop
  | .ret a => Q a
  | .ask x k => isW (.str x) = true ∧ ∀ o, OcOk o → AllI Q (k o)
section
variable {α β : Type}
theorem AllI.bind {Q : α → Prop} {R : β → Prop} : ∀ {t : IT α} {f : α → IT β}, AllI Q t → (∀ a, Q a → AllI R (f a)) → AllI R (t.bind f)
  | .ret a, f, h, hf => hf a h
  | .ask x k, f, h, hf => ⟨h.1, fun o ho => (h.2 o ho).bind hf⟩
theorem AllI.run {Q : α → Prop} : ∀ {t : IT α}, AllI Q t → ∀ {fs : List Oc}, (∀ o ∈ fs, OcOk o) → (∀ a, (runI t fs).1 = some a → Q a) ∧ ∀ x ∈ (runI t fs).2, isW (.str x) = true
  | .ret a, h, fs, _ => ⟨(fun b e => by rw [runI] at e; cases e; exact h), (fun x hx => by rw [runI] at hx; cases hx)⟩
  | .ask x k, h, [], _ => ⟨(fun b e => by rw [runI] at e; cases e), (fun y hy => by rw [runI, List.mem_singleton] at hy; rw [hy]; exact h.1)⟩
  | .ask x k, h, o :: fs, ho => by
    obtain ⟨h1, h2⟩ := (h.2 o (ho o List.mem_cons_self)).run (fs := fs) fun p hp => ho p (List.mem_cons_of_mem _ hp)
    rw [runI]
    refine ⟨h1, fun y hy => ?_⟩
    rcases List.mem_cons.mp hy with e | hy
    · rw [e]; exact h.1
    · exact h2 y hy
end
/-- records so many floors deep, of at most twelve parts each -/
def RcD : Nat → Rc → Prop
  | 0, _ => False
  | n + 1, .mk o ps => OcOk o ∧ ps.length ≤ 12 ∧ ∀ p ∈ ps, RcD n p
theorem RcD.ok : ∀ {n : Nat} {r : Rc}, RcD n r → RcOk r
  | 0, _, h => h.elim
  | n + 1, .mk o ps, h => RcOk_mk h.1 fun p hp => (h.2.2 p hp).ok
theorem RcD.oc : ∀ {n : Nat} {r : Rc}, RcD n r → OcOk r.o := fun h => h.ok.oc
theorem RcD.mono : ∀ {n m : Nat} {r : Rc}, RcD n r → n ≤ m → RcD m r
  | 0, _, _, h, _ => h.elim
  | n + 1, 0, _, _, h => by omega
  | n + 1, m + 1, .mk o ps, h, hm => ⟨h.1, h.2.1, fun p hp => (h.2.2 p hp).mono (by omega)⟩
theorem RcD.it : ∀ {n : Nat} {r : Rc}, RcD n r → itD r.toD = true ∧ depD r.toD ≤ 2 * n + 12
  | 0, _, h => h.elim
  | n + 1, .mk o ps, h => by
    have h1 := oc_it h.1
    have h2 := oc_dep h.1
    have h3 : itDs (Rc.toDs ps) = true := by
      rw [itDs_all, Rc.toDs_map]
      intro d hd
      obtain ⟨p, hp, rfl⟩ := List.mem_map.mp hd
      exact (h.2.2 p hp).it.1
    have h4 : depDs (Rc.toDs ps) ≤ 2 * n + 12 := depDs_le fun d hd => by
      rw [Rc.toDs_map] at hd
      obtain ⟨p, hp, rfl⟩ := List.mem_map.mp hd
      exact (h.2.2 p hp).it.2
    have hl := h.2.1
    refine ⟨?_, ?_⟩
    · rw [Rc.toD, itD, itDs, itDs, itDs, itD, h1, h3, decide_eq_true (by rw [toDs_lenR]; omega : (Rc.toDs ps).length ≤ 100000)]
      rfl
    · rw [Rc.toD, depD, depDs, depDs, depDs, depD]
      omega
structure GrOk (k m : Nat) (g : Gr) : Prop where
  ln : g.rs.length ≤ m
  rs : ∀ r ∈ g.rs, RcD k r
  wr : ∀ w, g.wr = some w → OcOk w
def XOk (k m : Nat) (x : Option Oc × Gr) : Prop := (∀ o, x.1 = some o → OcOk o) ∧ GrOk k m x.2
def XwOk (k m : Nat) (x : Option D × Gr) : Prop := (∀ d, x.1 = some d → isW d = true) ∧ GrOk k m x.2
section
variable {k m : Nat} {rec : TRec} {p : Ex} {v : Env} {g : Gr}
theorem XOk.some {o : Oc} (ho : OcOk o) (hg : GrOk k m g) : XOk k m (some o, g) := ⟨(fun _ h => by cases h; exact ho), hg⟩
theorem XOk.none (hg : GrOk k m g) : XOk k m (Option.none, g) := ⟨(fun _ h => by cases h), hg⟩
theorem outT_all (h : AllI (RcD k) (rec p v)) (hg : GrOk k m g) : AllI (XOk k (m + 1)) (outT rec p v g) := by
  refine h.bind fun r hr => XOk.some hr.oc ⟨by rw [List.length_append]; have := hg.ln; simp; omega, fun x hx => ?_, hg.wr⟩
  rcases List.mem_append.mp hx with h | h
  · exact hg.rs x h
  · rw [List.mem_singleton.mp h]; exact hr
theorem wrthT_all (h : AllI (RcD k) (rec p v)) (hg : GrOk k m g) : AllI (XwOk k (m + 1)) (wrthT rec p v g) := by
  refine (outT_all h hg).bind fun x hx => ?_
  obtain ⟨o, g'⟩ := x
  obtain ⟨h1, h2⟩ := hx
  cases o with
  | none => exact ⟨(fun _ h => by cases h), h2⟩
  | some o =>
    have ho := h1 o rfl
    cases o with
    | made d => exact ⟨(fun _ h => by cases h; exact ho), h2⟩
    | wrong w d => exact ⟨(fun _ h => by cases h), ⟨h2.ln, h2.rs, (fun _ h => by cases h; exact ho)⟩⟩
theorem withT_all {m' : Nat} {x : IT (Option D × Gr)} {f : D → Gr → IT (Option Oc × Gr)} (h : AllI (XwOk k m) x) (hm : m ≤ m') (hf : ∀ d g, isW d = true → GrOk k m g → AllI (XOk k m') (f d g)) : AllI (XOk k m') (withT x f) := by
  refine h.bind fun x hx => ?_
  obtain ⟨o, g'⟩ := x
  obtain ⟨h1, h2⟩ := hx
  cases o with
  | none => exact XOk.none ⟨Nat.le_trans h2.ln hm, h2.rs, h2.wr⟩
  | some d => exact hf d g' (h1 d rfl) h2
theorem GrOk.mono {m' : Nat} (h : GrOk k m g) (hm : m ≤ m') : GrOk k m' g := ⟨Nat.le_trans h.ln hm, h.rs, h.wr⟩
theorem lastT_all (h : AllI (RcD k) (rec p v)) (hg : GrOk k m g) : AllI (XOk k (m + 1)) (lastT rec p v g) :=
  withT_all (wrthT_all h hg) (Nat.le_refl _) fun d g hd hg => XOk.some hd hg
theorem eachT_all {sc : List (List Char)} {x : List Char} (hv : EnvOk sc v) (h : ∀ v, EnvOk (sc ++ [x]) v → AllI (RcD k) (rec p v)) : ∀ (is acc : List D) (m : Nat) (g : Gr), (∀ i ∈ is, isW i = true) → GrOk k m g → AllI (XOk k (m + is.length)) (eachT rec x p v is acc g)
  | [], acc, m, g, _, hg => XOk.some (madeO_ok _) hg
  | i :: r, acc, m, g, hi, hg => by
    refine withT_all (wrthT_all (h _ (hv.put x (hi i List.mem_cons_self))) hg) (by simp) fun d g _ hg => ?_
    have := eachT_all hv h r (acc ++ [d]) (m + 1) g (fun j hj => hi j (List.mem_cons_of_mem _ hj)) hg
    rw [List.length_cons, show m + (r.length + 1) = m + 1 + r.length by omega]
    exact this
theorem overT_all {sc : List (List Char)} {x y : List Char} (hv : EnvOk sc v) (h : ∀ v, EnvOk (sc ++ [x] ++ [y]) v → AllI (RcD k) (rec p v)) : ∀ (is : List D) (a : D) (m : Nat) (g : Gr), (∀ i ∈ is, isW i = true) → isW a = true → GrOk k m g → AllI (XOk k (m + is.length)) (overT rec x y p v is a g)
  | [], a, m, g, _, ha, hg => XOk.some ha hg
  | i :: r, a, m, g, hi, ha, hg => by
    refine withT_all (wrthT_all (h _ ((hv.put x (hi i List.mem_cons_self)).put y ha)) hg) (by simp) fun d g hd hg => ?_
    have := overT_all hv h r d (m + 1) g (fun j hj => hi j (List.mem_cons_of_mem _ hj)) hd hg
    rw [List.length_cons, show m + (r.length + 1) = m + 1 + r.length by omega]
    exact this
theorem wordsT_all {w : List Char} : ∀ (ps : List Ex) (acc : List D) (m : Nat) (g : Gr), (∀ p ∈ ps, AllI (RcD k) (rec p v)) → GrOk k m g → AllI (XOk k (m + ps.length)) (wordsT rec w v ps acc g)
  | [], acc, m, g, _, hg => XOk.some (rekO_ok _ _) hg
  | p :: r, acc, m, g, h, hg => by
    refine withT_all (wrthT_all (h p List.mem_cons_self) hg) (by simp) fun d g _ hg => ?_
    have := wordsT_all (w := w) r (acc ++ [d]) (m + 1) g (fun q hq => h q (List.mem_cons_of_mem _ hq)) hg
    rw [List.length_cons, show m + (r.length + 1) = m + 1 + r.length by omega]
    exact this
theorem AllI.imp {α : Type} {Q R : α → Prop} : ∀ {t : IT α}, AllI Q t → (∀ a, Q a → R a) → AllI R t
  | .ret a, h, hi => hi a h
  | .ask x k, h, hi => ⟨h.1, fun o ho => (h.2 o ho).imp hi⟩
theorem XOk.mono {m' : Nat} {x : Option Oc × Gr} (h : XOk k m x) (hm : m ≤ m') : XOk k m' x := ⟨h.1, h.2.mono hm⟩
theorem lookT_all {d : D} (hd : isW d = true) (hg : GrOk k m g) : AllI (XOk k m) (lookT d g) := by
  unfold lookT
  cases d with
  | str x => exact ⟨hd, fun o ho => XOk.some ho hg⟩
  | _ => exact XOk.some rfl hg
theorem ifT_all {a b : Ex} {d : D} (ha : AllI (RcD k) (rec a v)) (hb : AllI (RcD k) (rec b v)) (hg : GrOk k m g) : AllI (XOk k (m + 1)) (ifT rec v a b d g) := by
  unfold ifT
  split
  · split
    · exact lastT_all hb hg
    · exact lastT_all ha hg
  · exact XOk.some rfl (hg.mono (by omega))
theorem elseT_all {b : Ex} {x : IT (Option Oc × Gr)} (h : AllI (XOk k m) x) (hb : AllI (RcD k) (rec b v)) : AllI (XOk k (m + 1)) (elseT rec v b x) := by
  refine h.bind fun x hx => ?_
  obtain ⟨o, g'⟩ := x
  obtain ⟨h1, h2⟩ := hx
  cases o with
  | none => exact XOk.none (h2.mono (by omega))
  | some o =>
    cases o with
    | made d => exact XOk.some (h1 _ rfl) (h2.mono (by omega))
    | wrong w d => exact lastT_all hb h2
theorem byT_all {sc : List (List Char)} {e : Ex} (hE : ExC sc e) (hv : EnvOk sc v) (h : ∀ p sc' v, p.dep + 1 ≤ e.dep → ExC sc' p → EnvOk sc' v → AllI (RcD k) (rec p v)) : AllI (XOk k 12) (byT rec e v ⟨[], none⟩) := by
  have g0 : GrOk k 0 (⟨[], none⟩ : Gr) := ⟨Nat.le_refl _, by simp, by simp⟩
  cases hE with
  | lit hw => exact XOk.some hw (g0.mono (by omega))
  | @var _ x hx _ =>
    obtain ⟨d, e⟩ := hv.has x hx
    refine XOk.some ?_ (g0.mono (by omega))
    rw [e]
    exact hv.wor _ (getK_in e)
  | @node _ w bs ps hf hp =>
    have hd : ∀ p ∈ ps, p.dep + 1 ≤ (Ex.node w bs ps).dep := fun p hm => by
      have := Ex.dep_mem hm
      rw [Ex.dep]; omega
    have hs := hf.shape
    generalize hk : ps.length = kk at hs
    cases hs with
    | let1 hx =>
      obtain ⟨a, b, rfl⟩ := len2 hk
      obtain ⟨h1, h2⟩ := hp.two
      exact withT_all (wrthT_all (h a _ v (hd a (by simp)) h1 hv) g0) (by omega) fun d g hd' hg => (lastT_all (h b _ _ (hd b (by simp)) h2 (hv.put _ hd')) hg).imp fun _ hx => hx.mono (by omega)
    | if0 =>
      obtain ⟨a, b, c, rfl⟩ := len3 hk
      obtain ⟨h1, h2, h3⟩ := hp.three
      rw [List.append_nil] at h3
      exact withT_all (wrthT_all (h a _ v (hd a (by simp)) h1 hv) g0) (by omega) fun d g hd' hg => (ifT_all (h b _ _ (hd b (by simp)) h2 hv) (h c _ _ (hd c (by simp)) h3 hv) hg).imp fun _ hx => hx.mono (by omega)
    | each hx =>
      obtain ⟨a, b, rfl⟩ := len2 hk
      obtain ⟨h1, h2⟩ := hp.two
      refine withT_all (wrthT_all (h a _ v (hd a (by simp)) h1 hv) g0) (by omega) fun d g hd' hg => ?_
      unfold eachBT
      rcases items_ok hd' with ⟨o, e, ho⟩ | ⟨xs, e, _, hl, hxs⟩
      · rw [e]; exact XOk.some ho (hg.mono (by omega))
      · rw [e]; exact (eachT_all hv (fun v hv => h b _ v (hd b (by simp)) h2 hv) xs [] _ g hxs hg).imp fun _ hx => hx.mono (by omega)
    | over hx hy hxy =>
      obtain ⟨a, c, b, rfl⟩ := len3 hk
      obtain ⟨h1, h3, h2⟩ := hp.three
      refine withT_all (wrthT_all (h a _ v (hd a (by simp)) h1 hv) g0) (by omega) fun d g hd' hg => ?_
      refine withT_all (wrthT_all (h c _ v (hd c (by simp)) h3 hv) hg) (by omega) fun i g hi hg => ?_
      unfold overBT
      rcases items_ok hd' with ⟨o, e, ho⟩ | ⟨xs, e, _, hl, hxs⟩
      · rw [e]; exact XOk.some ho (hg.mono (by omega))
      · rw [e]
        refine (overT_all hv (fun v hv => h b _ v (hd b (by simp)) ?_ hv) xs i _ g hxs hi hg).imp fun _ hx => hx.mono (by omega)
        rw [List.append_assoc]
        exact h2
    | look =>
      obtain ⟨a, rfl⟩ := List.length_eq_one_iff.mp hk
      have h1 := hp.only
      rw [List.append_nil] at h1
      exact withT_all (wrthT_all (h a _ v (hd a (by simp)) h1 hv) g0) (by omega) fun d g hd' hg => (lookT_all hd' hg).imp fun _ hx => hx.mono (by omega)
    | els =>
      obtain ⟨a, b, rfl⟩ := len2 hk
      obtain ⟨h1, h2⟩ := hp.two
      rw [List.append_nil] at h2
      exact (elseT_all (outT_all (h a _ v (hd a (by simp)) h1 hv) g0) (h b _ v (hd b (by simp)) h2 hv)).imp fun _ hx => hx.mono (by omega)
    | cry =>
      obtain ⟨a, rfl⟩ := List.length_eq_one_iff.mp hk
      have h1 := hp.only
      rw [List.append_nil] at h1
      refine withT_all (wrthT_all (h a _ v (hd a (by simp)) h1 hv) g0) (by omega) fun d g hd' hg => XOk.some ?_ (hg.mono (by omega))
      show wwD (.str sCried) d = true
      rw [wwD, if_neg (by decide), if_neg (by decide), hd']
      rfl
    | words hw hkl _ _ =>
      simp only [List.mem_cons, List.not_mem_nil, or_false, not_or] at hw
      obtain ⟨-, -, h3, h4, h5, h6, h7, h8, h9⟩ := hw
      rw [byT, tNode, if_neg h3, if_neg h4, if_neg h5, if_neg h6, if_neg h7, if_neg h8, if_neg h9]
      exact (wordsT_all ps [] 0 _ (fun p hm => h p _ v (hd p hm) (hp.all p hm) hv) g0).imp fun _ hx => hx.mono (by omega)
theorem recC_all {x : Option Oc × Gr} (h : XOk k 12 x) : RcD (k + 1) (recC x) := by
  obtain ⟨o, g⟩ := x
  obtain ⟨h1, h2⟩ := h
  unfold recC
  dsimp only
  cases hw : g.wr with
  | some w => exact ⟨h2.wr w hw, h2.ln, h2.rs⟩
  | none =>
    cases o with
    | none => exact ⟨rfl, h2.ln, h2.rs⟩
    | some o => exact ⟨h1 o rfl, h2.ln, h2.rs⟩
end
theorem itF_all : ∀ (n : Nat) (e : Ex) (sc : List (List Char)) (v : Env), e.dep < n → ExC sc e → EnvOk sc v → AllI (RcD n) (itF n e v) := by
  intro n
  induction n with
  | zero => intro e sc v h; omega
  | succ n ih =>
    intro e sc v hd hE hv
    rw [itF]
    exact (byT_all hE hv fun p sc' v h1 h2 h3 => ih p sc' v (by omega) h2 h3).bind fun x hx => recC_all hx
theorem treeE_all {e : Ex} (hE : ExC [] e) (hd : e.dep < 20) : AllI (RcD 20) (treeE e) := itF_all 20 e [] [] hd hE ⟨by simp, by simp⟩
end MP
namespace MP
abbrev Lk := List (List Char × Oc)
mutual
/-- a record of an expression where this is bound, by these looks -/
inductive RR : Ex → Env → Rc → Lk → Prop where
  | lit {w : D} {v : Env} : RR (.lit w) v (.mk (.made w) []) []
  | var {x : List Char} {v : Env} {d : D} : getK v (.s x) = some d → RR (.var x) v (.mk (.made d) []) []
  | let1 {x : List Char} {a b : Ex} {v : Env} {r : Rc} {k : List Char} {d : D} {L : Lk} : RR a v r L → r.o = .wrong k d → RR (.node sLet [x] [a, b]) v (.mk (.wrong k d) [r]) L
  | let2 {x : List Char} {a b : Ex} {v : Env} {r r' : Rc} {d : D} {L L' : Lk} : RR a v r L → r.o = .made d → RR b (putK v (.s x) d) r' L' → RR (.node sLet [x] [a, b]) v (.mk r'.o [r, r']) (L ++ L')
  | if1 {a b c : Ex} {v : Env} {r : Rc} {k : List Char} {d : D} {L : Lk} : RR a v r L → r.o = .wrong k d → RR (.node sIf [] [a, b, c]) v (.mk (.wrong k d) [r]) L
  | if2 {a b c : Ex} {v : Env} {r : Rc} {d : D} {L : Lk} : RR a v r L → r.o = .made d → (∀ i, d ≠ .int i) → RR (.node sIf [] [a, b, c]) v (.mk kindO [r]) L
  | if3 {a b c : Ex} {v : Env} {r r' : Rc} {i : Int} {L L' : Lk} : RR a v r L → r.o = .made (.int i) → RR (if i = 0 then c else b) v r' L' → RR (.node sIf [] [a, b, c]) v (.mk r'.o [r, r']) (L ++ L')
  | each1 {x : List Char} {a b : Ex} {v : Env} {r : Rc} {k : List Char} {d : D} {L : Lk} : RR a v r L → r.o = .wrong k d → RR (.node sEach [x] [a, b]) v (.mk (.wrong k d) [r]) L
  | each2 {x : List Char} {a b : Ex} {v : Env} {r : Rc} {d : D} {o : Oc} {L : Lk} : RR a v r L → r.o = .made d → itemsO d = .inl o → RR (.node sEach [x] [a, b]) v (.mk o [r]) L
  | each3 {x : List Char} {a b : Ex} {v : Env} {r : Rc} {d : D} {o : Oc} {xs : List D} {rs : List Rc} {L L' : Lk} : RR a v r L → r.o = .made d → itemsO d = .inr xs → EA x b v xs [] rs o L' → RR (.node sEach [x] [a, b]) v (.mk o (r :: rs)) (L ++ L')
  | over1 {x y : List Char} {a c b : Ex} {v : Env} {r : Rc} {k : List Char} {d : D} {L : Lk} : RR a v r L → r.o = .wrong k d → RR (.node sOver [x, y] [a, c, b]) v (.mk (.wrong k d) [r]) L
  | over2 {x y : List Char} {a c b : Ex} {v : Env} {r r' : Rc} {k : List Char} {d d' : D} {L L' : Lk} : RR a v r L → r.o = .made d → RR c v r' L' → r'.o = .wrong k d' → RR (.node sOver [x, y] [a, c, b]) v (.mk (.wrong k d') [r, r']) (L ++ L')
  | over3 {x y : List Char} {a c b : Ex} {v : Env} {r r' : Rc} {d d' : D} {o : Oc} {L L' : Lk} : RR a v r L → r.o = .made d → RR c v r' L' → r'.o = .made d' → itemsO d = .inl o → RR (.node sOver [x, y] [a, c, b]) v (.mk o [r, r']) (L ++ L')
  | over4 {x y : List Char} {a c b : Ex} {v : Env} {r r' : Rc} {d d' : D} {o : Oc} {xs : List D} {rs : List Rc} {L L' L2 : Lk} : RR a v r L → r.o = .made d → RR c v r' L' → r'.o = .made d' → itemsO d = .inr xs → OV x y b v xs d' rs o L2 → RR (.node sOver [x, y] [a, c, b]) v (.mk o (r :: r' :: rs)) (L ++ (L' ++ L2))
  | look1 {a : Ex} {v : Env} {r : Rc} {k : List Char} {d : D} {L : Lk} : RR a v r L → r.o = .wrong k d → RR (.node sLook [] [a]) v (.mk (.wrong k d) [r]) L
  | look2 {a : Ex} {v : Env} {r : Rc} {d : D} {L : Lk} : RR a v r L → r.o = .made d → (∀ x, d ≠ .str x) → RR (.node sLook [] [a]) v (.mk kindO [r]) L
  | look3 {a : Ex} {v : Env} {r : Rc} {x : List Char} {o : Oc} {L : Lk} : RR a v r L → r.o = .made (.str x) → RR (.node sLook [] [a]) v (.mk o [r]) (L ++ [(x, o)])
  | els1 {a b : Ex} {v : Env} {r : Rc} {d : D} {L : Lk} : RR a v r L → r.o = .made d → RR (.node sElse [] [a, b]) v (.mk (.made d) [r]) L
  | els2 {a b : Ex} {v : Env} {r r' : Rc} {k : List Char} {d : D} {L L' : Lk} : RR a v r L → r.o = .wrong k d → RR b v r' L' → RR (.node sElse [] [a, b]) v (.mk r'.o [r, r']) (L ++ L')
  | cry1 {a : Ex} {v : Env} {r : Rc} {k : List Char} {d : D} {L : Lk} : RR a v r L → r.o = .wrong k d → RR (.node sCry [] [a]) v (.mk (.wrong k d) [r]) L
  | cry2 {a : Ex} {v : Env} {r : Rc} {d : D} {L : Lk} : RR a v r L → r.o = .made d → RR (.node sCry [] [a]) v (.mk (.wrong sCried d) [r]) L
  | words {w : List Char} {ps : List Ex} {v : Env} {rs : List Rc} {o : Oc} {L : Lk} : w ∉ [sLit, sVar, sLet, sIf, sEach, sOver, sLook, sElse, sCry] → WD w v ps [] rs o L → RR (.node w [] ps) v (.mk o rs) L
inductive EA : List Char → Ex → Env → List D → List D → List Rc → Oc → Lk → Prop where
  | nil {x : List Char} {b : Ex} {v : Env} {acc : List D} : EA x b v [] acc [] (madeO (.tup acc)) []
  | wr {x : List Char} {b : Ex} {v : Env} {i : D} {is acc : List D} {r : Rc} {k : List Char} {d : D} {L : Lk} : RR b (putK v (.s x) i) r L → r.o = .wrong k d → EA x b v (i :: is) acc [r] (.wrong k d) L
  | cons {x : List Char} {b : Ex} {v : Env} {i : D} {is acc : List D} {r : Rc} {d : D} {rs : List Rc} {o : Oc} {L L' : Lk} : RR b (putK v (.s x) i) r L → r.o = .made d → EA x b v is (acc ++ [d]) rs o L' → EA x b v (i :: is) acc (r :: rs) o (L ++ L')
inductive OV : List Char → List Char → Ex → Env → List D → D → List Rc → Oc → Lk → Prop where
  | nil {x y : List Char} {b : Ex} {v : Env} {a : D} : OV x y b v [] a [] (.made a) []
  | wr {x y : List Char} {b : Ex} {v : Env} {i : D} {is : List D} {a : D} {r : Rc} {k : List Char} {d : D} {L : Lk} : RR b (putK (putK v (.s x) i) (.s y) a) r L → r.o = .wrong k d → OV x y b v (i :: is) a [r] (.wrong k d) L
  | cons {x y : List Char} {b : Ex} {v : Env} {i : D} {is : List D} {a : D} {r : Rc} {d : D} {rs : List Rc} {o : Oc} {L L' : Lk} : RR b (putK (putK v (.s x) i) (.s y) a) r L → r.o = .made d → OV x y b v is d rs o L' → OV x y b v (i :: is) a (r :: rs) o (L ++ L')
inductive WD : List Char → Env → List Ex → List D → List Rc → Oc → Lk → Prop where
  | nil {w : List Char} {v : Env} {acc : List D} : WD w v [] acc [] (rekO w acc) []
  | wr {w : List Char} {v : Env} {p : Ex} {ps : List Ex} {acc : List D} {r : Rc} {k : List Char} {d : D} {L : Lk} : RR p v r L → r.o = .wrong k d → WD w v (p :: ps) acc [r] (.wrong k d) L
  | cons {w : List Char} {v : Env} {p : Ex} {ps : List Ex} {acc : List D} {r : Rc} {d : D} {rs : List Rc} {o : Oc} {L L' : Lk} : RR p v r L → r.o = .made d → WD w v ps (acc ++ [d]) rs o L' → WD w v (p :: ps) acc (r :: rs) o (L ++ L')
end
theorem made_w {r : Rc} {d : D} (h : OcOk r.o) (e : r.o = .made d) : isW d = true := by rw [e] at h; exact h
end MP
namespace MP
/-- an outcome that is not long -/
def OcS (o : Oc) : Prop := OcOk o ∧ sizD o.w ≤ 50
mutual
def RcS : Rc → Prop
  | .mk o ps => OcS o ∧ RcsS ps
def RcsS : List Rc → Prop
  | [] => True
  | p :: ps => RcS p ∧ RcsS ps
end
mutual
theorem rcS_ok : ∀ r : Rc, RcS r → RcOk r
  | .mk o ps, h => by
    rw [RcS] at h
    rw [RcOk]
    exact ⟨h.1.1, rcsS_ok ps h.2⟩
theorem rcsS_ok : ∀ ps : List Rc, RcsS ps → RcsOk ps
  | [], _ => trivial
  | p :: ps, h => by
    rw [RcsS] at h
    rw [RcsOk]
    exact ⟨rcS_ok p h.1, rcsS_ok ps h.2⟩
end
theorem str_isW {x : List Char} (hl : (x.length : Int) ≤ 15) (hs : x.all signC = true) : isW (.str x) = true := (Wd.str (room := 1) (deep := 0) (by decide) (by decide) hl hs).w (by decide) (by decide)
end MP
set_option maxHeartbeats 1000000
namespace MP
def isQ (c : Char) : Bool := [c] == ['"']
def qx (q : Bool) (c : Char) : Bool := !(q == isQ c)
end MP
namespace MP
def SL (ts : List Tk) : Nat := (ts.map fun t => (txK t).length + 4).sum
theorem SL_app (a b : List Tk) : SL (a ++ b) = SL a + SL b := by simp [SL]
theorem SL_cons (t : Tk) (b : List Tk) : SL (t :: b) = (txK t).length + 4 + SL b := by simp [SL]
theorem SL_nil : SL [] = 0 := rfl
theorem sh_SL (t : Tr) : (shT t).length ≤ SL (tkT t) := by rw [← cl_tree t]; exact clF_len _ _
theorem SL_W {d : D} (h : isW d = true) : SL (tkT (trW d)) ≤ 66 * sizD d := by
  have h1 := isW_raw h
  rw [← (tk_W d h1).1]
  have h2 := raw_isW h1
  rw [h, eq_comm, Bool.and_eq_true] at h2
  exact tkW_sm d h1 h2.1
theorem bad_len {k : List Char} (h : k ∈ sNone :: sShut :: sCried :: bare) : k.length ≤ 10 := (bad_nd h).2.1
theorem SL_O {o : Oc} (h : OcS o) : SL (tkT (trO o)) ≤ 3350 := by
  obtain ⟨h1, h2⟩ := h
  have h3 := SL_W h1.ww
  cases o with
  | made w =>
    simp only [Oc.w] at h2 h3
    simp only [trO, tkT, tkTs, SL_app, SL_cons, SL_nil, List.cons_append, List.nil_append, txK, List.length_cons, List.length_nil]
    omega
  | wrong k w =>
    have hk : k.length ≤ 10 := bad_len (ww_facts h1).2
    simp only [Oc.w] at h2 h3
    simp only [trO, tkT, tkTs, SL_app, SL_cons, SL_nil, List.cons_append, List.nil_append, txK, List.length_cons, List.length_nil]
    omega
mutual
theorem SL_R : ∀ r : Rc, RcS r → SL (tkT (trR r)) ≤ 3360 * r.cnt
  | .mk o ps, h => by
    rw [RcS] at h
    have h1 := SL_O h.1
    have h2 := SL_Rs ps h.2
    simp only [trR, tkT, tkTs, SL_app, SL_cons, SL_nil, List.cons_append, List.nil_append, txK, List.length_cons, List.length_nil, Rc.cnt]
    omega
theorem SL_Rs : ∀ ps : List Rc, RcsS ps → SL (tkTs (trRs ps)) ≤ 3360 * Rc.cnts ps
  | [], _ => by simp [trRs, tkTs, SL, Rc.cnts]
  | p :: ps, h => by
    rw [RcsS] at h
    have h1 := SL_R p h.1
    have h2 := SL_Rs ps h.2
    simp only [trRs, tkTs, SL_app, Rc.cnts]
    omega
end
theorem SL_E {e : Ex} (hw : ExW e) (h : ExS e) : SL (tkT (trE e)) ≤ 6640 * e.cnt := by
  rw [← (tk_E e hw).1]
  exact tkE_sm e h
/-- a look that is drawn -/
def LkS (l : List Char × Oc) : Prop := l.1.length ≤ 15 ∧ l.1.all signC = true ∧ OcS l.2
theorem LkS.ok {l : List Char × Oc} (h : LkS l) : isW (.str l.1) = true ∧ OcOk l.2 := ⟨str_isW (by have := h.1; omega) h.2.1, h.2.2.1⟩
theorem SL_lks : ∀ ls : List (List Char × Oc), (∀ l ∈ ls, LkS l) → SL (tkTs (ls.map lkT)) ≤ 3400 * ls.length
  | [], _ => by simp [tkTs, SL]
  | l :: ls, h => by
    have h0 := h l List.mem_cons_self
    have h1 := SL_O h0.2.2
    have h3 := h0.1
    have h2 := SL_lks ls fun x hx => h x (List.mem_cons_of_mem _ hx)
    simp only [List.map_cons, lkT, tkT, tkTs, SL_app, SL_cons, SL_nil, List.cons_append, List.nil_append, txK, List.length_cons, List.length_nil, List.length_append]
    omega
structure PpS (p : Pp) (mo : Nat) : Prop where
  ok : ∃ fl rd, ExOk [] fl rd p.rule ∧ fl ≤ 12 ∧ rd ≤ 2
  cnt : p.rule.cnt ≤ mo
  lk : ∀ l ∈ p.looks, LkS l
  len : p.looks.length ≤ 2
  rc : RcS p.rc
  rcnt : p.rc.cnt ≤ mo
theorem PpS.w {p : Pp} {mo : Nat} (h : PpS p mo) : ExW p.rule := let ⟨_, _, h, _, _⟩ := h.ok; h.w
theorem PpS.pp {p : Pp} {mo : Nat} (h : PpS p mo) (hm : mo ≤ 15) : PpOk p where
  w := h.w
  ok := by obtain ⟨fl, rd, h1, h2, h3⟩ := h.ok; exact rule_good h1 h2 h3 (by have := h.cnt; omega)
  dep := by obtain ⟨fl, rd, h1, h2, h3⟩ := h.ok; have := (ExOk.dep h1).1; omega
  lk := fun l hl => (h.lk l hl).ok
  rc := rcS_ok _ h.rc
  len := by have := h.len; omega
  cnt := by have := h.rcnt; omega
theorem PpS.sl {p : Pp} {mo : Nat} (h : PpS p mo) (hm : mo ≤ 15) : (shT (trP p)).length ≤ 160000 := by
  refine Nat.le_trans (sh_SL _) ?_
  obtain ⟨fl, rd, h1, -, -⟩ := h.ok
  have a1 := SL_E h.w (exS_of h1)
  have a2 := SL_lks p.looks h.lk
  have a3 := SL_R p.rc h.rc
  have a4 := h.cnt
  have a5 := h.len
  have a6 := h.rcnt
  simp only [trP, tkT, tkTs, SL_app, SL_cons, SL_nil, List.cons_append, List.nil_append, txK, List.length_cons, List.length_nil, List.length_append]
  omega
end MP
namespace MP
/-- names that rules look at -/
structure NmS (st : Sto) (f : Nat) (xs : List (List Char)) : Prop where
  nm : NmAt st f xs
  ln : ∀ x ∈ xs, 1 ≤ x.length ∧ x.length ≤ 30
theorem NmS.keep {b f : Nat} {st st' : Sto} {xs : List (List Char)} (h : NmS st f xs) (k : Keep b st st') (hb : b ≠ f) : NmS st' f xs := ⟨h.nm.keep k hb, h.ln⟩
theorem ok_one {w : List Char} {a : Ex} {sc : List (List Char)} {fl rd : Nat} (hf : FormOk w [] 1) (hr : repB w = false) (hfl : 1 ≤ fl) (ha : ExOk sc (fl - 1) rd a) : ExOk sc fl rd (.node w [] [a]) := by
  refine .node hf (fun _ => hfl) (fun h => by rw [hr] at h; cases h) ?_
  rw [hr]
  exact .one (by rw [List.append_nil]; exact ha)
theorem fw {w : List Char} {k : Nat} (hg : getKk kParts w = some (.int k)) (hb : boundN w = 0) : FormOk w [] k := .wrd hg (by rw [hb]; rfl) (by simp) (by simp)
/-- what is looked at: a name, or two parts of it joined -/
structure NdOk (e : Ex) : Prop where
  ok : ∀ sc fl rd, 1 ≤ fl → ExOk sc fl rd e
  cnt : e.cnt ≤ 3
structure LkOk (e : Ex) : Prop where
  ok : ∀ sc fl rd, 2 ≤ fl → ExOk sc fl rd e
  cnt : e.cnt ≤ 4
theorem NdOk.look {e : Ex} (h : NdOk e) : LkOk (.node sLook [] [e]) := ⟨fun sc fl rd hf => ok_one (fw rfl rfl) rfl (by omega) (h.ok sc _ rd (by omega)), by have := h.cnt; simp only [Ex.cnt, Ex.cnts]; omega⟩
section
variable {P : Prog} {n i : Nat} {st : Sto} {Q : D × Sto → Prop}
/-- a rule that is drawn: any, or a sound one -/
structure RlS (e : Ex) : Prop where
  ok : ExOk [] 12 2 e
  cnt : e.cnt ≤ 40
end
end MP
set_option maxHeartbeats 400000
namespace MP
/-- all but some stands as it was -/
def Fra (S : List Nat) (st st' : Sto) : Prop := st.length ≤ st'.length ∧ ∀ n, n < st.length → n ∉ S → st'[n]? = st[n]?
section
variable {st st' st2 : Sto} {S S' : List Nat}
theorem Fra.refl : Fra S st st := ⟨Nat.le_refl _, fun _ _ _ => rfl⟩
theorem Fra.trans (h : Fra S st st') (h' : Fra S st' st2) : Fra S st st2 := ⟨Nat.le_trans h.1 h'.1, fun n hn hb => (h'.2 n (Nat.lt_of_lt_of_le hn h.1) hb).trans (h.2 n hn hb)⟩
theorem Fra.mono (h : Fra S st st') (hs : ∀ n ∈ S, n ∈ S') : Fra S' st st' := ⟨h.1, fun n hn hb => h.2 n hn fun hm => hb (hs n hm)⟩
theorem Fra.at (h : Fra S st st') {n : Nat} {o : O} (e : st[n]? = some o) (hn : n ∉ S) : st'[n]? = some o := by rw [h.2 n (List.getElem?_eq_some_iff.mp e).1 hn]; exact e
theorem Fra.push {o : O} : Fra S st (st ++ [o]) := ⟨by simp, fun n hn _ => List.getElem?_append_left hn⟩
theorem Fra.set {b : Nat} {o : O} (h : b ∈ S) : Fra S st (st.set b o) := ⟨by rw [List.length_set]; exact Nat.le_refl _, fun n _ hb => List.getElem?_set_ne (fun e => hb (by rw [← e]; exact h))⟩
theorem Fra.new (h : Fra S st st') {f : Nat} (hf : st.length ≤ f) {o : O} : Fra S st (st'.set f o) := ⟨by rw [List.length_set]; exact h.1, fun n hn hb => by rw [List.getElem?_set_ne (by omega)]; exact h.2 n hn hb⟩
theorem Grow.fra (h : Grow st st') : Fra S st st' := by obtain ⟨r, rfl⟩ := h; exact ⟨by simp, fun n hn _ => List.getElem?_append_left hn⟩
/-- what is added in between is new -/
theorem Fra.cut {S T : List Nat} (h : Fra (T ++ S) st st') (ht : ∀ n ∈ T, st.length ≤ n) : Fra S st st' := ⟨h.1, fun n hn hb => h.2 n hn fun hm => by
  rcases List.mem_append.mp hm with h1 | h1
  · have := ht n h1; omega
  · exact hb h1⟩
end
def optO : Option Oc → D
  | none => .non
  | some o => o.toD
def optR : Option Rc → D
  | none => .non
  | some r => r.toD
/-- a run at L -/
structure RunAt (st : Sto) (L F N : Nat) (fs : List Oc) (ns : List (List Char)) : Prop where
  hi : st[L]? = some (.ins 1 [(4, .ref F), (5, .ref N)])
  hf : st[F]? = some (.lst (fs.map Oc.toD))
  hn : st[N]? = some (.lst (ns.map .str))
  ne : N ≠ F
/-- an expression that is gone through, at G, where things stand bound at B -/
structure GW (st : Sto) (G R L F N B : Nat) (fs : List Oc) (v : Env) (g : Gs) : Prop where
  run : RunAt st L F N fs g.ns
  hi : st[G]? = some (.ins 2 [(6, .ref L), (7, .ref R), (8, optO g.wr), (9, .bl g.wt)])
  hr : st[R]? = some (.lst (g.rs.map Rc.toD))
  hb : st[B]? = some (.dct v)
  ne1 : G ≠ L
  ne2 : R ≠ N
  ne3 : R ≠ F
section
variable {P : Prog} {st st' : Sto} {Q : D × Sto → Prop} {n i k : Nat} {G R L F N B : Nat} {fs : List Oc} {v : Env} {g g' : Gs}
theorem ne_ob {a b : Nat} {x y : O} (ha : st[a]? = some x) (hb : st[b]? = some y) (h : x ≠ y) : a ≠ b := fun e => h (by rw [e, hb] at ha; exact (Option.some.inj ha).symm)
theorem GW.GN (W : GW st G R L F N B fs v g) : G ≠ N := ne_ob W.hi W.run.hn (by simp)
theorem GW.GR (W : GW st G R L F N B fs v g) : G ≠ R := ne_ob W.hi W.hr (by simp)
theorem GW.GF (W : GW st G R L F N B fs v g) : G ≠ F := ne_ob W.hi W.run.hf (by simp)
theorem GW.GB (W : GW st G R L F N B fs v g) : G ≠ B := ne_ob W.hi W.hb (by simp)
theorem GW.LN (W : GW st G R L F N B fs v g) : L ≠ N := ne_ob W.run.hi W.run.hn (by simp)
theorem GW.LR (W : GW st G R L F N B fs v g) : L ≠ R := ne_ob W.run.hi W.hr (by simp)
theorem GW.BN (W : GW st G R L F N B fs v g) : B ≠ N := ne_ob W.hb W.run.hn (by simp)
theorem GW.BR (W : GW st G R L F N B fs v g) : B ≠ R := ne_ob W.hb W.hr (by simp)
theorem GW.nB (W : GW st G R L F N B fs v g) : B ∉ [N, G, R] := by simp [W.BN, W.BR, Ne.symm W.GB]
theorem GW.cl (W : GW st G R L F N B fs v g) : clsF st (.ref G) = some 2 := cls_ins W.hi
theorem GW.f6 (W : GW st G R L F N B fs v g) : fldF st (.ref G) 6 = some (.ref L) := fld_ins W.hi rfl
theorem GW.f7 (W : GW st G R L F N B fs v g) : fldF st (.ref G) 7 = some (.ref R) := fld_ins W.hi rfl
theorem GW.f8 (W : GW st G R L F N B fs v g) : fldF st (.ref G) 8 = some (optO g.wr) := fld_ins W.hi rfl
theorem GW.f9 (W : GW st G R L F N B fs v g) : fldF st (.ref G) 9 = some (.bl g.wt) := fld_ins W.hi rfl
theorem GW.grow (W : GW st G R L F N B fs v g) (h : Grow st st') : GW st' G R L F N B fs v g :=
  ⟨⟨h.at W.run.hi, h.at W.run.hf, h.at W.run.hn, W.run.ne⟩, h.at W.hi, h.at W.hr, h.at W.hb, W.ne1, W.ne2, W.ne3⟩
/-- behind a call that went on with the names looked at -/
theorem GW.on (W : GW st G R L F N B fs v g) {ns : List (List Char)} (h : RunAt st' L F N fs ns) (k : Fra [N] st st') : GW st' G R L F N B fs v ⟨g.rs, g.wr, g.wt, ns⟩ :=
  ⟨h, k.at W.hi (by simp [W.GN]), k.at W.hr (by simp [W.ne2]), k.at W.hb (by simp [W.BN]), W.ne1, W.ne2, W.ne3⟩
/-- other things bound -/
theorem GW.env (W : GW st G R L F N B fs v g) {B' : Nat} {v' : Env} (h : st[B']? = some (.dct v')) : GW st G R L F N B' fs v' g := ⟨W.run, W.hi, W.hr, h, W.ne1, W.ne2, W.ne3⟩
/-- what a part's going through does -/
def PS (P : Prog) (gt : Nat) (fs : List Oc) (rec : Rec) (k : Nat) (p : Ex) (v : Env) : Prop := ∀ (n : Nat) (st : Sto) (Q : D × Sto → Prop) (L F N B : Nat) (ns : List (List Char)), k ≤ n → RunAt st L F N fs ns → ns.length ≤ fs.length → st[B]? = some (.dct v) →
  (∀ st', RunAt st' L F N fs (rec p v ns).2 → Fra [N] st st' → Q (optR (rec p v ns).1, st')) → (callF P n gt [.ref L, p.toD, .ref B] st).wp Q
theorem dict_ref {n : Nat} {kvs : List (Kk × D)} (h : st[n]? = some (.dct kvs)) : biF .dict [.ref n] st = .ok (.ref st.length, st ++ [.dct kvs]) := by
  simp only [biF, dictF, h, newF]
theorem set_top {o o' : O} : (st ++ [o]).set st.length o' = st ++ [o'] := by rw [List.set_append_right _ _ (Nat.le_refl _)]; simp
/-- a part that can be gone through where these names are bound -/
structure PG (P : Prog) (gt : Nat) (fs : List Oc) (rec : Rec) (k l : Nat) (sc : List (List Char)) (p : Ex) : Prop where
  sp : ∀ v, EnvOk sc v → v.length ≤ l → PS P gt fs rec k p v
  ok : RecOk fs rec sc p
section
variable {rec : Rec} {sc : List (List Char)} {a b c : Ex} {l : Nat} {x y : List Char}
/-- in an inner room of names -/
theorem GW.inn (W : GW st G R L F N B fs v g) {v' : Env} : GW (st ++ [.dct v']) G R L F N st.length fs v' g := (W.grow Grow.push).env sto_top
theorem GW.out {st0 : Sto} (W : GW st0 G R L F N B fs v g) {v' : Env} {g' : Gs} {B' : Nat} (W1 : GW st' G R L F N B' fs v' g') (k1 : Fra [N, G, R] st0 st') : GW st' G R L F N B fs v g' := W1.env (k1.at W.hb W.nB)
end
end
end MP
namespace MP
section
variable {P : Prog} {st st' : Sto} {Q : D × Sto → Prop} {n i k l : Nat} {G R L F N B : Nat} {fs : List Oc} {v : Env} {g g' : Gs} {rec : Rec} {sc : List (List Char)}
theorem ix_dct {m : Nat} {kvs : List (Kk × D)} {x : List Char} (h : st[m]? = some (.dct kvs)) : ixF st (.ref m) (.str x) = getK kvs (.s x) := by
  simp only [ixF, h, keyF, Option.bind_some]
end
end MP
set_option maxHeartbeats 1000000
namespace MP
section
variable {P : Prog} {n i : Nat} {st : Sto} {Q : D × Sto → Prop}
theorem RlS.c {e : Ex} (h : RlS e) : ExC [] e ∧ e.dep < 20 := ⟨h.ok.c, by have := (ExOk.dep h.ok).1; omega⟩
theorem RlS.w {e : Ex} (h : RlS e) : ExW e := h.ok.w
/-- a good rule -/
structure RlG (e : Ex) : Prop where
  c : ExC [] e ∧ e.dep < 20
theorem RlS.g {e : Ex} (h : RlS e) : RlG e := ⟨h.c⟩
theorem RlG.w {e : Ex} (h : RlG e) : ExW e := h.c.1.w
end
/-- a right paper: of a rule's run -/
structure PpR (p : Pp) : Prop where
  rl : RlG p.rule
  lk : ∀ l ∈ p.looks, OcOk l.2
  ln : p.looks.length ≤ 4000
  run : runI (treeE p.rule) (p.looks.map (·.2)) = (some p.rc, p.looks.map (·.1))
theorem PpR.names {p : Pp} (h : PpR p) : ∀ l ∈ p.looks, isW (.str l.1) = true := by
  intro l hl
  have := (AllI.run (treeE_all h.rl.c.1 h.rl.c.2) (fs := p.looks.map (·.2)) fun o ho => by
    obtain ⟨l, hl, rfl⟩ := List.mem_map.mp ho
    exact h.lk l hl).2
  rw [h.run] at this
  exact this l.1 (List.mem_map_of_mem hl)
theorem PpR.rcD {p : Pp} (h : PpR p) : RcD 20 p.rc := by
  have := (AllI.run (treeE_all h.rl.c.1 h.rl.c.2) (fs := p.looks.map (·.2)) fun o ho => by
    obtain ⟨l, hl, rfl⟩ := List.mem_map.mp ho
    exact h.lk l hl).1
  rw [h.run] at this
  exact this _ rfl
theorem PpR.it {p : Pp} (h : PpR p) : itD p.toD = true ∧ depD p.toD ≤ 55 := by
  obtain ⟨e, lks, rc⟩ := p
  have hE := h.rl.w
  have hd := h.rl.c.2
  have hr := h.rcD.it
  have hln := h.ln
  have hnm := h.names
  have hlk := h.lk
  dsimp only at hE hd hr hln hnm hlk
  have h1 := ex_it e hE
  have h2 := (ExW.pur e hE).2
  have h5 : itDs (lks.map lkD) = true := by
    rw [itDs_all]
    intro d hd
    obtain ⟨l, hl, rfl⟩ := List.mem_map.mp hd
    exact (lk_it ⟨hnm l hl, hlk l hl⟩).1
  have h6 : depDs (lks.map lkD) ≤ 14 := depDs_le fun d hd => by
    obtain ⟨l, hl, rfl⟩ := List.mem_map.mp hd
    exact (lk_it ⟨hnm l hl, hlk l hl⟩).2
  refine ⟨?_, ?_⟩
  · rw [Pp.toD, itD, itDs, itDs, itDs, itDs, itD, h1, hr.1, h5, decide_eq_true (by rw [List.length_map]; omega : (lks.map lkD).length ≤ 100000)]
    rfl
  · rw [Pp.toD, depD, depDs, depDs, depDs, depDs, depD]
    dsimp only
    omega
end MP
namespace MP
end MP
namespace MP
section
variable {P : Prog} {cf : Nat → List D → Sto → RD} {mf : Nat → List D → Sto → RD} {fr : Fr} {st : Sto} {N : Fr → Sto → Prop} {T : D → Sto → Prop}
theorem skip_M {c : E} {a r : Ss} (M : Sto → Prop) (h : (evE P cf mf c fr st).wp fun p => truthF p.2 p.1 = some false ∧ M p.2) (k : ∀ st', M st' → (evSs P cf mf r fr st').wp N T) : (evSs P cf mf (.cons (.ife c a .nil) r) fr st).wp N T := by
  rw [s_cons_w, s_ife_w]
  refine wp_mono h fun p hp => ?_
  obtain ⟨d, st'⟩ := p
  obtain ⟨h1, h2⟩ := hp
  dsimp only at h1 h2 ⊢
  refine ⟨false, h1, ?_⟩
  exact s_nil_w.mpr (k _ h2)
end
end MP
set_option maxHeartbeats 400000
namespace MP
/-- the part that a record's last part is of -/
inductive PartAt : Ex → List Rc → Nat → Ex → Prop where
  | br {c a b : Ex} {r0 : Rc} {rs : List Rc} {i : Int} : r0.o = .made (.int i) → PartAt (.node sIf [] [c, a, b]) (r0 :: rs) 1 (if i = 0 then b else a)
  | pl {w : List Char} {bs : List (List Char)} {ps : List Ex} {rs : List Rc} {n : Nat} {p : Ex} : FormOk w bs ps.length → (w = sIf → n ≠ 1) → ps[min n (ps.length - 1)]? = some p → (w ≠ sLet → w ≠ sEach → w ≠ sOver → n < ps.length) → PartAt (.node w bs ps) rs n p
inductive BL (L : Lk) : Ex → Rc → D → Prop where
  | leaf {e : Ex} {o : Oc} : BL L e (.mk o []) .non
  | fine {e : Ex} {d : D} {rs : List Rc} : BL L e (.mk (.made d) rs) .non
  | last {w : List Char} {bs : List (List Char)} {ps : List Ex} {o : Oc} {ini : List Rc} {r : Rc} {d : D} : r.o = .made d → (w = sLook → ∀ x, d ≠ .str x) → BL L (.node w bs ps) (.mk o (ini ++ [r])) .non
  | look {bs : List (List Char)} {ps : List Ex} {k : List Char} {d : D} {ini : List Rc} {r : Rc} {x : List Char} : r.o = .made (.str x) → (x, .wrong k d) ∈ L → isW (.str x) = true → BL L (.node sLook bs ps) (.mk (.wrong k d) (ini ++ [r])) (.str x)
  | down {e p : Ex} {k : List Char} {d : D} {ini : List Rc} {r : Rc} {b : D} : r.o = .wrong k d → PartAt e (ini ++ [r]) ini.length p → BL L p r b → BL L e (.mk (.wrong k d) (ini ++ [r])) b
theorem BL.mono {L L' : Lk} {e : Ex} {r : Rc} {b : D} (h : BL L e r b) (hs : ∀ l ∈ L, l ∈ L') : BL L' e r b := by
  induction h with
  | leaf => exact .leaf
  | fine => exact .fine
  | last h1 h2 => exact .last h1 h2
  | look h1 h2 h3 => exact .look h1 (hs _ h2) h3
  | down h1 h2 _ ih => exact .down h1 h2 ih
/-- what a row of parts blames, if the last one is wrong -/
def BLs (L : Lk) (rs : List Rc) (o : Oc) (pp : Nat → Ex → Prop) : Prop := (∃ ini r k d b p, rs = ini ++ [r] ∧ r.o = .wrong k d ∧ o = .wrong k d ∧ pp ini.length p ∧ BL L p r b) ∨ ∀ r ∈ rs, ∃ d, r.o = .made d
theorem BLs.cons {L L' : Lk} {r : Rc} {rs : List Rc} {o : Oc} {pp : Nat → Ex → Prop} {d : D} (hr : r.o = .made d) (h : BLs L rs o fun n p => pp (n + 1) p) (hs : ∀ l ∈ L, l ∈ L') : BLs L' (r :: rs) o pp := by
  rcases h with ⟨ini, r', k, d', b, p, rfl, h1, h2, h3, h4⟩ | h
  · exact .inl ⟨r :: ini, r', k, d', b, p, rfl, h1, h2, h3, h4.mono hs⟩
  · refine .inr fun x hx => ?_
    rcases List.mem_cons.mp hx with e | hx
    · rw [e]; exact ⟨d, hr⟩
    · exact h x hx
theorem BLs.wr {L : Lk} {r : Rc} {k : List Char} {d b : D} {pp : Nat → Ex → Prop} {p : Ex} (h1 : r.o = .wrong k d) (h2 : pp 0 p) (h3 : BL L p r b) : BLs L [r] (.wrong k d) pp := .inl ⟨[], r, k, d, b, p, rfl, h1, rfl, h2, h3⟩
/-- a record over a row of parts -/
theorem BLs.bl {L : Lk} {w : List Char} {bs : List (List Char)} {ps : List Ex} {rs : List Rc} {o : Oc} (h : BLs L rs o fun n p => PartAt (.node w bs ps) rs n p) (hw : w ≠ sLook) : ∃ b, BL L (.node w bs ps) (.mk o rs) b := by
  rcases h with ⟨ini, r, k, d, b, p, rfl, h1, rfl, h3, h4⟩ | h
  · exact ⟨b, .down h1 h3 h4⟩
  · rcases List.eq_nil_or_concat rs with rfl | ⟨ini, r, rfl⟩
    · exact ⟨_, .leaf⟩
    · rw [List.concat_eq_append] at h ⊢
      obtain ⟨d, e⟩ := h r (by simp)
      exact ⟨_, .last e fun h => absurd h hw⟩
mutual
/-- every expression of it is of a form -/
def Fms : Ex → Prop
  | .lit _ => True
  | .var _ => True
  | .node w bs ps => FormOk w bs ps.length ∧ Fmss ps
def Fmss : List Ex → Prop
  | [] => True
  | p :: ps => Fms p ∧ Fmss ps
end
theorem Fmss_mem : ∀ {ps : List Ex}, Fmss ps → ∀ p ∈ ps, Fms p
  | _ :: _, h, p, hm => by
    rw [Fmss] at h
    rcases List.mem_cons.mp hm with e | hm
    · rw [e]; exact h.1
    · exact Fmss_mem h.2 p hm
theorem Fmss_of : ∀ {ps : List Ex}, (∀ p ∈ ps, Fms p) → Fmss ps
  | [], _ => trivial
  | p :: ps, h => ⟨h p List.mem_cons_self, Fmss_of fun q hq => h q (List.mem_cons_of_mem _ hq)⟩
mutual
theorem ExC.fms : ∀ {sc : List (List Char)} {e : Ex}, ExC sc e → Fms e
  | _, _, .lit h => trivial
  | _, _, .var _ h => trivial
  | _, _, .node h z => ⟨h, Fmss_of z.fms⟩
theorem PsC.fms : ∀ {sc bs : List (List Char)} {ps : List Ex}, PsC sc bs ps → ∀ p ∈ ps, Fms p
  | _, _, _, .nil, _, h => by cases h
  | _, _, _, .one a, p, h => by rw [List.mem_singleton.mp h]; exact a.fms
  | _, _, _, .cons a z, p, h => by
    rcases List.mem_cons.mp h with e | h
    · rw [e]; exact a.fms
    · exact z.fms p h
end
section
variable {v : Env} {L : Lk}
theorem one_bl {w : List Char} {bs : List (List Char)} {ps : List Ex} {p : Ex} {r : Rc} {k : List Char} {d b : D} (hf : FormOk w bs ps.length) (hp : ps[0]? = some p) (h1 : r.o = .wrong k d) (h : BL L p r b) : BL L (.node w bs ps) (.mk (.wrong k d) [r]) b := by
  have hl := (List.getElem?_eq_some_iff.mp hp).1
  refine .down (ini := []) h1 (.pl hf (fun _ => by decide) ?_ fun _ _ _ => hl) h
  rw [List.length_nil, Nat.zero_min]; exact hp
theorem two_bl {w : List Char} {bs : List (List Char)} {ps : List Ex} {p : Ex} {r r' : Rc} {b : D} (hf : FormOk w bs ps.length) (hw : w ≠ sIf) (hw2 : w ≠ sLook) (hp : ps[1]? = some p) (h : BL L p r' b) : ∃ b, BL L (.node w bs ps) (.mk r'.o [r, r']) b := by
  have hl := (List.getElem?_eq_some_iff.mp hp).1
  cases e : r'.o with
  | made d => exact ⟨_, .fine⟩
  | wrong k d =>
    refine ⟨b, .down (ini := [r]) e (.pl hf (fun h => absurd h hw) ?_ fun _ _ _ => hl) h⟩
    rw [List.length_singleton, Nat.min_eq_left (by omega)]; exact hp
mutual
theorem RR.bl : ∀ {e : Ex} {v : Env} {r : Rc} {L : Lk}, RR e v r L → Fms e → (∀ l ∈ L, isW (.str l.1) = true) → ∃ b, BL L e r b
  | _, _, _, _, .lit, _, _ => ⟨_, .leaf⟩
  | _, _, _, _, .var _, _, _ => ⟨_, .leaf⟩
  | _, _, _, _, .let1 h h1, hf, hL => by
    rw [Fms] at hf
    obtain ⟨b, hb⟩ := h.bl (Fmss_mem hf.2 _ (by simp)) hL
    exact ⟨b, one_bl hf.1 rfl h1 hb⟩
  | _, _, _, _, .let2 h h1 h2, hf, hL => by
    rw [Fms] at hf
    obtain ⟨b, hb⟩ := h2.bl (Fmss_mem hf.2 _ (by simp)) fun l hl => hL l (List.mem_append_right _ hl)
    exact two_bl hf.1 (by decide) (by decide) rfl (hb.mono fun l hl => List.mem_append_right _ hl)
  | _, _, _, _, .if1 h h1, hf, hL => by
    rw [Fms] at hf
    obtain ⟨b, hb⟩ := h.bl (Fmss_mem hf.2 _ (by simp)) hL
    exact ⟨b, one_bl hf.1 rfl h1 hb⟩
  | _, _, _, _, .if2 h h1 h2, hf, hL => ⟨_, .last (ini := []) h1 (fun e => by cases e)⟩
  | _, _, _, _, .if3 (r := r) (r' := r') (i := i) (b := a) (c := c) h h1 h2, hf, hL => by
    rw [Fms] at hf
    have hx : Fms (if i = 0 then c else a) := by split <;> exact Fmss_mem hf.2 _ (by simp)
    obtain ⟨b, hb⟩ := h2.bl hx fun l hl => hL l (List.mem_append_right _ hl)
    cases e : r'.o with
    | made d => exact ⟨_, .fine⟩
    | wrong k d => exact ⟨b, .down (ini := [r]) e (.br h1) (hb.mono fun l hl => List.mem_append_right _ hl)⟩
  | _, _, _, _, .each1 h h1, hf, hL => by
    rw [Fms] at hf
    obtain ⟨b, hb⟩ := h.bl (Fmss_mem hf.2 _ (by simp)) hL
    exact ⟨b, one_bl hf.1 rfl h1 hb⟩
  | _, _, _, _, .each2 h h1 h2, hf, hL => ⟨_, .last (ini := []) h1 (fun e => by cases e)⟩
  | _, _, _, _, .each3 (a := a) (b := b) (rs := rs) (r := r) h h1 h2 h3, hf, hL => by
    rw [Fms] at hf
    have hx := h3.bl (Fmss_mem hf.2 _ (by simp)) fun l hl => hL l (List.mem_append_right _ hl)
    refine BLs.bl (.cons h1 ?_ fun l hl => List.mem_append_right _ hl) (by decide)
    rcases hx with ⟨ini, r', k, d', c, p, rfl, h4, h5, rfl, h6⟩ | hx
    · refine .inl ⟨ini, r', k, d', c, p, rfl, h4, h5, .pl hf.1 (fun e => by cases e) ?_ (fun _ e _ => absurd rfl e), h6⟩
      rw [show min (ini.length + 1) ([a, p].length - 1) = 1 by simp]; rfl
    · exact .inr hx
  | _, _, _, _, .over1 h h1, hf, hL => by
    rw [Fms] at hf
    obtain ⟨b, hb⟩ := h.bl (Fmss_mem hf.2 _ (by simp)) hL
    exact ⟨b, one_bl hf.1 rfl h1 hb⟩
  | _, _, _, _, .over2 (r' := r') h h1 h2 h3, hf, hL => by
    rw [Fms] at hf
    obtain ⟨b, hb⟩ := h2.bl (Fmss_mem hf.2 _ (by simp)) fun l hl => hL l (List.mem_append_right _ hl)
    rw [← h3]
    exact two_bl hf.1 (by decide) (by decide) rfl (hb.mono fun l hl => List.mem_append_right _ hl)
  | _, _, _, _, .over3 (r := r) h h1 h2 h3 h4, hf, hL => ⟨_, .last (ini := [r]) h3 (fun e => by cases e)⟩
  | _, _, _, _, .over4 (a := a) (c := c) (b := b) h h1 h2 h3 h4 h5, hf, hL => by
    rw [Fms] at hf
    have hx := h5.bl (Fmss_mem hf.2 _ (by simp)) fun l hl => hL l (List.mem_append_right _ (List.mem_append_right _ hl))
    refine BLs.bl (.cons h1 (.cons h3 ?_ fun l hl => List.mem_append_right _ hl) fun l hl => List.mem_append_right _ hl) (by decide)
    rcases hx with ⟨ini, r', k, d', e, p, rfl, h6, h7, rfl, h8⟩ | hx
    · refine .inl ⟨ini, r', k, d', e, p, rfl, h6, h7, .pl hf.1 (fun e => by cases e) ?_ (fun _ _ e => absurd rfl e), h8⟩
      rw [show min (ini.length + 1 + 1) ([a, c, p].length - 1) = 2 by simp]; rfl
    · exact .inr hx
  | _, _, _, _, .look1 h h1, hf, hL => by
    rw [Fms] at hf
    obtain ⟨b, hb⟩ := h.bl (Fmss_mem hf.2 _ (by simp)) hL
    exact ⟨b, one_bl hf.1 rfl h1 hb⟩
  | _, _, _, _, .look2 h h1 h2, hf, hL => ⟨_, .last (ini := []) h1 (fun _ => h2)⟩
  | _, _, _, _, .look3 (x := x) (o := o) h h1, hf, hL => by
    cases o with
    | made d => exact ⟨_, .fine⟩
    | wrong k d => exact ⟨_, .look (k := k) (d := d) (ini := []) h1 (List.mem_append_right _ List.mem_cons_self) (hL (x, .wrong k d) (by simp))⟩
  | _, _, _, _, .els1 h h1, hf, hL => ⟨_, .fine⟩
  | _, _, _, _, .els2 h h1 h2, hf, hL => by
    rw [Fms] at hf
    obtain ⟨b, hb⟩ := h2.bl (Fmss_mem hf.2 _ (by simp)) fun l hl => hL l (List.mem_append_right _ hl)
    exact two_bl hf.1 (by decide) (by decide) rfl (hb.mono fun l hl => List.mem_append_right _ hl)
  | _, _, _, _, .cry1 h h1, hf, hL => by
    rw [Fms] at hf
    obtain ⟨b, hb⟩ := h.bl (Fmss_mem hf.2 _ (by simp)) hL
    exact ⟨b, one_bl hf.1 rfl h1 hb⟩
  | _, _, _, _, .cry2 h h1, hf, hL => ⟨_, .last (ini := []) h1 (fun e => by cases e)⟩
  | _, _, _, _, .words (w := w) (ps := ps) hw h, hf, hL => by
    rw [Fms] at hf
    simp only [List.mem_cons, List.not_mem_nil, or_false, not_or] at hw
    have hx := h.bl (Fmss_mem hf.2) hL
    refine BLs.bl ?_ hw.2.2.2.2.2.2.1
    rcases hx with ⟨ini, r, k, d, b, p, rfl, h1, h2, h3, h4⟩ | hx
    · have hl := (List.getElem?_eq_some_iff.mp h3).1
      refine .inl ⟨ini, r, k, d, b, p, rfl, h1, h2, .pl hf.1 (fun e => absurd e hw.2.2.2.1) ?_ (fun _ _ _ => hl), h4⟩
      rw [Nat.min_eq_left (by omega)]; exact h3
    · exact .inr hx
theorem EA.bl : ∀ {x : List Char} {b : Ex} {v : Env} {is acc : List D} {rs : List Rc} {o : Oc} {L : Lk}, EA x b v is acc rs o L → Fms b → (∀ l ∈ L, isW (.str l.1) = true) → BLs L rs o fun _ p => p = b
  | _, _, _, _, _, _, _, _, .nil, _, _ => .inr (by simp)
  | _, _, _, _, _, _, _, _, .wr h h1, hf, hL => by
    obtain ⟨c, hc⟩ := h.bl hf hL
    exact .wr h1 rfl hc
  | _, _, _, _, _, _, _, _, .cons h h1 h2, hf, hL => .cons h1 (h2.bl hf fun l hl => hL l (List.mem_append_right _ hl)) fun l hl => List.mem_append_right _ hl
theorem OV.bl : ∀ {x y : List Char} {b : Ex} {v : Env} {is : List D} {a : D} {rs : List Rc} {o : Oc} {L : Lk}, OV x y b v is a rs o L → Fms b → (∀ l ∈ L, isW (.str l.1) = true) → BLs L rs o fun _ p => p = b
  | _, _, _, _, _, _, _, _, _, .nil, _, _ => .inr (by simp)
  | _, _, _, _, _, _, _, _, _, .wr h h1, hf, hL => by
    obtain ⟨c, hc⟩ := h.bl hf hL
    exact .wr h1 rfl hc
  | _, _, _, _, _, _, _, _, _, .cons h h1 h2, hf, hL => .cons h1 (h2.bl hf fun l hl => hL l (List.mem_append_right _ hl)) fun l hl => List.mem_append_right _ hl
theorem WD.bl : ∀ {w : List Char} {v : Env} {ps : List Ex} {acc : List D} {rs : List Rc} {o : Oc} {L : Lk}, WD w v ps acc rs o L → (∀ p ∈ ps, Fms p) → (∀ l ∈ L, isW (.str l.1) = true) → BLs L rs o fun n p => ps[n]? = some p
  | _, _, _, _, _, _, _, .nil, _, _ => .inr (by simp)
  | _, _, _, _, _, _, _, .wr h h1, hf, hL => by
    obtain ⟨c, hc⟩ := h.bl (hf _ List.mem_cons_self) hL
    exact .wr h1 rfl hc
  | _, _, _, _, _, _, _, .cons h h1 h2, hf, hL => .cons h1 (h2.bl (fun p hp => hf p (List.mem_cons_of_mem _ hp)) fun l hl => hL l (List.mem_append_right _ hl)) fun l hl => List.mem_append_right _ hl
end
end
end MP
set_option maxHeartbeats 1000000
namespace MP
section
variable {P : Prog} {n i : Nat} {st : Sto} {Q : D × Sto → Prop}
theorem w_str {d : D} (h : isW d = true) (hn : ∀ x, d ≠ .str x) : isStr d = false := by
  cases d <;> first | rfl | exact absurd rfl (hn _)
/-- a record's outcome, and whether its worth is a text -/
theorem rc_made {o : Oc} {d : D} (h : o = .made d) : o.toD = .tup [.str ['m', 'a', 'd', 'e'], d] := by rw [h]; rfl
theorem rc_wrong {o : Oc} {k : List Char} {d : D} (h : o = .wrong k d) : o.toD = .tup [.str ['w', 'r', 'o', 'n', 'g'], .str k, d] := by rw [h]; rfl
theorem BL.top {L : Lk} {e : Ex} {o : Oc} {rs : List Rc} {b : D} (h : BL L e (.mk o rs) b) (hw : ∀ k d, o ≠ .wrong k d) : b = .non := by
  cases h with
  | leaf => rfl
  | fine => rfl
  | last _ _ => rfl
  | look _ _ _ => exact absurd rfl (hw _ _)
  | down _ _ _ => exact absurd rfl (hw _ _)
end
end MP
namespace MP
def fdLNext (c_law_due c_law_same : Nat) : FD := ⟨4, 6,
    (.cons (.ife (.op .eq (.bi .len (.cons (.v 2) .nil)) (.c (.int 0)))
    (.cons (.ret (.tup (.cons (.c (.str ['l', 'o', 's', 't'])) .nil)))
    .nil)
    .nil)
    (.cons (.set (.v 4) (.bm .pop (.v 2) (.cons (.c (.int 0)) .nil)))
    (.cons (.ife (.or (.not (.isi (.v 4) .tuple)) (.or (.op .ne (.bi .len (.cons (.v 4) .nil)) (.c (.int 2))) (.not (.isi (.ix (.v 4) (.c (.int 1))) .tuple))))
    (.cons (.ret (.tup (.cons (.c (.str ['l', 'o', 's', 't'])) .nil)))
    .nil)
    .nil)
    (.cons (.set (.v 5) (.call c_law_due (.cons (.v 0) (.cons (.v 1) (.cons (.bi .list (.cons (.ix (.v 4) (.c (.int 1))) .nil)) (.cons (.v 3) .nil)))) []))
    (.cons (.ife (.not (.call c_law_same (.cons (.ix (.v 4) (.c (.int 0))) (.cons (.v 5) .nil)) []))
    (.cons (.ret (.tup (.cons (.c (.str ['l', 'o', 's', 't'])) .nil)))
    .nil)
    .nil)
    (.cons (.ret (.v 5))
    .nil))))))⟩
def fdLRounds (c_law_next c_made : Nat) : FD := ⟨5, 9,
    (.cons (.set (.v 5) (.lst (.cons (.ix (.v 2) (.neg (.c (.int 1)))) .nil)))
    (.cons (.ife (.not (.isi (.ix (.v 2) (.c (.int 0))) .tuple))
    (.cons (.ret (.tup (.cons (.c (.str ['w', 'r', 'o', 'n', 'g'])) (.cons (.c (.str ['k', 'i', 'n', 'd'])) (.cons (.c (.str [])) .nil)))))
    .nil)
    .nil)
    (.cons (.ife (.op .gt (.bi .len (.cons (.ix (.v 2) (.c (.int 0))) .nil)) (.c (.int 10)))
    (.cons (.ret (.tup (.cons (.c (.str ['w', 'r', 'o', 'n', 'g'])) (.cons (.c (.str ['g', 'r', 'e', 'a', 't'])) (.cons (.c (.str [])) .nil)))))
    .nil)
    .nil)
    (.cons (.forr (.v 6) (.any (.ix (.v 2) (.c (.int 0))))
    (.cons (.set (.v 7) (.bi .dict (.cons (.v 1) .nil)))
    (.cons (.setix (.v 7) (.ix (.v 0) (.c (.int 1))) (.v 6))
    (.cons (.ife (.op .eq (.ix (.v 0) (.c (.int 0))) (.c (.str ['o', 'v', 'e', 'r'])))
    (.cons (.setix (.v 7) (.ix (.v 0) (.c (.int 2))) (.ix (.v 5) (.neg (.c (.int 1)))))
    .nil)
    .nil)
    (.cons (.set (.v 8) (.call c_law_next (.cons (.ix (.v 0) (.neg (.c (.int 1)))) (.cons (.v 7) (.cons (.v 3) (.cons (.v 4) .nil)))) []))
    (.cons (.ife (.op .ne (.ix (.v 8) (.c (.int 0))) (.c (.str ['m', 'a', 'd', 'e'])))
    (.cons (.ret (.v 8))
    .nil)
    .nil)
    (.cons (.ex (.bm .append (.v 5) (.cons (.ix (.v 8) (.c (.int 1))) .nil)))
    .nil)))))))
    (.cons (.ife (.op .eq (.ix (.v 0) (.c (.int 0))) (.c (.str ['o', 'v', 'e', 'r'])))
    (.cons (.ret (.tup (.cons (.c (.str ['m', 'a', 'd', 'e'])) (.cons (.ix (.v 5) (.neg (.c (.int 1)))) .nil))))
    .nil)
    .nil)
    (.cons (.ret (.call c_made (.cons (.bi .tuple (.cons (.sl (.v 5) (.so (.c (.int 1))) .no) .nil)) .nil) []))
    .nil))))))⟩
def fdLChoice (c_law_next : Nat) : FD := ⟨5, 6,
    (.cons (.ife (.op .eq (.ix (.v 0) (.c (.int 0))) (.c (.str ['l', 'e', 't'])))
    (.cons (.set (.v 5) (.bi .dict (.cons (.v 1) .nil)))
    (.cons (.setix (.v 5) (.ix (.v 0) (.c (.int 1))) (.v 2))
    (.cons (.ret (.call c_law_next (.cons (.ix (.v 0) (.c (.int 3))) (.cons (.v 5) (.cons (.v 3) (.cons (.v 4) .nil)))) []))
    .nil)))
    .nil)
    (.cons (.ife (.or (.isi (.v 2) .str) (.isi (.v 2) .tuple))
    (.cons (.ret (.tup (.cons (.c (.str ['w', 'r', 'o', 'n', 'g'])) (.cons (.c (.str ['k', 'i', 'n', 'd'])) (.cons (.c (.str [])) .nil)))))
    .nil)
    .nil)
    (.cons (.ret (.call c_law_next (.cons (.ix (.v 0) (.op .add (.c (.int 2)) (.bi .int (.cons (.op .eq (.v 2) (.c (.int 0))) .nil)))) (.cons (.v 1) (.cons (.v 3) (.cons (.v 4) .nil)))) []))
    .nil)))⟩
def fdLOutcomeBy (c_law_next c_law_choice c_law_rounds c_reckoned : Nat) : FD := ⟨4, 9,
    (.cons (.set (.v 4) (.ix (.v 0) (.c (.int 0))))
    (.cons (.ife (.op .eq (.v 4) (.c (.str ['l', 'i', 't'])))
    (.cons (.ret (.tup (.cons (.c (.str ['m', 'a', 'd', 'e'])) (.cons (.ix (.v 0) (.c (.int 1))) .nil))))
    .nil)
    .nil)
    (.cons (.ife (.op .eq (.v 4) (.c (.str ['v', 'a', 'r'])))
    (.cons (.ret (.tup (.cons (.c (.str ['m', 'a', 'd', 'e'])) (.cons (.ix (.v 1) (.ix (.v 0) (.c (.int 1)))) .nil))))
    .nil)
    .nil)
    (.cons (.ife (.op .eq (.v 4) (.c (.str ['e', 'l', 's', 'e'])))
    (.cons (.set (.v 5) (.call c_law_next (.cons (.ix (.v 0) (.c (.int 1))) (.cons (.v 1) (.cons (.v 2) (.cons (.v 3) .nil)))) []))
    (.cons (.ife (.op .eq (.ix (.v 5) (.c (.int 0))) (.c (.str ['w', 'r', 'o', 'n', 'g'])))
    (.cons (.ret (.call c_law_next (.cons (.ix (.v 0) (.c (.int 2))) (.cons (.v 1) (.cons (.v 2) (.cons (.v 3) .nil)))) []))
    .nil)
    .nil)
    (.cons (.ret (.v 5))
    .nil)))
    .nil)
    (.cons (.set (.v 6) (.lc (.v 8) (.any (.sl (.v 0) (.so (.c (.int 1))) .no)) (.cons (.isi (.v 8) .tuple) .nil) (.v 8) [8]))
    (.cons (.ife (.op .mem (.v 4) (.tup (.cons (.c (.str ['l', 'e', 't'])) (.cons (.c (.str ['i', 'f'])) (.cons (.c (.str ['e', 'a', 'c', 'h'])) (.cons (.c (.str ['l', 'o', 'o', 'k'])) (.cons (.c (.str ['c', 'r', 'y'])) .nil)))))))
    (.cons (.set (.v 6) (.sl (.v 6) .no (.so (.c (.int 1)))))
    .nil)
    .nil)
    (.cons (.ife (.op .eq (.v 4) (.c (.str ['o', 'v', 'e', 'r'])))
    (.cons (.set (.v 6) (.sl (.v 6) .no (.so (.c (.int 2)))))
    .nil)
    .nil)
    (.cons (.set (.v 7) (.lst .nil))
    (.cons (.forr (.v 8) (.any (.v 6))
    (.cons (.set (.v 5) (.call c_law_next (.cons (.v 8) (.cons (.v 1) (.cons (.v 2) (.cons (.v 3) .nil)))) []))
    (.cons (.ife (.op .ne (.ix (.v 5) (.c (.int 0))) (.c (.str ['m', 'a', 'd', 'e'])))
    (.cons (.ret (.v 5))
    .nil)
    .nil)
    (.cons (.ex (.bm .append (.v 7) (.cons (.ix (.v 5) (.c (.int 1))) .nil)))
    .nil))))
    (.cons (.ife (.or (.op .eq (.v 4) (.c (.str ['l', 'e', 't']))) (.op .eq (.v 4) (.c (.str ['i', 'f']))))
    (.cons (.ret (.call c_law_choice (.cons (.v 0) (.cons (.v 1) (.cons (.ix (.v 7) (.c (.int 0))) (.cons (.v 2) (.cons (.v 3) .nil))))) []))
    .nil)
    .nil)
    (.cons (.ife (.or (.op .eq (.v 4) (.c (.str ['e', 'a', 'c', 'h']))) (.op .eq (.v 4) (.c (.str ['o', 'v', 'e', 'r']))))
    (.cons (.ret (.call c_law_rounds (.cons (.v 0) (.cons (.v 1) (.cons (.v 7) (.cons (.v 2) (.cons (.v 3) .nil))))) []))
    .nil)
    .nil)
    (.cons (.ife (.op .eq (.v 4) (.c (.str ['c', 'r', 'y'])))
    (.cons (.ret (.tup (.cons (.c (.str ['w', 'r', 'o', 'n', 'g'])) (.cons (.c (.str ['c', 'r', 'i', 'e', 'd'])) (.cons (.ix (.v 7) (.c (.int 0))) .nil)))))
    .nil)
    .nil)
    (.cons (.ife (.op .ne (.v 4) (.c (.str ['l', 'o', 'o', 'k'])))
    (.cons (.ret (.call c_reckoned (.cons (.v 4) (.cons (.v 7) .nil)) []))
    .nil)
    .nil)
    (.cons (.ife (.not (.isi (.ix (.v 7) (.c (.int 0))) .str))
    (.cons (.ret (.tup (.cons (.c (.str ['w', 'r', 'o', 'n', 'g'])) (.cons (.c (.str ['k', 'i', 'n', 'd'])) (.cons (.c (.str [])) .nil)))))
    .nil)
    .nil)
    (.cons (.ex (.bm .append (.ix (.v 3) (.c (.int 1))) (.cons (.ix (.v 7) (.c (.int 0))) .nil)))
    (.cons (.ife (.op .eq (.bi .len (.cons (.ix (.v 3) (.c (.int 0))) .nil)) (.c (.int 0)))
    (.cons (.ret (.tup (.cons (.c (.str ['l', 'o', 's', 't'])) .nil)))
    .nil)
    .nil)
    (.cons (.ret (.bm .pop (.ix (.v 3) (.c (.int 0))) (.cons (.c (.int 0)) .nil)))
    .nil)))))))))))))))))⟩
def fdLDue (c_law_outcome_by : Nat) : FD := ⟨4, 5,
    (.cons (.set (.v 4) (.call c_law_outcome_by (.cons (.v 0) (.cons (.v 1) (.cons (.v 2) (.cons (.v 3) .nil)))) []))
    (.cons (.ife (.op .gt (.bi .len (.cons (.v 2) .nil)) (.c (.int 0)))
    (.cons (.ret (.tup (.cons (.c (.str ['l', 'o', 's', 't'])) .nil)))
    .nil)
    .nil)
    (.cons (.ret (.v 4))
    .nil)))⟩
def obTail (c_law_choice c_law_rounds c_reckoned : Nat) : Ss :=
    (.cons (.ife (.or (.op .eq (.v 4) (.c (.str ['l', 'e', 't']))) (.op .eq (.v 4) (.c (.str ['i', 'f']))))
    (.cons (.ret (.call c_law_choice (.cons (.v 0) (.cons (.v 1) (.cons (.ix (.v 7) (.c (.int 0))) (.cons (.v 2) (.cons (.v 3) .nil))))) []))
    .nil)
    .nil)
    (.cons (.ife (.or (.op .eq (.v 4) (.c (.str ['e', 'a', 'c', 'h']))) (.op .eq (.v 4) (.c (.str ['o', 'v', 'e', 'r']))))
    (.cons (.ret (.call c_law_rounds (.cons (.v 0) (.cons (.v 1) (.cons (.v 7) (.cons (.v 2) (.cons (.v 3) .nil))))) []))
    .nil)
    .nil)
    (.cons (.ife (.op .eq (.v 4) (.c (.str ['c', 'r', 'y'])))
    (.cons (.ret (.tup (.cons (.c (.str ['w', 'r', 'o', 'n', 'g'])) (.cons (.c (.str ['c', 'r', 'i', 'e', 'd'])) (.cons (.ix (.v 7) (.c (.int 0))) .nil)))))
    .nil)
    .nil)
    (.cons (.ife (.op .ne (.v 4) (.c (.str ['l', 'o', 'o', 'k'])))
    (.cons (.ret (.call c_reckoned (.cons (.v 4) (.cons (.v 7) .nil)) []))
    .nil)
    .nil)
    (.cons (.ife (.not (.isi (.ix (.v 7) (.c (.int 0))) .str))
    (.cons (.ret (.tup (.cons (.c (.str ['w', 'r', 'o', 'n', 'g'])) (.cons (.c (.str ['k', 'i', 'n', 'd'])) (.cons (.c (.str [])) .nil)))))
    .nil)
    .nil)
    (.cons (.ex (.bm .append (.ix (.v 3) (.c (.int 1))) (.cons (.ix (.v 7) (.c (.int 0))) .nil)))
    (.cons (.ife (.op .eq (.bi .len (.cons (.ix (.v 3) (.c (.int 0))) .nil)) (.c (.int 0)))
    (.cons (.ret (.tup (.cons (.c (.str ['l', 'o', 's', 't'])) .nil)))
    .nil)
    .nil)
    (.cons (.ret (.bm .pop (.ix (.v 3) (.c (.int 0))) (.cons (.c (.int 0)) .nil)))
    .nil))))))))
theorem oc_raw {o : Oc} (h : OcOk o) : rawD o.toD = true := by
  have hw := isW_raw h.ww
  cases o with
  | made w =>
    rw [Oc.w] at hw
    rw [Oc.toD, rawD, rawDs, rawDs, rawDs, hw]
    rfl
  | wrong k d =>
    rw [Oc.w] at hw
    have hk : rawD (.str k) = true := by
      have hm := (ww_facts h).2
      simp only [List.mem_cons, List.not_mem_nil, or_false] at hm
      rcases hm with rfl | rfl | rfl | rfl | rfl | rfl | rfl <;> rfl
    rw [Oc.toD, rawD, rawDs, rawDs, rawDs, rawDs, hw, hk]
    rfl
section
variable {P : Prog} {n i : Nat} {st st' st2 : Sto} {Q : D × Sto → Prop}
theorem pop0_ref {t : Nat} {x : D} {xs : List D} (h : st[t]? = some (.lst (x :: xs))) : bmF .l .pop (.ref t) [.int 0] st = .ok (x, st.set t (.lst xs)) := by
  simp only [bmF, lstF, h, lmF, if_true]
theorem list_tup {xs : List D} : biF .list [.tup xs] st = .ok (.ref st.length, st ++ [.lst xs]) := rfl
theorem mem_strs {w : List Char} (ss : List (List Char)) : memF st (.str w) (.tup (ss.map D.str)) = some (decide (w ∈ ss)) := by
  have h1 : (ss.map D.str).all flatF = true := by rw [List.all_map]; exact List.all_eq_true.mpr fun _ _ => rfl
  simp only [memF, memF.memL, h1, flatF, Bool.and_self, if_true, List.any_map]
  congr 1
  induction ss with
  | nil => rfl
  | cons s ss ih =>
    rw [List.any_cons, ih (by rw [List.all_map]; exact List.all_eq_true.mpr fun _ _ => rfl)]
    simp only [Function.comp, eqS, List.mem_cons]
    by_cases h : s = w
    · subst h; simp
    · have : ¬ w = s := fun e => h e.symm
      simp [h, this]
/-- where the law's lists stand: parts, founds and names -/
structure Lx (st : Sto) (A F B C : Nat) (ps : List Rc) (os : List Oc) (ns : List (List Char)) : Prop where
  ha : st[A]? = some (.lst (ps.map Rc.toD))
  hf : st[F]? = some (.lst [.ref B, .ref C])
  hb : st[B]? = some (.lst (os.map Oc.toD))
  hc : st[C]? = some (.lst (ns.map .str))
  nd : A ≠ F ∧ A ≠ B ∧ A ≠ C ∧ F ≠ B ∧ F ≠ C ∧ B ≠ C
section
variable {A F B C : Nat} {ps : List Rc} {os : List Oc} {ns : List (List Char)}
theorem Lx.grow (h : Lx st A F B C ps os ns) (g : Grow st st') : Lx st' A F B C ps os ns := ⟨g.at h.ha, g.at h.hf, g.at h.hb, g.at h.hc, h.nd⟩
theorem Lx.other (h : Lx st A F B C ps os ns) {a : Nat} {o : O} (h1 : a ≠ A) (h2 : a ≠ F) (h3 : a ≠ B) (h4 : a ≠ C) : Lx (st.set a o) A F B C ps os ns :=
  ⟨by rw [List.getElem?_set_ne h1]; exact h.ha, by rw [List.getElem?_set_ne h2]; exact h.hf, by rw [List.getElem?_set_ne h3]; exact h.hb, by rw [List.getElem?_set_ne h4]; exact h.hc, h.nd⟩
theorem Lx.new (h : Lx st A F B C ps os ns) {a : Nat} {o : O} (hl : st2.length ≤ a) (h2 : A < st2.length ∧ F < st2.length ∧ B < st2.length ∧ C < st2.length) : Lx (st.set a o) A F B C ps os ns :=
  h.other (by omega) (by omega) (by omega) (by omega)
theorem Lx.lt (h : Lx st A F B C ps os ns) : A < st.length ∧ F < st.length ∧ B < st.length ∧ C < st.length := ⟨lt_of h.ha, lt_of h.hf, lt_of h.hb, lt_of h.hc⟩
theorem Lx.popA {r : Rc} (h : Lx st A F B C (r :: ps) os ns) : Lx (st.set A (.lst (ps.map Rc.toD))) A F B C ps os ns :=
  ⟨sto_set h.ha, by rw [List.getElem?_set_ne h.nd.1]; exact h.hf, by rw [List.getElem?_set_ne h.nd.2.1]; exact h.hb, by rw [List.getElem?_set_ne h.nd.2.2.1]; exact h.hc, h.nd⟩
end
/-- what the law's going by an expression does: the parts are used up, founds and names go on -/
def ObS (P : Prog) (i : Nat) (e : Ex) (v : Env) (r : Rc) (L : Lk) : Prop :=
  ∀ (n : Nat) (st : Sto) (Q : D × Sto → Prop) (A F B C V : Nat) (os : List Oc) (ns : List (List Char)), Lx st A F B C r.ps (L.map (·.2) ++ os) ns → st[V]? = some (.dct v) → ns.length + L.length ≤ 900000 → v.length + 2 * e.dep ≤ 1000 → 4 * e.dep + 40 ≤ n → ExW e → RcD 20 r →
    (∀ st', Lx st' A F B C [] os (ns ++ L.map (·.1)) → Fra [A, B, C] st st' → Q (r.o.toD, st')) → (callF P n i [e.toD, .ref V, .ref A, .ref F] st).wp Q
/-- the next part of the row -/
def NxS (P : Prog) (i : Nat) (e : Ex) (v : Env) (r : Rc) (L : Lk) : Prop :=
  ∀ (n : Nat) (st : Sto) (Q : D × Sto → Prop) (A F B C V : Nat) (ps : List Rc) (os : List Oc) (ns : List (List Char)), Lx st A F B C (r :: ps) (L.map (·.2) ++ os) ns → st[V]? = some (.dct v) → ns.length + L.length ≤ 900000 → v.length + 2 * e.dep ≤ 1000 → 4 * e.dep + 42 ≤ n → ExW e → RcD 20 r →
    (∀ st', Lx st' A F B C ps os (ns ++ L.map (·.1)) → Fra [A, B, C] st st' → Q (r.o.toD, st')) → (callF P n i [e.toD, .ref V, .ref A, .ref F] st).wp Q
theorem due_spec {ob : Nat} (h : P.fns[i]? = some (fdLDue ob)) {e : Ex} {v : Env} {r : Rc} {L : Lk} (hs : ObS P ob e v r L) {n : Nat} {st : Sto} {Q : D × Sto → Prop} {A F B C V : Nat} {os : List Oc} {ns : List (List Char)} (hL : Lx st A F B C r.ps (L.map (·.2) ++ os) ns) (hV : st[V]? = some (.dct v)) (h1 : ns.length + L.length ≤ 900000) (h2 : v.length + 2 * e.dep ≤ 1000) (h3 : 4 * e.dep + 41 ≤ n) (h4 : ExW e) (h5 : RcD 20 r)
    (q : ∀ st', Lx st' A F B C [] os (ns ++ L.map (·.1)) → Fra [A, B, C] st st' → Q (r.o.toD, st')) : (callF P n i [e.toD, .ref V, .ref A, .ref F] st).wp Q := by
  obtain ⟨m, rfl⟩ : ∃ m, n = m + 1 := ⟨n - 1, by omega⟩
  refine call_wp h rfl ?_
  simp only [fdLDue, start_cons, start0, repS, rep0]
  refine stm_k fun K hK => ?_
  simp only [seval, sv5]
  refine hs m st _ A F B C V os ns hL hV h1 h2 (by omega) h4 h5 fun st1 hL1 k1 => ?_
  refine hK _ _ ?_
  clear hK K
  refine skip_if ?_ ?_
  · simp only [seval, sv5]
    rw [len_ref hL1.ha]
    simp only [seval, sv5, List.map_nil, List.length_nil]
  refine ret_one ?_
  simp only [seval, sv5]
  exact q _ hL1 k1
theorem next_spec {ob du sm : Nat} (h : P.fns[i]? = some (fdLNext du sm)) (hdu : P.fns[du]? = some (fdLDue ob)) (hsm : P.fns[sm]? = some (fdSame sm)) {e : Ex} {v : Env} {r : Rc} {L : Lk} (hs : ObS P ob e v r L) : NxS P i e v r L := by
  intro n st Q A F B C V ps os ns hL hV h1 h2 h3 h4 h5 q
  obtain ⟨m, rfl⟩ : ∃ m, n = m + 1 := ⟨n - 1, by omega⟩
  obtain ⟨o, rs⟩ := r
  have hoc : OcOk o := h5.oc
  have hsz : SZ = 1000000 := rfl
  have hit := h5.it
  rw [Rc.toD] at hit
  refine call_wp h rfl ?_
  simp only [fdLNext, start_cons, start0, repS, rep0]
  refine skip_if ?_ ?_
  · simp only [seval, sv5]
    rw [len_ref hL.ha]
    simp only [seval, sv5, List.map_cons, List.length_cons]
    simp; omega
  have hA := hL.ha
  rw [List.map_cons] at hA
  refine stm_k fun K hK => ?_
  simp only [seval, sv5, kd_ref hA, pop0_ref hA]
  refine hK _ _ ?_
  clear hK K
  have hL1 := hL.popA
  have k1 : Fra [A, B, C] st (st.set A (.lst (ps.map Rc.toD))) := Fra.set (by simp)
  have hV1 : (st.set A (.lst (ps.map Rc.toD)))[V]? = some (.dct v) := by rw [List.getElem?_set_ne (fun e => by rw [e, hV] at hA; cases hA)]; exact hV
  generalize st.set A (.lst (ps.map Rc.toD)) = st1 at hL1 k1 hV1
  rw [Rc.toD]
  refine skip_if ?_ ?_
  · have s1 : Saf st1 (.tup [o.toD, .tup (Rc.toDs rs)]) := pur_saf st1 _ (it_pur _ hit.1)
    have s2 : Saf st1 (.tup (Rc.toDs rs)) := by
      have := hit.1
      simp only [itD, itDs, Bool.and_eq_true] at this
      exact pur_saf st1 _ (it_pur _ (by rw [itD, Bool.and_eq_true]; exact this.2.2.1))
    simp only [seval, sv5, isi_tup s1, isi_tup s2, isTup, List.length_cons, List.length_nil]
  refine stm_k fun K hK => ?_
  simp only [seval, sv5, list_tup]
  have hlt := hL1.lt
  have hL2 : Lx (st1 ++ [O.lst (Rc.toDs rs)]) st1.length F B C rs (L.map (·.2) ++ os) ns := by
    have g := hL1.grow (Grow.push (o := O.lst (Rc.toDs rs)))
    have nd := hL1.nd
    exact ⟨by rw [Rc.toDs_map]; exact sto_top, g.hf, g.hb, g.hc, by omega, by omega, by omega, nd.2.2.2.1, nd.2.2.2.2.1, nd.2.2.2.2.2⟩
  refine due_spec (r := .mk o rs) hdu hs hL2 (Grow.push.at hV1) h1 h2 (by omega) h4 h5 fun st3 hL3 k3 => ?_
  refine hK _ _ ?_
  clear hK K
  have k13 : Fra [B, C] st1 st3 := (Fra.push.trans k3).cut (T := [st1.length]) (by intro n hn; rw [List.mem_singleton.mp hn]; exact Nat.le_refl _)
  have hL4 : Lx st3 A F B C ps os (ns ++ L.map (·.1)) := by
    have nd := hL1.nd
    exact ⟨k13.at hL1.ha (by simp only [List.mem_cons, List.not_mem_nil, or_false]; omega), k13.at hL1.hf (by simp only [List.mem_cons, List.not_mem_nil, or_false]; omega), hL3.hb, hL3.hc, nd⟩
  refine skip_M (Grow st3) ?_ ?_
  · simp only [seval, sv5, Rc.o]
    refine same_spec hsm m _ _ o.toD (oc_raw hoc) (by have := oc_dep hoc; omega) fun st4 g4 => ?_
    simp only [seval, sv5]
    exact g4
  intro st4 g4
  refine ret_one ?_
  simp only [seval, sv5]
  exact q _ (hL4.grow g4) (((k1.trans (k13.mono (by simp))).trans g4.fra))
/-- parts gone through in turn, up to a wrong one -/
inductive FI (N : Ex → Rc → Lk → Prop) : List Ex → List D → List Rc → Lk → Oc ⊕ List D → Prop where
  | nil {acc : List D} : FI N [] acc [] [] (.inr acc)
  | wr {p : Ex} {ps : List Ex} {acc : List D} {r : Rc} {k : List Char} {d : D} {L : Lk} : N p r L → r.o = .wrong k d → FI N (p :: ps) acc [r] L (.inl (.wrong k d))
  | cons {p : Ex} {ps : List Ex} {acc : List D} {r : Rc} {d : D} {rs : List Rc} {L L' : Lk} {res : Oc ⊕ List D} : N p r L → r.o = .made d → FI N ps (acc ++ [d]) rs L' res → FI N (p :: ps) acc (r :: rs) (L ++ L') res
def firsts (w : List Char) (ps : List Ex) : List Ex := if w ∈ [sLet, sIf, sEach, sLook, sCry] then ps.take 1 else if w = sOver then ps.take 2 else ps
theorem lc_tups {turn : D → Sto → R (Option D × Sto)} {Q : List D × Sto → Prop} : ∀ (ds acc : List D), (∀ d ∈ ds, (turn d st).wp fun p => p = (if isTup d = true then some d else none, st)) → acc.length + ds.length ≤ SZ → Q (acc ++ ds.filter isTup, st) → (lcF (fun _ => true) turn ds acc st).wp Q
  | [], acc, _, _, q => by
    rw [lcF, if_pos rfl]
    simpa using q
  | d :: ds, acc, h, hl, q => by
    rw [lcF, if_pos rfl, wp_bind]
    rw [List.length_cons] at hl
    refine wp_mono (h d List.mem_cons_self) fun p hp => ?_
    subst hp
    by_cases ht : isTup d = true
    · rw [if_pos ht]
      dsimp only
      rw [if_pos (by omega)]
      refine lc_tups ds (acc ++ [d]) (fun x hx => h x (List.mem_cons_of_mem _ hx)) (by rw [List.length_append]; simp only [List.length_cons, List.length_nil]; omega) ?_
      rw [List.filter_cons_of_pos ht] at q
      simpa using q
    · rw [if_neg ht]
      dsimp only
      refine lc_tups ds acc (fun x hx => h x (List.mem_cons_of_mem _ hx)) (by omega) ?_
      rw [List.filter_cons_of_neg ht] at q
      exact q
theorem ex_tup (e : Ex) : isTup e.toD = true := by cases e <;> rfl
theorem filt (bs : List (List Char)) (ps : List Ex) : (bs.map D.str ++ Ex.toDs ps).filter isTup = ps.map Ex.toD := by
  rw [List.filter_append, Ex.toDs_map]
  have h1 : (bs.map D.str).filter isTup = [] := by
    rw [List.filter_eq_nil_iff]
    intro d hd
    obtain ⟨x, _, rfl⟩ := List.mem_map.mp hd
    simp [isTup]
  have h2 : (ps.map Ex.toD).filter isTup = ps.map Ex.toD := by
    rw [List.filter_eq_self]
    intro d hd
    obtain ⟨x, _, rfl⟩ := List.mem_map.mp hd
    exact ex_tup x
  rw [h1, h2]; rfl
theorem ob_pre {nx ch rd rk : Nat} (h : P.fns[i]? = some (fdLOutcomeBy nx ch rd rk)) {w : List Char} {bs : List (List Char)} {ps : List Ex} {v : Env} (hE : ExW (.node w bs ps)) (hw : w ≠ sElse) {rs1 rest : List Rc} {L : Lk} {res : Oc ⊕ List D} (hF : FI (fun p r L => NxS P nx p v r L) (firsts w ps) [] rs1 L res)
    {A F B C V : Nat} {os : List Oc} {ns : List (List Char)} (hL : Lx st A F B C (rs1 ++ rest) (L.map (·.2) ++ os) ns) (hV : st[V]? = some (.dct v)) (h1 : ns.length + L.length ≤ 900000) (h2 : v.length + 2 * (Ex.node w bs ps).dep ≤ 1000) (h3 : 4 * (Ex.node w bs ps).dep + 40 ≤ n + 1) (hR : ∀ r ∈ rs1, RcD 20 r)
    (q1 : ∀ o, res = .inl o → ∀ st', Lx st' A F B C rest os (ns ++ L.map (·.1)) → Fra [A, B, C] st st' → Q (o.toD, st'))
    (q2 : ∀ ws, res = .inr ws → ∀ (st' : Sto) (W : Nat) (e5 e6 e8 : Option D), st.length ≤ W → st'[W]? = some (.lst ws) → Lx st' A F B C rest os (ns ++ L.map (·.1)) → Fra [A, B, C] st st' → (evSs P (callF P n) (makeF P n) (obTail ch rd rk) [some (Ex.node w bs ps).toD, some (.ref V), some (.ref A), some (.ref F), some (.str w), e5, e6, some (.ref W), e8] st').wp (fun _ st => Q (.non, st)) fun d st => Q (d, st)) : (callF P (n + 1) i [(Ex.node w bs ps).toD, .ref V, .ref A, .ref F] st).wp Q := by
  have hsz : SZ = 1000000 := rfl
  have hp := ExW.pur _ hE
  have hf : FormOk w bs ps.length := by cases hE; assumption
  have hE' : ∀ p ∈ ps, ExW p := by cases hE; assumption
  have hdd' : ∀ p ∈ ps, p.dep + 1 ≤ (Ex.node w bs ps).dep := fun p hm => by
    have := Ex.dep_mem hm
    rw [Ex.dep]; omega
  have hfl : (firsts w ps).length ≤ 100000 := by
    have h0 := hp.1
    rw [node_toD, purD, Bool.and_eq_true, decide_eq_true_eq, List.length_cons, List.length_append, toDs_len] at h0
    have : (firsts w ps).length ≤ ps.length := by
      unfold firsts
      split
      · rw [List.length_take]; omega
      · split
        · rw [List.length_take]; omega
        · omega
    omega
  have hwl : w ≠ sLit ∧ w ≠ sVar := by
    have hs := hf.shape
    generalize ps.length = kk at hs
    cases hs with
    | words hw _ _ _ =>
      simp only [List.mem_cons, List.not_mem_nil, or_false, not_or] at hw
      exact ⟨hw.1, hw.2.1⟩
    | _ => exact ⟨by decide, by decide⟩
  refine call_wp h rfl ?_
  simp only [fdLOutcomeBy, start_cons, start0, repS, rep0]
  refine stm_k fun K hK => ?_
  rw [node_toD]
  simp only [seval, sv5]
  refine hK _ _ ?_
  clear hK K
  refine skip_if ?_ ?_
  · simp only [seval, sv5, show (w == ['l', 'i', 't']) = false by simp; exact hwl.1]
  refine skip_if ?_ ?_
  · simp only [seval, sv5, show (w == ['v', 'a', 'r']) = false by simp; exact hwl.2]
  refine skip_if ?_ ?_
  · simp only [seval, sv5, show (w == ['e', 'l', 's', 'e']) = false by simp; exact hw]
  refine stm_k fun K hK => ?_
  simp only [seval, sv5]
  have hcut : cutF (D.str w :: (bs.map D.str ++ Ex.toDs ps)) (some 1) none = bs.map D.str ++ Ex.toDs ps := by
    have := cut_prt (D.str w) (bs.map D.str ++ Ex.toDs ps) 0
    simpa using this
  rw [hcut]
  refine lc_tups _ [] ?_ ?_ ?_
  · intro d hd
    simp only [tg_v, seval, sv5, wipeF, List.length_cons, List.length_nil]
    have hS : Saf st d := by
      have h0 := hp.1
      rw [node_toD, purD, Bool.and_eq_true, purDs, Bool.and_eq_true] at h0
      exact pur_saf st d (purDs_mem h0.2.2 hd)
    refine ⟨isTup d, isi_tup hS, ?_⟩
    by_cases ht : isTup d = true
    · rw [if_pos ht, if_pos ht]
    · rw [if_neg ht, if_neg ht]
  · have h0 := hp.1
    rw [node_toD, purD, Bool.and_eq_true, decide_eq_true_eq, List.length_cons] at h0
    simp only [List.length_nil]; omega
  rw [List.nil_append, filt]
  simp only [seval, sv5]
  refine hK _ _ ?_
  clear hK K
  have hm : ∀ st : Sto, memF st (.str w) (.tup [.str ['l', 'e', 't'], .str ['i', 'f'], .str ['e', 'a', 'c', 'h'], .str ['l', 'o', 'o', 'k'], .str ['c', 'r', 'y']]) = some (decide (w ∈ [sLet, sIf, sEach, sLook, sCry])) := fun st => mem_strs [sLet, sIf, sEach, sLook, sCry]
  have hcut1 : ∀ (xs : List D), cutF xs none (some 1) = xs.take 1 := fun xs => by
    unfold cutF
    rw [show slIx xs.length 0 none = 0 from rfl, List.drop_zero, show slIx xs.length xs.length (some 1) = min 1 xs.length by simp [slIx], Nat.sub_zero]
    cases xs <;> simp
  have hcut2 : ∀ (xs : List D), cutF xs none (some 2) = xs.take 2 := fun xs => by
    unfold cutF
    rw [show slIx xs.length 0 none = 0 from rfl, List.drop_zero, show slIx xs.length xs.length (some 2) = min 2 xs.length by simp [slIx], Nat.sub_zero, ← List.take_eq_take_min]
  refine seq_wp (M := fun fr st' => ∃ U, fr = [some (.tup (.str w :: (bs.map D.str ++ Ex.toDs ps))), some (.ref V), some (.ref A), some (.ref F), some (.str w), none, some (.ref U), none, none] ∧ st'[U]? = some (.lst ((if w ∈ [sLet, sIf, sEach, sLook, sCry] then ps.take 1 else ps).map Ex.toD)) ∧ Grow st st' ∧ st.length ≤ U) ?_ ?_
  · refine s_ife_w.mpr ?_
    by_cases hx : w ∈ [sLet, sIf, sEach, sLook, sCry]
    · simp only [seval, sv5, hm, decide_eq_true hx, if_pos hx]
      rw [sl_refN sto_top, hcut1]
      simp only [seval, sv5]
      exact ⟨_, rfl, by rw [List.map_take]; exact sto_top, Grow.push.trans Grow.push, by simp⟩
    · simp only [seval, sv5, hm, decide_eq_false hx, if_neg hx]
      exact ⟨_, rfl, sto_top, Grow.push, Nat.le_refl _⟩
  rintro fr st1 ⟨U, rfl, hU, g1, hUl⟩
  refine seq_wp (M := fun fr st' => ∃ U, fr = [some (.tup (.str w :: (bs.map D.str ++ Ex.toDs ps))), some (.ref V), some (.ref A), some (.ref F), some (.str w), none, some (.ref U), none, none] ∧ st'[U]? = some (.lst ((firsts w ps).map Ex.toD)) ∧ Grow st st' ∧ st.length ≤ U) ?_ ?_
  · refine s_ife_w.mpr ?_
    by_cases hx : w = sOver
    · subst hx
      simp (decide := true) only [seval, sv5, ↓reduceIte]
      rw [sl_refN hU, hcut2]
      simp only [seval, sv5]
      have hl := g1.len
      exact ⟨_, rfl, by rw [← List.map_take]; exact sto_top, g1.trans Grow.push, by omega⟩
    · simp only [seval, sv5, show (w == ['o', 'v', 'e', 'r']) = false by simp; exact hx]
      refine ⟨U, rfl, ?_, g1, hUl⟩
      rw [firsts, if_neg hx] 
      exact hU
  clear hU g1 hUl
  rintro fr st1 ⟨U, rfl, hU, g1, hUl⟩
  refine stm_k fun K hK => ?_
  simp only [seval, sv5]
  refine hK _ _ ?_
  clear hK K
  have hW : (st1 ++ [O.lst []])[st1.length]? = some (.lst []) := sto_top
  have g2 : Grow st (st1 ++ [O.lst []]) := g1.trans Grow.push
  have hU2 := (Grow.push (o := O.lst [])).at hU
  have hL2 := hL.grow g2
  have hV2 := g2.at hV
  have hWl := g1.len
  have hUW : U ≠ st1.length := by have := lt_of hU; omega
  have hlt := hL.lt
  have hVl := lt_of hV
  generalize st1.length = W at hW hWl hUW
  generalize st1 ++ [O.lst []] = st2 at hW g2 hU2 hL2 hV2
  have hWn : W ∉ [A, B, C] := by simp only [List.mem_cons, List.not_mem_nil, or_false]; omega
  have hVn : V ∉ [A, B, C] := by
    have h0 : V ≠ A := fun e => by have := hL.ha; rw [← e, hV] at this; cases this
    have h1 : V ≠ B := fun e => by have := hL.hb; rw [← e, hV] at this; cases this
    have h2 : V ≠ C := fun e => by have := hL.hc; rw [← e, hV] at this; cases this
    simp only [List.mem_cons, List.not_mem_nil, or_false]; omega
  have hUn : U ∉ [A, B, C] := by simp only [List.mem_cons, List.not_mem_nil, or_false]; omega
  have hdp : ∀ p ∈ firsts w ps, p ∈ ps := by
    intro p hp
    unfold firsts at hp
    split at hp
    · exact List.mem_of_mem_take hp
    · split at hp
      · exact List.mem_of_mem_take hp
      · exact hp
  have hdd : ∀ p ∈ ps, p.dep + 1 ≤ (Ex.node w bs ps).dep := fun p hm => by
    have := Ex.dep_mem hm
    rw [Ex.dep]; omega
  refine seq_wp (M := fun fr st' => ∃ (ws : List D) (e5 e8 : Option D), res = .inr ws ∧ fr = [some (Ex.node w bs ps).toD, some (.ref V), some (.ref A), some (.ref F), some (.str w), e5, some (.ref U), some (.ref W), e8] ∧ st'[W]? = some (.lst ws) ∧ Lx st' A F B C rest os (ns ++ L.map (·.1)) ∧ Fra [A, B, C] st st') ?_ ?_
  · simp only [seval, sv5]
    rw [← node_toD, wk_ref hU2]
    simp only [seval, sv5, id]
    refine for_wp (I := fun dd fr st' => ∃ (es : List Ex) (acc : List D) (rs : List Rc) (L' : Lk) (ns' : List (List Char)) (e5 e8 : Option D), dd = es.map Ex.toD ∧ FI (fun p r L => NxS P nx p v r L) es acc rs L' res ∧ (∀ p ∈ es, p ∈ ps) ∧ (∀ r ∈ rs, RcD 20 r) ∧ fr = [some (Ex.node w bs ps).toD, some (.ref V), some (.ref A), some (.ref F), some (.str w), e5, some (.ref U), some (.ref W), e8] ∧ Lx st' A F B C (rs ++ rest) (L'.map (·.2) ++ os) ns' ∧ ns' ++ L'.map (·.1) = ns ++ L.map (·.1) ∧ ns'.length + L'.length ≤ 900000 ∧ acc.length + es.length = (firsts w ps).length ∧ st'[W]? = some (.lst acc) ∧ st'[U]? = some (.lst ((firsts w ps).map Ex.toD)) ∧ Fra [A, B, C] st st') ?_ ?_ ?_ _ _ _ ⟨firsts w ps, [], rs1, L, ns, none, none, rfl, hF, hdp, hR, rfl, hL2, rfl, h1, by simp, hW, hU2, g2.fra⟩
    · rintro dd fr st3 ⟨es, acc, rs, L', ns', e5, e8, rfl, hF3, hes, hR3, rfl, hL3, hns, hnl, hal, hW3, hU3, k3⟩
      exact stands_at hU3
    · rintro d dd fr st3 ⟨es, acc, rs, L', ns', e5, e8, hdd, hF3, hes, hR3, rfl, hL3, hns, hnl, hal, hW3, hU3, k3⟩
      cases hF3 with
      | nil => cases hdd
      | @wr p es acc r k dw L' hN hr =>
        rw [List.map_cons] at hdd
        injection hdd with hd1 hd2
        subst hd1 hd2
        have hpm := hes p List.mem_cons_self
        have hpd := hdd' p hpm
        simp only [tg_v, List.set_cons_succ, List.set_cons_zero]
        refine stm_k fun K hK => ?_
        simp only [seval, sv5]
        refine hN n st3 _ A F B C V rest os ns' hL3 (k3.at hV hVn) hnl (by omega) (by omega) (hE' p hpm) (hR3 r List.mem_cons_self) fun st4 hL4 k4 => ?_
        refine hK _ _ ?_
        clear hK K
        rw [hns] at hL4
        rw [rc_wrong hr]
        refine take_if ?_ ?_
        · simp (decide := true) only [seval, sv5, ↓reduceIte]
        refine ret_one ?_
        simp only [seval, sv5, id]
        exact q1 _ rfl _ hL4 (k3.trans k4)
      | @cons p es acc r dm rs L1 L2 res hN hr hF4 =>
        rw [List.map_cons] at hdd
        injection hdd with hd1 hd2
        subst hd1 hd2
        have hpm := hes p List.mem_cons_self
        have hpd := hdd' p hpm
        rw [List.map_append, List.append_assoc] at hL3
        rw [List.map_append, ← List.append_assoc] at hns
        rw [List.length_append] at hnl
        rw [List.length_cons] at hal
        simp only [tg_v, List.set_cons_succ, List.set_cons_zero]
        refine stm_k fun K hK => ?_
        simp only [seval, sv5]
        refine hN n st3 _ A F B C V (rs ++ rest) (L2.map (·.2) ++ os) ns' hL3 (k3.at hV hVn) (by omega) (by omega) (by omega) (hE' p hpm) (hR3 r List.mem_cons_self) fun st4 hL4 k4 => ?_
        refine hK _ _ ?_
        clear hK K
        rw [rc_made hr]
        refine skip_if ?_ ?_
        · simp (decide := true) only [seval, sv5, ↓reduceIte]
        have hW4 := k4.at hW3 hWn
        have hU4 := k4.at hU3 hUn
        refine stm_k fun K hK => ?_
        simp only [seval, sv5, kd_ref hW4, ap_ref hW4]
        refine ⟨by omega, hK _ _ ?_⟩
        clear hK K
        rw [s_nil_w]
        refine ⟨es, acc ++ [dm], rs, L2, ns' ++ L1.map (·.1), _, _, rfl, hF4, fun z hz => hes z (List.mem_cons_of_mem _ hz), fun z hz => hR3 z (List.mem_cons_of_mem _ hz), rfl, hL4.other (by omega) (by omega) (by omega) (by omega), hns, by rw [List.length_append, List.length_map]; omega, by rw [List.length_append]; simp only [List.length_cons, List.length_nil]; omega, sto_set hW4, ?_, ?_⟩
        · rw [List.getElem?_set_ne (by omega)]; exact hU4
        · exact ((k3.trans k4).new (by omega))
    · rintro fr st3 ⟨es, acc, rs, L', ns', e5, e8, hdd, hF3, hes, hR3, rfl, hL3, hns, hnl, hal, hW3, hU3, k3⟩
      cases hF3 with
      | nil => 
        rw [List.map_nil, List.append_nil] at hns
        rw [← hns]
        exact ⟨acc, e5, e8, rfl, rfl, hW3, hL3, k3⟩
      | wr _ _ => cases hdd
      | cons _ _ _ => cases hdd
  rintro fr st3 ⟨ws, e5, e8, hres, rfl, hW3, hL3, k3⟩
  exact q2 ws hres st3 W e5 _ e8 (by omega) hW3 hL3 k3
/-- what is left behind the first parts -/
def TlS (P : Prog) (ch rd rk : Nat) (e : Ex) (w : List Char) (v : Env) (ws : List D) (o : Oc) (rest : List Rc) (L : Lk) : Prop :=
  ∀ (n : Nat) (st : Sto) (Q : D × Sto → Prop) (A F B C V W : Nat) (os : List Oc) (ns : List (List Char)) (e5 e6 e8 : Option D), Lx st A F B C rest (L.map (·.2) ++ os) ns → st[V]? = some (.dct v) → st[W]? = some (.lst ws) → W ∉ [A, B, C] → ns.length + L.length ≤ 900000 → v.length + 2 * e.dep ≤ 1000 → 4 * e.dep + 40 ≤ n + 1 → ExW e → (∀ r ∈ rest, RcD 20 r) →
    (∀ st', Lx st' A F B C [] os (ns ++ L.map (·.1)) → Fra [A, B, C, W] st st' → Q (o.toD, st')) →
    (evSs P (callF P n) (makeF P n) (obTail ch rd rk) [some e.toD, some (.ref V), some (.ref A), some (.ref F), some (.str w), e5, e6, some (.ref W), e8] st).wp (fun _ st => Q (.non, st)) fun d st => Q (d, st)
theorem ob_of {nx ch rd rk : Nat} (h : P.fns[i]? = some (fdLOutcomeBy nx ch rd rk)) {w : List Char} {bs : List (List Char)} {ps : List Ex} {v : Env} (hw : w ≠ sElse) {rs1 rest : List Rc} {L L2 : Lk} {ws : List D} {o : Oc} (hF : FI (fun p r L => NxS P nx p v r L) (firsts w ps) [] rs1 L (.inr ws)) (ht : TlS P ch rd rk (.node w bs ps) w v ws o rest L2) : ObS P i (.node w bs ps) v (.mk o (rs1 ++ rest)) (L ++ L2) := by
  intro n st Q A F B C V os ns hL hV h1 h2 h3 hE hR q
  obtain ⟨n, rfl⟩ : ∃ m, n = m + 1 := ⟨n - 1, by omega⟩
  have hR' : ∀ r ∈ rs1 ++ rest, RcD 20 r := fun r hr => (hR.2.2 r hr).mono (by decide)
  rw [List.map_append, List.append_assoc] at hL
  rw [List.length_append] at h1
  have hlt := hL.lt
  refine ob_pre h hE hw hF hL hV (by omega) h2 h3 (fun r hr => hR' r (List.mem_append_left _ hr)) (fun o e => by cases e) fun ws' ee st1 W e5 e6 e8 hWl hW hL1 k1 => ?_
  cases ee
  have hVn : V ∉ [A, B, C] := by
    have h0 : V ≠ A := fun e => by have := hL.ha; rw [← e, hV] at this; cases this
    have h1 : V ≠ B := fun e => by have := hL.hb; rw [← e, hV] at this; cases this
    have h2 : V ≠ C := fun e => by have := hL.hc; rw [← e, hV] at this; cases this
    simp only [List.mem_cons, List.not_mem_nil, or_false]; omega
  refine ht n st1 Q A F B C V W os (ns ++ L.map (·.1)) e5 e6 e8 hL1 (k1.at hV hVn) hW (by simp only [List.mem_cons, List.not_mem_nil, or_false]; omega) (by rw [List.length_append, List.length_map]; omega) h2 h3 hE (fun r hr => hR' r (List.mem_append_right _ hr)) fun st2 hL2 k2 => ?_
  rw [List.append_assoc, ← List.map_append] at hL2
  refine q _ hL2 ?_
  exact ⟨Nat.le_trans k1.1 k2.1, fun m hm hn => by
    rw [k2.2 m (Nat.lt_of_lt_of_le hm k1.1) (by simp only [List.mem_cons, List.not_mem_nil, or_false] at hn ⊢; omega)]
    exact k1.2 m hm hn⟩
theorem ob_wr {nx ch rd rk : Nat} (h : P.fns[i]? = some (fdLOutcomeBy nx ch rd rk)) {w : List Char} {bs : List (List Char)} {ps : List Ex} {v : Env} (hw : w ≠ sElse) {rs1 : List Rc} {L : Lk} {o : Oc} (hF : FI (fun p r L => NxS P nx p v r L) (firsts w ps) [] rs1 L (.inl o)) : ObS P i (.node w bs ps) v (.mk o rs1) L := by
  intro n st Q A F B C V os ns hL hV h1 h2 h3 hE hR q
  obtain ⟨n, rfl⟩ : ∃ m, n = m + 1 := ⟨n - 1, by omega⟩
  have hR' : ∀ r ∈ rs1, RcD 20 r := fun r hr => (hR.2.2 r hr).mono (by decide)
  have hL' : Lx st A F B C (rs1 ++ []) (L.map (·.2) ++ os) ns := by rw [List.append_nil]; exact hL
  refine ob_pre h hE hw hF hL' hV h1 h2 h3 hR' (fun o' e st1 hL1 k1 => ?_) fun ws' ee => by cases ee
  cases e
  exact q _ hL1 k1
theorem FI.one_made {N : Ex → Rc → Lk → Prop} {a : Ex} {r : Rc} {L : Lk} {d : D} (h : N a r L) (hr : r.o = .made d) : FI N [a] [] [r] L (.inr [d]) := by
  have := FI.cons (ps := []) (acc := []) h hr .nil
  rwa [List.append_nil] at this
theorem FI.two_made {N : Ex → Rc → Lk → Prop} {a c : Ex} {r r' : Rc} {L L' : Lk} {d d' : D} (h : N a r L) (hr : r.o = .made d) (h' : N c r' L') (hr' : r'.o = .made d') : FI N [a, c] [] [r, r'] (L ++ L') (.inr [d, d']) := by
  have := FI.cons (ps := [c]) (acc := []) h hr (FI.cons (ps := []) (acc := [] ++ [d]) h' hr' .nil)
  rwa [List.append_nil] at this
/-- words -/
theorem tl_words {nx ch rd rk : Nat} (hrk : ReckAt P rk) {w : List Char} {bs : List (List Char)} {ps : List Ex} {v : Env} (hw : w ∉ [sLit, sVar, sLet, sIf, sEach, sOver, sLook, sElse, sCry]) {ws : List D} (ha : Arg w ws) : TlS P ch rd rk (.node w bs ps) w v ws (rekO w ws) [] [] := by
  intro n st Q A F B C V W os ns e5 e6 e8 hL hV hW hWn h1 h2 h3 hE hR q
  simp only [List.mem_cons, List.not_mem_nil, or_false, not_or] at hw
  obtain ⟨-, -, h3', h4, h5, h6, h7, h8, h9⟩ := hw
  have hn : 30 ≤ n := by have : (Ex.node w bs ps).dep ≥ 0 := Nat.zero_le _; omega
  simp only [obTail]
  refine skip_if ?_ ?_
  · simp only [seval, sv5, show (w == ['l', 'e', 't']) = false by simp; exact h3', show (w == ['i', 'f']) = false by simp; exact h4]
  refine skip_if ?_ ?_
  · simp only [seval, sv5, show (w == ['e', 'a', 'c', 'h']) = false by simp; exact h5, show (w == ['o', 'v', 'e', 'r']) = false by simp; exact h6]
  refine skip_if ?_ ?_
  · simp only [seval, sv5, show (w == ['c', 'r', 'y']) = false by simp; exact h9]
  refine take_if ?_ ?_
  · simp only [seval, sv5, show (w == ['l', 'o', 'o', 'k']) = false by simp; exact h7]
  refine ret_one ?_
  simp only [seval, sv5]
  refine reck_spec hrk hW ha hn ?_
  rw [← rekO_toD]
  simp only [List.map_nil, List.append_nil, List.nil_append] at q hL
  exact q _ hL Fra.refl
/-- a cry -/
theorem tl_cry {ch rd rk : Nat} {ps : List Ex} {v : Env} {d : D} : TlS P ch rd rk (.node sCry [] ps) sCry v [d] (.wrong sCried d) [] [] := by
  intro n st Q A F B C V W os ns e5 e6 e8 hL hV hW hWn h1 h2 h3 hE hR q
  simp only [obTail]
  refine skip_if ?_ ?_
  · simp (decide := true) only [seval, sv5, ↓reduceIte]
  refine skip_if ?_ ?_
  · simp (decide := true) only [seval, sv5, ↓reduceIte]
  refine take_if ?_ ?_
  · simp (decide := true) only [seval, sv5, ↓reduceIte]
  refine ret_one ?_
  simp only [seval, sv5, ix_ref hW]
  simp only [List.map_nil, List.append_nil, List.nil_append] at q hL
  exact q _ hL Fra.refl
theorem w_kind {d : D} (h : isW d = true) : (∃ i, d = .int i) ∨ (∃ x, d = .str x) ∨ ∃ xs, d = .tup xs := by
  cases d with
  | int i => exact .inl ⟨i, rfl⟩
  | str x => exact .inr (.inl ⟨x, rfl⟩)
  | tup xs => exact .inr (.inr ⟨xs, rfl⟩)
  | _ => cases h
/-- a look -/
theorem tl_look2 {ch rd rk : Nat} {ps : List Ex} {v : Env} {d : D} (hw : isW d = true) (hd : ∀ x, d ≠ .str x) : TlS P ch rd rk (.node sLook [] ps) sLook v [d] kindO [] [] := by
  intro n st Q A F B C V W os ns e5 e6 e8 hL hV hW hWn h1 h2 h3 hE hR q
  simp only [obTail]
  refine skip_if ?_ ?_
  · simp (decide := true) only [seval, sv5, ↓reduceIte]
  refine skip_if ?_ ?_
  · simp (decide := true) only [seval, sv5, ↓reduceIte]
  refine skip_if ?_ ?_
  · simp (decide := true) only [seval, sv5, ↓reduceIte]
  refine skip_if ?_ ?_
  · simp (decide := true) only [seval, sv5, ↓reduceIte]
  refine take_if ?_ ?_
  · simp only [seval, sv5, ix_ref hW, at_0, isi_str (isW_saf st hw), w_str hw hd]
  refine ret_one ?_
  simp only [seval, sv5]
  simp only [List.map_nil, List.append_nil, List.nil_append] at q hL
  exact q _ hL Fra.refl
theorem tl_look3 {ch rd rk : Nat} {ps : List Ex} {v : Env} {x : List Char} {o : Oc} (hw : isW (.str x) = true) : TlS P ch rd rk (.node sLook [] ps) sLook v [.str x] o [] [(x, o)] := by
  intro n st Q A F B C V W os ns e5 e6 e8 hL hV hW hWn h1 h2 h3 hE hR q
  have hsz : SZ = 1000000 := rfl
  simp only [obTail]
  refine skip_if ?_ ?_
  · simp (decide := true) only [seval, sv5, ↓reduceIte]
  refine skip_if ?_ ?_
  · simp (decide := true) only [seval, sv5, ↓reduceIte]
  refine skip_if ?_ ?_
  · simp (decide := true) only [seval, sv5, ↓reduceIte]
  refine skip_if ?_ ?_
  · simp (decide := true) only [seval, sv5, ↓reduceIte]
  refine skip_if ?_ ?_
  · simp only [seval, sv5, ix_ref hW, at_0, isi_str (isW_saf st hw), isStr]
  have hc := hL.hc
  have hb := hL.hb
  have nd := hL.nd
  simp only [List.map_cons, List.map_nil, List.cons_append, List.nil_append] at q hb
  refine stm_k fun K hK => ?_
  simp only [seval, sv5, ix_ref hL.hf, at_1, ix_ref hW, at_0, kd_ref hc, ap_ref hc, List.length_map]
  refine ⟨by simp only [List.length_cons, List.length_nil] at h1; omega, hK _ _ ?_⟩
  clear hK K
  have hC1 : (st.set C (.lst (ns.map D.str ++ [.str x])))[C]? = some (.lst ((ns ++ [x]).map .str)) := by rw [sto_set hc, List.map_append]; rfl
  have hL1 : Lx (st.set C (.lst (ns.map D.str ++ [.str x]))) A F B C [] (o :: os) (ns ++ [x]) :=
    ⟨by rw [List.getElem?_set_ne (by omega)]; exact hL.ha, by rw [List.getElem?_set_ne (by omega)]; exact hL.hf, by rw [List.getElem?_set_ne (by omega)]; exact hb, hC1, nd⟩
  have k1 : Fra [A, B, C, W] st (st.set C (.lst (ns.map D.str ++ [.str x]))) := Fra.set (by simp)
  generalize st.set C (.lst (ns.map D.str ++ [.str x])) = st1 at hL1 k1
  have hb1 := hL1.hb
  rw [List.map_cons] at hb1
  refine skip_if ?_ ?_
  · simp only [seval, sv5, ix_ref hL1.hf, at_0]
    rw [len_ref hb1]
    simp only [seval, sv5, List.length_cons]
    simp; omega
  refine ret_one ?_
  simp only [seval, sv5, ix_ref hL1.hf, at_0, kd_ref hb1, pop0_ref hb1]
  refine q _ ⟨by rw [List.getElem?_set_ne (by omega)]; exact hL1.ha, by rw [List.getElem?_set_ne (by omega)]; exact hL1.hf, sto_set hb1, by rw [List.getElem?_set_ne (by omega)]; exact hL1.hc, nd⟩ (k1.trans (Fra.set (by simp)))
/-- a let, an if: on by what came first -/
theorem tl_choice {ch rd rk : Nat} {w : List Char} {bs : List (List Char)} {ps : List Ex} {v : Env} {ws : List D} {o : Oc} {d : D} {rest : List Rc} {L : Lk} (hw : w = sLet ∨ w = sIf)
    (hc : ∀ (n : Nat) (st : Sto) (Q : D × Sto → Prop) (A F B C V : Nat) (os : List Oc) (ns : List (List Char)), Lx st A F B C rest (L.map (·.2) ++ os) ns → st[V]? = some (.dct v) → ns.length + L.length ≤ 900000 → v.length + 2 * (Ex.node w bs ps).dep ≤ 1000 → 4 * (Ex.node w bs ps).dep + 39 ≤ n → ExW (.node w bs ps) → (∀ r ∈ rest, RcD 20 r) → (∀ st', Lx st' A F B C [] os (ns ++ L.map (·.1)) → Fra [A, B, C] st st' → Q (o.toD, st')) → (callF P n ch [(Ex.node w bs ps).toD, .ref V, d, .ref A, .ref F] st).wp Q) : TlS P ch rd rk (.node w bs ps) w v (d :: ws) o rest L := by
  intro n st Q A F B C V W os ns e5 e6 e8 hL hV hW hWn h1 h2 h3 hE hR q
  simp only [obTail]
  refine take_if ?_ ?_
  · rcases hw with rfl | rfl <;> simp (decide := true) only [seval, sv5, ↓reduceIte]
  refine ret_one ?_
  simp only [seval, sv5, ix_ref hW, at_0]
  exact hc n st _ A F B C V os ns hL hV h1 h2 (by omega) hE hR fun st' hL' k => q _ hL' (k.mono (by simp only [List.mem_cons, List.not_mem_nil, or_false]; intro n hn; omega))
theorem V_nin {A F B C V : Nat} {ps : List Rc} {os : List Oc} {ns : List (List Char)} {v : Env} (hL : Lx st A F B C ps os ns) (hV : st[V]? = some (.dct v)) : V ∉ [A, B, C] := by
  have h0 : V ≠ A := fun e => by have := hL.ha; rw [← e, hV] at this; cases this
  have h1 : V ≠ B := fun e => by have := hL.hb; rw [← e, hV] at this; cases this
  have h2 : V ≠ C := fun e => by have := hL.hc; rw [← e, hV] at this; cases this
  simp only [List.mem_cons, List.not_mem_nil, or_false]; omega
theorem choice_let {nx ch : Nat} (h : P.fns[ch]? = some (fdLChoice nx)) {x : List Char} {a b : Ex} {v : Env} {d : D} {r : Rc} {L : Lk} (hN : NxS P nx b (putK v (.s x) d) r L) (n : Nat) (st : Sto) (Q : D × Sto → Prop) (A F B C V : Nat) (os : List Oc) (ns : List (List Char)) (hL : Lx st A F B C [r] (L.map (·.2) ++ os) ns) (hV : st[V]? = some (.dct v)) (h1 : ns.length + L.length ≤ 900000) (h2 : v.length + 2 * (Ex.node sLet [x] [a, b]).dep ≤ 1000) (h3 : 4 * (Ex.node sLet [x] [a, b]).dep + 39 ≤ n) (hE : ExW (.node sLet [x] [a, b])) (hR : ∀ z ∈ [r], RcD 20 z)
    (q : ∀ st', Lx st' A F B C [] os (ns ++ L.map (·.1)) → Fra [A, B, C] st st' → Q (r.o.toD, st')) : (callF P n ch [(Ex.node sLet [x] [a, b]).toD, .ref V, d, .ref A, .ref F] st).wp Q := by
  obtain ⟨m, rfl⟩ : ∃ m, n = m + 1 := ⟨n - 1, by omega⟩
  have hsz : SZ = 1000000 := rfl
  have hd : b.dep + 1 ≤ (Ex.node sLet [x] [a, b]).dep := by
    have := Ex.dep_mem (p := b) (ps := [a, b]) (by simp)
    rw [Ex.dep]; omega
  have hEb : ExW b := by cases hE with | node _ h => exact h b (by simp)
  refine call_wp h rfl ?_
  rw [node_toD]
  simp only [fdLChoice, start_cons, start0, repS, rep0, List.map_cons, List.map_nil, List.cons_append, List.nil_append, Ex.toDs]
  refine take_if ?_ ?_
  · simp (decide := true) only [seval, sv5, ↓reduceIte]
  refine stm_k fun K hK => ?_
  simp only [seval, sv5, dict_ref hV]
  refine hK _ _ ?_
  clear hK K
  refine stm_k fun K hK => ?_
  simp only [seval, sv5, setix_dct sto_top (by omega : v.length < SZ), set_top]
  refine hK _ _ ?_
  clear hK K
  refine ret_one ?_
  simp only [seval, sv5]
  rw [show atF [D.str sLet, D.str x, a.toD, b.toD] 3 = some b.toD from rfl]
  simp only [seval, sv5]
  have hpl := putK_le v (.s x) d
  refine hN m _ _ A F B C st.length [] os ns (hL.grow Grow.push) sto_top h1 (by omega) (by omega) hEb (hR r (by simp)) fun st1 hL1 k1 => ?_
  exact q _ hL1 (Fra.push.trans k1)
theorem choice_if2 {nx ch : Nat} (h : P.fns[ch]? = some (fdLChoice nx)) {e : Ex} {v : Env} {d : D} (hd : isW d = true) (hi : ∀ i, d ≠ .int i) {bs : List (List Char)} {ps : List Ex} (n : Nat) (st : Sto) (Q : D × Sto → Prop) (A F B C V : Nat) (os : List Oc) (ns : List (List Char)) (hL : Lx st A F B C [] (([] : Lk).map (·.2) ++ os) ns) (hV : st[V]? = some (.dct v)) (h1 : ns.length + ([] : Lk).length ≤ 900000) (h2 : v.length + 2 * (Ex.node sIf bs ps).dep ≤ 1000) (h3 : 4 * (Ex.node sIf bs ps).dep + 39 ≤ n) (hE : ExW (.node sIf bs ps)) (hR : ∀ z ∈ ([] : List Rc), RcD 20 z)
    (q : ∀ st', Lx st' A F B C [] os (ns ++ ([] : Lk).map (·.1)) → Fra [A, B, C] st st' → Q (kindO.toD, st')) : (callF P n ch [(Ex.node sIf bs ps).toD, .ref V, d, .ref A, .ref F] st).wp Q := by
  obtain ⟨m, rfl⟩ : ∃ m, n = m + 1 := ⟨n - 1, by omega⟩
  refine call_wp h rfl ?_
  rw [node_toD]
  simp only [fdLChoice, start_cons, start0, repS, rep0]
  refine skip_if ?_ ?_
  · simp (decide := true) only [seval, sv5, ↓reduceIte]
  have hS := isW_saf st hd
  refine take_if ?_ ?_
  · rcases w_kind hd with ⟨i, rfl⟩ | ⟨x, rfl⟩ | ⟨xs, rfl⟩
    · exact absurd rfl (hi i)
    · simp only [seval, sv5, isi_str hS, isi_tup hS, isStr, isTup]
    · simp only [seval, sv5, isi_str hS, isi_tup hS, isStr, isTup]
  refine ret_one ?_
  simp only [seval, sv5]
  simp only [List.map_nil, List.append_nil, List.nil_append] at q hL
  exact q _ hL Fra.refl
theorem choice_if3 {nx ch : Nat} (h : P.fns[ch]? = some (fdLChoice nx)) {a b c : Ex} {v : Env} {z : Int} {r : Rc} {L : Lk} (hN : NxS P nx (if z = 0 then c else b) v r L) (n : Nat) (st : Sto) (Q : D × Sto → Prop) (A F B C V : Nat) (os : List Oc) (ns : List (List Char)) (hL : Lx st A F B C [r] (L.map (·.2) ++ os) ns) (hV : st[V]? = some (.dct v)) (h1 : ns.length + L.length ≤ 900000) (h2 : v.length + 2 * (Ex.node sIf [] [a, b, c]).dep ≤ 1000) (h3 : 4 * (Ex.node sIf [] [a, b, c]).dep + 39 ≤ n) (hE : ExW (.node sIf [] [a, b, c])) (hR : ∀ z ∈ [r], RcD 20 z)
    (q : ∀ st', Lx st' A F B C [] os (ns ++ L.map (·.1)) → Fra [A, B, C] st st' → Q (r.o.toD, st')) : (callF P n ch [(Ex.node sIf [] [a, b, c]).toD, .ref V, .int z, .ref A, .ref F] st).wp Q := by
  obtain ⟨m, rfl⟩ : ∃ m, n = m + 1 := ⟨n - 1, by omega⟩
  have hb : b.dep + 1 ≤ (Ex.node sIf [] [a, b, c]).dep := by
    have := Ex.dep_mem (p := b) (ps := [a, b, c]) (by simp)
    rw [Ex.dep]; omega
  have hc : c.dep + 1 ≤ (Ex.node sIf [] [a, b, c]).dep := by
    have := Ex.dep_mem (p := c) (ps := [a, b, c]) (by simp)
    rw [Ex.dep]; omega
  have hEb : ExW b ∧ ExW c := by cases hE with | node _ h => exact ⟨h b (by simp), h c (by simp)⟩
  refine call_wp h rfl ?_
  rw [node_toD]
  simp only [fdLChoice, start_cons, start0, repS, rep0, List.map_nil, List.nil_append, Ex.toDs]
  refine skip_if ?_ ?_
  · simp (decide := true) only [seval, sv5, ↓reduceIte]
  refine skip_if ?_ ?_
  · simp only [seval, sv5, isi_str (d := D.int z) (st := st) trivial, isi_tup (d := D.int z) (st := st) trivial, isStr, isTup]
  refine ret_one ?_
  simp only [seval, sv5]
  by_cases hz : z = 0
  · rw [if_pos hz] at hN ⊢
    rw [show atF [D.str sIf, a.toD, b.toD, c.toD] (2 + 1) = some c.toD from rfl]
    simp only [seval, sv5]
    exact hN m _ _ A F B C V [] os ns hL hV h1 (by omega) (by omega) hEb.2 (hR r (by simp)) q
  · rw [if_neg hz] at hN ⊢
    rw [show atF [D.str sIf, a.toD, b.toD, c.toD] (2 + 0) = some b.toD from rfl]
    simp only [seval, sv5]
    exact hN m _ _ A F B C V [] os ns hL hV h1 (by omega) (by omega) hEb.1 (hR r (by simp)) q
theorem items_inr {d : D} {xs : List D} (h : itemsO d = .inr xs) : d = .tup xs ∧ xs.length ≤ 10 := by
  unfold itemsO at h
  split at h
  · split at h
    · cases h
    · rename_i hl
      cases h
      exact ⟨rfl, by omega⟩
  · cases h
theorem items_inl {d : D} {o : Oc} (h : itemsO d = .inl o) : (o = kindO ∧ ∀ xs, d ≠ .tup xs) ∨ (o = greatO ∧ ∃ xs, d = .tup xs ∧ xs.length > 10) := by
  unfold itemsO at h
  split at h
  · split at h
    · rename_i xs hl
      cases h
      exact .inr ⟨rfl, xs, rfl, hl⟩
    · cases h
  · rename_i hx
    cases h
    exact .inl ⟨rfl, fun xs e => hx xs e⟩
/-- rounds -/
inductive EI (N : D → Rc → Lk → Prop) : List D → List D → List Rc → Oc → Lk → Prop where
  | nil {acc : List D} : EI N [] acc [] (madeO (.tup acc)) []
  | wr {i : D} {is acc : List D} {r : Rc} {k : List Char} {d : D} {L : Lk} : N i r L → r.o = .wrong k d → EI N (i :: is) acc [r] (.wrong k d) L
  | cons {i : D} {is acc : List D} {r : Rc} {d : D} {rs : List Rc} {o : Oc} {L L' : Lk} : N i r L → r.o = .made d → EI N is (acc ++ [d]) rs o L' → EI N (i :: is) acc (r :: rs) o (L ++ L')
inductive OI (N : D → D → Rc → Lk → Prop) : List D → D → List Rc → Oc → Lk → Prop where
  | nil {a : D} : OI N [] a [] (.made a) []
  | wr {i : D} {is : List D} {a : D} {r : Rc} {k : List Char} {d : D} {L : Lk} : N i a r L → r.o = .wrong k d → OI N (i :: is) a [r] (.wrong k d) L
  | cons {i : D} {is : List D} {a : D} {r : Rc} {d : D} {rs : List Rc} {o : Oc} {L L' : Lk} : N i a r L → r.o = .made d → OI N is d rs o L' → OI N (i :: is) a (r :: rs) o (L ++ L')
theorem rounds_bad {nx mk rd : Nat} (h : P.fns[rd]? = some (fdLRounds nx mk)) {e : Ex} {d : D} {ws : List D} {o : Oc} (hd : isW d = true) (hws : ∃ ini l, d :: ws = ini ++ [l]) (hi : itemsO d = .inl o) {n : Nat} {st : Sto} {Q : D × Sto → Prop} {A F V W : Nat} (hW : st[W]? = some (.lst (d :: ws))) (q : ∀ st', Grow st st' → Q (o.toD, st')) : (callF P (n + 1) rd [e.toD, .ref V, .ref W, .ref A, .ref F] st).wp Q := by
  obtain ⟨ini, l, hws⟩ := hws
  have hln : atF (d :: ws) (-1) = some l := by rw [hws]; exact at_neg
  refine call_wp h rfl ?_
  simp only [fdLRounds, start_cons, start0, repS, rep0]
  refine stm_k fun K hK => ?_
  simp only [seval, sv5, ix_ref hW, hln]
  refine hK _ _ ?_
  clear hK K
  have hW1 := (Grow.push (o := O.lst [l])).at hW
  have g1 : Grow st (st ++ [O.lst [l]]) := Grow.push
  generalize st ++ [O.lst [l]] = st1 at hW1 g1
  have hS := isW_saf st1 hd
  rcases items_inl hi with ⟨rfl, hx⟩ | ⟨rfl, xs, rfl, hx⟩
  · refine take_if ?_ ?_
    · rcases w_kind hd with ⟨z, rfl⟩ | ⟨z, rfl⟩ | ⟨z, rfl⟩
      · simp only [seval, sv5, ix_ref hW1, at_0, isi_tup hS, isTup]
      · simp only [seval, sv5, ix_ref hW1, at_0, isi_tup hS, isTup]
      · exact absurd rfl (hx z)
    refine ret_one ?_
    simp only [seval, sv5]
    exact q _ g1
  · refine skip_if ?_ ?_
    · simp only [seval, sv5, ix_ref hW1, at_0, isi_tup hS, isTup]
    refine take_if ?_ ?_
    · simp only [seval, sv5, ix_ref hW1, at_0]
      omega
    refine ret_one ?_
    simp only [seval, sv5]
    exact q _ g1
theorem rounds_each {nx mk rd : Nat} (h : P.fns[rd]? = some (fdLRounds nx mk)) (hmk : MadeAt P mk) {x : List Char} {a b : Ex} {v : Env} {d : D} {xs : List D} {rs : List Rc} {o : Oc} {L : Lk} (hd : isW d = true) (hi : itemsO d = .inr xs) (hI : EI (fun i r L => NxS P nx b (putK v (.s x) i) r L) xs [] rs o L) (n : Nat) (st : Sto) (Q : D × Sto → Prop) (A F B C V W : Nat) (os : List Oc) (ns : List (List Char)) (hL : Lx st A F B C rs (L.map (·.2) ++ os) ns) (hV : st[V]? = some (.dct v)) (hW : st[W]? = some (.lst [d])) (h1 : ns.length + L.length ≤ 900000) (h2 : v.length + 2 * (Ex.node sEach [x] [a, b]).dep ≤ 1000) (h3 : 4 * (Ex.node sEach [x] [a, b]).dep + 39 ≤ n) (hE : ExW (Ex.node sEach [x] [a, b])) (hR : ∀ z ∈ rs, RcD 20 z)
    (q : ∀ st', Lx st' A F B C [] os (ns ++ L.map (·.1)) → Fra [A, B, C] st st' → Q (o.toD, st')) : (callF P n rd [(Ex.node sEach [x] [a, b]).toD, .ref V, .ref W, .ref A, .ref F] st).wp Q := by
  obtain ⟨m, rfl⟩ : ∃ m, n = m + 1 := ⟨n - 1, by omega⟩
  have hsz : SZ = 1000000 := rfl
  obtain ⟨rfl, hxl⟩ := items_inr hi
  have hb : b.dep + 1 ≤ (Ex.node sEach [x] [a, b]).dep := by
    have := Ex.dep_mem (p := b) (ps := [a, b]) (by simp)
    rw [Ex.dep]; omega
  have hEb : ExW b := by cases hE with | node _ h => exact h b (by simp)
  have hVn := V_nin hL hV
  have hlt := hL.lt
  refine call_wp h rfl ?_
  rw [node_toD]
  simp only [fdLRounds, start_cons, start0, repS, rep0, List.map_cons, List.map_nil, List.cons_append, List.nil_append, Ex.toDs]
  refine stm_k fun K hK => ?_
  simp only [seval, sv5, ix_ref hW]
  rw [show atF [D.tup xs] (-1) = some (D.tup xs) from rfl]
  simp only [seval, sv5]
  refine hK _ _ ?_
  clear hK K
  have hW1 := (Grow.push (o := O.lst [D.tup xs])).at hW
  have hV1 := (Grow.push (o := O.lst [D.tup xs])).at hV
  have hT : (st ++ [O.lst [D.tup xs]])[st.length]? = some (.lst (D.tup xs :: [])) := sto_top
  have g1 : Grow st (st ++ [O.lst [D.tup xs]]) := Grow.push
  have hL1 := hL.grow g1
  have hWT : W ≠ st.length := by have := lt_of hW; omega
  have hVT : V ≠ st.length := by have := lt_of hV; omega
  generalize hT0 : st.length = T at hT hlt hWT hVT
  generalize st ++ [O.lst [D.tup xs]] = st1 at hW1 hV1 hT g1 hL1
  have hTn : T ∉ [A, B, C] := by simp only [List.mem_cons, List.not_mem_nil, or_false]; omega
  have hS := isW_saf st1 hd
  refine skip_if ?_ ?_
  · simp only [seval, sv5, ix_ref hW1, at_0, isi_tup hS, isTup]
  refine skip_if ?_ ?_
  · simp only [seval, sv5, ix_ref hW1, at_0]
    simp; omega
  refine seq_wp (M := fun fr st' => ∃ (acc : List D) (e6 e7 e8 : Option D), o = madeO (.tup acc) ∧ (∀ z ∈ acc, isW z = true) ∧ acc.length ≤ 10 ∧ fr = [some (.tup [.str sEach, .str x, a.toD, b.toD]), some (.ref V), some (.ref W), some (.ref A), some (.ref F), some (.ref T), e6, e7, e8] ∧ st'[T]? = some (.lst (.tup xs :: acc)) ∧ Lx st' A F B C [] os (ns ++ L.map (·.1)) ∧ Fra [A, B, C] st st') ?_ ?_
  · simp only [seval, sv5, ix_ref hW1, at_0]
    refine for_wp (I := fun dd fr st' => ∃ (acc : List D) (rs' : List Rc) (L' : Lk) (ns' : List (List Char)) (e6 e7 e8 : Option D), EI (fun i r L => NxS P nx b (putK v (.s x) i) r L) dd acc rs' o L' ∧ (∀ r ∈ rs', RcD 20 r) ∧ (∀ z ∈ acc, isW z = true) ∧ acc.length + dd.length ≤ 10 ∧ fr = [some (.tup [.str sEach, .str x, a.toD, b.toD]), some (.ref V), some (.ref W), some (.ref A), some (.ref F), some (.ref T), e6, e7, e8] ∧ Lx st' A F B C rs' (L'.map (·.2) ++ os) ns' ∧ ns' ++ L'.map (·.1) = ns ++ L.map (·.1) ∧ ns'.length + L'.length ≤ 900000 ∧ st'[T]? = some (.lst (.tup xs :: acc)) ∧ T < st'.length ∧ Fra [A, B, C] st st') (fun _ _ _ _ => rfl) ?_ ?_ _ _ _ ⟨[], rs, L, ns, none, none, none, hI, hR, by simp, by simpa using hxl, rfl, hL1, rfl, h1, hT, lt_of hT, g1.fra⟩
    · rintro d dd fr st3 ⟨acc, rs', L', ns', e6, e7, e8, hF3, hR3, hacc, hal, rfl, hL3, hns, hnl, hT3, hTl3, k3⟩
      have hV3 := k3.at hV hVn
      have hpl := putK_le v (.s x) d
      rw [List.length_cons] at hal
      simp only [tg_v, List.set_cons_succ, List.set_cons_zero]
      refine stm_k fun K hK => ?_
      simp only [seval, sv5, dict_ref hV3]
      refine hK _ _ ?_
      clear hK K
      refine stm_k fun K hK => ?_
      simp only [seval, sv5, setix_dct sto_top (by omega : v.length < SZ), set_top]
      refine hK _ _ ?_
      clear hK K
      refine skip_if ?_ ?_
      · simp (decide := true) only [seval, sv5, ↓reduceIte]
      have hT4 := (Grow.push (o := O.dct (putK v (.s x) d))).at hT3
      have hL4 := hL3.grow (Grow.push (o := O.dct (putK v (.s x) d)))
      have k4 : Fra [A, B, C] st (st3 ++ [O.dct (putK v (.s x) d)]) := k3.trans Fra.push
      have hD4 : (st3 ++ [O.dct (putK v (.s x) d)])[st3.length]? = some (.dct (putK v (.s x) d)) := sto_top
      generalize st3 ++ [O.dct (putK v (.s x) d)] = st4 at hT4 hL4 k4 hD4
      generalize st3.length = D4 at hD4
      refine stm_k fun K hK => ?_
      simp only [seval, sv5]
      rw [show atF [D.str sEach, D.str x, a.toD, b.toD] (-1) = some b.toD from rfl]
      simp only [seval, sv5]
      cases hF3 with
      | @wr _ is acc r kk dw L' hN hr =>
        refine hN m st4 _ A F B C D4 [] os ns' hL4 hD4 hnl (by omega) (by omega) hEb (hR3 r List.mem_cons_self) fun st5 hL5 k5 => ?_
        refine hK _ _ ?_
        clear hK K
        rw [hns] at hL5
        rw [rc_wrong hr]
        refine take_if ?_ ?_
        · simp (decide := true) only [seval, sv5, ↓reduceIte]
        refine ret_one ?_
        simp only [seval, sv5, id]
        exact q _ hL5 (k4.trans k5)
      | @cons _ is acc r dm rs o2 L1 L2 hN hr hF4 =>
        rw [List.map_append, List.append_assoc] at hL4
        rw [List.map_append, ← List.append_assoc] at hns
        rw [List.length_append] at hnl
        refine hN m st4 _ A F B C D4 rs (L2.map (·.2) ++ os) ns' hL4 hD4 (by omega) (by omega) (by omega) hEb (hR3 r List.mem_cons_self) fun st5 hL5 k5 => ?_
        refine hK _ _ ?_
        clear hK K
        have hdm : isW dm = true := made_w (hR3 r List.mem_cons_self).oc hr
        rw [rc_made hr]
        refine skip_if ?_ ?_
        · simp (decide := true) only [seval, sv5, ↓reduceIte]
        have hT5 := k5.at hT4 hTn
        refine stm_k fun K hK => ?_
        simp only [seval, sv5, kd_ref hT5, ap_ref hT5, List.length_cons]
        refine ⟨by omega, hK _ _ ?_⟩
        clear hK K
        rw [s_nil_w]
        refine ⟨acc ++ [dm], rs, L2, ns' ++ L1.map (·.1), _, _, _, hF4, fun z hz => hR3 z (List.mem_cons_of_mem _ hz), ?_, by rw [List.length_append]; simp only [List.length_cons, List.length_nil]; omega, rfl, hL5.other (by omega) (by omega) (by omega) (by omega), hns, by rw [List.length_append, List.length_map]; omega, sto_set hT5, by rw [List.length_set]; exact lt_of hT5, (k4.trans k5).new (by omega)⟩
        intro z hz
        rcases List.mem_append.mp hz with h | h
        · exact hacc z h
        · rw [List.mem_singleton.mp h]; exact hdm
    · rintro fr st3 ⟨acc, rs', L', ns', e6, e7, e8, hF3, hR3, hacc, hal, rfl, hL3, hns, hnl, hT3, hTl3, k3⟩
      cases hF3 with
      | nil =>
        rw [List.map_nil, List.append_nil] at hns
        rw [← hns]
        exact ⟨acc, e6, e7, e8, rfl, hacc, by simpa using hal, rfl, hT3, hL3, k3⟩
  rintro fr st3 ⟨acc, e6, e7, e8, rfl, hacc, hal, rfl, hT3, hL3, k3⟩
  refine skip_if ?_ ?_
  · simp (decide := true) only [seval, sv5, ↓reduceIte]
  refine ret_one ?_
  have hct : cutF (D.tup xs :: acc) (some 1) none = acc := by
    have := cut_prt (D.tup xs) acc 0
    simpa using this
  simp only [seval, sv5]
  rw [sl_refN hT3, hct]
  simp only [seval, sv5]
  rw [tuple_ref sto_top]
  simp only [seval, sv5]
  have hsaf : ∀ s : Sto, Saf s (.tup acc) := fun s => by
    rw [Saf]
    exact safs_of fun z hz => raw_saf s z (isW_raw (hacc z hz))
  have hdep : depD (.tup acc) ≤ 13 := by
    rw [depD]
    have : depDs acc ≤ 12 := depDs_le fun z hz => isW_dep (hacc z hz)
    omega
  refine hmk.spec (hsaf _) (by omega) ?_
  rw [← madeO_toD]
  exact q _ (hL3.grow Grow.push) (k3.trans Fra.push)
theorem rounds_over {nx mk rd : Nat} (h : P.fns[rd]? = some (fdLRounds nx mk)) {x y : List Char} {a c b : Ex} {v : Env} {d d' : D} {xs : List D} {rs : List Rc} {o : Oc} {L : Lk} (hd : isW d = true) (hd' : isW d' = true) (hi : itemsO d = .inr xs) (hI : OI (fun i k r L => NxS P nx b (putK (putK v (.s x) i) (.s y) k) r L) xs d' rs o L) (n : Nat) (st : Sto) (Q : D × Sto → Prop) (A F B C V W : Nat) (os : List Oc) (ns : List (List Char)) (hL : Lx st A F B C rs (L.map (·.2) ++ os) ns) (hV : st[V]? = some (.dct v)) (hW : st[W]? = some (.lst [d, d'])) (h1 : ns.length + L.length ≤ 900000) (h2 : v.length + 2 * (Ex.node sOver [x, y] [a, c, b]).dep ≤ 1000) (h3 : 4 * (Ex.node sOver [x, y] [a, c, b]).dep + 39 ≤ n) (hE : ExW (Ex.node sOver [x, y] [a, c, b])) (hR : ∀ z ∈ rs, RcD 20 z)
    (q : ∀ st', Lx st' A F B C [] os (ns ++ L.map (·.1)) → Fra [A, B, C] st st' → Q (o.toD, st')) : (callF P n rd [(Ex.node sOver [x, y] [a, c, b]).toD, .ref V, .ref W, .ref A, .ref F] st).wp Q := by
  obtain ⟨m, rfl⟩ : ∃ m, n = m + 1 := ⟨n - 1, by omega⟩
  have hsz : SZ = 1000000 := rfl
  obtain ⟨rfl, hxl⟩ := items_inr hi
  have hb : b.dep + 1 ≤ (Ex.node sOver [x, y] [a, c, b]).dep := by
    have := Ex.dep_mem (p := b) (ps := [a, c, b]) (by simp)
    rw [Ex.dep]; omega
  have hEb : ExW b := by cases hE with | node _ h => exact h b (by simp)
  have hVn := V_nin hL hV
  have hlt := hL.lt
  refine call_wp h rfl ?_
  rw [node_toD]
  simp only [fdLRounds, start_cons, start0, repS, rep0, List.map_cons, List.map_nil, List.cons_append, List.nil_append, Ex.toDs]
  refine stm_k fun K hK => ?_
  simp only [seval, sv5, ix_ref hW]
  rw [show atF [D.tup xs, d'] (-1) = some d' from rfl]
  simp only [seval, sv5]
  refine hK _ _ ?_
  clear hK K
  have hW1 := (Grow.push (o := O.lst [d'])).at hW
  have hV1 := (Grow.push (o := O.lst [d'])).at hV
  have hT : (st ++ [O.lst [d']])[st.length]? = some (.lst ([] ++ [d'])) := sto_top
  have g1 : Grow st (st ++ [O.lst [d']]) := Grow.push
  have hL1 := hL.grow g1
  have hWT : W ≠ st.length := by have := lt_of hW; omega
  have hVT : V ≠ st.length := by have := lt_of hV; omega
  generalize hT0 : st.length = T at hT hlt hWT hVT
  generalize st ++ [O.lst [d']] = st1 at hW1 hV1 hT g1 hL1
  have hTn : T ∉ [A, B, C] := by simp only [List.mem_cons, List.not_mem_nil, or_false]; omega
  have hS := isW_saf st1 hd
  refine skip_if ?_ ?_
  · simp only [seval, sv5, ix_ref hW1, at_0, isi_tup hS, isTup]
  refine skip_if ?_ ?_
  · simp only [seval, sv5, ix_ref hW1, at_0]
    simp; omega
  refine seq_wp (M := fun fr st' => ∃ (ini : List D) (a0 : D) (e6 e7 e8 : Option D), o = .made a0 ∧ fr = [some (.tup [.str sOver, .str x, .str y, a.toD, c.toD, b.toD]), some (.ref V), some (.ref W), some (.ref A), some (.ref F), some (.ref T), e6, e7, e8] ∧ st'[T]? = some (.lst (ini ++ [a0])) ∧ Lx st' A F B C [] os (ns ++ L.map (·.1)) ∧ Fra [A, B, C] st st') ?_ ?_
  · simp only [seval, sv5, ix_ref hW1, at_0]
    refine for_wp (I := fun dd fr st' => ∃ (ini : List D) (a0 : D) (rs' : List Rc) (L' : Lk) (ns' : List (List Char)) (e6 e7 e8 : Option D), OI (fun i k r L => NxS P nx b (putK (putK v (.s x) i) (.s y) k) r L) dd a0 rs' o L' ∧ (∀ r ∈ rs', RcD 20 r) ∧ ini.length + dd.length ≤ 10 ∧ fr = [some (.tup [.str sOver, .str x, .str y, a.toD, c.toD, b.toD]), some (.ref V), some (.ref W), some (.ref A), some (.ref F), some (.ref T), e6, e7, e8] ∧ Lx st' A F B C rs' (L'.map (·.2) ++ os) ns' ∧ ns' ++ L'.map (·.1) = ns ++ L.map (·.1) ∧ ns'.length + L'.length ≤ 900000 ∧ st'[T]? = some (.lst (ini ++ [a0])) ∧ T < st'.length ∧ Fra [A, B, C] st st') (fun _ _ _ _ => rfl) ?_ ?_ _ _ _ ⟨[], d', rs, L, ns, none, none, none, hI, hR, by simpa using hxl, rfl, hL1, rfl, h1, hT, lt_of hT, g1.fra⟩
    · rintro d dd fr st3 ⟨ini, a0, rs', L', ns', e6, e7, e8, hF3, hR3, hal, rfl, hL3, hns, hnl, hT3, hTl3, k3⟩
      have hV3 := k3.at hV hVn
      have hpl := putK_le v (.s x) d
      have hpl2 := putK_le (putK v (.s x) d) (.s y) a0
      rw [List.length_cons] at hal
      simp only [tg_v, List.set_cons_succ, List.set_cons_zero]
      refine stm_k fun K hK => ?_
      simp only [seval, sv5, dict_ref hV3]
      refine hK _ _ ?_
      clear hK K
      refine stm_k fun K hK => ?_
      simp only [seval, sv5, setix_dct sto_top (by omega : v.length < SZ), set_top]
      refine hK _ _ ?_
      clear hK K
      refine take_if ?_ ?_
      · simp (decide := true) only [seval, sv5, ↓reduceIte]
      refine stm_k fun K hK => ?_
      have hT3' := (Grow.push (o := O.dct (putK v (.s x) d))).at hT3
      simp only [seval, sv5, ix_ref hT3', at_neg]
      rw [setix_dct sto_top (by omega : (putK v (.s x) d).length < SZ), set_top]
      simp only [seval, sv5]
      refine hK _ _ ?_
      clear hK K
      rw [s_nil_w]
      have hT4 := (Grow.push (o := O.dct (putK (putK v (.s x) d) (.s y) a0))).at hT3
      have hL4 := hL3.grow (Grow.push (o := O.dct (putK (putK v (.s x) d) (.s y) a0)))
      have k4 : Fra [A, B, C] st (st3 ++ [O.dct (putK (putK v (.s x) d) (.s y) a0)]) := k3.trans Fra.push
      have hD4 : (st3 ++ [O.dct (putK (putK v (.s x) d) (.s y) a0)])[st3.length]? = some (.dct (putK (putK v (.s x) d) (.s y) a0)) := sto_top
      generalize st3 ++ [O.dct (putK (putK v (.s x) d) (.s y) a0)] = st4 at hT4 hL4 k4 hD4
      generalize st3.length = D4 at hD4
      refine stm_k fun K hK => ?_
      simp only [seval, sv5]
      rw [show atF [D.str sOver, D.str x, D.str y, a.toD, c.toD, b.toD] (-1) = some b.toD from rfl]
      simp only [seval, sv5]
      cases hF3 with
      | @wr _ is _ r kk dw L' hN hr =>
        refine hN m st4 _ A F B C D4 [] os ns' hL4 hD4 hnl (by omega) (by omega) hEb (hR3 r List.mem_cons_self) fun st5 hL5 k5 => ?_
        refine hK _ _ ?_
        clear hK K
        rw [hns] at hL5
        rw [rc_wrong hr]
        refine take_if ?_ ?_
        · simp (decide := true) only [seval, sv5, ↓reduceIte]
        refine ret_one ?_
        simp only [seval, sv5, id]
        exact q _ hL5 (k4.trans k5)
      | @cons _ is _ r dm rs o2 L1 L2 hN hr hF4 =>
        rw [List.map_append, List.append_assoc] at hL4
        rw [List.map_append, ← List.append_assoc] at hns
        rw [List.length_append] at hnl
        refine hN m st4 _ A F B C D4 rs (L2.map (·.2) ++ os) ns' hL4 hD4 (by omega) (by omega) (by omega) hEb (hR3 r List.mem_cons_self) fun st5 hL5 k5 => ?_
        refine hK _ _ ?_
        clear hK K
        have hdm : isW dm = true := made_w (hR3 r List.mem_cons_self).oc hr
        rw [rc_made hr]
        refine skip_if ?_ ?_
        · simp (decide := true) only [seval, sv5, ↓reduceIte]
        have hT5 := k5.at hT4 hTn
        refine stm_k fun K hK => ?_
        simp only [seval, sv5, kd_ref hT5, ap_ref hT5, List.length_append, List.length_singleton]
        refine ⟨by omega, hK _ _ ?_⟩
        clear hK K
        rw [s_nil_w]
        refine ⟨ini ++ [a0], dm, rs, L2, ns' ++ L1.map (·.1), _, _, _, hF4, fun z hz => hR3 z (List.mem_cons_of_mem _ hz), by rw [List.length_append]; simp only [List.length_cons, List.length_nil]; omega, rfl, hL5.other (by omega) (by omega) (by omega) (by omega), hns, by rw [List.length_append, List.length_map]; omega, sto_set hT5, by rw [List.length_set]; exact lt_of hT5, (k4.trans k5).new (by omega)⟩
    · rintro fr st3 ⟨ini, a0, rs', L', ns', e6, e7, e8, hF3, hR3, hal, rfl, hL3, hns, hnl, hT3, hTl3, k3⟩
      cases hF3 with
      | nil =>
        rw [List.map_nil, List.append_nil] at hns
        rw [← hns]
        exact ⟨ini, a0, e6, e7, e8, rfl, rfl, hT3, hL3, k3⟩
  rintro fr st3 ⟨ini, a0, e6, e7, e8, rfl, rfl, hT3, hL3, k3⟩
  refine take_if ?_ ?_
  · simp (decide := true) only [seval, sv5, ↓reduceIte]
  refine ret_one ?_
  simp only [seval, sv5, ix_ref hT3, at_neg]
  exact q _ hL3 k3
theorem ob_lit {nx ch rd rk : Nat} (h : P.fns[i]? = some (fdLOutcomeBy nx ch rd rk)) {w : D} {v : Env} : ObS P i (.lit w) v (.mk (.made w) []) [] := by
  intro n st Q A F B C V os ns hL hV h1 h2 h3 hE hR q
  obtain ⟨m, rfl⟩ : ∃ m, n = m + 1 := ⟨n - 1, by omega⟩
  refine call_wp h rfl ?_
  rw [Ex.toD]
  simp only [fdLOutcomeBy, start_cons, start0, repS, rep0]
  refine stm_k fun K hK => ?_
  simp only [seval, sv5]
  refine hK _ _ ?_
  clear hK K
  refine take_if ?_ ?_
  · simp (decide := true) only [seval, sv5, ↓reduceIte]
  refine ret_one ?_
  simp only [seval, sv5]
  simp only [List.map_nil, List.append_nil, List.nil_append] at q hL
  exact q _ hL Fra.refl
theorem ob_var {nx ch rd rk : Nat} (h : P.fns[i]? = some (fdLOutcomeBy nx ch rd rk)) {x : List Char} {v : Env} {d : D} (hx : getK v (.s x) = some d) : ObS P i (.var x) v (.mk (.made d) []) [] := by
  intro n st Q A F B C V os ns hL hV h1 h2 h3 hE hR q
  obtain ⟨m, rfl⟩ : ∃ m, n = m + 1 := ⟨n - 1, by omega⟩
  refine call_wp h rfl ?_
  rw [Ex.toD]
  simp only [fdLOutcomeBy, start_cons, start0, repS, rep0]
  refine stm_k fun K hK => ?_
  simp only [seval, sv5]
  refine hK _ _ ?_
  clear hK K
  refine skip_if ?_ ?_
  · simp (decide := true) only [seval, sv5, ↓reduceIte]
  refine take_if ?_ ?_
  · simp (decide := true) only [seval, sv5, ↓reduceIte]
  refine ret_one ?_
  simp only [seval, sv5, ix_dct hV, hx]
  simp only [List.map_nil, List.append_nil, List.nil_append] at q hL
  exact q _ hL Fra.refl
theorem ob_els1 {nx ch rd rk : Nat} (h : P.fns[i]? = some (fdLOutcomeBy nx ch rd rk)) {a b : Ex} {v : Env} {r : Rc} {d : D} {L : Lk} (hN : NxS P nx a v r L) (hr : r.o = .made d) : ObS P i (.node sElse [] [a, b]) v (.mk (.made d) [r]) L := by
  intro n st Q A F B C V os ns hL hV h1 h2 h3 hE hR q
  obtain ⟨m, rfl⟩ : ∃ m, n = m + 1 := ⟨n - 1, by omega⟩
  have ha : a.dep + 1 ≤ (Ex.node sElse [] [a, b]).dep := by
    have := Ex.dep_mem (p := a) (ps := [a, b]) (by simp)
    rw [Ex.dep]; omega
  have hEa : ExW a := by cases hE with | node _ h => exact h a (by simp)
  refine call_wp h rfl ?_
  rw [node_toD]
  simp only [fdLOutcomeBy, start_cons, start0, repS, rep0, List.map_nil, List.nil_append, Ex.toDs]
  refine stm_k fun K hK => ?_
  simp only [seval, sv5]
  refine hK _ _ ?_
  clear hK K
  refine skip_if ?_ ?_
  · simp (decide := true) only [seval, sv5, ↓reduceIte]
  refine skip_if ?_ ?_
  · simp (decide := true) only [seval, sv5, ↓reduceIte]
  refine take_if ?_ ?_
  · simp (decide := true) only [seval, sv5, ↓reduceIte]
  refine stm_k fun K hK => ?_
  simp only [seval, sv5]
  refine hN m st _ A F B C V [] os ns hL hV h1 (by omega) (by omega) hEa ((hR.2.2 r (by simp)).mono (by decide)) fun st1 hL1 k1 => ?_
  refine hK _ _ ?_
  clear hK K
  rw [rc_made hr]
  refine skip_if ?_ ?_
  · simp (decide := true) only [seval, sv5, ↓reduceIte]
  refine ret_one ?_
  simp only [seval, sv5]
  exact q _ hL1 k1
theorem ob_els2 {nx ch rd rk : Nat} (h : P.fns[i]? = some (fdLOutcomeBy nx ch rd rk)) {a b : Ex} {v : Env} {r r' : Rc} {k : List Char} {d : D} {L L' : Lk} (hN : NxS P nx a v r L) (hr : r.o = .wrong k d) (hN2 : NxS P nx b v r' L') : ObS P i (.node sElse [] [a, b]) v (.mk r'.o [r, r']) (L ++ L') := by
  intro n st Q A F B C V os ns hL hV h1 h2 h3 hE hR q
  obtain ⟨m, rfl⟩ : ∃ m, n = m + 1 := ⟨n - 1, by omega⟩
  have ha : a.dep + 1 ≤ (Ex.node sElse [] [a, b]).dep := by
    have := Ex.dep_mem (p := a) (ps := [a, b]) (by simp)
    rw [Ex.dep]; omega
  have hb : b.dep + 1 ≤ (Ex.node sElse [] [a, b]).dep := by
    have := Ex.dep_mem (p := b) (ps := [a, b]) (by simp)
    rw [Ex.dep]; omega
  have hEa : ExW a ∧ ExW b := by cases hE with | node _ h => exact ⟨h a (by simp), h b (by simp)⟩
  rw [List.map_append, List.append_assoc] at hL
  rw [List.length_append] at h1
  have hVn := V_nin hL hV
  refine call_wp h rfl ?_
  rw [node_toD]
  simp only [fdLOutcomeBy, start_cons, start0, repS, rep0, List.map_nil, List.nil_append, Ex.toDs]
  refine stm_k fun K hK => ?_
  simp only [seval, sv5]
  refine hK _ _ ?_
  clear hK K
  refine skip_if ?_ ?_
  · simp (decide := true) only [seval, sv5, ↓reduceIte]
  refine skip_if ?_ ?_
  · simp (decide := true) only [seval, sv5, ↓reduceIte]
  refine take_if ?_ ?_
  · simp (decide := true) only [seval, sv5, ↓reduceIte]
  refine stm_k fun K hK => ?_
  simp only [seval, sv5]
  refine hN m st _ A F B C V [r'] (L'.map (·.2) ++ os) ns hL hV (by omega) (by omega) (by omega) hEa.1 ((hR.2.2 r (by simp)).mono (by decide)) fun st1 hL1 k1 => ?_
  refine hK _ _ ?_
  clear hK K
  rw [rc_wrong hr]
  refine take_if ?_ ?_
  · simp (decide := true) only [seval, sv5, ↓reduceIte]
  refine ret_step ?_
  simp only [seval, sv5]
  refine hN2 m st1 _ A F B C V [] os (ns ++ L.map (·.1)) hL1 (k1.at hV hVn) (by rw [List.length_append, List.length_map]; omega) (by omega) (by omega) hEa.2 ((hR.2.2 r' (by simp)).mono (by decide)) fun st2 hL2 k2 => ?_
  rw [List.append_assoc, ← List.map_append] at hL2
  exact q _ hL2 (k1.trans k2)
theorem tl_rounds {ch rd rk : Nat} {w : List Char} {bs : List (List Char)} {ps : List Ex} {v : Env} {ws : List D} {o : Oc} {rest : List Rc} {L : Lk} (hw : w = sEach ∨ w = sOver)
    (hc : ∀ (n : Nat) (st : Sto) (Q : D × Sto → Prop) (A F B C V W : Nat) (os : List Oc) (ns : List (List Char)), Lx st A F B C rest (L.map (·.2) ++ os) ns → st[V]? = some (.dct v) → st[W]? = some (.lst ws) → ns.length + L.length ≤ 900000 → v.length + 2 * (Ex.node w bs ps).dep ≤ 1000 → 4 * (Ex.node w bs ps).dep + 39 ≤ n → ExW (.node w bs ps) → (∀ r ∈ rest, RcD 20 r) → (∀ st', Lx st' A F B C [] os (ns ++ L.map (·.1)) → Fra [A, B, C] st st' → Q (o.toD, st')) → (callF P n rd [(Ex.node w bs ps).toD, .ref V, .ref W, .ref A, .ref F] st).wp Q) : TlS P ch rd rk (.node w bs ps) w v ws o rest L := by
  intro n st Q A F B C V W os ns e5 e6 e8 hL hV hW hWn h1 h2 h3 hE hR q
  simp only [obTail]
  refine skip_if ?_ ?_
  · rcases hw with rfl | rfl <;> simp (decide := true) only [seval, sv5, ↓reduceIte]
  refine take_if ?_ ?_
  · rcases hw with rfl | rfl <;> simp (decide := true) only [seval, sv5, ↓reduceIte]
  refine ret_one ?_
  simp only [seval, sv5]
  exact hc n st _ A F B C V W os ns hL hV hW h1 h2 (by omega) hE hR fun st' hL' k => q _ hL' (k.mono (by simp only [List.mem_cons, List.not_mem_nil, or_false]; intro n hn; omega))
end
/-- where the law's own going stands -/
structure NxP (P : Prog) where
  nx : Nat
  du : Nat
  sm : Nat
  ob : Nat
  ch : Nat
  rd : Nat
  md : Nat
  rk : Nat
  hnx : P.fns[nx]? = some (fdLNext du sm)
  hdu : P.fns[du]? = some (fdLDue ob)
  hsm : P.fns[sm]? = some (fdSame sm)
  hob : P.fns[ob]? = some (fdLOutcomeBy nx ch rd rk)
  hch : P.fns[ch]? = some (fdLChoice nx)
  hrd : P.fns[rd]? = some (fdLRounds nx md)
  hmk : MadeAt P md
  hrk : ReckAt P rk
section
variable {P : Prog}
theorem NxP.next (Y : NxP P) {e : Ex} {v : Env} {r : Rc} {L : Lk} (h : ObS P Y.ob e v r L) : NxS P Y.nx e v r L := next_spec Y.hnx Y.hdu Y.hsm h
theorem RcD.sub {o : Oc} {rs : List Rc} (h : RcD 20 (.mk o rs)) : ∀ r ∈ rs, RcD 20 r := fun r hr => (h.2.2 r hr).mono (by decide)
theorem FI_arg {N : Ex → Rc → Lk → Prop} : ∀ {ps : List Ex} {acc : List D} {rs : List Rc} {L : Lk} {res : Oc ⊕ List D}, FI N ps acc rs L res → (∀ r ∈ rs, RcD 20 r) → (∀ d ∈ acc, isW d = true) → ∀ ws, res = .inr ws → (∀ d ∈ ws, isW d = true) ∧ ws.length = acc.length + ps.length
  | _, _, _, _, _, .nil, _, ha, ws, e => by cases e; exact ⟨ha, by simp⟩
  | _, _, _, _, _, .wr _ _, _, _, ws, e => by cases e
  | _, _, _, _, _, .cons h hr hf, hR, ha, ws, e => by
    obtain ⟨h1, h2⟩ := FI_arg hf (fun r hr => hR r (List.mem_cons_of_mem _ hr)) (fun d hd => by
      rcases List.mem_append.mp hd with h | h
      · exact ha d h
      · rw [List.mem_singleton.mp h]; exact made_w (hR _ List.mem_cons_self).oc hr) ws e
    exact ⟨h1, by rw [h2, List.length_append, List.length_cons]; simp only [List.length_cons, List.length_nil]; omega⟩
theorem firsts1 {w : List Char} {a : Ex} {ps : List Ex} (hw : w ∈ [sLet, sIf, sEach, sLook, sCry]) : firsts w (a :: ps) = [a] := by rw [firsts, if_pos hw]; rfl
theorem firsts2 {a b : Ex} {ps : List Ex} : firsts sOver (a :: b :: ps) = [a, b] := by rw [firsts, if_neg (by decide), if_pos rfl]; rfl
theorem ob_w1 (Y : NxP P) {w : List Char} {bs : List (List Char)} {a : Ex} {ps : List Ex} {v : Env} {r : Rc} {k : List Char} {d : D} {L : Lk} (hw : w ∈ [sLet, sIf, sEach, sLook, sCry]) (hN : NxS P Y.nx a v r L) (hr : r.o = .wrong k d) : ObS P Y.ob (.node w bs (a :: ps)) v (.mk (.wrong k d) [r]) L :=
  ob_wr Y.hob (fun e => by rw [e] at hw; revert hw; decide) (by rw [firsts1 hw]; exact .wr hN hr)
theorem ob_m1 (Y : NxP P) {w : List Char} {bs : List (List Char)} {a : Ex} {ps : List Ex} {v : Env} {r : Rc} {d : D} {L L2 : Lk} {rest : List Rc} {o : Oc} (hw : w ∈ [sLet, sIf, sEach, sLook, sCry]) (hN : NxS P Y.nx a v r L) (hr : r.o = .made d) (ht : TlS P Y.ch Y.rd Y.rk (.node w bs (a :: ps)) w v [d] o rest L2) : ObS P Y.ob (.node w bs (a :: ps)) v (.mk o (r :: rest)) (L ++ L2) :=
  ob_of Y.hob (rs1 := [r]) (fun e => by rw [e] at hw; revert hw; decide) (by rw [firsts1 hw]; exact .one_made hN hr) ht
theorem ob_m1' (Y : NxP P) {w : List Char} {bs : List (List Char)} {a : Ex} {ps : List Ex} {v : Env} {r : Rc} {d : D} {L : Lk} {rest : List Rc} {o : Oc} (hw : w ∈ [sLet, sIf, sEach, sLook, sCry]) (hN : NxS P Y.nx a v r L) (hr : r.o = .made d) (ht : TlS P Y.ch Y.rd Y.rk (.node w bs (a :: ps)) w v [d] o rest []) : ObS P Y.ob (.node w bs (a :: ps)) v (.mk o (r :: rest)) L := by
  have := ob_m1 Y hw hN hr ht
  rwa [List.append_nil] at this
theorem ob_m2 (Y : NxP P) {x y : List Char} {a c b : Ex} {v : Env} {r r' : Rc} {d d' : D} {L L' L2 : Lk} {rest : List Rc} {o : Oc} (hN : NxS P Y.nx a v r L) (hr : r.o = .made d) (hN' : NxS P Y.nx c v r' L') (hr' : r'.o = .made d') (ht : TlS P Y.ch Y.rd Y.rk (.node sOver [x, y] [a, c, b]) sOver v [d, d'] o rest L2) : ObS P Y.ob (.node sOver [x, y] [a, c, b]) v (.mk o (r :: r' :: rest)) (L ++ (L' ++ L2)) := by
  rw [← List.append_assoc]
  exact ob_of Y.hob (rs1 := [r, r']) (by decide) (by rw [firsts2]; exact .two_made hN hr hN' hr') ht
mutual
theorem RR.ob (Y : NxP P) : ∀ {e : Ex} {v : Env} {r : Rc} {L : Lk}, RR e v r L → ExW e → RcD 20 r → ObS P Y.ob e v r L
  | _, _, _, _, .lit, _, _ => ob_lit Y.hob
  | _, _, _, _, .var hx, _, _ => ob_var Y.hob hx
  | _, _, _, _, .let1 h h1, .node hf hE, hR => ob_w1 Y (by decide) (Y.next (h.ob Y (hE _ (by simp)) (hR.sub _ (by simp)))) h1
  | _, _, _, _, .let2 h h1 h2, .node hf hE, hR => ob_m1 Y (by decide) (Y.next (h.ob Y (hE _ (by simp)) (hR.sub _ (by simp)))) h1 (tl_choice (.inl rfl) (choice_let Y.hch (Y.next (h2.ob Y (hE _ (by simp)) (hR.sub _ (by simp))))))
  | _, _, _, _, .if1 h h1, .node hf hE, hR => ob_w1 Y (by decide) (Y.next (h.ob Y (hE _ (by simp)) (hR.sub _ (by simp)))) h1
  | _, _, _, _, .if2 h h1 h2, .node hf hE, hR => ob_m1' Y (by decide) (Y.next (h.ob Y (hE _ (by simp)) (hR.sub _ (by simp)))) h1 (tl_choice (.inr rfl) (choice_if2 (e := .lit .non) Y.hch (made_w (hR.sub _ (by simp)).oc h1) h2))
  | _, _, _, _, .if3 (i := i) h h1 h2, .node hf hE, hR => ob_m1 Y (by decide) (Y.next (h.ob Y (hE _ (by simp)) (hR.sub _ (by simp)))) h1 (tl_choice (.inr rfl) (choice_if3 Y.hch (Y.next (h2.ob Y (by split <;> exact hE _ (by simp)) (hR.sub _ (by simp))))))
  | _, _, _, _, .each1 h h1, .node hf hE, hR => ob_w1 Y (by decide) (Y.next (h.ob Y (hE _ (by simp)) (hR.sub _ (by simp)))) h1
  | _, _, _, _, .each2 h h1 h2, .node hf hE, hR => ob_m1' Y (by decide) (Y.next (h.ob Y (hE _ (by simp)) (hR.sub _ (by simp)))) h1 (tl_rounds (.inl rfl) fun n st Q A F B C V W os ns hL hV hW _ _ h3 _ _ q => by
      obtain ⟨m, rfl⟩ : ∃ m, n = m + 1 := ⟨n - 1, by omega⟩
      refine rounds_bad Y.hrd (made_w (hR.sub _ (by simp)).oc h1) ⟨[], _, rfl⟩ h2 hW fun st' g => ?_
      simp only [List.map_nil, List.append_nil, List.nil_append] at q hL
      exact q _ (hL.grow g) g.fra)
  | _, _, _, _, .each3 h h1 h2 h3, .node hf hE, hR => ob_m1 Y (by decide) (Y.next (h.ob Y (hE _ (by simp)) (hR.sub _ (by simp)))) h1 (tl_rounds (.inl rfl) (rounds_each Y.hrd Y.hmk (made_w (hR.sub _ (by simp)).oc h1) h2 (h3.ei Y (hE _ (by simp)) fun r hr => hR.sub r (List.mem_cons_of_mem _ hr))))
  | _, _, _, _, .over1 h h1, .node hf hE, hR => ob_wr Y.hob (by decide) (by rw [firsts2]; exact .wr (Y.next (h.ob Y (hE _ (by simp)) (hR.sub _ (by simp)))) h1)
  | _, _, _, _, .over2 h h1 h2 h3, .node hf hE, hR => ob_wr Y.hob (by decide) (by rw [firsts2]; exact .cons (Y.next (h.ob Y (hE _ (by simp)) (hR.sub _ (by simp)))) h1 (.wr (Y.next (h2.ob Y (hE _ (by simp)) (hR.sub _ (by simp)))) h3))
  | _, _, _, _, .over3 (x := x) (y := y) (b := b) h h1 h2 h3 h4, .node hf hE, hR => by
    have := ob_m2 Y (x := x) (y := y) (b := b) (L2 := []) (Y.next (h.ob Y (hE _ (by simp)) (hR.sub _ (by simp)))) h1 (Y.next (h2.ob Y (hE _ (by simp)) (hR.sub _ (by simp)))) h3 (tl_rounds (.inr rfl) fun n st Q A F B C V W os ns hL hV hW _ _ h3' _ _ q => by
      obtain ⟨m, rfl⟩ : ∃ m, n = m + 1 := ⟨n - 1, by omega⟩
      refine rounds_bad Y.hrd (made_w (hR.sub _ (by simp)).oc h1) ⟨[_], _, rfl⟩ h4 hW fun st' g => ?_
      simp only [List.map_nil, List.append_nil, List.nil_append] at q hL
      exact q _ (hL.grow g) g.fra)
    rwa [List.append_nil] at this
  | _, _, _, _, .over4 h h1 h2 h3 h4 h5, .node hf hE, hR => ob_m2 Y (Y.next (h.ob Y (hE _ (by simp)) (hR.sub _ (by simp)))) h1 (Y.next (h2.ob Y (hE _ (by simp)) (hR.sub _ (by simp)))) h3 (tl_rounds (.inr rfl) (rounds_over Y.hrd (made_w (hR.sub _ (by simp)).oc h1) (made_w (hR.sub _ (by simp)).oc h3) h4 (h5.oi Y (hE _ (by simp)) fun r hr => hR.sub r (List.mem_cons_of_mem _ (List.mem_cons_of_mem _ hr)))))
  | _, _, _, _, .look1 h h1, .node hf hE, hR => ob_w1 Y (by decide) (Y.next (h.ob Y (hE _ (by simp)) (hR.sub _ (by simp)))) h1
  | _, _, _, _, .look2 h h1 h2, .node hf hE, hR => ob_m1' Y (by decide) (Y.next (h.ob Y (hE _ (by simp)) (hR.sub _ (by simp)))) h1 (tl_look2 (made_w (hR.sub _ (by simp)).oc h1) h2)
  | _, _, _, _, .look3 h h1, .node hf hE, hR => ob_m1 Y (by decide) (Y.next (h.ob Y (hE _ (by simp)) (hR.sub _ (by simp)))) h1 (tl_look3 (made_w (hR.sub _ (by simp)).oc h1))
  | _, _, _, _, .els1 h h1, .node hf hE, hR => ob_els1 Y.hob (Y.next (h.ob Y (hE _ (by simp)) (hR.sub _ (by simp)))) h1
  | _, _, _, _, .els2 h h1 h2, .node hf hE, hR => ob_els2 Y.hob (Y.next (h.ob Y (hE _ (by simp)) (hR.sub _ (by simp)))) h1 (Y.next (h2.ob Y (hE _ (by simp)) (hR.sub _ (by simp))))
  | _, _, _, _, .cry1 h h1, .node hf hE, hR => ob_w1 Y (by decide) (Y.next (h.ob Y (hE _ (by simp)) (hR.sub _ (by simp)))) h1
  | _, _, _, _, .cry2 h h1, .node hf hE, hR => ob_m1' Y (by decide) (Y.next (h.ob Y (hE _ (by simp)) (hR.sub _ (by simp)))) h1 tl_cry
  | _, _, _, _, .words (w := w) (ps := ps) (rs := rs) hw h, .node hf hE, hR => by
    obtain ⟨res, hF, ho⟩ := h.fi Y hE hR.sub
    have hw' := hw
    simp only [List.mem_cons, List.not_mem_nil, or_false, not_or] at hw
    have hfs : firsts w ps = ps := by
      rw [firsts, if_neg (by simp only [List.mem_cons, List.not_mem_nil, or_false, not_or]; exact ⟨hw.2.2.1, hw.2.2.2.1, hw.2.2.2.2.1, hw.2.2.2.2.2.2.1, hw.2.2.2.2.2.2.2.2⟩), if_neg hw.2.2.2.2.2.1]
    cases res with
    | inl o =>
      rw [ho]
      exact ob_wr Y.hob hw.2.2.2.2.2.2.2.1 (by rw [hfs]; exact hF)
    | inr ws =>
      rw [ho]
      obtain ⟨a1, a2⟩ := FI_arg hF hR.sub (by simp) ws rfl
      rw [List.length_nil, Nat.zero_add] at a2
      have hs := hf.shape
      generalize hk : ps.length = kk at hs a2
      have ha : Arg w ws := by
        cases hs with
        | words _ b1 b2 b3 => exact ⟨a1, by omega, fun e => by rw [a2]; exact b2 e, fun e e2 e3 => by rw [a2]; exact b3 e e2 e3⟩
        | if0 => exact absurd rfl hw.2.2.2.1
        | look => exact absurd rfl hw.2.2.2.2.2.2.1
        | els => exact absurd rfl hw.2.2.2.2.2.2.2.1
        | cry => exact absurd rfl hw.2.2.2.2.2.2.2.2
      have := ob_of Y.hob (w := w) (bs := []) (ps := ps) hw.2.2.2.2.2.2.2.1 (by rw [hfs]; exact hF) (rest := []) (L2 := []) (tl_words (nx := Y.nx) Y.hrk hw' ha)
      rwa [List.append_nil, List.append_nil] at this
theorem EA.ei (Y : NxP P) : ∀ {x : List Char} {b : Ex} {v : Env} {is acc : List D} {rs : List Rc} {o : Oc} {L : Lk}, EA x b v is acc rs o L → ExW b → (∀ r ∈ rs, RcD 20 r) → EI (fun i r L => NxS P Y.nx b (putK v (.s x) i) r L) is acc rs o L
  | _, _, _, _, _, _, _, _, .nil, _, _ => .nil
  | _, _, _, _, _, _, _, _, .wr h h1, hE, hR => .wr (Y.next (h.ob Y hE (hR _ (by simp)))) h1
  | _, _, _, _, _, _, _, _, .cons h h1 h2, hE, hR => .cons (Y.next (h.ob Y hE (hR _ (by simp)))) h1 (h2.ei Y hE fun r hr => hR r (List.mem_cons_of_mem _ hr))
theorem OV.oi (Y : NxP P) : ∀ {x y : List Char} {b : Ex} {v : Env} {is : List D} {a : D} {rs : List Rc} {o : Oc} {L : Lk}, OV x y b v is a rs o L → ExW b → (∀ r ∈ rs, RcD 20 r) → OI (fun i k r L => NxS P Y.nx b (putK (putK v (.s x) i) (.s y) k) r L) is a rs o L
  | _, _, _, _, _, _, _, _, _, .nil, _, _ => .nil
  | _, _, _, _, _, _, _, _, _, .wr h h1, hE, hR => .wr (Y.next (h.ob Y hE (hR _ (by simp)))) h1
  | _, _, _, _, _, _, _, _, _, .cons h h1 h2, hE, hR => .cons (Y.next (h.ob Y hE (hR _ (by simp)))) h1 (h2.oi Y hE fun r hr => hR r (List.mem_cons_of_mem _ hr))
theorem WD.fi (Y : NxP P) : ∀ {w : List Char} {v : Env} {ps : List Ex} {acc : List D} {rs : List Rc} {o : Oc} {L : Lk}, WD w v ps acc rs o L → (∀ p ∈ ps, ExW p) → (∀ r ∈ rs, RcD 20 r) → ∃ res, FI (fun p r L => NxS P Y.nx p v r L) ps acc rs L res ∧ o = (match res with | .inl o => o | .inr ws => rekO w ws)
  | _, _, _, _, _, _, _, .nil, _, _ => ⟨_, .nil, rfl⟩
  | _, _, _, _, _, _, _, .wr h h1, hE, hR => ⟨_, .wr (Y.next (h.ob Y (hE _ (by simp)) (hR _ (by simp)))) h1, rfl⟩
  | _, _, _, _, _, _, _, .cons h h1 h2, hE, hR => by
    obtain ⟨res, h3, h4⟩ := h2.fi Y (fun p hp => hE p (List.mem_cons_of_mem _ hp)) fun r hr => hR r (List.mem_cons_of_mem _ hr)
    exact ⟨res, .cons (Y.next (h.ob Y (hE _ (by simp)) (hR _ (by simp)))) h1 h3, h4⟩
end
end
end MP
namespace MP
section
variable {P : Prog} {n i : Nat} {st : Sto} {Q : D × Sto → Prop}
theorem Fra.grow {st st' : Sto} (h : Fra [] st st') : Grow st st' := by
  refine ⟨st'.drop st.length, List.ext_getElem? fun n => ?_⟩
  by_cases hn : n < st.length
  · rw [List.getElem?_append_left hn]; exact h.2 n hn (by simp)
  · rw [List.getElem?_append_right (by omega), List.getElem?_drop, show st.length + (n - st.length) = n by omega]
end
end MP
set_option maxHeartbeats 400000
namespace MP
mutual
/-- at most so many looks -/
def Ex.ask : Ex → Nat
  | .lit _ => 0
  | .var _ => 0
  | .node w _ ps => (if w = sLook then 1 else 0) + Ex.asks (if repB w = true then 10 else 1) ps
/-- the last part counts so often -/
def Ex.asks (k : Nat) : List Ex → Nat
  | [] => 0
  | [p] => k * p.ask
  | p :: q :: r => p.ask + Ex.asks k (q :: r)
end
theorem asks1_mem : ∀ {ps : List Ex}, Ex.asks 1 ps = (ps.map Ex.ask).sum
  | [] => rfl
  | [p] => by rw [Ex.asks]; simp
  | p :: q :: r => by rw [Ex.asks, asks1_mem]; simp
mutual
theorem RR.len : ∀ {e : Ex} {v : Env} {r : Rc} {L : Lk}, RR e v r L → L.length ≤ e.ask
  | _, _, _, _, .lit => by simp
  | _, _, _, _, .var _ => by simp
  | _, _, _, _, .let1 h _ => by have := h.len; simp [Ex.ask, Ex.asks, repB]; omega
  | _, _, _, _, .let2 h _ h2 => by have := h.len; have := h2.len; simp [Ex.ask, Ex.asks, repB]; omega
  | _, _, _, _, .if1 h _ => by have := h.len; simp [Ex.ask, Ex.asks, repB]; omega
  | _, _, _, _, .if2 h _ _ => by have := h.len; simp [Ex.ask, Ex.asks, repB]; omega
  | _, _, _, _, .if3 (i := i) h _ h2 => by
    have := h.len; have := h2.len
    simp [Ex.ask, Ex.asks, repB]
    split at this <;> omega
  | _, _, _, _, .each1 h _ => by have := h.len; simp [Ex.ask, Ex.asks, repB]; omega
  | _, _, _, _, .each2 h _ _ => by have := h.len; simp [Ex.ask, Ex.asks, repB]; omega
  | _, _, _, _, .each3 h _ hi h2 => by
    have h3 := h.len; have h4 := h2.len
    obtain ⟨rfl, hl⟩ := items_inr hi
    have := Nat.le_trans h4 (Nat.mul_le_mul_right _ hl)
    simp [Ex.ask, Ex.asks, repB]
    omega
  | _, _, _, _, .over1 h _ => by have := h.len; simp [Ex.ask, Ex.asks, repB]; omega
  | _, _, _, _, .over2 h _ h2 _ => by have := h.len; have := h2.len; simp [Ex.ask, Ex.asks, repB]; omega
  | _, _, _, _, .over3 h _ h2 _ _ => by have := h.len; have := h2.len; simp [Ex.ask, Ex.asks, repB]; omega
  | _, _, _, _, .over4 h _ h2 _ hi h5 => by
    have h3 := h.len; have h4 := h2.len; have h6 := h5.len
    obtain ⟨rfl, hl⟩ := items_inr hi
    have := Nat.le_trans h6 (Nat.mul_le_mul_right _ hl)
    simp [Ex.ask, Ex.asks, repB]
    omega
  | _, _, _, _, .look1 h _ => by have := h.len; simp [Ex.ask, Ex.asks, repB]; omega
  | _, _, _, _, .look2 h _ _ => by have := h.len; simp [Ex.ask, Ex.asks, repB]; omega
  | _, _, _, _, .look3 h _ => by have := h.len; simp [Ex.ask, Ex.asks, repB]; omega
  | _, _, _, _, .els1 h _ => by have := h.len; simp [Ex.ask, Ex.asks, repB]; omega
  | _, _, _, _, .els2 h _ h2 => by have := h.len; have := h2.len; simp [Ex.ask, Ex.asks, repB]; omega
  | _, _, _, _, .cry1 h _ => by have := h.len; simp [Ex.ask, Ex.asks, repB]; omega
  | _, _, _, _, .cry2 h _ => by have := h.len; simp [Ex.ask, Ex.asks, repB]; omega
  | _, _, _, _, .words (w := w) (ps := ps) hw h => by
    have h1 := h.len
    simp only [List.mem_cons, List.not_mem_nil, or_false, not_or] at hw
    have hr : repB w = false := by
      unfold repB
      simp [hw.2.2.2.2.1, hw.2.2.2.2.2.1]
    rw [Ex.ask, hr, if_neg hw.2.2.2.2.2.2.1, if_neg (by decide : ¬ (false = true)), asks1_mem]
    omega
theorem EA.len : ∀ {x : List Char} {b : Ex} {v : Env} {is acc : List D} {rs : List Rc} {o : Oc} {L : Lk}, EA x b v is acc rs o L → L.length ≤ is.length * b.ask
  | _, _, _, _, _, _, _, _, .nil => by simp
  | _, _, _, _, _, _, _, _, .wr h _ => by have := h.len; rw [List.length_cons, Nat.succ_mul]; omega
  | _, _, _, _, _, _, _, _, .cons h _ h2 => by have := h.len; have := h2.len; rw [List.length_cons, Nat.succ_mul, List.length_append]; omega
theorem OV.len : ∀ {x y : List Char} {b : Ex} {v : Env} {is : List D} {a : D} {rs : List Rc} {o : Oc} {L : Lk}, OV x y b v is a rs o L → L.length ≤ is.length * b.ask
  | _, _, _, _, _, _, _, _, _, .nil => by simp
  | _, _, _, _, _, _, _, _, _, .wr h _ => by have := h.len; rw [List.length_cons, Nat.succ_mul]; omega
  | _, _, _, _, _, _, _, _, _, .cons h _ h2 => by have := h.len; have := h2.len; rw [List.length_cons, Nat.succ_mul, List.length_append]; omega
theorem WD.len : ∀ {w : List Char} {v : Env} {ps : List Ex} {acc : List D} {rs : List Rc} {o : Oc} {L : Lk}, WD w v ps acc rs o L → L.length ≤ (ps.map Ex.ask).sum
  | _, _, _, _, _, _, _, .nil => by simp
  | _, _, _, _, _, _, _, .wr h _ => by have := h.len; rw [List.map_cons, List.sum_cons]; omega
  | _, _, _, _, _, _, _, .cons h _ h2 => by have := h.len; have := h2.len; rw [List.map_cons, List.sum_cons, List.length_append]; omega
end
mutual
/-- so many looks at most, by the rounds within one another -/
theorem ask_le : ∀ {sc : List (List Char)} {fl rd : Nat} {e : Ex}, ExOk sc fl rd e → e.ask ≤ e.cnt * 10 ^ rd
  | _, _, _, _, .lit _ _ => by rw [Ex.ask]; omega
  | _, _, _, _, .var _ _ => by rw [Ex.ask]; omega
  | _, _, rd, .node w bs ps, .node _ _ hr z => by
    have h1 : 1 ≤ 10 ^ rd := Nat.pow_pos (by decide)
    have h2 : (if w = sLook then 1 else 0) ≤ 10 ^ rd := by split <;> omega
    have h3 := asks_le z (if repB w = true then 10 else 1) (by
      split
      · rename_i h
        have := hr h
        obtain ⟨k, rfl⟩ : ∃ k, rd = k + 1 := ⟨rd - 1, by omega⟩
        rw [Nat.add_sub_cancel, Nat.pow_succ]; omega
      · omega)
    rw [Ex.ask, Ex.cnt, Nat.add_mul]
    omega
theorem asks_le : ∀ {sc bs : List (List Char)} {fl rd rl : Nat} {ps : List Ex}, PsOk sc bs fl rd rl ps → ∀ k, k * 10 ^ rl ≤ 10 ^ rd → Ex.asks k ps ≤ Ex.cnts ps * 10 ^ rd
  | _, _, _, _, _, _, .nil, k, _ => by rw [Ex.asks]; omega
  | _, _, _, rd, rl, _, .one (p := p) a, k, hk => by
    have h1 := ask_le a
    rw [Ex.asks, Ex.cnts, Ex.cnts, Nat.add_zero]
    calc k * p.ask ≤ k * (p.cnt * 10 ^ rl) := Nat.mul_le_mul_left _ h1
      _ = p.cnt * (k * 10 ^ rl) := by rw [Nat.mul_left_comm]
      _ ≤ p.cnt * 10 ^ rd := Nat.mul_le_mul_left _ hk
  | _, _, _, rd, _, _, .cons a z, k, hk => by
    have h1 := ask_le a
    have h2 := asks_le z k hk
    rw [Ex.asks, Ex.cnts, Nat.add_mul]
    omega
end
end MP
set_option maxHeartbeats 1000000
namespace MP
section
variable {P : Prog} {n i : Nat} {st : Sto} {Q : D × Sto → Prop}
/-- a paper is grown out of some founds of its rule's -/
theorem RlS.ask {e : Ex} (he : RlS e) : e.ask ≤ 4000 := by
  have h2 := ask_le he.ok
  have h3 := he.cnt
  have h4 : e.cnt * 10 ^ 2 ≤ 40 * 10 ^ 2 := Nat.mul_le_mul_right _ h3
  omega
end
end MP
namespace MP
/-- papers (or other pure things) by names -/
structure BkV (kvs : Env) : Prop where
  keys : ∃ ss : List (List Char), kvs.map (·.1) = ss.map Kk.s
  vals : ∀ p ∈ kvs, itD p.2 = true ∧ depD p.2 ≤ 55
theorem putK_keys {v : Env} {k : Kk} {d : D} : (putK v k d).map (·.1) = v.map (·.1) ∨ (putK v k d).map (·.1) = v.map (·.1) ++ [k] := by
  unfold putK
  split
  · left
    rw [List.map_map]
    refine List.map_congr_left fun p hp => ?_
    simp only [Function.comp]
    split <;> rfl
  · right; simp
theorem BkV.put {kvs : Env} (h : BkV kvs) (x : List Char) {d : D} (hd : itD d = true ∧ depD d ≤ 55) : BkV (putK kvs (.s x) d) where
  keys := by
    obtain ⟨ss, e⟩ := h.keys
    rcases putK_keys (v := kvs) (k := .s x) (d := d) with e2 | e2
    · exact ⟨ss, by rw [e2, e]⟩
    · exact ⟨ss ++ [x], by rw [e2, e, List.map_append]; rfl⟩
  vals := by
    intro p hp
    rcases putK_in hp with h1 | h1
    · exact h.vals p h1
    · rw [h1]; exact hd
theorem BkV.nil : BkV [] := ⟨⟨[], rfl⟩, by simp⟩
theorem BkV.get {kvs : Env} (h : BkV kvs) {k : Kk} {d : D} (e : getK kvs k = some d) : itD d = true ∧ depD d ≤ 55 := h.vals _ (getK_in e)
section
variable {P : Prog} {n i : Nat} {st : Sto} {Q : D × Sto → Prop}
/-- a book: its papers by names -/
structure BkAt (st : Sto) (B E : Nat) (kvs : Env) : Prop where
  hi : st[B]? = some (.ins 3 [(10, .ref E)])
  hd : st[E]? = some (.dct kvs)
theorem BkAt.cl {B E : Nat} {kvs : Env} (h : BkAt st B E kvs) : clsF st (.ref B) = some 3 := cls_ins h.hi
theorem BkAt.f {B E : Nat} {kvs : Env} (h : BkAt st B E kvs) : fldF st (.ref B) 10 = some (.ref E) := fld_ins h.hi rfl
theorem BkAt.ne {B E : Nat} {kvs : Env} (h : BkAt st B E kvs) : B ≠ E := fun e => by have := h.hi; rw [e, h.hd] at this; cases this
end
end MP
namespace MP
section
variable {P : Prog} {cf mf : Cf} {fr : Fr} {st : Sto}
def itemsD (e : E) (x : D) (st : Sto) : R (Wk × Sto × (Sto → Sto)) := match x with
  | .ref n => match st[n]? with
    | some (.dct kvs) => if pathE e then .ok (⟨kvs.map fun kv => .tup [keyD kv.1, kv.2], fun _ => true⟩, st.set n (.fdc kvs), fun st => st.set n (.dct kvs)) else .no
    | _ => .no
  | _ => .no
def valuesD (e : E) (x : D) (st : Sto) : R (Wk × Sto × (Sto → Sto)) := match x with
  | .ref n => match st[n]? with
    | some (.dct kvs) => if pathE e then .ok (⟨kvs.map fun kv => kv.2, fun _ => true⟩, st.set n (.fdc kvs), fun st => st.set n (.dct kvs)) else .no
    | _ => .no
  | _ => .no
def revD (x : D) (st : Sto) : R (Wk × Sto × (Sto → Sto)) := match x with
  | .ref n => match st[n]? with
    | some (.lst ds) => .ok (⟨ds.reverse, stands n ds⟩, st, id)
    | _ => .no
  | _ => .no
theorem w_items {a : E} {Q : Wk × Sto × (Sto → Sto) → Prop} : (evIt P cf mf (.items a) fr st).wp Q ↔ (evE P cf mf a fr st).wp fun p => (itemsD a p.1 p.2).wp Q := by
  rw [evIt]; first | (simp only [wp_bind]; done) | (simp only [wp_bind]; rfl)
theorem w_values {a : E} {Q : Wk × Sto × (Sto → Sto) → Prop} : (evIt P cf mf (.values a) fr st).wp Q ↔ (evE P cf mf a fr st).wp fun p => (valuesD a p.1 p.2).wp Q := by
  rw [evIt]; first | (simp only [wp_bind]; done) | (simp only [wp_bind]; rfl)
theorem w_rev {a : E} {Q : Wk × Sto × (Sto → Sto) → Prop} : (evIt P cf mf (.rev a) fr st).wp Q ↔ (evE P cf mf a fr st).wp fun p => (revD p.1 p.2).wp Q := by
  rw [evIt]; first | (simp only [wp_bind]; done) | (simp only [wp_bind]; rfl)
/-- behind a walk of a dict: what was laid meanwhile -/
theorem Grow.unlock {st st' : Sto} {n : Nat} {kvs : List (Kk × D)} (h : st[n]? = some (.dct kvs)) (g : Grow (st.set n (.fdc kvs)) st') : Grow st (st'.set n (.dct kvs)) := by
  obtain ⟨r, rfl⟩ := g
  have hl := (List.getElem?_eq_some_iff.mp h).1
  refine ⟨r, ?_⟩
  rw [List.set_append_left _ _ (by rw [List.length_set]; exact hl), List.set_set, set_same h]
end
section
variable {P : Prog} {st st' : Sto} {Q : D × Sto → Prop} {n i r a b c d : Nat} {h : HS}
def _root_.MP.sv6 :=
  And.intro @MP.sv5 (
  And.intro @w_items (
  And.intro @w_values (
  @w_rev)))
end
end MP
namespace MP
end MP
namespace MP
def keyTx : Kk → List Char
  | .s x => x
  | .i _ => []
/-- papers by names -/
structure KvP (kvs : Env) : Prop where
  nd : (kvs.map (·.1)).Nodup
  kl : ∀ p ∈ kvs, (keyTx p.1).length ≤ 400
  pp : ∀ p ∈ kvs, ∃ x pp, p.1 = .s x ∧ p.2 = Pp.toD pp ∧ PpR pp ∧ pp.looks.length ≤ 12
theorem KvP.nil : KvP [] := ⟨by simp, by simp, by simp⟩
theorem KvP.put {kvs : Env} (h : KvP kvs) (x : List Char) (hx : x.length ≤ 400) {p : Pp} (hp : PpR p) (hl : p.looks.length ≤ 12) : KvP (putK kvs (.s x) p.toD) where
  nd := by
    rcases putK_keys (v := kvs) (k := .s x) (d := p.toD) with e | e
    · rw [e]; exact h.nd
    · by_cases hm : Kk.s x ∈ kvs.map (·.1)
      · have : (kvs.any fun kv => decide (kv.1 = Kk.s x)) = true := by
          obtain ⟨q, hq, eq⟩ := List.mem_map.mp hm
          exact List.any_eq_true.mpr ⟨q, hq, by simp [eq]⟩
        unfold putK
        rw [if_pos this, List.map_map]
        have : (kvs.map ((·.1) ∘ fun kv => if kv.1 = Kk.s x then (kv.1, p.toD) else kv)) = kvs.map (·.1) := List.map_congr_left fun q _ => by
          simp only [Function.comp]; split <;> rfl
        rw [this]; exact h.nd
      · rw [e, List.nodup_append]
        exact ⟨h.nd, by simp, fun a ha b hb => by rw [List.mem_singleton.mp hb]; exact fun e => hm (e ▸ ha)⟩
  kl := by
    intro q hq
    unfold putK at hq
    split at hq
    · obtain ⟨r, hr, e⟩ := List.mem_map.mp hq
      split at e
      · rename_i hk
        rw [← e]; dsimp only; rw [hk]; exact hx
      · rw [← e]; exact h.kl r hr
    · rcases List.mem_append.mp hq with hq | hq
      · exact h.kl q hq
      · rw [List.mem_singleton.mp hq]; exact hx
  pp := by
    intro q hq
    unfold putK at hq
    split at hq
    · obtain ⟨r, hr, e⟩ := List.mem_map.mp hq
      obtain ⟨y, pp, h1, h2, h3, h4⟩ := h.pp r hr
      split at e
      · rename_i hk
        exact ⟨x, p, by rw [← e]; exact hk, by rw [← e], hp, hl⟩
      · exact ⟨y, pp, by rw [← e]; exact h1, by rw [← e]; exact h2, h3, h4⟩
    · rcases List.mem_append.mp hq with hq | hq
      · exact h.pp q hq
      · rw [List.mem_singleton.mp hq]; exact ⟨x, p, rfl, rfl, hp, hl⟩
/-- a book, a house, a list of names -/
structure BH (st : Sto) (B E r a b c d M : Nat) (kvs : Env) (h : HS) (xs : List (List Char)) : Prop where
  bk : BkAt st B E kvs
  H : Hs st r a b c d h
  hm : st[M]? = some (.lst (xs.map .str))
  ne : E ≠ a ∧ E ≠ b
  nm : M ≠ c ∧ M ≠ d
section
variable {st st' : Sto} {B E r a b c d M : Nat} {kvs : Env} {h h2 : HS} {xs : List (List Char)}
theorem BH.grow (X : BH st B E r a b c d M kvs h xs) (g : Grow st st') : BH st' B E r a b c d M kvs h xs := ⟨⟨g.at X.bk.hi, g.at X.bk.hd⟩, X.H.grow g, g.at X.hm, X.ne, X.nm⟩
theorem BH.lt (X : BH st B E r a b c d M kvs h xs) : B < st.length ∧ E < st.length ∧ r < st.length ∧ a < st.length ∧ b < st.length ∧ c < st.length ∧ d < st.length ∧ M < st.length :=
  ⟨lt_of X.bk.hi, lt_of X.bk.hd, lt_of X.H.hi, lt_of X.H.A.ha, lt_of X.H.A.hb, lt_of X.H.A.hc, lt_of X.H.A.hd, lt_of X.hm⟩
/-- a box, drawn from, that was laid behind all -/
theorem BH.keep {z : Nat} (X : BH st B E r a b c d M kvs h xs) (k : Keep z st st') (hz : st.length ≤ z) : BH st' B E r a b c d M kvs h xs := by
  obtain ⟨h1, h2, h3, h4, h5, h6, h7, h8⟩ := X.lt
  exact ⟨⟨k.at X.bk.hi (by omega), k.at X.bk.hd (by omega)⟩, ⟨k.at X.H.hi (by omega), ⟨k.at X.H.A.ha (by omega), k.at X.H.A.hb (by omega), k.at X.H.A.hc (by omega), k.at X.H.A.hd (by omega), X.H.A.ab, X.H.A.cd⟩⟩, k.at X.hm (by omega), X.ne, X.nm⟩
end
theorem HS.Sm.mono {h : HS} {k k' : Nat} (s : h.Sm k) (hk : k ≤ k') : h.Sm k' := ⟨Nat.le_trans s.src hk, Nat.le_trans s.rul hk, Nat.le_trans s.opn hk, Nat.le_trans s.wis hk⟩
end MP
namespace MP
def nmsD : D → List (List Char)
  | .tup [_, .tup ls, _] => ls.filterMap fun l => match l with
    | .tup [.str x, _] => some x
    | _ => none
  | _ => []
theorem nmsD_pp (p : Pp) : nmsD p.toD = p.looks.map (·.1) := by
  show ((p.looks.map lkD).filterMap _) = _
  rw [List.filterMap_map]
  induction p.looks with
  | nil => rfl
  | cons l ls ih => rw [List.filterMap_cons, List.map_cons]; exact congrArg _ ih
def sucK (kvs : Env) (x : List Char) : List (List Char) := match getK kvs (.s x) with
  | some d => nmsD d
  | none => []
inductive Rch (kvs : Env) (x : List Char) : List Char → Prop where
  | base {y : List Char} : y ∈ sucK kvs x → Rch kvs x y
  | step {y z : List Char} : Rch kvs x z → y ∈ sucK kvs z → Rch kvs x y
def allN (kvs : Env) : List (List Char) := (kvs.map fun p => nmsD p.2).flatten
theorem suc_all {kvs : Env} {x y : List Char} (h : y ∈ sucK kvs x) : y ∈ allN kvs := by
  unfold sucK at h
  split at h
  · rename_i d e
    exact List.mem_flatten.mpr ⟨nmsD d, List.mem_map.mpr ⟨_, getK_in e, rfl⟩, h⟩
  · cases h
theorem KvP.val {kvs : Env} (h : KvP kvs) {x : List Char} {d : D} (e : getK kvs (.s x) = some d) : ∃ pp : Pp, d = pp.toD ∧ PpR pp ∧ pp.looks.length ≤ 12 := by
  obtain ⟨_, pp, _, h2, h3, h4⟩ := h.pp _ (getK_in e)
  exact ⟨pp, h2, h3, h4⟩
/-- the names on which a name rests, sorted -/
def RestsIs (kvs : Env) (x : List Char) (L : List (List Char)) : Prop := ∃ F : List (List Char), F.Nodup ∧ (∀ y, y ∈ F ↔ Rch kvs x y) ∧ L = sortS F
theorem RestsIs.uniq {kvs : Env} {x : List Char} {L M : List (List Char)} (h : RestsIs kvs x L) (h' : RestsIs kvs x M) : L = M := by
  obtain ⟨F, h1, h2, rfl⟩ := h
  obtain ⟨G, g1, g2, rfl⟩ := h'
  exact sort_uniq h1 g1 fun y => (h2 y).trans (g2 y).symm
theorem RestsIs.mem {kvs : Env} {x : List Char} {L : List (List Char)} (h : RestsIs kvs x L) (y : List Char) : y ∈ L ↔ Rch kvs x y := by
  obtain ⟨F, h1, h2, rfl⟩ := h
  rw [sortS_mem]; exact h2 y
/-- what was gathered and what is due -/
structure Gath (kvs : Env) (x : List Char) (F S : List (List Char)) : Prop where
  nd : F.Nodup
  rch : ∀ y ∈ F, Rch kvs x y
  all : ∀ y ∈ F, y ∈ allN kvs
  due : ∀ y ∈ S, y = x ∨ y ∈ F
  cl : ∀ z, (z = x ∨ z ∈ F) → z ∈ S ∨ ∀ y ∈ sucK kvs z, y ∈ F
theorem Gath.nil {kvs : Env} {x : List Char} : Gath kvs x [] [x] := ⟨by simp, by simp, by simp, by simp, fun z hz => .inl (by simpa using hz)⟩
theorem Gath.done {kvs : Env} {x : List Char} {F : List (List Char)} (g : Gath kvs x F []) : RestsIs kvs x (sortS F) := by
  refine ⟨F, g.nd, fun y => ⟨g.rch y, fun h => ?_⟩, rfl⟩
  have cl : ∀ z, (z = x ∨ z ∈ F) → ∀ y ∈ sucK kvs z, y ∈ F := fun z hz => (g.cl z hz).resolve_left (by simp)
  induction h with
  | base h => exact cl x (.inl rfl) _ h
  | step _ h ih => exact cl _ (.inr ih) _ h
theorem Gath.len {kvs : Env} {x : List Char} {F S : List (List Char)} (g : Gath kvs x F S) : F.length ≤ (allN kvs).length := nodup_len g.nd g.all
theorem Gath.suc_rch {kvs : Env} {x : List Char} {F S : List (List Char)} (g : Gath kvs x F S) {z : List Char} (hz : z ∈ S) {y : List Char} (hy : y ∈ sucK kvs z) : Rch kvs x y := by
  rcases g.due z hz with rfl | h
  · exact .base hy
  · exact .step (g.rch z h) hy
/-- one that is due is done -/
theorem Gath.pop {kvs : Env} {x z : List Char} {F S : List (List Char)} (g : Gath kvs x F (S ++ [z])) {ext : List (List Char)} (h1 : ∀ y ∈ ext, y ∈ sucK kvs z) (h2 : ∀ y ∈ sucK kvs z, y ∈ F ++ ext) (h3 : F.Nodup → (F ++ ext).Nodup) : Gath kvs x (F ++ ext) (S ++ ext) where
  nd := h3 g.nd
  rch := fun y hy => by
    rcases List.mem_append.mp hy with hy | hy
    · exact g.rch y hy
    · exact g.suc_rch (List.mem_append_right _ List.mem_cons_self) (h1 y hy)
  all := fun y hy => by
    rcases List.mem_append.mp hy with hy | hy
    · exact g.all y hy
    · exact suc_all (h1 y hy)
  due := fun y hy => by
    rcases List.mem_append.mp hy with hy | hy
    · exact (g.due y (List.mem_append_left _ hy)).imp id (List.mem_append_left _)
    · exact .inr (List.mem_append_right _ hy)
  cl := fun w hw => by
    by_cases he : w ∈ ext
    · exact .inl (List.mem_append_right _ he)
    have hw' : w = x ∨ w ∈ F := hw.imp id fun h => (List.mem_append.mp h).resolve_right he
    by_cases hwz : w = z
    · subst hwz; exact .inr h2
    rcases g.cl w hw' with h | h
    · rcases List.mem_append.mp h with h | h
      · exact .inl (List.mem_append_left _ h)
      · exact absurd (List.mem_singleton.mp h) hwz
    · exact .inr fun y hy => List.mem_append_left _ (h y hy)
section
variable {P : Prog} {st st' : Sto} {Q : D × Sto → Prop} {n i : Nat}
/-- a book that is read, its dict perhaps walked -/
structure BkR (st : Sto) (B E : Nat) (kvs : Env) : Prop where
  hi : st[B]? = some (.ins 3 [(10, .ref E)])
  hd : st[E]? = some (.dct kvs) ∨ st[E]? = some (.fdc kvs)
theorem BkAt.r {B E : Nat} {kvs : Env} (h : BkAt st B E kvs) : BkR st B E kvs := ⟨h.hi, .inl h.hd⟩
theorem BkR.cl {B E : Nat} {kvs : Env} (h : BkR st B E kvs) : clsF st (.ref B) = some 3 := cls_ins h.hi
theorem BkR.f {B E : Nat} {kvs : Env} (h : BkR st B E kvs) : fldF st (.ref B) 10 = some (.ref E) := fld_ins h.hi rfl
theorem BkR.to {B E : Nat} {kvs : Env} (h : BkR st B E kvs) (f : ∀ n o, n = B ∨ n = E → st[n]? = some o → st'[n]? = some o) : BkR st' B E kvs := ⟨f _ _ (.inl rfl) h.hi, h.hd.imp (f _ _ (.inr rfl)) (f _ _ (.inr rfl))⟩
theorem BkR.lt {B E : Nat} {kvs : Env} (h : BkR st B E kvs) : E < st.length := h.hd.elim lt_of lt_of
theorem BkR.grow {B E : Nat} {kvs : Env} (h : BkR st B E kvs) (g : Grow st st') : BkR st' B E kvs := h.to fun _ _ _ e => g.at e
end
end MP
namespace MP
section
variable {P : Prog} {st st' : Sto} {Q : D × Sto → Prop} {n i : Nat}
theorem KvP.nms {kvs : Env} (h : KvP kvs) : ∀ y ∈ allN kvs, isW (.str y) = true := by
  intro y hy
  obtain ⟨l, hl, hy⟩ := List.mem_flatten.mp hy
  obtain ⟨p, hp, rfl⟩ := List.mem_map.mp hl
  obtain ⟨_, pp, _, h2, h3, _⟩ := h.pp p hp
  rw [h2, nmsD_pp] at hy
  obtain ⟨l, hl, rfl⟩ := List.mem_map.mp hy
  exact h3.names l hl
end
end MP
namespace MP
end MP
namespace MP
/-- a comprehension with a test -/
theorem lc_filt {α : Type} {ok : Sto → Bool} {turn : D → Sto → R (Option D × Sto)} {Q : List D × Sto → Prop} {st0 : Sto} {xs : List α} (f g : α → D) (p : α → Bool) (hok : ∀ st, Grow st0 st → ok st = true)
    (ht : ∀ x ∈ xs, ∀ st, Grow st0 st → (turn (f x) st).wp fun r => r.1 = (if p x = true then some (g x) else none) ∧ Grow st r.2) (hl : xs.length ≤ 100000) (q : ∀ st', Grow st0 st' → Q ((xs.filter p).map g, st')) : (lcF ok turn (xs.map f) [] st0).wp Q := by
  have hsz : SZ = 1000000 := rfl
  refine lc_wp (I := fun ds acc st => ∃ ys zs, xs = zs ++ ys ∧ ds = ys.map f ∧ acc = (zs.filter p).map g ∧ Grow st0 st) ?_ ?_ ?_ _ _ _ ⟨xs, [], rfl, rfl, rfl, Grow.refl⟩
  · rintro ds acc st ⟨_, _, _, _, _, gr⟩
    exact hok st gr
  · rintro d ds acc st ⟨ys, zs, rfl, hd, rfl, gr⟩
    cases ys with
    | nil => cases hd
    | cons y ys =>
      rw [List.map_cons] at hd
      injection hd with h1 h2
      subst h1 h2
      refine wp_mono (ht y (List.mem_append_right _ List.mem_cons_self) st gr) fun r hr => ?_
      obtain ⟨r1, r2⟩ := r
      obtain ⟨e, g2⟩ := hr
      dsimp only at e g2 ⊢
      subst e
      by_cases hp : p y = true
      · rw [if_pos hp]
        dsimp only
        refine ⟨?_, ys, zs ++ [y], by simp, rfl, ?_, gr.trans g2⟩
        · have := List.length_filter_le p zs
          rw [List.length_append] at hl
          rw [List.length_map]; omega
        · rw [List.filter_append, List.map_append, List.filter_cons, if_pos hp]; rfl
      · rw [if_neg hp]
        dsimp only
        refine ⟨ys, zs ++ [y], by simp, rfl, ?_, gr.trans g2⟩
        rw [List.filter_append, List.map_append, List.filter_cons, if_neg hp]; simp
  · rintro acc st ⟨ys, zs, rfl, hd, rfl, gr⟩
    have : ys = [] := by cases ys with | nil => rfl | cons a b => cases hd
    subst this
    rw [List.append_nil] at q
    exact q st gr
theorem KvP.key {kvs : Env} (h : KvP kvs) {p : Kk × D} (hp : p ∈ kvs) : keyD p.1 = .str (keyTx p.1) ∧ p.1 = .s (keyTx p.1) := by
  obtain ⟨x, _, h1, _⟩ := h.pp p hp
  rw [h1]; exact ⟨rfl, rfl⟩
theorem KvP.suc {kvs : Env} (h : KvP kvs) {p : Kk × D} (hp : p ∈ kvs) : sucK kvs (keyTx p.1) = nmsD p.2 := by
  unfold sucK
  rw [← (h.key hp).2, getK_mem h.nd hp]
end MP
namespace K02
open MP
theorem hW : WorthAt P 11 8 10 9 := ⟨rfl, rfl, rfl, rfl⟩
/-- a worth's size and depth -/
def szD (d : D) : Int := ((mS d).getD (0, 0)).1
def dpD (d : D) : Int := ((mS d).getD (0, 0)).2
def up (m y : Int) : Int := if y > m then y else m
theorem szdp {d : D} {s p : Int} (h : mS d = some (s, p)) : szD d = s ∧ dpD d = p := by unfold szD dpD; rw [h]; exact ⟨rfl, rfl⟩
theorem mSs_is : ∀ (xs : List D) (a b s p : Int), mSs xs a b = some (s, p) → s = a + (xs.map szD).sum ∧ p = (xs.map dpD).foldl up b + 1
  | [], a, b, s, p, h => by rw [mSs] at h; cases h; simp
  | x :: xs, a, b, s, p, h => by
    rw [mSs] at h
    split at h
    · rename_i q hq
      obtain ⟨h1, h2⟩ := mSs_is xs _ _ s p h
      obtain ⟨e1, e2⟩ := szdp (s := q.1) (p := q.2) hq
      rw [List.map_cons, List.map_cons, List.sum_cons, List.foldl_cons, e1, e2]
      exact ⟨by omega, h2⟩
    · cases h
theorem dp_pos : ∀ (d : D) {s p : Int}, mS d = some (s, p) → 0 ≤ p
  | .int i, s, p, h => by
    simp only [mS] at h
    split at h
    · cases h; omega
    · cases h
  | .str x, s, p, h => by
    simp only [mS] at h
    split at h
    · cases h; omega
    · cases h
  | .tup xs, s, p, h => by
    simp only [mS] at h
    split at h
    · obtain ⟨-, h2⟩ := mSs_is xs _ _ s p h
      have : ∀ (l : List Int) (b : Int), 0 ≤ b → 0 ≤ l.foldl up b := fun l => by
        induction l with
        | nil => intro b hb; exact hb
        | cons y l ih => intro b hb; rw [List.foldl_cons]; refine ih _ ?_; unfold up; split <;> omega
      have := this (xs.map dpD) 0 (by decide)
      omega
    · cases h
  | .non, s, p, h => by simp [mS] at h
  | .bl b, s, p, h => by simp [mS] at h
  | .kls b, s, p, h => by simp [mS] at h
  | .ref b, s, p, h => by simp [mS] at h
theorem mSs_all : ∀ (xs : List D) (a b : Int), (∀ w ∈ xs, ∃ q, mS w = some q) → ∃ q, mSs xs a b = some q
  | [], a, b, _ => ⟨_, rfl⟩
  | x :: xs, a, b, h => by
    obtain ⟨q, hq⟩ := h x List.mem_cons_self
    obtain ⟨q2, h2⟩ := mSs_all xs (a + q.1) (if q.2 > b then q.2 else b) fun w hw => h w (List.mem_cons_of_mem _ hw)
    exact ⟨q2, by rw [mSs, hq]; exact h2⟩
def Wg (d : D) : Prop := (∃ q, mS d = some q) ∧ (∀ st, Saf st d) ∧ depD d ≤ 30
section
variable {st : Sto} {Q : D × Sto → Prop} {n : Nat}
theorem lc_each {turn : D → Sto → MP.R (Option D × Sto)} {g : D → D} {xs : List D} {Q : List D × Sto → Prop} (ht : ∀ x ∈ xs, ∀ s, Grow st s → (turn x s).wp fun r => r.1 = some (g x) ∧ Grow s r.2) (hl : xs.length ≤ 100000) (q : ∀ s, Grow st s → Q (xs.map g, s)) : (lcF (fun _ => true) turn xs [] st).wp Q := by
  have := lc_filt (ok := fun _ => true) (turn := turn) (Q := Q) (st0 := st) (xs := xs) id g (fun _ => true) (fun _ _ => rfl) (fun x hx s hs => by simpa using ht x hx s hs) hl fun s h => by rw [List.filter_eq_self.mpr fun _ _ => rfl]; exact q s h
  rwa [List.map_id] at this
theorem size_it : ∀ (n : Nat) (d : D) (st : Sto) (Q : D × Sto → Prop), (∃ q, mS d = some q) → depD d + 2 ≤ n → (∀ s, Grow st s → Q (.int (szD d), s)) → (callF P n 12 [d] st).wp Q := by
  have hsz : SZ = 1000000 := rfl
  intro n
  induction n with
  | zero => intro d st Q hm hn q; omega
  | succ n ih =>
    intro d st Q hm hn q
    refine call_wp (fd := fd12) rfl rfl ?_
    simp only [fd12, start_cons, start0, repS, rep0]
    obtain ⟨⟨s, p⟩, hm⟩ := hm
    cases d with
    | int i =>
      have hi : -(10 ^ 60) < i ∧ i < 10 ^ 60 := by
        simp only [mS] at hm
        split at hm
        · rename_i h; simpa [numI] using h
        · cases hm
      refine skip_if (by simp only [seval, sv6]; exact ⟨_, rfl, rfl⟩) ?_
      refine ret_one ?_
      simp only [seval, sv6]
      have h1 : i.natAbs.log2 < 1900 := by have := log_ok (i := i) (by omega); omega
      have h2 : (showI i).length ≤ 61 := showI_len (k := 59) (by omega)
      refine ⟨_, rfl, ?_⟩
      simp only [seval, sv6]
      refine ⟨h1, by omega, mul_ok (by decide) (by omega), ?_⟩
      have e : szD (.int i) = 1 := by
        simp only [mS] at hm
        split at hm
        · rename_i h; simp only [szD, mS, h, if_true]; rfl
        · cases hm
      rw [show (1 + (0 : Int) * ((showI i).length : Int)) = szD (.int i) by rw [e]; omega]
      exact q _ Grow.refl
    | str x =>
      have hx : x.length ≤ 400 ∧ szD (.str x) = 1 + x.length := by
        have h0 := hm
        simp only [mS] at hm
        split at hm
        · rename_i h
          refine ⟨?_, by simp only [szD, mS, h, if_true]; rfl⟩
          unfold txtOk at h
          rw [Bool.and_eq_true, decide_eq_true_eq] at h
          exact h.1
        · cases hm
      refine skip_if (by simp only [seval, sv6]; exact ⟨_, rfl, rfl⟩) ?_
      refine ret_one ?_
      simp only [seval, sv6]
      refine ⟨_, rfl, ?_⟩
      simp only [seval, sv6]
      refine ⟨by omega, mul_ok (by decide) (by omega), ?_⟩
      rw [show (1 + (1 : Int) * (x.length : Int)) = szD (.str x) by rw [hx.2]; omega]
      exact q _ Grow.refl
    | tup xs =>
      have h0 := hm
      simp only [mS] at hm
      split at hm
      · rename_i hl
        obtain ⟨h1, h2⟩ := mSs_is xs _ _ s p hm
        rw [depD] at hn
        refine take_if (by simp only [seval, sv6]; exact ⟨_, rfl, rfl⟩) ?_
        refine ret_step ?_
        simp only [seval, sv6]
        refine lc_each (g := fun x => .int (szD x)) (fun x hx s1 gs => ?_) (by omega) fun s1 g1 => ?_
        · simp only [seval, sv6, wipeF]
          have := depDs_mem hx
          exact ih x s1 _ (mSs_some hm x hx) (by omega) fun s2 g2 => by simp only [seval, sv6]; exact g2
        · simp only [id]
          have e : xs.map (fun x => D.int (szD x)) = (xs.map szD).map D.int := by rw [List.map_map]; rfl
          rw [e, sum_ref sto_top]
          simp only [wp_ok, seval, sv6]
          have : szD (.tup xs) = 1 + (xs.map szD).sum := by rw [(szdp h0).1]; exact h1
          rw [← this]
          exact q _ (g1.trans Grow.push)
      · cases hm
    | non => simp [mS] at hm
    | bl b => simp [mS] at hm
    | kls b => simp [mS] at hm
    | ref b => simp [mS] at hm
theorem maxI_up : ∀ (l : List Int), (∀ y ∈ l, 0 ≤ y) → (maxI l).getD 0 = l.foldl up 0
  | [], _ => rfl
  | y :: l, h => by
    have hy := h y List.mem_cons_self
    rw [List.foldl_cons]
    have : up 0 y = y := by unfold up; split <;> omega
    rw [this]
    rfl
theorem depth_it : ∀ (n : Nat) (d : D) (st : Sto) (Q : D × Sto → Prop), (∃ q, mS d = some q) → depD d + 2 ≤ n → (∀ s, Grow st s → Q (.int (dpD d), s)) → (callF P n 13 [d] st).wp Q := by
  have hsz : SZ = 1000000 := rfl
  intro n
  induction n with
  | zero => intro d st Q hm hn q; omega
  | succ n ih =>
    intro d st Q hm hn q
    refine call_wp (fd := fd13) rfl rfl ?_
    simp only [fd13, start_cons, start0, repS, rep0]
    obtain ⟨⟨s, p⟩, hm⟩ := hm
    cases d with
    | int i =>
      have hx : dpD (.int i) = 0 := by
        simp only [mS] at hm
        split at hm
        · rename_i h; simp only [dpD, mS, h, if_true]; rfl
        · cases hm
      refine skip_if (by simp only [seval, sv6]; exact ⟨_, rfl, rfl⟩) ?_
      refine ret_one ?_
      simp only [seval, sv6]
      rw [← hx]
      exact q _ Grow.refl
    | str x =>
      have hx : dpD (.str x) = 0 := by
        simp only [mS] at hm
        split at hm
        · rename_i h; simp only [dpD, mS, h, if_true]; rfl
        · cases hm
      refine skip_if (by simp only [seval, sv6]; exact ⟨_, rfl, rfl⟩) ?_
      refine ret_one ?_
      simp only [seval, sv6]
      rw [← hx]
      exact q _ Grow.refl
    | tup xs =>
      have h0 := hm
      simp only [mS] at hm
      split at hm
      · rename_i hl
        obtain ⟨h1, h2⟩ := mSs_is xs _ _ s p hm
        rw [depD] at hn
        refine take_if (by simp only [seval, sv6]; exact ⟨_, rfl, rfl⟩) ?_
        refine ret_step ?_
        simp only [seval, sv6]
        refine lc_each (g := fun x => .int (dpD x)) (fun x hx s1 gs => ?_) (by omega) fun s1 g1 => ?_
        · simp only [seval, sv6, wipeF]
          have := depDs_mem hx
          exact ih x s1 _ (mSs_some hm x hx) (by omega) fun s2 g2 => by simp only [seval, sv6]; exact g2
        · simp only [id]
          have e : xs.map (fun x => D.int (dpD x)) = (xs.map dpD).map D.int := by rw [List.map_map]; rfl
          rw [e]
          refine ⟨xs.map dpD, by simp only [listF, sto_top, Option.bind_some, ints_map], ?_⟩
          have : dpD (.tup xs) = 1 + (maxI (xs.map dpD)).getD 0 := by
            rw [(szdp h0).2, h2, maxI_up _ fun y hy => ?_]
            · omega
            · obtain ⟨x, hx, rfl⟩ := List.mem_map.mp hy
              obtain ⟨⟨q1, q2⟩, hq⟩ := mSs_some hm x hx
              rw [(szdp hq).2]
              exact dp_pos x hq
          rw [← this]
          exact q _ (g1.trans Grow.push)
      · cases hm
    | non => simp [mS] at hm
    | bl b => simp [mS] at hm
    | kls b => simp [mS] at hm
    | ref b => simp [mS] at hm
theorem eq_two {a b : Nat} {x y : Int} (ha : st[a]? = some (.lst [.int x, .int y])) (hb : st[b]? = some (.lst [.int x, .int y])) : eqF st (.ref a) (.ref b) = some true := by
  simp [eqF, eqT, treeF, treesF, ha, hb, T.eqv, T.eqvs]
theorem told_it {d : D} (hm : ∃ q, mS d = some q) (hs : ∀ st, Saf st d) (hd : depD d ≤ 60) (q : ∀ s, Grow st s → Q (.bl true, s)) : (callF P (n + 80) 14 [d] st).wp Q := by
  have hsz : SZ = 1000000 := rfl
  refine call_wp (fd := fd14) rfl rfl ?_
  simp only [fd14, start_cons, start0, repS, rep0]
  have hm2 : mS d = some (szD d, dpD d) := by
    obtain ⟨⟨a, b⟩, h⟩ := hm
    rw [(szdp h).1, (szdp h).2]; exact h
  refine stm_k fun K hK => ?_
  simp only [seval, sv6]
  refine call_wp (fd := fd4) rfl rfl ?_
  simp only [fd4, seval, sv6]
  refine measured_spec (num := 0) (txt := 2) (sg := 1) rfl rfl rfl rfl _ d _ (hs st) (by omega) ?_
  rw [hm2, encM]
  simp only [seval, sv6, Option.some.injEq, exists_eq_left']
  refine call_wp (fd := fd5) rfl rfl ?_
  simp only [fd5, seval, sv6]
  refine measured_spec (num := 0) (txt := 2) (sg := 1) rfl rfl rfl rfl _ d _ (hs st) (by omega) ?_
  rw [hm2, encM]
  simp only [seval, sv6, Option.some.injEq, exists_eq_left']
  refine hK _ _ ?_
  clear hK K
  have hL : (st ++ [O.lst [D.int (szD d), .int (dpD d)]])[st.length]? = some (.lst [.int (szD d), .int (dpD d)]) := sto_top
  have g1 : Grow st (st ++ [O.lst [D.int (szD d), .int (dpD d)]]) := Grow.push
  generalize st.length = L at hL
  generalize st ++ [O.lst [D.int (szD d), .int (dpD d)]] = s1 at hL g1
  refine stm_k fun K hK => ?_
  simp only [seval, sv6]
  rw [wk_ref hL]
  simp only [seval, sv6]
  refine for_wp (I := fun dl fr s => ∃ (e : Option D) (l : List Int), fr = [some d, some (.ref L), e] ∧ dl = l.map D.int ∧ s = s1) ?_ ?_ ?_ _ _ _ ⟨none, [szD d, dpD d], rfl, rfl, rfl⟩
  · rintro dl fr s ⟨e, l, rfl, rfl, rfl⟩
    exact stands_at hL
  · rintro y dl fr s ⟨e, l, rfl, hl, rfl⟩
    cases l with
    | nil => cases hl
    | cons z l =>
      rw [List.map_cons] at hl
      injection hl with h1 h2
      subst h1 h2
      simp only [tg_v, List.set_cons_succ, List.set_cons_zero]
      refine skip_if ?_ ?_
      · simp only [seval, sv6]
        refine ⟨true, rfl, ?_⟩
        simp only [seval, sv6]
        exact ⟨_, rfl, rfl⟩
      rw [s_nil_w]
      exact ⟨_, l, rfl, rfl, rfl⟩
  rintro fr s ⟨e, l, rfl, -, rfl⟩
  simp only [id]
  refine hK _ _ ?_
  clear hK K
  refine ret_one ?_
  simp only [seval, sv6]
  refine size_it _ d _ _ hm (by omega) fun s2 g2 => ?_
  simp only [seval, sv6]
  refine depth_it _ d _ _ hm (by omega) fun s3 g3 => ?_
  simp only [seval, sv6]
  refine ⟨true, eq_two (sto_old ((g2.trans g3).at hL)) sto_top, q _ (g1.trans ((g2.trans g3).trans Grow.push))⟩
end
theorem pure_law (ns : List Int) (hl : ns.length ≤ 63) : ∃ st', callF P (225 + 1) lawId [.kls (ns.map .int)] [] = .ok (.bl true, st') := by
  have key : (callF P (225 + 1) lawId [.kls (ns.map .int)] []).wp fun p => p.1 = .bl true := by
    have hsz : SZ = 1000000 := rfl
    refine call_wp (fd := fd15) rfl rfl ?_
    simp only [fd15, start_cons, start0, repS, rep0]
    refine stm_k fun K hK => ?_
    simp only [seval, sv6]
    refine hK _ _ ?_
    clear hK K
    refine stm_k fun K hK => ?_
    simp only [seval, sv6, len_ref sto_top]
    have hcl := cut_len (xs := ns.map D.int) (lo := some 1) (hi := some 21)
    have hcl2 : (cutF (ns.map D.int) (some 1) (some 21)).length ≤ 20 := by
      unfold cutF
      rw [List.length_take]
      simp only [slIx, List.length_map]
      split <;> split <;> omega
    refine ⟨by omega, by omega, ?_⟩
    generalize cutF (ns.map D.int) (some 1) (some 21) = cs at hcl hcl2
    refine for_range (I := fun j fr st => ∃ (ws : List D) (e2 e3 : Option D), fr = [some (.kls (ns.map .int)), some (.ref 0), e2, e3, none, none] ∧ st[0]? = some (.lst ws) ∧ ws.length = j ∧ ∀ w ∈ ws, Wg w) ?_ ?_ ⟨[], none, none, rfl, rfl, rfl, fun w h => nomatch h⟩
    · rintro j fr st hj ⟨ws, e2, e3, rfl, h0, hwl, hws⟩
      have hj : j < 20 := by omega
      simp only [seval, sv6]
      refine box_spec (n := 223) (i := 7) (c := 6) rfl rfl (by omega) (by omega) fun st1 hb1 kp1 hl1 => ?_
      have l0 := lt_of h0
      have hne : (0 : Nat) ≠ st.length := by omega
      have h1 := kp1.at h0 hne
      simp only [seval, sv6, kd_ref h1]
      refine take_spec (n := 224) hW.ht hb1 (by decide) (by decide) fun u st2 hu0 hu1 hb2 kp2 hl2 => ?_
      have h2 := kp2.at h1 hne
      simp only [seval, sv6]
      refine worth_spec hW.h hW.ht hW.hn hW.hx 225 st2 _ st.length (1 + u) 12 hb2 (by omega) (by omega) (by decide) (by decide) fun d st3 hd hb3 kp3 => ?_
      have h3 := kp3.at h2 hne
      simp only [seval, sv6, ap_ref h3]
      refine ⟨by omega, ws ++ [d], _, _, rfl, sto_set h3, by rw [List.length_append, hwl]; rfl, fun w hw => ?_⟩
      rcases List.mem_append.mp hw with hw | hw
      · exact hws w hw
      · rw [List.mem_singleton.mp hw]; exact ⟨by obtain ⟨s, p, h, -⟩ := hd.ms; exact ⟨_, h⟩, hd.saf, by have := hd.dep; omega⟩
    rintro fr st ⟨ws, e2, e3, rfl, h0, hwl, hws⟩
    simp only [id]
    refine hK _ _ ?_
    clear hK K
    have hwl : ws.length ≤ 20 := by omega
    -- each by itself
    refine stm_k fun K hK => ?_
    simp only [seval, sv6]
    rw [wk_ref h0]
    simp only [seval, sv6]
    refine for_wp (I := fun dl fr st => ∃ (e4 : Option D), fr = [some (.kls (ns.map .int)), some (.ref 0), e2, e3, e4, none] ∧ (∀ w ∈ dl, Wg w) ∧ st[0]? = some (.lst ws)) ?_ ?_ ?_ _ _ _ ⟨none, rfl, hws, h0⟩
    · rintro dl fr st ⟨e4, -, -, h0⟩
      exact stands_at h0
    · rintro y dl fr st ⟨e4, rfl, hdl, h0⟩
      have hy := hdl y List.mem_cons_self
      simp only [tg_v, List.set_cons_succ, List.set_cons_zero]
      refine skip_M (fun s => Grow st s) ?_ ?_
      · simp only [seval, sv6]
        refine told_it (n := 145) hy.1 hy.2.1 (by have := hy.2.2; omega) fun s g => ?_
        simp only [seval, sv6]
        exact g
      intro s g
      rw [s_nil_w]
      exact ⟨_, rfl, fun w hw => hdl w (List.mem_cons_of_mem _ hw), g.at h0⟩
    rintro fr st ⟨e4, rfl, -, h0⟩
    simp only [id]
    refine hK _ _ ?_
    clear hK K
    -- the short ones
    refine stm_k fun K hK => ?_
    simp only [seval, sv6]
    rw [wk_ref h0]
    simp only [seval, sv6]
    refine lc_wp (I := fun dl acc s => (∀ w ∈ dl, Wg w) ∧ (∀ w ∈ acc, Wg w ∧ szD w < 40 ∧ dpD w < 12) ∧ acc.length + dl.length ≤ 20 ∧ s[0]? = some (.lst ws)) ?_ ?_ ?_ _ _ _ ⟨hws, fun w h => (nomatch h), by simpa using hwl, h0⟩
    · rintro dl acc s ⟨-, -, -, h0⟩
      exact stands_at h0
    · rintro y dl acc s ⟨hdl, hac, hal, h0⟩
      have hy := hdl y List.mem_cons_self
      rw [List.length_cons] at hal
      simp only [seval, sv6, wipeF]
      refine depth_it _ y _ _ hy.1 (by have := hy.2.2; omega) fun s1 g1 => ?_
      simp only [seval, sv6]
      by_cases hd : dpD y < 12
      · rw [if_pos hd]
        refine size_it _ y _ _ hy.1 (by have := hy.2.2; omega) fun s2 g2 => ?_
        simp only [seval, sv6]
        have h2 := (g1.trans g2).at h0
        by_cases hs : szD y < 40
        · rw [if_pos hs]
          refine ⟨by omega, fun w hw => hdl w (List.mem_cons_of_mem _ hw), fun w hw => ?_, by rw [List.length_append]; simp; omega, h2⟩
          rcases List.mem_append.mp hw with hw | hw
          · exact hac w hw
          · rw [List.mem_singleton.mp hw]; exact ⟨hy, hs, hd⟩
        · rw [if_neg hs]
          exact ⟨fun w hw => hdl w (List.mem_cons_of_mem _ hw), hac, by omega, h2⟩
      · rw [if_neg hd, if_neg hd]
        exact ⟨fun w hw => hdl w (List.mem_cons_of_mem _ hw), hac, by omega, g1.at h0⟩
    rintro acc s ⟨-, hac, hal, h0⟩
    simp only [id]
    rw [sl_refN sto_top]
    simp only [wp_ok]
    rw [tuple_ref sto_top]
    simp only [wp_ok]
    refine hK _ _ ?_
    clear hK K
    have h1 := sto_old (o' := O.lst (cutF acc none (some 20))) (sto_old (o' := O.lst acc) h0)
    have hcl := cut_len (xs := acc) (lo := none) (hi := some 20)
    have hzs : ∀ w ∈ cutF acc none (some 20), Wg w := fun w hw => (hac w (cut_mem hw)).1
    generalize cutF acc none (some 20) = zs at h1 hcl hzs
    generalize s ++ [O.lst acc] ++ [O.lst zs] = s1 at h1
    refine ret_one ?_
    simp only [seval, sv6]
    refine told_it (n := 145) (by
      obtain ⟨q, hq⟩ := mSs_all zs 1 0 fun w hw => (hzs w hw).1
      exact ⟨q, by rw [mS, if_pos (by omega)]; exact hq⟩) (fun st => safs_of fun w hw => (hzs w hw).2.1 st) (by rw [depD]; have := depDs_le (k := 30) (xs := zs) fun w hw => (hzs w hw).2.2; omega) fun s2 g2 => ?_
    simp only [seval, sv6]
    refine told_it (n := 145) ⟨_, by rw [mS]; rfl⟩ (fun _ => trivial) (by decide) fun s3 g3 => ?_
    simp only [seval, sv6]
    have h3 := (g2.trans g3).at h1
    rw [sl_refN h3]
    simp only [seval, sv6]
    rw [wk_ref sto_top]
    simp only [seval, sv6]
    have hcl1 := cut_len (xs := ws) (lo := none) (hi := some 1)
    have hw1 : ∀ w ∈ cutF ws none (some 1), Wg w := fun w hw => hws w (cut_mem hw)
    generalize cutF ws none (some 1) = us at hcl1 hw1
    have hU : (s3 ++ [O.lst us])[s3.length]? = some (.lst us) := sto_top
    generalize s3 ++ [O.lst us] = s4 at hU
    generalize s3.length = U at hU
    refine lc_wp (I := fun dl acc s => (∀ w ∈ dl, Wg w) ∧ (∃ k : Nat, acc = (List.replicate k true).map D.bl) ∧ acc.length + dl.length ≤ 20 ∧ s[U]? = some (.lst us)) ?_ ?_ ?_ _ _ _ ⟨hw1, ⟨0, rfl⟩, by simp; omega, hU⟩
    · rintro dl acc s ⟨-, -, -, h0⟩
      exact stands_at h0
    · rintro y dl acc s ⟨hdl, ⟨k, rfl⟩, hal, h0⟩
      have hy := hdl y List.mem_cons_self
      rw [List.length_cons] at hal
      simp only [seval, sv6, wipeF]
      refine told_it (n := 145) hy.1 hy.2.1 (by have := hy.2.2; omega) fun s g => ?_
      simp only [seval, sv6]
      refine ⟨by omega, fun w hw => hdl w (List.mem_cons_of_mem _ hw), ⟨k + 1, by rw [List.replicate_succ', List.map_append]; rfl⟩, by rw [List.length_append]; simp at hal ⊢; omega, g.at h0⟩
    rintro acc s ⟨-, ⟨k, rfl⟩, hal, h0⟩
    simp only [id]
    rw [all_ref sto_top]
    simp only [wp_ok]
    exact congrArg D.bl (by simp)
  obtain ⟨⟨d, st'⟩, e, h⟩ := key
  exact ⟨st', by rw [e]; exact congrArg (fun d => R.ok (d, st')) h⟩
end K02
open PySem PySem.W PySem.Calls PyProof.Rows
theorem PySem.Challenge.cw_leastforge_k02_size_and_depth_holds : PySem.Challenge.rw_leastforge_k02_size_and_depth.Holds := by
  w_on; o_law
  refine HandSHeadRun.head_any (r := OpenLaw.row PySem.Challenge.rw_leastforge_k02_size_and_depth) (q := K02.q0) (H := K02.hk) (ob := K02.ob) (M := 20000) (loose := K02.names) (d := HandSHeadRun.topDef (OpenLaw.row PySem.Challenge.rw_leastforge_k02_size_and_depth).prog 20) (kwd := []) K02.ob_eq
    (by kernel_rfl) (fun s => by kernel_rfl) K02.run (by kernel_rfl) (by kernel_rfl) (by kernel_rfl) (by rfl) (by first | assumption | decide +kernel) (by decide +kernel) ⟨rfl, rfl, rfl, rfl, rfl, by decide +kernel⟩ ?hw ?hc
  case hw => w_witness2
  case hc =>
    exact MP.law_end (n0 := 4) (l := PySem.Challenge.rw_leastforge_k02_size_and_depth) (n := 63) (lv := 225) (id := 15) (L := K02.L) (x := "_law_script") (dl := K02.dr15) rfl (by decide) (by kernel_rfl) ⟨rfl, by decide, by decide⟩ (by kernel_rfl) K02.stat (MP.AllB.at K02.bds) rfl rfl (List.mem_cons_self ..) rfl K02.pure_law
