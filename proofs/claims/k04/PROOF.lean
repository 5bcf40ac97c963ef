import PyProof.Rows.All
import Wide.All
import OpenK.AllK
import Wide.FinOn
import KE.KStateDown
import HandS.ForMost
import HandS.Flow
import HandS.IsInst
import HandS.Wide
import HandS.TupAny
import HandS.TupMul
import HandS.More
import HandS.Conv
import HandS.Zip
import HandS.DictEq
import HandS.Deep
import PyProof.StrOps2
import HandS.RaiseMore
import HandS.RaiseOp
import HandS.StrMore
import HandS.SetFor
import HandS.TupLe
import HandS.Head0
import HandS.Head1
import HandS.Head2
import HandS.HeadEnd
import HandS.HeadHook1
import HandS.HeadHook2
import HandS.HeadHook3
import PySem.Challenge.RW_leastforge_k04_worths_written_and_read
/-! MPCore: a small functional interpreter for the fragment of Python that the program and its laws use.
Values are trees (D); what can change stands in a store (Sto) at numbers. -/
set_option linter.all false
namespace MP

/-- values: kls is a list that is only read (the script) -/
inductive D where
  | non | bl (b : Bool) | int (i : Int) | str (x : List Char) | tup (xs : List D) | kls (xs : List D) | ref (n : Nat)
deriving Inhabited, Repr

/-- keys of dicts -/
inductive Kk where
  | i (n : Int) | s (x : List Char)
deriving DecidableEq, Repr

/-- what stands in the store: a list, a dict, a dict that is walked, an instance -/
inductive O where
  | lst (xs : List D) | dct (kvs : List (Kk × D)) | fdc (kvs : List (Kk × D)) | ins (c : Nat) (fs : List (Nat × D))
deriving Inhabited, Repr

abbrev Sto := List O
abbrev Fr := List (Option D)

/-- answers: a value; an exception of the class c; none -/
inductive R (α : Type) where
  | ok (a : α) | ex (c : Nat) (st : Sto) | no
def R.bind {α β : Type} (x : R α) (f : α → R β) : R β := match x with
  | .ok a => f a
  | .ex c st => .ex c st
  | .no => .no
abbrev RD := R (D × Sto)
def R.of {α : Type} : Option α → R α
  | some a => .ok a
  | none => .no
@[simp] theorem R.bind_ok {α β : Type} (a : α) (f : α → R β) : (R.ok a).bind f = f a := rfl
@[simp] theorem R.bind_no {α β : Type} (f : α → R β) : (R.no : R α).bind f = .no := rfl
@[simp] theorem R.bind_ex {α β : Type} (c : Nat) (st : Sto) (f : α → R β) : (R.ex c st : R α).bind f = .ex c st := rfl
@[simp] theorem R.of_some {α : Type} (a : α) : R.of (some a) = .ok a := rfl
@[simp] theorem R.of_none {α : Type} : R.of (none : Option α) = .no := rfl

/-- the largest length of a list or text -/
def SZ : Nat := 1000000
/-- the most turns of a while -/
def WF : Nat := 1000000

inductive Op where
  | add | sub | mul | mod | fdiv | modN | fdivN | pow | eq | ne | lt | le | gt | ge | mem | nmem
deriving DecidableEq, Repr

/-- what isinstance asks -/
inductive Ty where
  | int | bool | str | tuple | list | dict | cls (c : Nat)
deriving DecidableEq, Repr

/-- built-in functions by values -/
inductive Bi where
  | len | int | str | tuple | list | max2 | min2 | abs | ord | sum | maxl | minl | any | all | sorted | dict | lenset
deriving DecidableEq, Repr

/-- methods of built-in types -/
inductive Bm where
  | append | pop | popAt | extend | clear | reverse | remove | partition | split | join | get | keys | values | items | find | startswith | update
deriving DecidableEq, Repr

mutual
inductive E where
  | v (i : Nat)
  | c (d : D)
  | op (o : Op) (a b : E)
  | neg (a : E)
  | not (a : E)
  | and (a b : E)
  | or (a b : E)
  | ife (c a b : E)
  | chain (o o' : Op) (a b c : E)
  | isN (a : E)
  | notN (a : E)
  | isB (a : E) (neg b : Bool)
  | tup (es : Es)
  | lst (es : Es)
  | dic (kvs : Es)
  | call (f : Nat) (es : Es) (ds : List D)
  | make (c f : Nat) (es : Es) (ds : List D)
  | meth (m : Nat) (o : E) (es : Es)
  | fld (o : E) (f : Nat)
  | ix (a b : E)
  | sl (a : E) (lo hi : Eo)
  | bi (b : Bi) (es : Es)
  | isi (a : E) (t : Ty)
  | bm (m : Bm) (o : E) (es : Es)
  | lc (tg : Tg) (it : It) (ifs : Es) (elt : E) (own : List Nat)
  | kix (kvs : List (List Char × D)) (k : E)
  | kget (kvs : List (List Char × D)) (k d : E)
  | kmem (kvs : List (List Char × D)) (neg : Bool) (k : E)
inductive Es where
  | nil | cons (e : E) (r : Es)
inductive Eo where
  | no | so (e : E)
/-- targets of names -/
inductive Tg where
  | v (i : Nat) | tup (ts : Tgs)
inductive Tgs where
  | nil | cons (t : Tg) (r : Tgs)
/-- what a for walks -/
inductive It where
  | any (e : E) | range1 (e : E) | range2 (a b : E) | enum (e : E) | zip (a b : E) | items (e : E) | values (e : E) | rev (e : E)
end

mutual
inductive S where
  | set (t : Tg) (e : E)
  | setix (o i e : E)
  | setfld (o : E) (f : Nat) (e : E)
  | augfld (o : E) (f : Nat) (e : E)
  | ex (e : E)
  | ret (e : E)
  | retn
  | ife (c : E) (a b : Ss)
  | forr (t : Tg) (it : It) (b : Ss)
  | whl (c : E) (b : Ss)
  | pass
  | raise (c : Nat)
  | nev
inductive Ss where
  | nil | cons (s : S) (r : Ss)
end

/-- a def: how many parameters, how many names, the body -/
structure FD where
  np : Nat
  nn : Nat
  body : Ss
/-- the program: its defs; mth c m: the def of a class's method, with the defaults of its last parameters -/
structure Prog where
  fns : List FD
  mth : List (List (Nat × Nat × List D))
  bases : List (List Nat)

/-! ### values -/
def truthF (st : Sto) : D → Option Bool
  | .non => some false
  | .bl b => some b
  | .int i => some (i != 0)
  | .str x => if x.length ≤ SZ then some (!x.isEmpty) else none
  | .tup xs => some (!xs.isEmpty)
  | .kls xs => some (!xs.isEmpty)
  | .ref n => match st[n]? with
    | some (.lst xs) => some (!xs.isEmpty)
    | some (.dct kvs) => some (!kvs.isEmpty)
    | _ => none

/-- trees of data for == -/
inductive T where
  | non | bl (b : Bool) | int (i : Int) | str (x : List Char) | lst (xs : List T) | tup (xs : List T)
deriving Inhabited, Repr
mutual
def T.eqv : T → T → Bool
  | .non, .non => true
  | .bl a, .bl b => a == b
  | .bl a, .int j => (if a then 1 else 0) == j
  | .int i, .bl b => i == (if b then 1 else 0)
  | .int i, .int j => i == j
  | .str x, .str y => x == y
  | .lst xs, .lst ys => T.eqvs xs ys
  | .tup xs, .tup ys => T.eqvs xs ys
  | _, _ => false
def T.eqvs : List T → List T → Bool
  | [], [] => true
  | x :: xs, y :: ys => T.eqv x y && T.eqvs xs ys
  | _, _ => false
end
mutual
def treeF (st : Sto) : Nat → D → Option T
  | _, .non => some .non
  | _, .bl b => some (.bl b)
  | _, .int i => some (.int i)
  | _, .str x => some (.str x)
  | 0, _ => none
  | n + 1, .tup xs => (treesF st n xs).map .tup
  | n + 1, .kls xs => (treesF st n xs).map .lst
  | n + 1, .ref r => match st[r]? with
    | some (.lst xs) => (treesF st n xs).map .lst
    | _ => none
def treesF (st : Sto) : Nat → List D → Option (List T)
  | _, [] => some []
  | n, x :: xs => match treeF st n x, treesF st n xs with
    | some t, some ts => some (t :: ts)
    | _, _ => none
end
def eqT (st : Sto) (x y : D) : Option Bool :=
  match treeF st 60 x, treeF st 60 y with
  | some a, some b => some (T.eqv a b)
  | _, _ => none

def idxF (n : Nat) (i : Int) : Option Nat := if 0 ≤ i then (if i < n then some i.toNat else none) else if -(n : Int) ≤ i then some (i + n).toNat else none
def atF {α : Type} (xs : List α) (i : Int) : Option α := (idxF xs.length i).bind fun j => xs[j]?
def slIx (n d : Nat) : Option Int → Nat
  | none => d
  | some v => if v < 0 then (v + (n : Int)).toNat else min v.toNat n
def cutF {α : Type} (xs : List α) (lo hi : Option Int) : List α := (xs.drop (slIx xs.length 0 lo)).take (slIx xs.length xs.length hi - slIx xs.length 0 lo)

/-- the items of a list or tuple -/
def seqF (st : Sto) : D → Option (List D)
  | .tup xs => some xs
  | .kls xs => some xs
  | .ref n => match st[n]? with
    | some (.lst xs) => some xs
    | _ => none
  | _ => none
def keyF : D → Option Kk
  | .int i => some (.i i)
  | .str x => some (.s x)
  | _ => none
def keyD : Kk → D
  | .i n => .int n
  | .s x => .str x
def getK (kvs : List (Kk × D)) (k : Kk) : Option D := (kvs.find? fun kv => decide (kv.1 = k)).map (·.2)
def putK (kvs : List (Kk × D)) (k : Kk) (v : D) : List (Kk × D) :=
  if (kvs.any fun kv => decide (kv.1 = k)) = true then kvs.map (fun kv => if kv.1 = k then (kv.1, v) else kv) else kvs ++ [(k, v)]
def dropK (kvs : List (Kk × D)) (k : Kk) : List (Kk × D) := kvs.filter fun kv => decide (kv.1 ≠ k)
/-- the pairs of one dict found in another, alike or not -/
def eqKs (st : Sto) (kb : List (Kk × D)) : List (Kk × D) → Option Bool
  | [] => some true
  | (k, v) :: r => match getK kb k with
    | none => some false
    | some y => match eqT st v y, eqKs st kb r with
      | some a, some b => some (a && b)
      | _, _ => none
def eqD (st : Sto) (x y : D) : Option Bool := match x, y with
  | .ref n, .ref m => match st[n]?, st[m]? with
    | some (.dct a), some (.dct b) => if a.length = b.length then eqKs st b a else some false
    | _, _ => none
  | _, _ => none
def eqF (st : Sto) (x y : D) : Option Bool := match eqT st x y with
  | some b => some b
  | none => eqD st x y
/-- keys and values in turn -/
def pairF : List D → Option (List (Kk × D))
  | [] => some []
  | k :: d :: r => match keyF k, pairF r with
    | some k, some l => some ((k, d) :: l)
    | _, _ => none
  | _ => none
def dictF (st : Sto) (n : Nat) : Option (List (Kk × D)) := match st[n]? with
  | some (.dct kvs) => some kvs
  | some (.fdc kvs) => some kvs
  | _ => none
def isDictF (st : Sto) : D → Bool
  | .ref n => (dictF st n).isSome
  | _ => false
/-- S occurs in x -/
def occF (x y : List Char) : Bool := match y with
  | [] => x.isEmpty
  | _ :: r => x.isPrefixOf y || occF x r

/-- the items of a list -/
def listF (st : Sto) : D → Option (List D)
  | .kls xs => some xs
  | .ref n => match st[n]? with
    | some (.lst xs) => some xs
    | _ => none
  | _ => none
def flatF : D → Bool
  | .non => true
  | .bl _ => true
  | .int _ => true
  | .str _ => true
  | _ => false
/-- == of flat things -/
def eqS : D → D → Bool
  | .non, .non => true
  | .bl a, .bl b => a == b
  | .bl a, .int b => (if a then 1 else 0) == b
  | .int a, .bl b => a == (if b then 1 else 0)
  | .int a, .int b => a == b
  | .str a, .str b => a == b
  | _, _ => false
def memF (st : Sto) (x y : D) : Option Bool := match y with
  | .str b => match x with
    | .str [c] => some (decide (c ∈ b))
    | _ => none
  | .ref n => match dictF st n with
    | some kvs => (keyF x).map fun k => (getK kvs k).isSome
    | none => memL st x y
  | _ => memL st x y
where memL (st : Sto) (x y : D) : Option Bool := match y with
  | .tup xs => if flatF x && xs.all flatF then some (xs.any fun z => eqS z x) else none
  | _ => match listF st y with
    | some xs => if flatF x && xs.all flatF then some (xs.any fun z => eqS z x) else (match treeF st 50 x, treesF st 50 xs with
      | some t, some ts => some (ts.any fun z => T.eqv z t)
      | _, _ => none)
    | none => none

def cmpS : List Char → List Char → Bool
  | _, [] => false
  | [], _ :: _ => true
  | a :: x, b :: y => if a.toNat < b.toNat then true else if a.toNat = b.toNat then cmpS x y else false

def newF (st : Sto) (o : O) : RD := .ok (.ref st.length, st ++ [o])

def opF (o : Op) (x y : D) (st : Sto) : RD := match o with
  | .add => match x, y with
    | .int i, .int j => .ok (.int (i + j), st)
    | .str a, .str b => if a.length + b.length ≤ SZ then .ok (.str (a ++ b), st) else .no
    | .tup a, .tup b => if a.length + b.length ≤ SZ then .ok (.tup (a ++ b), st) else .no
    | .ref a, .ref b => match st[a]?, st[b]? with
      | some (.lst xs), some (.lst ys) => if xs.length + ys.length ≤ SZ then newF st (.lst (xs ++ ys)) else .no
      | _, _ => .no
    | _, _ => .no
  | .sub => match x, y with
    | .int i, .int j => .ok (.int (i - j), st)
    | _, _ => .no
  | .mul => match x, y with
    | .int i, .int j => if i.natAbs.log2 + j.natAbs.log2 < 1000000 then .ok (.int (i * j), st) else .no
    | .str a, .int j => if 0 ≤ j ∧ j ≤ 100000 ∧ a.length * j.toNat ≤ SZ then .ok (.str (List.replicate j.toNat a).flatten, st) else .no
    | .tup a, .int j => if a ≠ [] ∧ 2 ≤ j ∧ j ≤ 1000 ∧ a.length ≤ 1000 then .ok (.tup (List.replicate j.toNat a).flatten, st) else .no
    | .ref a, .int j => match st[a]? with
      | some (.lst xs) => if 0 ≤ j ∧ j ≤ 100000 ∧ xs.length * j.toNat ≤ SZ then newF st (.lst (List.replicate j.toNat xs).flatten) else .no
      | _ => .no
    | _, _ => .no
  | .mod => match x, y with
    | .int i, .int j => if 0 < j then .ok (.int (i % j), st) else .no
    | _, _ => .no
  | .fdiv => match x, y with
    | .int i, .int j => if 0 < j ∧ j.natAbs.log2 < 9000 then .ok (.int (i / j), st) else .no
    | _, _ => .no
  | .modN => match x, y with
    | .int i, .int j => if j ≠ 0 then .ok (.int (i.fmod j), st) else .no
    | _, _ => .no
  | .fdivN => match x, y with
    | .int i, .int j => if j ≠ 0 ∧ j.natAbs.log2 < 9000 then .ok (.int (i.fdiv j), st) else .no
    | _, _ => .no
  | .pow => match x, y with
    | .int i, .int j => if 0 ≤ j ∧ j ≤ 1000000 ∧ i.natAbs < 2 ^ 64 then .ok (.int (i ^ j.toNat), st) else .no
    | _, _ => .no
  | .eq => (R.of (eqF st x y)).bind fun b => .ok (.bl b, st)
  | .ne => (R.of (eqF st x y)).bind fun b => .ok (.bl (!b), st)
  | .lt => match x, y with
    | .int i, .int j => .ok (.bl (decide (i < j)), st)
    | .str a, .str b => .ok (.bl (cmpS a b), st)
    | _, _ => .no
  | .le => match x, y with
    | .int i, .int j => .ok (.bl (decide (i ≤ j)), st)
    | .str a, .str b => .ok (.bl (!cmpS b a), st)
    | _, _ => .no
  | .gt => match x, y with
    | .int i, .int j => .ok (.bl (decide (j < i)), st)
    | .str a, .str b => .ok (.bl (cmpS b a), st)
    | _, _ => .no
  | .ge => match x, y with
    | .int i, .int j => .ok (.bl (decide (j ≤ i)), st)
    | .str a, .str b => .ok (.bl (!cmpS a b), st)
    | _, _ => .no
  | .mem => (R.of (memF st x y)).bind fun b => .ok (.bl b, st)
  | .nmem => (R.of (memF st x y)).bind fun b => .ok (.bl (!b), st)

def fldN : List (Nat × D) → Nat → Option D
  | [], _ => none
  | (g, d) :: r, f => if g = f then some d else fldN r f
def putN (f : Nat) (d : D) : List (Nat × D) → List (Nat × D)
  | [] => [(f, d)]
  | (g, e) :: r => if g = f then (g, d) :: r else (g, e) :: putN f d r
def fldF (st : Sto) (o : D) (f : Nat) : Option D := match o with
  | .ref n => match st[n]? with
    | some (.ins _ fs) => fldN fs f
    | _ => none
  | _ => none
def setFldF (st : Sto) (o : D) (f : Nat) (d : D) : Option Sto := match o with
  | .ref n => match st[n]? with
    | some (.ins c fs) => if fs.length < 500 then some (st.set n (.ins c (putN f d fs))) else none
    | _ => none
  | _ => none

def ixF (st : Sto) (x y : D) : Option D := match x with
  | .str a => match y with
    | .int i => if a.length ≤ SZ then (atF a i).map fun c => .str [c] else none
    | _ => none
  | .tup xs => match y with
    | .int i => atF xs i
    | _ => none
  | .kls xs => match y with
    | .int i => atF xs i
    | _ => none
  | .ref n => match st[n]? with
    | some (.lst xs) => match y with
      | .int i => atF xs i
      | _ => none
    | some (.dct kvs) => (keyF y).bind (getK kvs)
    | some (.fdc kvs) => (keyF y).bind (getK kvs)
    | _ => none
  | _ => none
def setIxF (st : Sto) (x y d : D) : Option Sto := match x with
  | .ref n => match st[n]? with
    | some (.lst xs) => match y with
      | .int i => (idxF xs.length i).map fun j => st.set n (.lst (xs.set j d))
      | _ => none
    | some (.dct kvs) => match keyF y with
      | some k => if kvs.length < SZ then some (st.set n (.dct (putK kvs k d))) else none
      | none => none
    | _ => none
  | _ => none

def intO : Option D → Option (Option Int)
  | none => some none
  | some (.int i) => some (some i)
  | some _ => none
def slF (st : Sto) (x : D) (lo hi : Option Int) : RD := match x with
  | .str a => if a.length ≤ SZ then .ok (.str (cutF a lo hi), st) else .no
  | .tup xs => .ok (.tup (cutF xs lo hi), st)
  | .kls xs => newF st (.lst (cutF xs lo hi))
  | .ref n => match st[n]? with
    | some (.lst xs) => newF st (.lst (cutF xs lo hi))
    | _ => .no
  | _ => .no

def isiF (P : Prog) (st : Sto) (x : D) (t : Ty) : Option Bool := match x with
  | .non => match t with | .cls _ => none | _ => some false
  | .bl _ => match t with | .cls _ => none | .int => some true | .bool => some true | _ => some false
  | .int _ => match t with | .cls _ => none | .int => some true | _ => some false
  | .str _ => match t with | .cls _ => none | .str => some true | _ => some false
  | .tup _ => match t with | .cls _ => none | .tuple => some true | _ => some false
  | .kls _ => match t with | .cls _ => none | .list => some true | _ => some false
  | .ref n => match st[n]? with
    | some (.lst _) => (match t with | .cls _ => none | .list => some true | _ => some false)
    | some (.dct _) => (match t with | .cls _ => none | .dict => some true | _ => some false)
    | _ => none

/-! ### texts -/
def partF (c : Char) : List Char → Option (List Char × List Char)
  | [] => none
  | x :: r => if x = c then some ([], r) else (partF c r).map fun p => (x :: p.1, p.2)
def splitF (c : Char) : List Char → List (List Char)
  | [] => [[]]
  | x :: r => if x = c then [] :: splitF c r else match splitF c r with
    | [] => [[x]]
    | y :: ys => (x :: y) :: ys
def joinF (s : List Char) : List (List Char) → List Char
  | [] => []
  | [x] => x
  | x :: y :: r => x ++ s ++ joinF s (y :: r)
def strsF : List D → Option (List (List Char))
  | [] => some []
  | .str x :: r => (strsF r).map (x :: ·)
  | _ => none
def intsF : List D → Option (List Int)
  | [] => some []
  | .int x :: r => (intsF r).map (x :: ·)
  | _ => none
def blsF : List D → Option (List Bool)
  | [] => some []
  | .bl x :: r => (blsF r).map (x :: ·)
  | _ => none
def digF (n : Nat) : List Char := Nat.toDigits 10 n
def showI : Int → List Char
  | .ofNat n => digF n
  | .negSucc n => '-' :: digF (n + 1)
/-- a text of figures as a number -/
def isDig (c : Char) : Bool := decide (48 ≤ c.toNat) && decide (c.toNat ≤ 57)
def valF (cs : List Char) : Nat := cs.foldl (fun n c => n * 10 + (c.toNat - 48)) 0
def intF : List Char → Option Int
  | [] => none
  | c :: r => if c = '-' then (if (r.all isDig && !r.isEmpty) = true then some (-(valF r : Int)) else none) else if (c :: r).all isDig = true then some (valF (c :: r)) else none
/-- where the sign c stands first from k on -/
def findF (c : Char) : Nat → List Char → Int
  | _, [] => -1
  | k, x :: r => if x = c then k else findF c (k + 1) r
def insS (x : List Char) : List (List Char) → List (List Char)
  | [] => [x]
  | y :: r => if cmpS y x then y :: insS x r else x :: y :: r
def sortS : List (List Char) → List (List Char)
  | [] => []
  | x :: r => insS x (sortS r)

def maxI : List Int → Option Int
  | [] => none
  | x :: r => some (r.foldl (fun a b => if b > a then b else a) x)
def minI : List Int → Option Int
  | [] => none
  | x :: r => some (r.foldl (fun a b => if b < a then b else a) x)

def biF (b : Bi) (xs : List D) (st : Sto) : RD := match b, xs with
  | .len, [x] => match x with
    | .str a => if a.length ≤ SZ then .ok (.int a.length, st) else .no
    | .ref n => match st[n]? with
      | some (.lst ys) => .ok (.int ys.length, st)
      | some (.dct kvs) => .ok (.int kvs.length, st)
      | _ => .no
    | .tup ys => .ok (.int ys.length, st)
    | .kls ys => .ok (.int ys.length, st)
    | _ => .no
  | .int, [x] => match x with
    | .int i => .ok (.int i, st)
    | .bl k => .ok (.int (if k then 1 else 0), st)
    | .str a => if a.length ≤ 640 then (match intF a with
      | some n => .ok (.int n, st)
      | none => .no) else .no
    | _ => .no
  | .str, [x] => match x with
    | .int i => if i.natAbs.log2 < 1900 then .ok (.str (showI i), st) else .no
    | .str a => .ok (.str a, st)
    | _ => .no
  | .tuple, [x] => match seqF st x with
    | some ys => .ok (.tup ys, st)
    | none => .no
  | .list, [x] => match seqF st x with
    | some ys => newF st (.lst ys)
    | none => match x with
      | .ref n => match dictF st n with
        | some kvs => newF st (.lst (kvs.map fun kv => keyD kv.1))
        | none => .no
      | _ => .no
  | .max2, [.int i, .int j] => .ok (.int (if j > i then j else i), st)
  | .min2, [.int i, .int j] => .ok (.int (if j < i then j else i), st)
  | .abs, [.int i] => .ok (.int (if i < 0 then -i else i), st)
  | .ord, [.str [c]] => .ok (.int c.toNat, st)
  | .sum, [x] => match (listF st x).bind intsF with
    | some ns => .ok (.int ns.sum, st)
    | none => .no
  | .maxl, [x] => match ((listF st x).bind intsF).bind maxI with
    | some m => .ok (.int m, st)
    | none => .no
  | .minl, [x] => match ((listF st x).bind intsF).bind minI with
    | some m => .ok (.int m, st)
    | none => .no
  | .any, [x] => match (listF st x).bind blsF with
    | some bs => .ok (.bl (bs.any id), st)
    | none => .no
  | .all, [x] => match (listF st x).bind blsF with
    | some bs => .ok (.bl (bs.all id), st)
    | none => .no
  | .sorted, [x] => match x with
    | .ref n => match dictF st n with
      | some kvs => match strsF (kvs.map fun kv => keyD kv.1) with
        | some ss => if ss.length < 64 then newF st (.lst ((sortS ss).map .str)) else .no
        | none => .no
      | none => match (listF st x).bind strsF with
        | some ss => if ss.length < 64 then newF st (.lst ((sortS ss).map .str)) else .no
        | none => .no
    | _ => .no
  | .dict, [x] => match x with
    | .ref n => match dictF st n with
      | some kvs => newF st (.dct kvs)
      | none => .no
    | _ => .no
  | _, _ => .no

def eraseF (x : List Char) : List D → Option (List D)
  | [] => none
  | d :: r => match d with
    | .str y => if y = x then some r else (eraseF x r).map (d :: ·)
    | _ => none

/-- kinds of things that have methods of their own -/
inductive Kd where
  | s | l | d
deriving DecidableEq, Repr
def kindF (st : Sto) : D → Option Kd
  | .str _ => some .s
  | .ref n => match st[n]? with
    | some (.lst _) => some .l
    | some (.dct _) => some .d
    | some (.fdc _) => some .d
    | _ => none
  | _ => none
def lstF (st : Sto) (n : Nat) : Option (List D) := match st[n]? with
  | some (.lst xs) => some xs
  | _ => none
def dctF (st : Sto) (n : Nat) : Option (List (Kk × D)) := match st[n]? with
  | some (.dct xs) => some xs
  | _ => none
/-- a list's methods -/
def lmF (m : Bm) (n : Nat) (ys : List D) (xs : List D) (st : Sto) : RD := match m, xs with
  | .append, [d] => if ys.length < SZ then .ok (.non, st.set n (.lst (ys ++ [d]))) else .no
  | .pop, [] => match ys[ys.length - 1]? with
    | some d => .ok (d, st.set n (.lst ys.dropLast))
    | none => .no
  | .extend, [.ref k] => match lstF st k with
    | some zs => if ys.length + zs.length ≤ SZ then .ok (.non, st.set n (.lst (ys ++ zs))) else .no
    | none => .no
  | .clear, [] => .ok (.non, st.set n (.lst []))
  | .reverse, [] => .ok (.non, st.set n (.lst ys.reverse))
  | .remove, [.str x] => match strsF ys with
    | some ss => if x ∈ ss then .ok (.non, st.set n (.lst ((ss.erase x).map .str))) else .no
    | none => .no
  | _, _ => .no
/-- a dict's methods -/
def dmF (m : Bm) (n : Nat) (xs : List D) (st : Sto) : RD := match m, xs with
  | .get, [k] => match dictF st n, keyF k with
    | some kvs, some k => .ok ((getK kvs k).getD .non, st)
    | _, _ => .no
  | .get, [k, d] => match dictF st n, keyF k with
    | some kvs, some k => .ok ((getK kvs k).getD d, st)
    | _, _ => .no
  | .pop, [k] => match dctF st n, keyF k with
    | some kvs, some k => (match getK kvs k with
      | some d => .ok (d, st.set n (.dct (dropK kvs k)))
      | none => .no)
    | _, _ => .no
  | .pop, [k, d] => match dctF st n, keyF k with
    | some kvs, some k => (match getK kvs k with
      | some e => .ok (e, st.set n (.dct (dropK kvs k)))
      | none => .ok (d, st))
    | _, _ => .no
  | _, _ => .no
/-- a text's methods -/
def headIs (c : Char) : List Char → Bool
  | x :: _ => decide (x = c)
  | [] => false
def smF (m : Bm) (a : List Char) (xs : List D) (st : Sto) : RD := match m, xs with
  | .partition, [.str [c]] => if a.length ≤ SZ then (match partF c a with
      | some p => .ok (.tup [.str p.1, .str [c], .str p.2], st)
      | none => .ok (.tup [.str a, .str [], .str []], st)) else .no
  | .split, [.str [c]] => if a.length + 2 ≤ SZ ∧ c.toNat < 256 then newF st (.lst ((splitF c a).map .str)) else .no
  | .join, [x] => match (seqF st x).bind strsF with
    | some ys => if (ys.map (·.length)).sum + ys.length * a.length ≤ SZ then .ok (.str (joinF a ys), st) else .no
    | none => .no
  | .startswith, [.str [c]] => .ok (.bl (headIs c a), st)
  | .find, [.str [c]] => if a.length ≤ SZ then .ok (.int (findF c 0 a), st) else .no
  | .find, [.str [c], .int i] => if a.length ≤ SZ ∧ 0 ≤ i then .ok (.int (findF c i.toNat (a.drop i.toNat)), st) else .no
  | _, _ => .no
def bmF (k : Kd) (m : Bm) (o : D) (xs : List D) (st : Sto) : RD := match k, o with
  | .s, .str a => smF m a xs st
  | .l, .ref n => match lstF st n with
    | some ys => lmF m n ys xs st
    | none => .no
  | .d, .ref n => dmF m n xs st
  | _, _ => .no

def getKk (kvs : List (List Char × D)) (k : List Char) : Option D := (kvs.find? fun kv => decide (kv.1 = k)).map (·.2)

/-! ### what a for walks: the items, and whether the thing walked still stands so -/
structure Wk where
  ds : List D
  ok : Sto → Bool
mutual
def D.beq : D → D → Bool
  | .non, .non => true
  | .bl a, .bl b => a == b
  | .int i, .int j => i == j
  | .str x, .str y => x == y
  | .tup xs, .tup ys => D.beqs xs ys
  | .kls xs, .kls ys => D.beqs xs ys
  | .ref n, .ref m => n == m
  | _, _ => false
def D.beqs : List D → List D → Bool
  | [], [] => true
  | x :: xs, y :: ys => D.beq x y && D.beqs xs ys
  | _, _ => false
end
def stands (n : Nat) (xs : List D) (st : Sto) : Bool := match st[n]? with
  | some (.lst ys) => D.beqs xs ys
  | _ => false
def standsD (x : D) (xs : List D) (st : Sto) : Bool := match x with
  | .ref n => stands n xs st
  | _ => true
def rangeF (lo : Int) (n : Nat) : List D := (List.range n).map fun (k : Nat) => D.int (lo + k)
def enumF : Nat → List D → List D
  | _, [] => []
  | k, x :: r => .tup [.int k, x] :: enumF (k + 1) r
def zipF : List D → List D → List D
  | x :: xs, y :: ys => .tup [x, y] :: zipF xs ys
  | _, _ => []
def signsF (x : List Char) : List D := x.map fun c => .str [c]

/-! ### targets -/
mutual
def tgF : Tg → D → Fr → Option Fr
  | .v i, d, fr => some (fr.set i (some d))
  | .tup ts, d, fr => match d with
    | .tup ds => tgsF ts ds fr
    | _ => none
def tgsF : Tgs → List D → Fr → Option Fr
  | .nil, [], fr => some fr
  | .cons t r, d :: ds, fr => match tgF t d fr with
    | some fr => tgsF r ds fr
    | none => none
  | _, _, _ => none
end
def wipeF (fr : Fr) : List Nat → Fr
  | [] => fr
  | v :: vs => (wipeF fr vs).set v none

abbrev Cf := Nat → List D → Sto → RD

section
variable (P : Prog) (cf mf : Cf)

def findM (c m : Nat) : Option (Nat × List D) := match P.mth[c]? with
  | some ms => (ms.find? fun p => p.1 == m).map (·.2)
  | none => none

/-- the defaults that fill up -/
def dflF (f : Nat) (ds : List D) (n : Nat) : List D := match P.fns[f]? with
  | some fd => ds.drop (ds.length - (fd.np - n))
  | none => []
def clsF (st : Sto) (o : D) : Option Nat := match o with
  | .ref n => match st[n]? with
    | some (.ins c _) => some c
    | _ => none
  | _ => none

/-- a name, a field of a name, .. : what evaluates to the same while a dict is locked -/
def pathE : E → Bool
  | .v _ => true
  | .fld e _ => pathE e
  | _ => false
/-- turns of a comprehension -/
def lcF (ok : Sto → Bool) (turn : D → Sto → R (Option D × Sto)) : List D → List D → Sto → R (List D × Sto)
  | [], acc, st => if ok st then .ok (acc, st) else .no
  | d :: ds, acc, st => if ok st then (turn d st).bind fun p => match p.1 with
      | some y => if acc.length < SZ then lcF ok turn ds (acc ++ [y]) p.2 else .no
      | none => lcF ok turn ds acc p.2
    else .no

mutual
def evE : E → Fr → Sto → RD
  | .v i, fr, st => match fr[i]? with
    | some (some d) => .ok (d, st)
    | _ => .no
  | .c d, _, st => .ok (d, st)
  | .op o a b, fr, st => (evE a fr st).bind fun p => (evE b fr p.2).bind fun q => opF o p.1 q.1 q.2
  | .neg a, fr, st => (evE a fr st).bind fun p => match p.1 with
    | .int i => .ok (.int (-i), p.2)
    | _ => .no
  | .not a, fr, st => (evE a fr st).bind fun p => match truthF p.2 p.1 with
    | some b => .ok (.bl (!b), p.2)
    | none => .no
  | .and a b, fr, st => (evE a fr st).bind fun p => match truthF p.2 p.1 with
    | some true => evE b fr p.2
    | some false => .ok p
    | none => .no
  | .or a b, fr, st => (evE a fr st).bind fun p => match truthF p.2 p.1 with
    | some true => .ok p
    | some false => evE b fr p.2
    | none => .no
  | .ife c a b, fr, st => (evE c fr st).bind fun p => match truthF p.2 p.1 with
    | some true => evE a fr p.2
    | some false => evE b fr p.2
    | none => .no
  | .chain o o' a b c, fr, st => (evE a fr st).bind fun p => (evE b fr p.2).bind fun q => (opF o p.1 q.1 q.2).bind fun r => match r.1 with
    | .bl true => (evE c fr r.2).bind fun s => opF o' q.1 s.1 s.2
    | .bl false => .ok r
    | _ => .no
  | .isN a, fr, st => (evE a fr st).bind fun p => .ok (.bl (match p.1 with | .non => true | _ => false), p.2)
  | .notN a, fr, st => (evE a fr st).bind fun p => .ok (.bl (match p.1 with | .non => false | _ => true), p.2)
  | .isB a neg b, fr, st => (evE a fr st).bind fun p => match p.1 with
    | .bl c => .ok (.bl (if neg then !(decide (c = b)) else decide (c = b)), p.2)
    | _ => .no
  | .tup es, fr, st => (evEs es fr st).bind fun p => if p.1.length ≤ SZ then .ok (.tup p.1, p.2) else .no
  | .lst es, fr, st => (evEs es fr st).bind fun p => if p.1.length ≤ SZ then newF p.2 (.lst p.1) else .no
  | .dic es, fr, st => (evEs es fr st).bind fun p => match pairF p.1 with
    | some kvs => if kvs.length ≤ 15 then newF p.2 (.dct (kvs.foldl (fun acc kv => putK acc kv.1 kv.2) [])) else .no
    | none => .no
  | .call f es ds, fr, st => (evEs es fr st).bind fun p => cf f (p.1 ++ ds) p.2
  | .make c f es ds, fr, st => (evEs es fr st).bind fun p => (mf f (.ref p.2.length :: (p.1 ++ ds)) (p.2 ++ [.ins c []])).bind fun q => match q.1 with
    | .non => .ok (.ref p.2.length, q.2)
    | _ => .no
  | .meth m o es, fr, st => (evE o fr st).bind fun p => match clsF p.2 p.1 with
    | some c => match findM P c m with
      | some fd => (evEs es fr p.2).bind fun q => cf fd.1 (p.1 :: (q.1 ++ dflF P fd.1 fd.2 (q.1.length + 1))) q.2
      | none => .no
    | none => .no
  | .fld o f, fr, st => (evE o fr st).bind fun p => (R.of (fldF p.2 p.1 f)).bind fun d => .ok (d, p.2)
  | .ix a b, fr, st => (evE a fr st).bind fun p => (evE b fr p.2).bind fun q => (R.of (ixF q.2 p.1 q.1)).bind fun d => .ok (d, q.2)
  | .sl a lo hi, fr, st => (evE a fr st).bind fun p => (evEo lo fr p.2).bind fun q => (evEo hi fr q.2).bind fun r => slF r.2 p.1 q.1 r.1
  | .bi b es, fr, st => (evEs es fr st).bind fun p => biF b p.1 p.2
  | .isi a t, fr, st => (evE a fr st).bind fun p => (R.of (isiF P p.2 p.1 t)).bind fun b => .ok (.bl b, p.2)
  | .bm m o es, fr, st => (evE o fr st).bind fun p => match kindF p.2 p.1 with
    | some k => (evEs es fr p.2).bind fun q => bmF k m p.1 q.1 q.2
    | none => .no
  | .lc tg it ifs elt own, fr, st => (evIt it fr st).bind fun w =>
      (lcF w.1.ok (fun d st => match tgF tg d (wipeF fr own) with
        | some fr2 => (evIfs ifs fr2 st).bind fun p => if p.1 then (evE elt fr2 p.2).bind fun q => .ok (some q.1, q.2) else .ok (none, p.2)
        | none => .no) w.1.ds [] w.2.1).bind fun q => newF (w.2.2 q.2) (.lst q.1)
  | .kix kvs k, fr, st => (evE k fr st).bind fun p => match p.1 with
    | .str x => (R.of (getKk kvs x)).bind fun d => .ok (d, p.2)
    | _ => .no
  | .kget kvs k d, fr, st => (evE k fr st).bind fun p => (evE d fr p.2).bind fun q => match p.1 with
    | .str x => .ok ((getKk kvs x).getD q.1, q.2)
    | _ => .no
  | .kmem kvs neg k, fr, st => (evE k fr st).bind fun p => match p.1 with
    | .str x => .ok (.bl (if neg then !(getKk kvs x).isSome else (getKk kvs x).isSome), p.2)
    | _ => .no
def evEs : Es → Fr → Sto → R (List D × Sto)
  | .nil, _, st => .ok ([], st)
  | .cons e r, fr, st => (evE e fr st).bind fun p => (evEs r fr p.2).bind fun q => .ok (p.1 :: q.1, q.2)
def evEo : Eo → Fr → Sto → R (Option Int × Sto)
  | .no, _, st => .ok (none, st)
  | .so e, fr, st => (evE e fr st).bind fun p => match p.1 with
    | .int i => .ok (some i, p.2)
    | _ => .no
def evIfs : Es → Fr → Sto → R (Bool × Sto)
  | .nil, _, st => .ok (true, st)
  | .cons e r, fr, st => (evE e fr st).bind fun p => match truthF p.2 p.1 with
    | some true => evIfs r fr p.2
    | some false => .ok (false, p.2)
    | none => .no
/-- what is walked; the store while it is walked; what is done to the store behind -/
def evIt : It → Fr → Sto → R (Wk × Sto × (Sto → Sto))
  | .any e, fr, st => (evE e fr st).bind fun p => match p.1 with
    | .tup ds => .ok (⟨ds, fun _ => true⟩, p.2, id)
    | .kls ds => .ok (⟨ds, fun _ => true⟩, p.2, id)
    | .str x => .ok (⟨signsF x, fun _ => true⟩, p.2, id)
    | .ref n => match p.2[n]? with
      | some (.lst ds) => .ok (⟨ds, stands n ds⟩, p.2, id)
      | some (.dct kvs) => if pathE e then .ok (⟨kvs.map fun kv => keyD kv.1, fun _ => true⟩, p.2.set n (.fdc kvs), fun st => st.set n (.dct kvs)) else .no
      | _ => .no
    | _ => .no
  | .range1 e, fr, st => (evE e fr st).bind fun p => match p.1 with
    | .int j => if -(2 ^ 62) ≤ j ∧ j < 2 ^ 62 then .ok (⟨rangeF 0 j.toNat, fun _ => true⟩, p.2, id) else .no
    | _ => .no
  | .range2 a b, fr, st => (evE a fr st).bind fun p => (evE b fr p.2).bind fun q => match p.1, q.1 with
    | .int i, .int j => if -(2 ^ 62) ≤ i ∧ i < 2 ^ 62 ∧ -(2 ^ 62) ≤ j ∧ j < 2 ^ 62 then .ok (⟨rangeF i (j - i).toNat, fun _ => true⟩, q.2, id) else .no
    | _, _ => .no
  | .enum e, fr, st => (evE e fr st).bind fun p => match p.1 with
    | .kls ds => .ok (⟨enumF 0 ds, fun _ => true⟩, p.2, id)
    | .ref n => match p.2[n]? with
      | some (.lst ds) => .ok (⟨enumF 0 ds, stands n ds⟩, p.2, id)
      | _ => .no
    | _ => .no
  | .zip a b, fr, st => (evE a fr st).bind fun p => (evE b fr p.2).bind fun q => match listF q.2 p.1, listF q.2 q.1 with
    | some xs, some ys => .ok (⟨zipF xs ys, fun s => standsD p.1 xs s && standsD q.1 ys s⟩, q.2, id)
    | _, _ => match p.1, q.1 with
      | .tup xs, .tup ys => .ok (⟨zipF xs ys, fun _ => true⟩, q.2, id)
      | _, _ => .no
  | .items e, fr, st => (evE e fr st).bind fun p => match p.1 with
    | .ref n => match p.2[n]? with
      | some (.dct kvs) => if pathE e then .ok (⟨kvs.map fun kv => .tup [keyD kv.1, kv.2], fun _ => true⟩, p.2.set n (.fdc kvs), fun st => st.set n (.dct kvs)) else .no
      | _ => .no
    | _ => .no
  | .values e, fr, st => (evE e fr st).bind fun p => match p.1 with
    | .ref n => match p.2[n]? with
      | some (.dct kvs) => if pathE e then .ok (⟨kvs.map fun kv => kv.2, fun _ => true⟩, p.2.set n (.fdc kvs), fun st => st.set n (.dct kvs)) else .no
      | _ => .no
    | _ => .no
  | .rev e, fr, st => (evE e fr st).bind fun p => match p.1 with
    | .ref n => match p.2[n]? with
      | some (.lst ds) => .ok (⟨ds.reverse, stands n ds⟩, p.2, id)
      | _ => .no
    | _ => .no
end

/-- how a statement ends -/
inductive C where
  | nx (fr : Fr) (st : Sto) | rt (d : D) (st : Sto) | ex (c : Nat) (fr : Fr) (st : Sto) | no
def R.stm {α : Type} (fr : Fr) (x : R α) (f : α → C) : C := match x with
  | .ok a => f a
  | .ex c st => .ex c fr st
  | .no => .no
@[simp] theorem R.stm_ok {α : Type} (fr : Fr) (a : α) (f : α → C) : (R.ok a).stm fr f = f a := rfl
@[simp] theorem R.stm_no {α : Type} (fr : Fr) (f : α → C) : (R.no : R α).stm fr f = .no := rfl
def C.seq (x : C) (f : Fr → Sto → C) : C := match x with
  | .nx fr st => f fr st
  | .rt d st => .rt d st
  | .ex c fr st => .ex c fr st
  | .no => .no
@[simp] theorem C.seq_nx (fr : Fr) (st : Sto) (f : Fr → Sto → C) : (C.nx fr st).seq f = f fr st := rfl
@[simp] theorem C.seq_rt (d : D) (st : Sto) (f : Fr → Sto → C) : (C.rt d st).seq f = .rt d st := rfl
@[simp] theorem C.seq_no (f : Fr → Sto → C) : C.no.seq f = .no := rfl
/-- behind a walk: what was locked is as it was -/
def C.un (u : Sto → Sto) : C → C
  | .nx fr st => .nx fr (u st)
  | .rt d st => .rt d (u st)
  | .ex c fr st => .ex c fr (u st)
  | .no => .no
/-- turns of a for -/
def forF (ok : Sto → Bool) (turn : D → Fr → Sto → C) : List D → Fr → Sto → C
  | [], fr, st => if ok st then .nx fr st else .no
  | d :: ds, fr, st => if ok st then (turn d fr st).seq (forF ok turn ds) else .no
/-- turns of a while -/
def whlF (test : Fr → Sto → R (Bool × Sto)) (turn : Fr → Sto → C) : Nat → Fr → Sto → C
  | 0, _, _ => .no
  | n + 1, fr, st => (test fr st).stm fr fun p => if p.1 then (turn fr p.2).seq (whlF test turn n) else .nx fr p.2
def testF (x : RD) : R (Bool × Sto) := x.bind fun p => (R.of (truthF p.2 p.1)).bind fun b => .ok (b, p.2)

mutual
def evS : S → Fr → Sto → C
  | .set t e, fr, st => (evE P cf mf e fr st).stm fr fun p => match tgF t p.1 fr with
    | some fr => .nx fr p.2
    | none => .no
  | .setix o i e, fr, st => (evE P cf mf e fr st).stm fr fun p => (evE P cf mf o fr p.2).stm fr fun q => (evE P cf mf i fr q.2).stm fr fun r =>
    match setIxF r.2 q.1 r.1 p.1 with
    | some st => .nx fr st
    | none => .no
  | .setfld o f e, fr, st => (evE P cf mf e fr st).stm fr fun p => (evE P cf mf o fr p.2).stm fr fun q => match setFldF q.2 q.1 f p.1 with
    | some st => .nx fr st
    | none => .no
  | .augfld o f e, fr, st => (evE P cf mf o fr st).stm fr fun p => (R.of (fldF p.2 p.1 f)).stm fr fun x => (evE P cf mf e fr p.2).stm fr fun q =>
    match x, q.1 with
    | .int i, .int j => if clsF q.2 p.1 = clsF p.2 p.1 then (match setFldF q.2 p.1 f (.int (i + j)) with
      | some st => .nx fr st
      | none => .no) else .no
    | _, _ => .no
  | .ex e, fr, st => (evE P cf mf e fr st).stm fr fun p => .nx fr p.2
  | .ret e, fr, st => (evE P cf mf e fr st).stm fr fun p => .rt p.1 p.2
  | .retn, _, st => .rt .non st
  | .ife c a b, fr, st => (testF (evE P cf mf c fr st)).stm fr fun p => if p.1 then evSs a fr p.2 else evSs b fr p.2
  | .forr t it b, fr, st => (evIt P cf mf it fr st).stm fr fun w => (forF w.1.ok (fun d fr st => match tgF t d fr with
      | some fr => evSs b fr st
      | none => .no) w.1.ds fr w.2.1).un w.2.2
  | .whl c b, fr, st => whlF (fun fr st => testF (evE P cf mf c fr st)) (fun fr st => evSs b fr st) WF fr st
  | .pass, fr, st => .nx fr st
  | .raise c, fr, st => .ex c fr st
  | .nev, _, _ => .no
def evSs : Ss → Fr → Sto → C
  | .nil, fr, st => .nx fr st
  | .cons s r, fr, st => (evS s fr st).seq fun fr st => evSs r fr st
end

def startF (nn : Nat) (ds : List D) : Fr := ds.map some ++ List.replicate (nn - ds.length) none
/-- a def runs -/
def runF (f : Nat) (ds : List D) (st : Sto) : RD := match P.fns[f]? with
  | some fd => if ds.length = fd.np then (match evSs P cf mf fd.body (startF fd.nn ds) st with
    | .nx _ st => .ok (.non, st)
    | .rt d st => .ok (d, st)
    | .ex c _ st => .ex c st
    | .no => .no) else .no
  | none => .no
end
def noF : Cf := fun _ _ _ => .no
/-- calls, and makings (one floor lower), n floors deep -/
def callP (P : Prog) : Nat → Cf × Cf
  | 0 => (noF, noF)
  | n + 1 => (runF P (callP P n).1 (callP P n).2, (callP P n).1)
def callF (P : Prog) (n : Nat) : Cf := (callP P n).1
def makeF (P : Prog) (n : Nat) : Cf := (callP P n).2
theorem callF_succ (P : Prog) (n : Nat) : callF P (n + 1) = runF P (callF P n) (makeF P n) := rfl
theorem makeF_succ (P : Prog) (n : Nat) : makeF P (n + 1) = callF P n := rfl
end MP

set_option Elab.async false
set_option linter.all false
set_option maxRecDepth 100000
/-! MPRel: how the interpreter's values and store stand in the layer's heap. -/
namespace MP
open PySem PySem.Spec PyProof.Rows L2

/-! ### texts -/
def toS (x : List Char) : Str := ⟨(x.map Char.toNat).toArray⟩
theorem char_inj : ∀ {a b : Char}, a.toNat = b.toNat → a = b := fun {a b} h => Char.toNat_inj.mp h
theorem map_char_inj : ∀ {x y : List Char}, x.map Char.toNat = y.map Char.toNat → x = y
  | [], [], _ => rfl
  | [], _ :: _, h => by cases h
  | _ :: _, [], h => by cases h
  | a :: x, b :: y, h => by
    rw [List.map_cons, List.map_cons] at h
    injection h with h1 h2
    rw [char_inj h1, map_char_inj h2]
theorem toS_inj {x y : List Char} (h : toS x = toS y) : x = y := by
  have e : (toS x).cps.toList = (toS y).cps.toList := by rw [h]
  exact map_char_inj (by simpa [toS] using e)
theorem toS_len (x : List Char) : (toS x).length = x.length := by simp [toS, Str.length]
theorem toS_app (x y : List Char) : toS (x ++ y) = toS x ++ toS y := by
  show (⟨_⟩ : Str) = ⟨_⟩
  simp [toS]
def toK : Kk → Key
  | .i n => .inl n
  | .s x => .inr (toS x)
theorem toK_inj : ∀ {a b : Kk}, toK a = toK b → a = b
  | .i a, .i b, h => by injection h with h; rw [h]
  | .s a, .s b, h => by injection h with h; rw [toS_inj h]
  | .i a, .s b, h => by cases h
  | .s a, .i b, h => by cases h

/-! ### values -/
/-- a list that is only read: known to the object, or written -/
def SqK (K : PySem.W.Frag) (H : Hp) (a : Addr) (xs : List V) : Prop := (∃ o, H a = some (.frz o (.lst xs))) ∨ SqL K (fun _ => none) a xs
theorem SqK.sq {K : PySem.W.Frag} {H : Hp} {a : Addr} {xs : List V} (h : SqK K H a xs) : SqL K H a xs := by
  rcases h with ⟨o, h⟩ | h
  · exact .inl (.inr ⟨o, h⟩)
  · rcases h with (h | ⟨o, h⟩) | h
    · cases h
    · cases h
    · exact .inr h
mutual
inductive Rep (K : PySem.W.Frag) (ρ : List Addr) (H : Hp) : D → V → Prop where
  | non : Rep K ρ H .non .non
  | bl (b : Bool) : Rep K ρ H (.bl b) (.bl b)
  | int (i : Int) : Rep K ρ H (.int i) (.int i)
  | str (x : List Char) : Rep K ρ H (.str x) (.str (toS x))
  | tup {a : Addr} {ds : List D} {vs : List V} : SqT K H a vs → Reps K ρ H ds vs → Rep K ρ H (.tup ds) (.ref a)
  | kls {a : Addr} {ds : List D} {vs : List V} : SqK K H a vs → Reps K ρ H ds vs → Rep K ρ H (.kls ds) (.ref a)
  | ref {n : Nat} {a : Addr} : ρ[n]? = some a → Rep K ρ H (.ref n) (.ref a)
inductive Reps (K : PySem.W.Frag) (ρ : List Addr) (H : Hp) : List D → List V → Prop where
  | nil : Reps K ρ H [] []
  | cons {d : D} {v : V} {ds : List D} {vs : List V} : Rep K ρ H d v → Reps K ρ H ds vs → Reps K ρ H (d :: ds) (v :: vs)
end
section
variable {K : PySem.W.Frag} {ρ ρ1 ρ2 : List Addr} {H H1 H2 : Hp}
theorem Reps.len : ∀ {ds : List D} {vs : List V}, Reps K ρ H ds vs → ds.length = vs.length
  | _, _, .nil => rfl
  | _, _, .cons _ t => congrArg Nat.succ t.len
theorem Reps.app : ∀ {ds es : List D} {vs us : List V}, Reps K ρ H ds vs → Reps K ρ H es us → Reps K ρ H (ds ++ es) (vs ++ us)
  | _, _, _, _, .nil, h => h
  | _, _, _, _, .cons r t, h => .cons r (t.app h)
theorem Reps.get : ∀ {ds : List D} {vs : List V} {i : Nat} {d : D}, Reps K ρ H ds vs → ds[i]? = some d → ∃ v, vs[i]? = some v ∧ Rep K ρ H d v
  | _, _, _, _, .nil, e => by simp at e
  | _, _, 0, _, .cons r _, e => by simp at e; subst e; exact ⟨_, rfl, r⟩
  | _, _, i + 1, _, .cons _ t, e => by
    obtain ⟨v, h1, h2⟩ := Reps.get (i := i) t (by simpa using e)
    exact ⟨v, by simpa using h1, h2⟩
theorem Reps.get' : ∀ {ds : List D} {vs : List V} {i : Nat} {v : V}, Reps K ρ H ds vs → vs[i]? = some v → ∃ d, ds[i]? = some d ∧ Rep K ρ H d v
  | _, _, _, _, .nil, e => by simp at e
  | _, _, 0, _, .cons r _, e => by simp at e; subst e; exact ⟨_, rfl, r⟩
  | _, _, i + 1, _, .cons _ t, e => by
    obtain ⟨v, h1, h2⟩ := Reps.get' (i := i) t (by simpa using e)
    exact ⟨v, by simpa using h1, h2⟩
theorem Reps.set {d : D} {v : V} (r : Rep K ρ H d v) : ∀ {ds : List D} {vs : List V} (i : Nat), Reps K ρ H ds vs → Reps K ρ H (ds.set i d) (vs.set i v)
  | _, _, _, .nil => .nil
  | _, _, 0, .cons _ t => .cons r t
  | _, _, i + 1, .cons q t => .cons q (Reps.set r i t)
theorem Reps.drop : ∀ {ds : List D} {vs : List V} (n : Nat), Reps K ρ H ds vs → Reps K ρ H (ds.drop n) (vs.drop n)
  | _, _, 0, r => r
  | _, _, _ + 1, .nil => .nil
  | _, _, n + 1, .cons _ t => Reps.drop n t
theorem Reps.take : ∀ {ds : List D} {vs : List V} (n : Nat), Reps K ρ H ds vs → Reps K ρ H (ds.take n) (vs.take n)
  | _, _, 0, _ => .nil
  | _, _, _ + 1, .nil => .nil
  | _, _, n + 1, .cons r t => .cons r (Reps.take n t)
theorem Reps.rev : ∀ {ds : List D} {vs : List V}, Reps K ρ H ds vs → Reps K ρ H ds.reverse vs.reverse
  | _, _, .nil => .nil
  | _, _, .cons r t => by
    rw [List.reverse_cons, List.reverse_cons]
    exact (Reps.rev t).app (.cons r .nil)
theorem Reps.dropLast : ∀ {ds : List D} {vs : List V}, Reps K ρ H ds vs → Reps K ρ H ds.dropLast vs.dropLast := fun {ds vs} r => by
  rw [List.dropLast_eq_take, List.dropLast_eq_take, r.len]
  exact r.take _
theorem Reps.rep (m : Nat) {ds : List D} {vs : List V} (r : Reps K ρ H ds vs) : Reps K ρ H (List.replicate m ds).flatten (List.replicate m vs).flatten := by
  induction m with
  | zero => exact .nil
  | succ m ih =>
    rw [List.replicate_succ, List.replicate_succ, List.flatten_cons, List.flatten_cons]
    exact r.app ih
end

/-- a later heap: the numbers stand, new ones are at new places, what is not ours stands, tuples and read lists stand -/
structure Ext (ρ : List Addr) (H : Hp) (ρ' : List Addr) (H' : Hp) : Prop where
  more : ∃ r, ρ' = ρ ++ r ∧ ∀ a ∈ r, a ∉ ρ → H a = none
  rest : ∀ a o, H a = some o → a ∉ ρ → H' a = some o
  tups : ∀ a xs, H a = some (.tup xs) → H' a = some (.tup xs)
  frzs : ∀ a ob xs, H a = some (.frz ob (.lst xs)) → H' a = some (.frz ob (.lst xs))
  frzt : ∀ a ob xs, H a = some (.frz ob (.tup xs)) → H' a = some (.frz ob (.tup xs))
  frzd : ∀ a ob kvs, H a = some (.frz ob (.dK kvs)) → H' a = some (.frz ob (.dK kvs))
section
variable {K : PySem.W.Frag} {ρ ρ1 ρ2 : List Addr} {H H1 H2 : Hp}
theorem Ext.refl : Ext ρ H ρ H := ⟨⟨[], by simp, by simp⟩, fun _ _ h _ => h, fun _ _ h => h, fun _ _ _ h => h, fun _ _ _ h => h, fun _ _ _ h => h⟩
theorem Ext.trans (a : Ext ρ H ρ1 H1) (b : Ext ρ1 H1 ρ2 H2) : Ext ρ H ρ2 H2 := by
  obtain ⟨r, e, hr⟩ := a.more
  obtain ⟨r2, e2, hr2⟩ := b.more
  have out : ∀ c o, H c = some o → c ∉ ρ → c ∉ ρ1 := fun c o h n hc => by
    rw [e] at hc
    rcases List.mem_append.mp hc with z | z
    · exact n z
    · rw [hr c z n] at h; cases h
  refine ⟨⟨r ++ r2, by rw [e2, e, List.append_assoc], fun c hc n => ?_⟩, fun c o h n => b.rest c o (a.rest c o h n) (out c o h n), fun c xs h => b.tups c xs (a.tups c xs h), fun c o xs h => b.frzs c o xs (a.frzs c o xs h), fun c o xs h => b.frzt c o xs (a.frzt c o xs h), fun c o xs h => b.frzd c o xs (a.frzd c o xs h)⟩
  rcases List.mem_append.mp hc with hc | hc
  · exact hr c hc n
  · cases q : H c with
    | none => rfl
    | some o =>
      have h1 := a.rest c o q n
      rw [hr2 c hc (out c o q n)] at h1
      cases h1
theorem Ext.ix (a : Ext ρ H ρ1 H1) {n : Nat} {c : Addr} (h : ρ[n]? = some c) : ρ1[n]? = some c := by
  obtain ⟨r, e, _⟩ := a.more
  rw [e, List.getElem?_append_left]
  · exact h
  · exact (List.getElem?_eq_some_iff.mp h).1
theorem Ext.sqT (a : Ext ρ H ρ1 H1) {c : Addr} {xs : List V} (h : SqT K H c xs) : SqT K H1 c xs := by
  rcases h with (h | ⟨o, h⟩) | h
  · exact .inl (.inl (a.tups _ _ h))
  · exact .inl (.inr ⟨o, a.frzt _ _ _ h⟩)
  · exact .inr h
theorem Ext.sqK (a : Ext ρ H ρ1 H1) {c : Addr} {xs : List V} (h : SqK K H c xs) : SqK K H1 c xs := by
  rcases h with ⟨o, h⟩ | h
  · exact .inl ⟨o, a.frzs _ _ _ h⟩
  · exact .inr h
mutual
theorem Rep.ext (a : Ext ρ H ρ1 H1) : ∀ {d : D} {v : V}, Rep K ρ H d v → Rep K ρ1 H1 d v
  | _, _, .non => .non
  | _, _, .bl b => .bl b
  | _, _, .int i => .int i
  | _, _, .str x => .str x
  | _, _, .tup h r => .tup (a.sqT h) (Reps.ext a r)
  | _, _, .kls h r => .kls (a.sqK h) (Reps.ext a r)
  | _, _, .ref h => .ref (a.ix h)
theorem Reps.ext (a : Ext ρ H ρ1 H1) : ∀ {ds : List D} {vs : List V}, Reps K ρ H ds vs → Reps K ρ1 H1 ds vs
  | _, _, .nil => .nil
  | _, _, .cons h t => .cons (Rep.ext a h) (Reps.ext a t)
end
end

/-! ### the store -/
def KVs (K : PySem.W.Frag) (ρ : List Addr) (H : Hp) : List (Kk × D) → List (Key × V) → Prop := Paired fun p q => q.1 = toK p.1 ∧ Rep K ρ H p.2 q.2
/-- what names the numbers of attributes and classes are -/
structure Nm where
  fld : List Str
  cls : Nat → Option Addr
def FSs (N : Nm) (K : PySem.W.Frag) (ρ : List Addr) (H : Hp) : List (Nat × D) → List (Str × V) → Prop := Paired fun p q => N.fld[p.1]? = some q.1 ∧ Rep K ρ H p.2 q.2
def OAt (N : Nm) (K : PySem.W.Frag) (ρ : List Addr) (H : Hp) (a : Addr) : O → Prop
  | .lst ds => ∃ vs, H a = some (.lst vs) ∧ Reps K ρ H ds vs
  | .dct kvs => ∃ ws, H a = some (.dK ws) ∧ KVs K ρ H kvs ws
  | .fdc kvs => ∃ o ws, H a = some (.frz o (.dK ws)) ∧ KVs K ρ H kvs ws
  | .ins c fs => ∃ C dx gs, N.cls c = some C ∧ H a = some (.ins C dx gs) ∧ FSs N K ρ H fs gs
structure Rl (N : Nm) (K : PySem.W.Frag) (ρ : List Addr) (st : Sto) (H : Hp) : Prop where
  len : ρ.length = st.length
  nd : ρ.Nodup
  at_ : ∀ (n : Nat) (a : Addr) (o : O), ρ[n]? = some a → st[n]? = some o → OAt N K ρ H a o
/-- the frame -/
structure Rf (K : PySem.W.Frag) (ρ : List Addr) (H : Hp) (fr : Fr) (σ : L2.St) : Prop where
  len : fr.length = σ.length
  at_ : ∀ (i : Nat) d, fr[i]? = some (some d) → ∃ v, σ[i]? = some (some v) ∧ Rep K ρ H d v
section
variable {N : Nm} {K : PySem.W.Frag} {ρ ρ1 ρ2 : List Addr} {H H1 H2 : Hp} {st st1 : Sto} {fr : Fr} {σ : L2.St}
theorem pairedMap {α β : Type} {F G : α → β → Prop} (f : ∀ a b, F a b → G a b) : ∀ {l₁ : List α} {l₂ : List β}, Paired F l₁ l₂ → Paired G l₁ l₂
  | _, _, .nil => .nil
  | _, _, .cons r t => .cons (f _ _ r) (pairedMap f t)
theorem KVs.ext (a : Ext ρ H ρ1 H1) {ks : List (Kk × D)} {ws : List (Key × V)} (h : KVs K ρ H ks ws) : KVs K ρ1 H1 ks ws := pairedMap (fun _ _ z => ⟨z.1, z.2.ext a⟩) h
theorem FSs.ext (a : Ext ρ H ρ1 H1) {ks : List (Nat × D)} {ws : List (Str × V)} (h : FSs N K ρ H ks ws) : FSs N K ρ1 H1 ks ws := pairedMap (fun _ _ z => ⟨z.1, z.2.ext a⟩) h
theorem Rf.ext (a : Ext ρ H ρ1 H1) (h : Rf K ρ H fr σ) : Rf K ρ1 H1 fr σ := ⟨h.len, fun i d e => let ⟨v, h1, h2⟩ := h.at_ i d e; ⟨v, h1, h2.ext a⟩⟩
theorem OAt.some {a : Addr} {o : O} (h : OAt N K ρ H a o) : ∃ u, H a = some u ∧ (∀ xs, u ≠ .tup xs) ∧ (∀ ob xs, u ≠ .frz ob (.lst xs)) ∧ (∀ ob xs, u ≠ .frz ob (.tup xs)) := by
  cases o with
  | lst ds => obtain ⟨vs, e, _⟩ := h; exact ⟨_, e, by simp, by simp, by simp⟩
  | dct ds => obtain ⟨vs, e, _⟩ := h; exact ⟨_, e, by simp, by simp, by simp⟩
  | fdc ds => obtain ⟨o, vs, e, _⟩ := h; exact ⟨_, e, by simp, by simp, by simp⟩
  | ins c fs => obtain ⟨C, dx, vs, _, e, _⟩ := h; exact ⟨_, e, by simp, by simp, by simp⟩
theorem Rl.ix (R : Rl N K ρ st H) {n : Nat} {o : O} (h : st[n]? = some o) : ∃ a, ρ[n]? = some a ∧ OAt N K ρ H a o := by
  have l : n < ρ.length := by rw [R.len]; exact (List.getElem?_eq_some_iff.mp h).1
  exact ⟨ρ[n], List.getElem?_eq_getElem l, R.at_ n _ o (List.getElem?_eq_getElem l) h⟩
theorem Rl.mem (R : Rl N K ρ st H) {a : Addr} (h : a ∈ ρ) : ∃ (n : Nat) (o : O), ρ[n]? = some a ∧ st[n]? = some o ∧ OAt N K ρ H a o := by
  obtain ⟨n, hn, e⟩ := List.mem_iff_getElem.mp h
  have l : n < st.length := by rw [← R.len]; exact hn
  refine ⟨n, st[n], by rw [List.getElem?_eq_getElem hn, e], List.getElem?_eq_getElem l, R.at_ n a _ (by rw [List.getElem?_eq_getElem hn, e]) (List.getElem?_eq_getElem l)⟩
/-- a thing laid outside of the store -/
theorem Rl.lay (R : Rl N K ρ st H) {p : Addr} {u : HO} (hp : H p = none) : Ext ρ H ρ (upd H p u) ∧ Rl N K ρ st (upd H p u) := by
  have e : Ext ρ H ρ (upd H p u) := ⟨⟨[], by simp, by simp⟩, fun a o h _ => by rw [upd_ne (ne_of_none h hp)]; exact h, fun a xs h => by rw [upd_ne (ne_of_none h hp)]; exact h,
    fun a ob xs h => by rw [upd_ne (ne_of_none h hp)]; exact h, fun a ob xs h => by rw [upd_ne (ne_of_none h hp)]; exact h, fun a ob xs h => by rw [upd_ne (ne_of_none h hp)]; exact h⟩
  refine ⟨e, R.len, R.nd, fun n a o h1 h2 => ?_⟩
  have h := R.at_ n a o h1 h2
  cases o with
  | lst ds => obtain ⟨vs, h, r⟩ := h; exact ⟨vs, by rw [upd_ne (ne_of_none h hp)]; exact h, r.ext e⟩
  | dct ds => obtain ⟨vs, h, r⟩ := h; exact ⟨vs, by rw [upd_ne (ne_of_none h hp)]; exact h, r.ext e⟩
  | fdc ds => obtain ⟨o, vs, h, r⟩ := h; exact ⟨o, vs, by rw [upd_ne (ne_of_none h hp)]; exact h, r.ext e⟩
  | ins c fs => obtain ⟨C, dx, vs, hc, h, r⟩ := h; exact ⟨C, dx, vs, hc, by rw [upd_ne (ne_of_none h hp)]; exact h, r.ext e⟩
/-- a thing outside of the store changes, which is no tuple and no read list -/
theorem Rl.out (R : Rl N K ρ st H) {p : Addr} {u u' : HO} (hp : p ∉ ρ) (h0 : H p = some u) (h1 : ∀ xs, u ≠ .tup xs) (h2 : ∀ ob xs, u ≠ .frz ob (.lst xs)) (h3 : ∀ ob xs, u ≠ .frz ob (.tup xs)) : Rl N K ρ st (upd H p u') := by
  have ne : ∀ a o, H a = some o → o ≠ u → a ≠ p := fun a o h z e => by subst e; rw [h0] at h; exact z (Option.some.inj h).symm
  have ext : ∀ {d : D} {v : V}, Rep K ρ H d v → Rep K ρ (upd H p u') d v := by
    have sqT : ∀ {c : Addr} {xs : List V}, SqT K H c xs → SqT K (upd H p u') c xs := fun {c xs} h => by
      rcases h with (h | ⟨o, h⟩) | h
      · exact .inl (.inl (by rw [upd_ne (ne _ _ h (Ne.symm (h1 _)))]; exact h))
      · exact .inl (.inr ⟨o, by rw [upd_ne (ne _ _ h (Ne.symm (h3 _ _)))]; exact h⟩)
      · exact .inr h
    have sqK : ∀ {c : Addr} {xs : List V}, SqK K H c xs → SqK K (upd H p u') c xs := fun {c xs} h => by
      rcases h with ⟨o, h⟩ | h
      · exact .inl ⟨o, by rw [upd_ne (ne _ _ h (Ne.symm (h2 _ _)))]; exact h⟩
      · exact .inr h
    intro d v r
    exact Rep.rec (K := K) (ρ := ρ) (H := H) (motive_1 := fun d v _ => Rep K ρ (upd H p u') d v) (motive_2 := fun ds vs _ => Reps K ρ (upd H p u') ds vs)
      .non .bl .int .str (fun h _ ih => .tup (sqT h) ih) (fun h _ ih => .kls (sqK h) ih) .ref .nil (fun _ _ i1 i2 => .cons i1 i2) r
  have exts : ∀ {ds : List D} {vs : List V}, Reps K ρ H ds vs → Reps K ρ (upd H p u') ds vs := by
    intro ds
    induction ds with
    | nil => intro vs r; cases r; exact .nil
    | cons d ds ih => intro vs r; cases r with | cons r t => exact .cons (ext r) (ih t)
  refine ⟨R.len, R.nd, fun n a o e1 e2 => ?_⟩
  have h := R.at_ n a o e1 e2
  have np : a ≠ p := fun z => hp (z ▸ List.mem_of_getElem? e1)
  cases o with
  | lst ds => obtain ⟨vs, h, r⟩ := h; exact ⟨vs, by rw [upd_ne np]; exact h, exts r⟩
  | dct ds => obtain ⟨vs, h, r⟩ := h; exact ⟨vs, by rw [upd_ne np]; exact h, pairedMap (fun _ _ z => ⟨z.1, ext z.2⟩) r⟩
  | fdc ds => obtain ⟨o, vs, h, r⟩ := h; exact ⟨o, vs, by rw [upd_ne np]; exact h, pairedMap (fun _ _ z => ⟨z.1, ext z.2⟩) r⟩
  | ins c fs => obtain ⟨C, dx, vs, hc, h, r⟩ := h; exact ⟨C, dx, vs, hc, by rw [upd_ne np]; exact h, pairedMap (fun _ _ z => ⟨z.1, ext z.2⟩) r⟩
mutual
theorem Rep.grow (r : List Addr) : ∀ {d : D} {v : V}, Rep K ρ H d v → Rep K (ρ ++ r) H d v
  | _, _, .non => .non
  | _, _, .bl b => .bl b
  | _, _, .int i => .int i
  | _, _, .str x => .str x
  | _, _, .tup h q => .tup h (Reps.grow r q)
  | _, _, .kls h q => .kls h (Reps.grow r q)
  | _, _, .ref (n := n) h => .ref (by rw [List.getElem?_append_left (List.getElem?_eq_some_iff.mp h).1]; exact h)
theorem Reps.grow (r : List Addr) : ∀ {ds : List D} {vs : List V}, Reps K ρ H ds vs → Reps K (ρ ++ r) H ds vs
  | _, _, .nil => .nil
  | _, _, .cons h t => .cons (Rep.grow r h) (Reps.grow r t)
end
theorem OAt.grow (r : List Addr) {a : Addr} {o : O} (h : OAt N K ρ H a o) : OAt N K (ρ ++ r) H a o := by
  cases o with
  | lst ds => obtain ⟨vs, h, q⟩ := h; exact ⟨vs, h, q.grow r⟩
  | dct ds => obtain ⟨vs, h, q⟩ := h; exact ⟨vs, h, pairedMap (fun _ _ z => ⟨z.1, z.2.grow r⟩) q⟩
  | fdc ds => obtain ⟨o, vs, h, q⟩ := h; exact ⟨o, vs, h, pairedMap (fun _ _ z => ⟨z.1, z.2.grow r⟩) q⟩
  | ins c fs => obtain ⟨C, dx, vs, hc, h, q⟩ := h; exact ⟨C, dx, vs, hc, h, pairedMap (fun _ _ z => ⟨z.1, z.2.grow r⟩) q⟩
/-- a thing that stands outside becomes the store's next -/
theorem Rl.grow (R : Rl N K ρ st H) {p : Addr} {o : O} (hp : p ∉ ρ) (new : OAt N K (ρ ++ [p]) H p o) : Rl N K (ρ ++ [p]) (st ++ [o]) H := by
  refine ⟨by rw [List.length_append, List.length_append, R.len]; rfl, ?_, fun n a o' h1 h2 => ?_⟩
  · rw [List.nodup_append]
    exact ⟨R.nd, by simp, fun a ha b hb e => hp (by rw [List.mem_singleton] at hb; rw [← hb, ← e]; exact ha)⟩
  · by_cases hn : n < st.length
    · rw [List.getElem?_append_left (by rw [R.len]; exact hn)] at h1
      rw [List.getElem?_append_left hn] at h2
      exact (R.at_ n a o' h1 h2).grow _
    · have hl : n < (st ++ [o]).length := (List.getElem?_eq_some_iff.mp h2).1
      rw [List.length_append] at hl
      have e : n = st.length := by simp at hl; omega
      subst e
      rw [List.getElem?_append_right (by rw [R.len]; exact Nat.le_refl _), R.len, Nat.sub_self] at h1
      rw [List.getElem?_append_right (Nat.le_refl _), Nat.sub_self] at h2
      cases h1
      cases h2
      exact new
theorem Ext.fresh {p : Addr} {u : HO} (hp : H p = none) (e : Ext ρ (upd H p u) ρ1 H1) (r0 : List Addr) (h0 : ∀ a ∈ r0, a = p) : Ext ρ H (ρ1 ++ r0) H1 := by
  obtain ⟨r, e1, hr⟩ := e.more
  refine ⟨⟨r ++ r0, by rw [e1, List.append_assoc], fun a ha n => ?_⟩, fun a o h n => e.rest a o (by rw [upd_ne (ne_of_none h hp)]; exact h) n, fun a xs h => e.tups a xs (by rw [upd_ne (ne_of_none h hp)]; exact h),
    fun a ob xs h => e.frzs a ob xs (by rw [upd_ne (ne_of_none h hp)]; exact h), fun a ob xs h => e.frzt a ob xs (by rw [upd_ne (ne_of_none h hp)]; exact h), fun a ob xs h => e.frzd a ob xs (by rw [upd_ne (ne_of_none h hp)]; exact h)⟩
  rcases List.mem_append.mp ha with ha | ha
  · have z := hr a ha n
    by_cases q : a = p
    · rw [q]; exact hp
    · rw [upd_ne q] at z; exact z
  · rw [h0 a ha]; exact hp
theorem Rl.notIn (R : Rl N K ρ st H) {p : Addr} (hp : H p = none) : p ∉ ρ := fun h => by
  obtain ⟨n, o, _, _, q⟩ := R.mem h
  obtain ⟨u, e, _⟩ := q.some
  rw [hp] at e; cases e
/-- a new object of the store -/
theorem Rl.new (R : Rl N K ρ st H) {p : Addr} {u : HO} {o : O} (hp : H p = none) (new : OAt N K (ρ ++ [p]) (upd H p u) p o) : Ext ρ H (ρ ++ [p]) (upd H p u) ∧ Rl N K (ρ ++ [p]) (st ++ [o]) (upd H p u) := by
  obtain ⟨e, R2⟩ := R.lay (u := u) hp
  exact ⟨Ext.fresh hp Ext.refl [p] (by simp), R2.grow (R.notIn hp) new⟩
/-- an object of the store written -/
theorem Rl.put (R : Rl N K ρ st H) {n : Nat} {a : Addr} {o o' : O} {u : HO} (ha : ρ[n]? = some a) (ho : st[n]? = some o) (hf : ∀ ob kvs, H a ≠ some (.frz ob (.dK kvs)))
    (new : (∀ {d : D} {v : V}, Rep K ρ H d v → Rep K ρ (upd H a u) d v) → OAt N K ρ (upd H a u) a o') : Ext ρ H ρ (upd H a u) ∧ Rl N K ρ (st.set n o') (upd H a u) := by
  obtain ⟨w, hw, w1, w2, w3⟩ := (R.at_ n a o ha ho).some
  have ne : ∀ c x, H c = some x → x ≠ w → c ≠ a := fun c x h z e => by subst e; rw [hw] at h; exact z (Option.some.inj h).symm
  have e : Ext ρ H ρ (upd H a u) := ⟨⟨[], by simp, by simp⟩, fun c x h n' => by rw [upd_ne (fun z => n' (by rw [z]; exact List.mem_of_getElem? ha))]; exact h, fun c xs h => by rw [upd_ne (ne _ _ h (Ne.symm (w1 _)))]; exact h,
    fun c ob xs h => by rw [upd_ne (ne _ _ h (Ne.symm (w2 _ _)))]; exact h, fun c ob xs h => by rw [upd_ne (ne _ _ h (Ne.symm (w3 _ _)))]; exact h, fun c ob kvs h => by rw [upd_ne (fun z => hf ob kvs (by rw [← z]; exact h))]; exact h⟩
  refine ⟨e, by rw [List.length_set]; exact R.len, R.nd, fun m c x h1 h2 => ?_⟩
  have ln : n < st.length := (List.getElem?_eq_some_iff.mp ho).1
  by_cases hm : n = m
  · subst hm
    rw [ha] at h1; cases h1
    rw [List.getElem?_set_self ln] at h2; cases h2
    exact new fun r => r.ext e
  · rw [List.getElem?_set_ne hm] at h2
    have nc : c ≠ a := fun z => by
      subst z
      obtain ⟨l1, e1⟩ := List.getElem?_eq_some_iff.mp h1
      obtain ⟨l2, e2⟩ := List.getElem?_eq_some_iff.mp ha
      exact hm ((List.getElem_inj R.nd).mp (e2.trans e1.symm))
    have h := R.at_ m c x h1 h2
    cases x with
    | lst ds => obtain ⟨vs, h, r⟩ := h; exact ⟨vs, by rw [upd_ne nc]; exact h, r.ext e⟩
    | dct ds => obtain ⟨vs, h, r⟩ := h; exact ⟨vs, by rw [upd_ne nc]; exact h, r.ext e⟩
    | fdc ds => obtain ⟨o, vs, h, r⟩ := h; exact ⟨o, vs, by rw [upd_ne nc]; exact h, r.ext e⟩
    | ins c' fs => obtain ⟨C, dx, vs, hc, h, r⟩ := h; exact ⟨C, dx, vs, hc, by rw [upd_ne nc]; exact h, r.ext e⟩
/-- behind something that stood outside for a while, at a new place -/
theorem Ext.fin {p : Addr} {u u' : HO} (hp : H p = none) (e : Ext ρ (upd H p u) ρ1 H1) (r0 : List Addr) (h0 : ∀ a ∈ r0, a = p) : Ext ρ H (ρ1 ++ r0) (upd H1 p u') := by
  have f := Ext.fresh hp e r0 h0
  refine ⟨f.more, fun a o h n => ?_, fun a xs h => ?_, fun a ob xs h => ?_, fun a ob xs h => ?_, fun a ob xs h => ?_⟩
  · rw [upd_ne (ne_of_none h hp)]; exact f.rest a o h n
  · rw [upd_ne (ne_of_none h hp)]; exact f.tups a xs h
  · rw [upd_ne (ne_of_none h hp)]; exact f.frzs a ob xs h
  · rw [upd_ne (ne_of_none h hp)]; exact f.frzt a ob xs h
  · rw [upd_ne (ne_of_none h hp)]; exact f.frzd a ob xs h
/-- what stands outside stays outside -/
theorem Ext.outside {p : Addr} {u : HO} (e : Ext ρ H ρ1 H1) (hp : H p = some u) (hn : p ∉ ρ) : p ∉ ρ1 ∧ H1 p = some u := by
  refine ⟨fun h => ?_, e.rest p u hp hn⟩
  obtain ⟨r, e1, hr⟩ := e.more
  rw [e1] at h
  rcases List.mem_append.mp h with h | h
  · exact hn h
  · rw [hr p h hn] at hp; cases hp
end
end MP

set_option Elab.async false
set_option linter.all false
set_option maxRecDepth 100000
set_option maxHeartbeats 1000000
/-! MPOps: the interpreter's operators by values, over the layer's rules. -/
namespace MP
open PySem PySem.Spec PyProof.Rows L2

theorem sz_line : SZ ≤ sizeLine := by rw [sizeLine_eq]; decide
theorem R.bind_eq {α β : Type} {x : R α} {f : α → R β} {b : β} (h : x.bind f = .ok b) : ∃ a, x = .ok a ∧ f a = .ok b := by
  cases x with
  | ok a => exact ⟨a, rfl, h⟩
  | ex c st => cases h
  | no => cases h
theorem R.of_eq {α : Type} {x : Option α} {b : α} (h : R.of x = .ok b) : x = some b := by
  cases x with
  | some a => cases h; rfl
  | none => cases h

/-- what is wanted behind a value -/
def Post (N : Nm) (K : PySem.W.Frag) (ρ : List Addr) (H : Hp) (d : D) (st : Sto) (Q : VK) : Prop := ∀ ρ' H' v, Ext ρ H ρ' H' → Rl N K ρ' st H' → Rep K ρ' H' d v → Q v H'
section
variable {N : Nm} {K : PySem.W.Frag} {ρ ρ1 : List Addr} {H H1 : Hp} {st st1 : Sto} {d : D} {Q : VK} {ds : List D} {vs : List V}
theorem Post.after (P : Post N K ρ H d st Q) (E : Ext ρ H ρ1 H1) : Post N K ρ1 H1 d st Q := fun ρ' H' v e r q => P ρ' H' v (E.trans e) r q
theorem Post.here (P : Post N K ρ H d st Q) (R : Rl N K ρ st H) {v : V} (r : Rep K ρ H d v) : Q v H := P ρ H v Ext.refl R r
theorem Post.tup (P : Post N K ρ H (.tup ds) st Q) (R : Rl N K ρ st H) (r : Reps K ρ H ds vs) : ∀ p, H p = none → Q (.ref p) (upd H p (.tup vs)) := fun p hp => by
  obtain ⟨e, R2⟩ := R.lay (u := .tup vs) hp
  exact P _ _ _ e R2 (.tup (.inl (.inl upd_same)) (r.ext e))
theorem Rl.top (R : Rl N K ρ st H) {p : Addr} : (ρ ++ [p])[st.length]? = some p := by
  rw [List.getElem?_append_right (by rw [R.len]; exact Nat.le_refl _), R.len, Nat.sub_self]; rfl
theorem Post.lst (P : Post N K ρ H (.ref st.length) (st ++ [.lst ds]) Q) (R : Rl N K ρ st H) (r : Reps K ρ H ds vs) : ∀ p, H p = none → Q (.ref p) (upd H p (.lst vs)) := fun p hp => by
  have e0 : Ext ρ H (ρ ++ [p]) (upd H p (.lst vs)) := Ext.fresh hp Ext.refl [p] (by simp)
  obtain ⟨e, R2⟩ := R.new (u := .lst vs) (o := .lst ds) hp ⟨vs, upd_same, r.ext e0⟩
  exact P _ _ _ e R2 (.ref R.top)
theorem Post.dct {kvs : List (Kk × D)} {ws : List (Key × V)} (P : Post N K ρ H (.ref st.length) (st ++ [.dct kvs]) Q) (R : Rl N K ρ st H) (r : KVs K ρ H kvs ws) : ∀ p, H p = none → Q (.ref p) (upd H p (.dK ws)) := fun p hp => by
  have e0 : Ext ρ H (ρ ++ [p]) (upd H p (.dK ws)) := Ext.fresh hp Ext.refl [p] (by simp)
  obtain ⟨e, R2⟩ := R.new (u := .dK ws) (o := .dct kvs) hp ⟨ws, upd_same, r.ext e0⟩
  exact P _ _ _ e R2 (.ref R.top)
end

/-! ### two values -/
def Op2Ok (X : Cx) (N : Nm) (F : Value → Value → Sem Value) (g : D → D → Sto → RD) : Prop :=
  ∀ (ρ : List Addr) (st : Sto) (H : Hp) (dx dy : D) (x y : V) (d : D) (st' : Sto), Rl N X.K ρ st H → Rep X.K ρ H dx x → Rep X.K ρ H dy y → g dx dy st = .ok (d, st') →
    ∃ r : R2, OpR X F r ∧ ∀ Q : VK, Post N X.K ρ H d st' Q → r x y H Q
def rAny (X : Cx) (F : Value → Value → Sem Value) : R2 := fun x y H Q => ∃ r : R2, OpR X F r ∧ r x y H Q
theorem opR_any {X : Cx} {F : Value → Value → Sem Value} : OpR X F (rAny X F) := fun pins s σ H x y v u Q I rx ry ⟨_, h, q⟩ => h pins s σ H x y v u Q I rx ry q

section
variable {X : Cx} {N : Nm}
theorem seq_at {ρ : List Addr} {st : Sto} {H : Hp} {d : D} {v : V} {xs : List D} (R : Rl N X.K ρ st H) (r : Rep X.K ρ H d v) (h : seqF st d = some xs) : ∃ a vs, v = .ref a ∧ Reps X.K ρ H xs vs ∧ (SqL X.K H a vs ∨ SqT X.K H a vs) := by
  cases r with
  | tup h1 h2 => cases h; exact ⟨_, _, rfl, h2, .inr h1⟩
  | kls h1 h2 => cases h; exact ⟨_, _, rfl, h2, .inl h1.sq⟩
  | @ref n a h1 =>
    simp only [seqF] at h
    cases q : st[n]? with
    | none => rw [q] at h; cases h
    | some o =>
      rw [q] at h
      cases o with
      | lst ys =>
        cases h
        obtain ⟨vs, e, r⟩ := R.at_ _ _ _ h1 q
        exact ⟨_, _, rfl, r, .inl (.inl (.inl e))⟩
      | _ => cases h
  | _ => cases h
theorem lst_at {ρ : List Addr} {st : Sto} {H : Hp} {n : Nat} {v : V} {xs : List D} (R : Rl N X.K ρ st H) (r : Rep X.K ρ H (.ref n) v) (h : st[n]? = some (.lst xs)) : ∃ a vs, v = .ref a ∧ ρ[n]? = some a ∧ H a = some (.lst vs) ∧ Reps X.K ρ H xs vs := by
  cases r with
  | ref h1 =>
    obtain ⟨vs, e, r⟩ := R.at_ _ _ _ h1 h
    exact ⟨_, _, rfl, h1, e, r⟩
theorem dct_at {ρ : List Addr} {st : Sto} {H : Hp} {n : Nat} {v : V} {xs : List (Kk × D)} (R : Rl N X.K ρ st H) (r : Rep X.K ρ H (.ref n) v) (h : st[n]? = some (.dct xs)) : ∃ a vs, v = .ref a ∧ ρ[n]? = some a ∧ H a = some (.dK vs) ∧ KVs X.K ρ H xs vs := by
  cases r with
  | ref h1 =>
    obtain ⟨vs, e, r⟩ := R.at_ _ _ _ h1 h
    exact ⟨_, _, rfl, h1, e, r⟩
theorem dict_at {ρ : List Addr} {st : Sto} {H : Hp} {n : Nat} {v : V} {xs : List (Kk × D)} (R : Rl N X.K ρ st H) (r : Rep X.K ρ H (.ref n) v) (h : dictF st n = some xs) : ∃ a vs, v = .ref a ∧ ρ[n]? = some a ∧ Rd H a (.dK vs) ∧ KVs X.K ρ H xs vs := by
  unfold dictF at h
  cases q : st[n]? with
  | none => rw [q] at h; cases h
  | some o =>
    rw [q] at h
    cases r with
    | ref h1 =>
      cases o with
      | dct ys =>
        cases h
        obtain ⟨vs, e, r⟩ := R.at_ _ _ _ h1 q
        exact ⟨_, _, rfl, h1, .inl e, r⟩
      | fdc ys =>
        cases h
        obtain ⟨o, vs, e, r⟩ := R.at_ _ _ _ h1 q
        exact ⟨_, _, rfl, h1, .inr ⟨o, e⟩, r⟩
      | _ => cases h

/-! #### trees of data -/
mutual
def toP : T → PyData
  | .non => .none
  | .bl b => .bool b
  | .int i => .int i
  | .str x => .str (toS x)
  | .lst xs => .list (toPs xs)
  | .tup xs => .tuple (toPs xs)
def toPs : List T → List PyData
  | [] => []
  | x :: xs => toP x :: toPs xs
end
theorem toS_beq (x y : List Char) : (toS x == toS y) = (x == y) := by
  by_cases h : x = y
  · subst h; simp
  · rw [beq_eq_false_iff_ne.mpr h, beq_eq_false_iff_ne.mpr fun e => h (toS_inj e)]
mutual
theorem eqv_toP : ∀ (a b : T), PyData.eqv (toP a) (toP b) = T.eqv a b
  | .non, b => by cases b <;> simp [toP, PyData.eqv, T.eqv]
  | .bl x, b => by cases b <;> simp [toP, PyData.eqv, T.eqv]
  | .int x, b => by cases b <;> simp [toP, PyData.eqv, T.eqv]
  | .str x, b => by cases b <;> simp [toP, PyData.eqv, T.eqv, toS_beq]
  | .lst x, b => by cases b <;> simp [toP, PyData.eqv, T.eqv, eqvs_toP]
  | .tup x, b => by cases b <;> simp [toP, PyData.eqv, T.eqv, eqvs_toP]
theorem eqvs_toP : ∀ (a b : List T), PyData.eqvAll (toPs a) (toPs b) = T.eqvs a b
  | [], b => by cases b <;> simp [toPs, PyData.eqvAll, T.eqvs]
  | x :: xs, b => by cases b <;> simp [toPs, PyData.eqvAll, T.eqvs, eqv_toP, eqvs_toP]
end
theorem strOk_toS (x : List Char) : PyData.strOk (toS x) = true := by
  unfold PyData.strOk toS
  rw [List.all_toArray, List.all_eq_true]
  intro c hc
  obtain ⟨k, _, rfl⟩ := List.mem_map.mp hc
  have h := k.valid
  have e : k.toNat = k.val.toNat := rfl
  simp only [UInt32.isValidChar, Nat.isValidChar] at h
  rw [decide_eq_true_eq]
  omega
mutual
theorem lay_toP : ∀ a : T, PyData.canLay0 (toP a) = true
  | .non => by simp [toP, PyData.canLay0]
  | .bl x => by simp [toP, PyData.canLay0]
  | .int x => by simp [toP, PyData.canLay0]
  | .str x => by simp [toP, PyData.canLay0, strOk_toS]
  | .lst x => by simp [toP, PyData.canLay0, lays_toP]
  | .tup x => by simp [toP, PyData.canLay0, lays_toP]
theorem lays_toP : ∀ a : List T, PyData.canLayAll0 (toPs a) = true
  | [] => by simp [toPs, PyData.canLayAll0]
  | x :: xs => by simp [toPs, PyData.canLayAll0, lay_toP, lays_toP]
end
theorem trees_one {ρ : List Addr} {st : Sto} {H : Hp} {n : Nat} (one : ∀ (d : D) (v : V) (t : T), Rep X.K ρ H d v → treeF st n d = some t → Dp X.K H v (toP t) ∧ (toP t).depth ≤ n) :
    ∀ (ds : List D) (vs : List V) (ts : List T), Reps X.K ρ H ds vs → treesF st n ds = some ts → DpAll X.K H vs (toPs ts) ∧ PyData.depthAll (toPs ts) ≤ n := by
  intro ds
  induction ds with
  | nil =>
    intro vs ts r h
    cases r
    rw [treesF] at h
    cases h
    exact ⟨.nil, by simp [toPs, PyData.depthAll]⟩
  | cons d ds ih =>
    intro vs ts r h
    cases r with
    | cons r1 r2 =>
      rw [treesF] at h
      cases q1 : treeF st n d with
      | none => rw [q1] at h; cases h
      | some t =>
        cases q2 : treesF st n ds with
        | none => rw [q1, q2] at h; cases h
        | some us =>
          rw [q1, q2] at h
          cases h
          obtain ⟨a1, a2⟩ := one d _ t r1 q1
          obtain ⟨b1, b2⟩ := ih _ us r2 q2
          exact ⟨.cons a1 b1, by simp only [toPs, PyData.depthAll]; omega⟩
theorem tree_of {ρ : List Addr} {st : Sto} {H : Hp} (R : Rl N X.K ρ st H) : ∀ (n : Nat) (d : D) (v : V) (t : T), Rep X.K ρ H d v → treeF st n d = some t → Dp X.K H v (toP t) ∧ (toP t).depth ≤ n := by
  intro n
  induction n with
  | zero =>
    intro d v t r h
    cases r <;> simp [treeF] at h <;> (subst h; simp only [toP]; exact ⟨by constructor, by simp [PyData.depth]⟩)
  | succ n ih =>
    have ih := trees_one ih
    intro d v t r h
    cases r with
    | non => rw [treeF] at h; cases h; simp only [toP]; exact ⟨by constructor, by simp [PyData.depth]⟩
    | bl => rw [treeF] at h; cases h; simp only [toP]; exact ⟨by constructor, by simp [PyData.depth]⟩
    | int => rw [treeF] at h; cases h; simp only [toP]; exact ⟨by constructor, by simp [PyData.depth]⟩
    | str => rw [treeF] at h; cases h; simp only [toP]; exact ⟨by constructor, by simp [PyData.depth]⟩
    | tup h1 h2 =>
      rw [treeF] at h
      obtain ⟨ts, e, rfl⟩ := Option.map_eq_some_iff.mp h
      obtain ⟨a, b⟩ := ih _ _ _ h2 e
      simp only [toP]
      exact ⟨.tup h1 a, by simp only [PyData.depth]; omega⟩
    | kls h1 h2 =>
      rw [treeF] at h
      obtain ⟨ts, e, rfl⟩ := Option.map_eq_some_iff.mp h
      obtain ⟨a, b⟩ := ih _ _ _ h2 e
      simp only [toP]
      exact ⟨.lst h1.sq a, by simp only [PyData.depth]; omega⟩
    | @ref m a h1 =>
      rw [treeF] at h
      cases q : st[m]? with
      | none => rw [q] at h; cases h
      | some o =>
        rw [q] at h
        cases o with
        | lst ys =>
          obtain ⟨ts, e, rfl⟩ := Option.map_eq_some_iff.mp h
          obtain ⟨vs, ha, rs⟩ := R.at_ _ _ _ h1 q
          obtain ⟨a, b⟩ := ih _ _ _ rs e
          simp only [toP]
          exact ⟨.lst (.inl (.inl ha)) a, by simp only [PyData.depth]; omega⟩
        | _ => cases h
theorem trees_of {ρ : List Addr} {st : Sto} {H : Hp} (R : Rl N X.K ρ st H) (n : Nat) : ∀ (ds : List D) (vs : List V) (ts : List T), Reps X.K ρ H ds vs → treesF st n ds = some ts → DpAll X.K H vs (toPs ts) ∧ PyData.depthAll (toPs ts) ≤ n := trees_one (tree_of R n)
theorem shaped_toP {t : T} (h : (toP t).depth ≤ 64) : SeqAt.shaped (toP t) = true := by
  unfold SeqAt.shaped
  rw [lay_toP, decide_eq_true h]; rfl

/-! #### flat things -/
theorem flat_of {ρ : List Addr} {H : Hp} {d : D} {v : V} (r : Rep X.K ρ H d v) (h : flatF d = true) : flatV v = true := by
  cases r <;> first | rfl | cases h
theorem flats_of {ρ : List Addr} {H : Hp} : ∀ {ds : List D} {vs : List V}, Reps X.K ρ H ds vs → ds.all flatF = true → vs.all flatV = true
  | _, _, .nil, _ => rfl
  | _, _, .cons r t, h => by
    rw [List.all_cons, Bool.and_eq_true] at h
    rw [List.all_cons, flat_of r h.1, flats_of t h.2]; rfl
theorem eqS_of {ρ : List Addr} {H : Hp} {d e : D} {v u : V} (r : Rep X.K ρ H d v) (q : Rep X.K ρ H e u) (h : flatF d = true) (h' : flatF e = true) : eqV v u = eqS d e := by
  cases r <;> first | (cases h; done) | (cases q <;> first | (cases h'; done) | rfl | simp [eqV, eqS, toS_beq])
theorem inV_of {ρ : List Addr} {H : Hp} {d : D} {v : V} (r : Rep X.K ρ H d v) (h : flatF d = true) : ∀ {ds : List D} {vs : List V}, Reps X.K ρ H ds vs → ds.all flatF = true → inV v vs = ds.any fun z => eqS z d
  | _, _, .nil, _ => rfl
  | _, _, .cons q t, h' => by
    rw [List.all_cons, Bool.and_eq_true] at h'
    have ih := inV_of r h t h'.2
    unfold inV at ih ⊢
    rw [List.any_cons, List.any_cons, ih, eqS_of q r h'.1 h]
theorem any_toP (t : T) : ∀ ts : List T, ((toPs ts).any fun z => PyData.eqv z (toP t)) = ts.any fun z => T.eqv z t
  | [] => rfl
  | x :: xs => by rw [toPs, List.any_cons, List.any_cons, eqv_toP, any_toP t xs]
end
end MP

set_option Elab.async false
set_option linter.all false
set_option maxRecDepth 100000
set_option maxHeartbeats 1000000
/-! MPEqd: two dicts alike or not. -/
namespace MP
open PySem PySem.Spec PyProof.Rows L2
section
variable {prog : Program} {w : World} {K : Type} [DecidableEq K] {knd : KeyKind prog w K} {A : Around} {s : Shared} {a b : Addr} {ka kb : List (K × Value)} {r : Bool}
/-- != of two dicts: as == goes, by the other slot -/
theorem rc_ne (ha : (a == sysModules) = false) (hb : (b == sysModules) = false) (da : Heap.DictOf knd s.heap a ka) (db : Heap.DictOf knd s.heap b kb) (hu : A.units < cLine) (hits : ka.length = kb.length → PySem.W.KeqHitsP prog w A.in1 s kb ka r) (E Q : Value → Shared → Prop)
    (h : Q (Value.bool (!(ka.length == kb.length && r))) s) : wpAny (model prog w) A (richCompare CmpOp.NotEq (Value.ref a) (Value.ref b)) Q E s := by
  refine wpAny_richCompare_same_room da.typeIs db.typeIs PySem.F.slot_dict_ne ?_ hu
  refine wpAny_call_entry PySem.F.slot_dict_ne da.typeIs PySem.F.entry_dict_ne ?_ (PySem.F.args_dict_ne_2 _ _)
  refine id (wpAny_bind (id (wpAny_bind (wpAny_notOrdered_dict da.typeIs (id (wpAny_pure (wpAny_bind (wpAny_isInstance db.typeIs PySem.F.sub_dict_dict ?_))))))))
  simp only [Bool.not_true, Bool.false_eq_true, if_false]
  refine wpAny_bind (wpAny_pure (wpAny_bind (wpAny_pure (wpAny_bind (PySem.W.samePairsP ha hb da db hits (wpAny_pure ⟨_, rfl, (by intro x; cases x), ?_⟩))))))
  cases e : (ka.length == kb.length && r) with
  | true => rw [e] at h; exact h
  | false => rw [e] at h; exact h
end
/-- the pairs of one dict found in another, alike or not -/
inductive EqK (K : PySem.W.Frag) (H : Hp) (kb : List (Key × V)) : List (Key × V) → Bool → Prop where
  | nil : EqK K H kb [] true
  | miss {k : Key} {v : V} {r : List (Key × V)} : valV kb k = none → EqK K H kb ((k, v) :: r) false
  | hit {k : Key} {v y : V} {d e : PyData} {r : List (Key × V)} {c : Bool} : valV kb k = some y → Dp K H v d → Dp K H y e → SeqAt.shaped d = true → SeqAt.shaped e = true → EqK K H kb r c → EqK K H kb ((k, v) :: r) (d.eqv e && c)
theorem paired_len {α β : Type} {F : α → β → Prop} : ∀ {l : List α} {m : List β}, Paired F l m → l.length = m.length
  | _, _, .nil => rfl
  | _, _, .cons _ t => congrArg Nat.succ (paired_len t)
section
variable {X : Cx} {pins : List (Addr × Obj)} {σ : L2.St} {H : Hp} {s : Shared}
theorem EqK.hits (I : L2.Inv X pins σ H s) (hu : X.A.in1.units + 64 < cLine) {kb : List (Key × V)} {vb : List (Key × Value)} (hb : KV kb vb) : ∀ {ka : List (Key × V)} {c : Bool} {va : List (Key × Value)}, EqK X.K H kb ka c → KV ka va → PySem.W.KeqHitsP X.prog X.w X.A.in1 s vb va c
  | _, _, _, .nil, .nil => .nil
  | _, _, (k', u) :: va, .miss h, .cons ⟨hk, _⟩ _ => by
    cases hk
    have := KV.val hb k'
    rw [h] at this
    refine .miss ?_
    revert this
    cases valueAt vb k' with
    | none => exact fun _ => rfl
    | some v => intro h; cases h
  | _, _, (k', u) :: va, .hit h d1 d2 s1 s2 t, .cons ⟨hk, ru⟩ z => by
    cases hk
    have := KV.val hb k'
    rw [h] at this
    revert this
    cases e : valueAt vb k' with
    | none => intro h; cases h
    | some v =>
      intro hv
      obtain ⟨as, r1⟩ := Dp.reads I _ _ _ d1 ru
      obtain ⟨bs, r2⟩ := Dp.reads I _ _ _ d2 hv
      exact .hit e (PySem.W.keq_at r1 r2 s1 s2 hu).eqP (EqK.hits I hu hb t z)
def rEqK (K : PySem.W.Frag) (neg : Bool) : R2 := fun x y H Q => ∃ a b ka kb c, x = .ref a ∧ y = .ref b ∧ H a = some (.dK ka) ∧ H b = some (.dK kb) ∧ (ka.length = kb.length → EqK K H kb ka c) ∧ Q (.bl (if neg = true then !(ka.length == kb.length && c) else (ka.length == kb.length && c))) H
end
theorem op_eqK {X : Cx} (hu : X.A.units + 65 < cLine) : OpR X (compareOp .Eq) (rEqK X.K false) := by
  intro pins s σ H x y v u Q I rx ry h
  obtain ⟨a, b, ka, kb, c, rfl, rfl, ea, eb, hk, q⟩ := h
  obtain rfl : v = Value.ref a := rx
  obtain rfl : u = Value.ref b := ry
  obtain ⟨l1, m1, va, kva, da⟩ := dk_of I.hok ea
  obtain ⟨l2, m2, vb, kvb, db⟩ := dk_of I.hok eb
  have e1 := paired_len kva
  have e2 := paired_len kvb
  have h1 : X.A.in1.units = X.A.units + 1 := rfl
  show wpAny (model X.prog X.w) X.A (richCompare .Eq (Value.ref a) (Value.ref b)) _ _ s
  refine PySem.W.rcP_dicts (r := c) m1 m2 da db (by omega) (fun e => (hk (by omega)).hits I (by omega) kvb kva) _ _ ?_
  rw [← e1, ← e2]
  exact ⟨.bl _, H, I, rfl, q⟩
theorem op_neK {X : Cx} (hu : X.A.units + 65 < cLine) : OpR X (compareOp .NotEq) (rEqK X.K true) := by
  intro pins s σ H x y v u Q I rx ry h
  obtain ⟨a, b, ka, kb, c, rfl, rfl, ea, eb, hk, q⟩ := h
  obtain rfl : v = Value.ref a := rx
  obtain rfl : u = Value.ref b := ry
  obtain ⟨l1, m1, va, kva, da⟩ := dk_of I.hok ea
  obtain ⟨l2, m2, vb, kvb, db⟩ := dk_of I.hok eb
  have e1 := paired_len kva
  have e2 := paired_len kvb
  have h1 : X.A.in1.units = X.A.units + 1 := rfl
  show wpAny (model X.prog X.w) X.A (richCompare .NotEq (Value.ref a) (Value.ref b)) _ _ s
  refine rc_ne (r := c) m1 m2 da db (by omega) (fun e => (hk (by omega)).hits I (by omega) kvb kva) _ _ ?_
  rw [← e1, ← e2]
  exact ⟨.bl _, H, I, rfl, q⟩
end MP

set_option Elab.async false
set_option linter.all false
set_option maxRecDepth 100000
set_option maxHeartbeats 1000000
/-! MPOps2: operators and comparisons. -/
namespace MP
open PySem PySem.Spec PyProof.Rows L2
section
variable {X : Cx} {N : Nm}

/-! #### arithmetic -/
theorem ok_sub : Op2Ok X N (binaryOp .Sub) (opF .sub) := by
  intro ρ st H dx dy x y d st' R rx ry h
  cases rx <;> cases ry <;> simp only [opF, reduceCtorEq] at h
  cases h
  exact ⟨_, op_sub, fun Q P => ⟨_, _, rfl, rfl, P.here R (.int _)⟩⟩
theorem ok_mod : Op2Ok X N (binaryOp .Mod) (opF .mod) := by
  intro ρ st H dx dy x y d st' R rx ry h
  cases rx <;> cases ry <;> simp only [opF, reduceCtorEq] at h
  split at h
  · rename_i h0
    cases h
    exact ⟨_, op_mod, fun Q P => ⟨_, _, rfl, rfl, h0, P.here R (.int _)⟩⟩
  · cases h
theorem ok_fdiv : Op2Ok X N (binaryOp .FloorDiv) (opF .fdiv) := by
  intro ρ st H dx dy x y d st' R rx ry h
  cases rx <;> cases ry <;> simp only [opF, reduceCtorEq] at h
  split at h
  · rename_i h0
    cases h
    exact ⟨_, op_fdivW, fun Q P => ⟨_, _, rfl, rfl, h0, P.here R (.int _)⟩⟩
  · cases h
theorem op_fdivNW : OpR X (binaryOp .FloorDiv) (rI (fun _ j => j ≠ 0 ∧ j.natAbs.log2 < 9000) fun i j => .int (i.fdiv j)) := opI fun i j _ _ _ _ _ hc q => floordiv_int hc.1 q (.inl (PyProof.noPylong_of_log2 hc.2))
theorem ok_modN : Op2Ok X N (binaryOp .Mod) (opF .modN) := by
  intro ρ st H dx dy x y d st' R rx ry h
  cases rx <;> cases ry <;> simp only [opF, reduceCtorEq] at h
  split at h
  · rename_i h0
    cases h
    exact ⟨_, op_modN, fun Q P => ⟨_, _, rfl, rfl, h0, P.here R (.int _)⟩⟩
  · cases h
theorem ok_fdivN : Op2Ok X N (binaryOp .FloorDiv) (opF .fdivN) := by
  intro ρ st H dx dy x y d st' R rx ry h
  cases rx <;> cases ry <;> simp only [opF, reduceCtorEq] at h
  split at h
  · rename_i h0
    cases h
    exact ⟨_, op_fdivNW, fun Q P => ⟨_, _, rfl, rfl, h0, P.here R (.int _)⟩⟩
  · cases h
theorem ok_pow : Op2Ok X N (binaryOp .Pow) (opF .pow) := by
  intro ρ st H dx dy x y d st' R rx ry h
  cases rx <;> cases ry <;> simp only [opF, reduceCtorEq] at h
  split at h
  · rename_i h0
    cases h
    exact ⟨_, op_pow, fun Q P => ⟨_, _, rfl, rfl, h0, P.here R (.int _)⟩⟩
  · cases h
theorem fold_rep (l : List Nat) : ∀ (k : Nat) (acc : List Nat), List.foldl (fun x1 x2 => x1 ++ x2) acc.toArray (List.replicate k l.toArray) = (acc ++ (List.replicate k l).flatten).toArray
  | 0, acc => by simp
  | k + 1, acc => by
    have e : acc.toArray ++ l.toArray = (acc ++ l).toArray := by simp
    have e2 : (acc ++ l) ++ (List.replicate k l).flatten = acc ++ (List.replicate (k + 1) l).flatten := by
      rw [List.replicate_succ, List.flatten_cons, List.append_assoc]
    rw [← e2, ← fold_rep l k (acc ++ l), ← e, List.replicate_succ, List.foldl_cons]
theorem fold_str (x : Str) (k : Nat) : (⟨(List.replicate k x.cps).foldl (· ++ ·) #[]⟩ : Str) = ⟨(List.replicate k x.cps.toList).flatten.toArray⟩ := by
  have h := fold_rep x.cps.toList k []
  rw [List.nil_append] at h
  rw [← h]
theorem len_rep (l : List Nat) (k : Nat) : (List.replicate k l).flatten.length = k * l.length := by simp
theorem rep_str {x : Str} {n : Int} (h0 : 0 ≤ n) (h1 : n ≤ 100000) (h2 : x.length * n.toNat ≤ 1000000) :
    OpR X (binaryOp .Mult) (fun v u H Q => v = .str x ∧ u = .int n ∧ Q (.str ⟨(List.replicate n.toNat x.cps.toList).flatten.toArray⟩) H) := by
  intro pins s σ H vx vy v u Q I rx ry h
  obtain ⟨rfl, rfl, q⟩ := h
  obtain ⟨t, rfl⟩ := (show ∃ t, v = Value.str x t from rx)
  obtain ⟨t2, rfl⟩ := (show ∃ t, u = Value.int n t from ry)
  have hl : x.length * n.toNat ≤ 1000000 := h2
  have fin : ∀ (u : Str) (k : Nat), u = ⟨(List.replicate n.toNat x.cps.toList).flatten.toArray⟩ → EP X pins σ Q (.str u k) { s with toks := s.toks + 1 } := by
    intro u k e
    subst e
    exact ⟨_, H, I.tok _, show RelV (.str _) _ from ⟨k, rfl⟩, q⟩
  have fin0 : ∀ (u : Str) (k : Nat), u = ⟨(List.replicate n.toNat x.cps.toList).flatten.toArray⟩ → EP X pins σ Q (.str u k) s := by
    intro u k e
    subst e
    exact ⟨_, H, I, show RelV (.str _) _ from ⟨k, rfl⟩, q⟩
  refine PySem.P.mul_str (by rw [decide_eq_false (by omega), decide_eq_false (by omega)]; rfl) (fun h3 h4 => ?_) (fun _ _ => ?_) ?_
  · have hn : 0 < n := by omega
    have hl2 : (x.length : Int) * n ≤ 1000000 := by
      have : ((x.length * n.toNat : Nat) : Int) = (x.length : Int) * n := by rw [Int.natCast_mul, Int.toNat_of_nonneg (by omega)]
      omega
    have : (x.length : Int) ≤ (2 ^ 63 - 1) / n := by
      rw [Int.le_ediv_iff_mul_le hn]; omega
    omega
  · unfold Builtin.Str.tooLong
    rw [sizeLine_eq]
    exact decide_eq_false (by omega)
  · split
    · rename_i h3
      refine ⟨by decide, fin _ _ ?_⟩
      have e : n = 0 := by omega
      subst e
      rfl
    · split
      · rename_i h3 h4
        refine fin0 _ _ ?_
        rw [Bool.or_eq_true] at h4
        rcases h4 with h4 | h4
        · have e : n = 1 := by simpa using h4
          subst e
          simp
        · have e : x.cps = #[] := by simpa [Str.length] using h4
          obtain ⟨c⟩ := x
          cases e
          simp
      · refine ⟨?_, fin _ _ (fold_str x _)⟩
        rw [fold_str, sizeLine_eq]
        show (List.replicate n.toNat x.cps.toList).flatten.toArray.size ≤ _
        rw [List.size_toArray, len_rep]
        have e : x.cps.toList.length = x.length := by simp [Str.length]
        rw [e, Nat.mul_comm]
        omega
theorem toS_rep (l : List Char) (k : Nat) : toS (List.replicate k l).flatten = ⟨(List.replicate k (toS l).cps.toList).flatten.toArray⟩ := by
  simp [toS]
theorem ok_mul : Op2Ok X N (binaryOp .Mult) (opF .mul) := by
  intro ρ st H dx dy x y d st' R rx ry h
  cases rx <;> cases ry <;> simp only [opF, reduceCtorEq] at h
  · split at h
    · rename_i h0
      cases h
      exact ⟨_, op_mulW, fun Q P => ⟨_, _, rfl, rfl, h0, P.here R (.int _)⟩⟩
    · cases h
  · split at h
    · rename_i l j h0
      cases h
      refine ⟨_, rep_str (x := toS l) h0.1 h0.2.1 (by rw [toS_len]; exact h0.2.2), fun Q P => ⟨rfl, rfl, ?_⟩⟩
      rw [← toS_rep]
      exact P.here R (.str _)
    · cases h
  · split at h
    · rename_i a ds vs h1 h2 j h0
      cases h
      refine ⟨_, op_repT, fun Q P => ⟨_, _, _, rfl, rfl, h1, ?_, h0.2.1, h0.2.2.1, by rw [← h2.len]; exact h0.2.2.2, P.tup R (h2.rep _)⟩⟩
      intro e
      subst e
      cases h2
      exact h0.1 rfl
    · cases h
  · rename_i a ra j
    split at h
    · rename_i xs hs
      split at h
      · rename_i h0
        cases h
        have hz := sz_line
        obtain ⟨p, vs, e, _, h2, r⟩ := lst_at R (.ref ra) hs
        cases e
        exact ⟨_, op_rep, fun Q P => ⟨_, _, _, rfl, rfl, h2, by omega, by omega, by rw [← r.len]; omega, P.lst R (r.rep _)⟩⟩
      · cases h
    · cases h
theorem ok_add : Op2Ok X N (binaryOp .Add) (opF .add) := by
  intro ρ st H dx dy x y d st' R rx ry h
  have hz := sz_line
  cases rx <;> cases ry <;> simp only [opF, reduceCtorEq] at h
  · cases h
    exact ⟨_, op_add, fun Q P => ⟨_, _, rfl, rfl, P.here R (.int _)⟩⟩
  · split at h
    · rename_i h0
      cases h
      exact ⟨_, op_add_str, fun Q P => ⟨_, _, rfl, rfl, by rw [toS_len, toS_len]; omega, by rw [← toS_app]; exact P.here R (.str _)⟩⟩
    · cases h
  · split at h
    · rename_i a ds vs h1 h2 b es us h3 h4 h0
      cases h
      refine ⟨_, op_catA, fun Q P => ⟨_, _, _, _, rfl, rfl, h1, h3, by rw [← h2.len, ← h4.len]; omega, fun e => ?_, fun _ e => ?_, fun _ _ => P.tup R (h2.app h4)⟩⟩
      · subst e
        cases h2
        exact P.here R (.tup h3 h4)
      · subst e
        cases h4
        rw [List.append_nil] at P
        exact P.here R (.tup h1 h2)
    · cases h
  · rename_i n a h1 m b h2
    split at h
    · rename_i xs ys q1 q2
      split at h
      · rename_i h0
        cases h
        obtain ⟨vs, e1, r1⟩ := R.at_ _ _ _ h1 q1
        obtain ⟨us, e2, r2⟩ := R.at_ _ _ _ h2 q2
        exact ⟨_, op_cat, fun Q P => ⟨_, _, _, _, rfl, rfl, e1, e2, by rw [← r1.len, ← r2.len]; omega, P.lst R (r1.app r2)⟩⟩
      · cases h
    · cases h

/-! #### comparisons -/
theorem room65 {X : Cx} {k : Nat} (hr : Room k X.A) : X.A.units + 65 < cLine := by have := hr.un; omega
theorem cmpS_lt : ∀ (x y : List Char), decide ((x.map Char.toNat) < (y.map Char.toNat)) = cmpS x y
  | [], [] => by simp [cmpS]
  | [], b :: y => by simp [cmpS]
  | a :: x, [] => by simp [cmpS]
  | a :: x, b :: y => by
    rw [List.map_cons, List.map_cons, cmpS, ← cmpS_lt x y]
    by_cases h1 : a.toNat < b.toNat
    · rw [if_pos h1]
      exact decide_eq_true (List.cons_lt_cons_iff.mpr (.inl h1))
    · rw [if_neg h1]
      by_cases h2 : a.toNat = b.toNat
      · rw [if_pos h2]
        by_cases h3 : x.map Char.toNat < y.map Char.toNat
        · rw [decide_eq_true h3]
          exact decide_eq_true (List.cons_lt_cons_iff.mpr (.inr ⟨h2, h3⟩))
        · rw [decide_eq_false h3]
          refine decide_eq_false fun z => ?_
          rcases List.cons_lt_cons_iff.mp z with z | z
          · exact h1 z
          · exact h3 z.2
      · rw [if_neg h2]
        refine decide_eq_false fun z => ?_
        rcases List.cons_lt_cons_iff.mp z with z | z
        · exact h1 z
        · exact h2 z.1
theorem toS_list (x : List Char) : (toS x).cps.toList = x.map Char.toNat := by simp [toS]
theorem ok_lt : Op2Ok X N (compareOp .Lt) (opF .lt) := by
  intro ρ st H dx dy x y d st' R rx ry h
  cases rx <;> cases ry <;> simp only [opF, reduceCtorEq] at h <;> cases h
  · exact ⟨_, op_lt, fun Q P => ⟨_, _, rfl, rfl, P.here R (.bl _)⟩⟩
  · exact ⟨_, op_lt_str, fun Q P => ⟨_, _, rfl, rfl, by rw [toS_list, toS_list, cmpS_lt]; exact P.here R (.bl _)⟩⟩
theorem ok_le : Op2Ok X N (compareOp .LtE) (opF .le) := by
  intro ρ st H dx dy x y d st' R rx ry h
  cases rx <;> cases ry <;> simp only [opF, reduceCtorEq] at h <;> cases h
  · exact ⟨_, op_le, fun Q P => ⟨_, _, rfl, rfl, P.here R (.bl _)⟩⟩
  · exact ⟨_, op_le_str, fun Q P => ⟨_, _, rfl, rfl, by rw [toS_list, toS_list, cmpS_lt]; exact P.here R (.bl _)⟩⟩
theorem ok_gt : Op2Ok X N (compareOp .Gt) (opF .gt) := by
  intro ρ st H dx dy x y d st' R rx ry h
  cases rx <;> cases ry <;> simp only [opF, reduceCtorEq] at h <;> cases h
  · exact ⟨_, op_gt, fun Q P => ⟨_, _, rfl, rfl, P.here R (.bl _)⟩⟩
  · exact ⟨_, op_gt_str, fun Q P => ⟨_, _, rfl, rfl, by rw [toS_list, toS_list, cmpS_lt]; exact P.here R (.bl _)⟩⟩
theorem ok_ge : Op2Ok X N (compareOp .GtE) (opF .ge) := by
  intro ρ st H dx dy x y d st' R rx ry h
  cases rx <;> cases ry <;> simp only [opF, reduceCtorEq] at h <;> cases h
  · exact ⟨_, op_ge, fun Q P => ⟨_, _, rfl, rfl, P.here R (.bl _)⟩⟩
  · exact ⟨_, op_ge_str, fun Q P => ⟨_, _, rfl, rfl, by rw [toS_list, toS_list, cmpS_lt]; exact P.here R (.bl _)⟩⟩

/-! #### in -/
theorem kV_keyD (k : Kk) : kV (toK k) = (match k with | .i n => V.int n | .s x => V.str (toS x)) := by cases k <;> rfl
theorem keyF_of {ρ : List Addr} {H : Hp} {d : D} {v : V} {k : Kk} (r : Rep X.K ρ H d v) (h : keyF d = some k) : v = kV (toK k) := by
  cases r <;> simp [keyF] at h <;> subst h <;> rfl
theorem rep_keyD {ρ : List Addr} {H : Hp} (k : Kk) : Rep X.K ρ H (keyD k) (kV (toK k)) := by
  cases k
  · exact .int _
  · exact .str _
theorem toK_dec (a b : Kk) : decide (toK a = toK b) = decide (a = b) := by
  by_cases h : a = b
  · subst h; simp
  · rw [decide_eq_false h, decide_eq_false fun e => h (toK_inj e)]
theorem KVs.val {ρ : List Addr} {H : Hp} {k : Kk} : ∀ {kvs : List (Kk × D)} {ws : List (Key × V)}, KVs X.K ρ H kvs ws →
    (∀ d, getK kvs k = some d → ∃ v, valV ws (toK k) = some v ∧ Rep X.K ρ H d v) ∧ (getK kvs k = none → valV ws (toK k) = none)
  | _, _, .nil => ⟨fun _ h => by simp [getK] at h, fun _ => rfl⟩
  | _, _, .cons (a := p) (b := q) r t => by
    obtain ⟨i1, i2⟩ := KVs.val (k := k) t
    by_cases h : p.1 = k
    · have e : q.1 = toK k := by rw [r.1, h]
      refine ⟨fun d hd => ?_, fun hd => ?_⟩
      · rw [valV_pos e]
        simp [getK, List.find?_cons, h] at hd
        subst hd
        exact ⟨_, rfl, r.2⟩
      · simp [getK, List.find?_cons, h] at hd
    · have e : ¬ q.1 = toK k := by rw [r.1]; exact fun z => h (toK_inj z)
      have e2 : ∀ l, getK (p :: l) k = getK l k := fun l => by simp [getK, List.find?_cons, h]
      rw [valV_neg e, e2]
      exact ⟨i1, i2⟩
theorem eqT_of {ρ : List Addr} {st : Sto} {H : Hp} {dx dy : D} {x y : V} {b : Bool} (R : Rl N X.K ρ st H) (rx : Rep X.K ρ H dx x) (ry : Rep X.K ρ H dy y) (e : eqT st dx dy = some b) :
    ∃ d1 d2, Dp X.K H x d1 ∧ Dp X.K H y d2 ∧ SeqAt.shaped d1 = true ∧ SeqAt.shaped d2 = true ∧ d1.eqv d2 = b := by
  unfold eqT at e
  split at e
  · rename_i ta tb ea eb
    cases e
    obtain ⟨p1, p2⟩ := tree_of R 60 _ _ _ rx ea
    obtain ⟨q1, q2⟩ := tree_of R 60 _ _ _ ry eb
    exact ⟨_, _, p1, q1, shaped_toP (by omega), shaped_toP (by omega), eqv_toP _ _⟩
  · cases e
theorem eqKs_of {ρ : List Addr} {st : Sto} {H : Hp} (R : Rl N X.K ρ st H) {kb : List (Kk × D)} {wb : List (Key × V)} (hb : KVs X.K ρ H kb wb) : ∀ {ka : List (Kk × D)} {wa : List (Key × V)} {c : Bool}, KVs X.K ρ H ka wa → eqKs st kb ka = some c → EqK X.K H wb wa c
  | _, _, _, .nil, e => by
    cases e
    exact .nil
  | (k, v) :: r, (k', u) :: z, c, .cons ⟨hk, rv⟩ t, e => by
    dsimp only at hk rv
    subst hk
    obtain ⟨i1, i2⟩ := hb.val (k := k)
    rw [eqKs] at e
    cases q : getK kb k with
    | none =>
      rw [q] at e
      cases e
      exact .miss (i2 q)
    | some y =>
      rw [q] at e
      obtain ⟨y', e2, ry⟩ := i1 y q
      dsimp only at e
      split at e
      · rename_i a b ea eb
        cases e
        obtain ⟨d1, d2, p1, p2, s1, s2, rfl⟩ := eqT_of R rv ry ea
        exact .hit e2 p1 p2 s1 s2 (eqKs_of R hb t eb)
      · cases e
theorem KVs.len {ρ : List Addr} {H : Hp} {K : PySem.W.Frag} {ka : List (Kk × D)} {wa : List (Key × V)} (h : KVs K ρ H ka wa) : ka.length = wa.length := paired_len h
theorem eqD_of {ρ : List Addr} {st : Sto} {H : Hp} {dx dy : D} {x y : V} {c : Bool} (R : Rl N X.K ρ st H) (rx : Rep X.K ρ H dx x) (ry : Rep X.K ρ H dy y) (e : eqD st dx dy = some c) :
    ∃ a b ka kb c', x = .ref a ∧ y = .ref b ∧ H a = some (.dK ka) ∧ H b = some (.dK kb) ∧ (ka.length = kb.length → EqK X.K H kb ka c') ∧ (ka.length == kb.length && c') = c := by
  cases rx <;> cases ry <;> simp only [eqD, reduceCtorEq] at e
  rename_i n a h1 m b h2
  cases q1 : st[n]? with
  | none => rw [q1] at e; simp at e
  | some o1 =>
    cases q2 : st[m]? with
    | none => rw [q1, q2] at e; cases o1 <;> simp at e
    | some o2 =>
      rw [q1, q2] at e
      cases o1 <;> (try (exfalso; simp at e; done))
      cases o2 <;> (try (exfalso; simp at e; done))
      rename_i ka kb
      replace e : (if ka.length = kb.length then eqKs st kb ka else some false) = some c := e
      obtain ⟨wa, ea, ra⟩ := R.at_ _ _ _ h1 q1
      obtain ⟨wb, eb, rb⟩ := R.at_ _ _ _ h2 q2
      have la := ra.len
      have lb := rb.len
      split at e
      · rename_i hl
        refine ⟨a, b, wa, wb, c, rfl, rfl, ea, eb, fun _ => eqKs_of R rb ra e, ?_⟩
        rw [show (wa.length == wb.length) = true from beq_iff_eq.mpr (by omega)]
        rfl
      · rename_i hl
        cases e
        refine ⟨a, b, wa, wb, false, rfl, rfl, ea, eb, fun z => absurd (by omega) hl, Bool.and_false _⟩
theorem ok_eq {k : Nat} (hr : Room k X.A) : Op2Ok X N (compareOp .Eq) (opF .eq) := by
  intro ρ st H dx dy x y d st' R rx ry h
  simp only [opF] at h
  obtain ⟨b, e, h⟩ := MP.R.bind_eq h
  cases h
  have e := MP.R.of_eq e
  unfold eqF at e
  split at e
  · rename_i b' eT
    cases e
    obtain ⟨d1, d2, p1, q1, s1, s2, rfl⟩ := eqT_of R rx ry eT
    exact ⟨_, op_eqD hr.units, fun Q P => ⟨_, _, p1, q1, s1, s2, P.here R (.bl _)⟩⟩
  · obtain ⟨a, b', ka, kb, c, rfl, rfl, ea, eb, hk, rfl⟩ := eqD_of R rx ry e
    exact ⟨_, op_eqK (room65 hr), fun Q P => ⟨_, _, _, _, _, rfl, rfl, ea, eb, hk, P.here R (.bl _)⟩⟩
theorem ok_ne {k : Nat} (hr : Room k X.A) : Op2Ok X N (compareOp .NotEq) (opF .ne) := by
  intro ρ st H dx dy x y d st' R rx ry h
  simp only [opF] at h
  obtain ⟨b, e, h⟩ := MP.R.bind_eq h
  cases h
  have e := MP.R.of_eq e
  unfold eqF at e
  split at e
  · rename_i b' eT
    cases e
    obtain ⟨d1, d2, p1, q1, s1, s2, rfl⟩ := eqT_of R rx ry eT
    exact ⟨_, op_neD hr.units, fun Q P => ⟨_, _, p1, q1, s1, s2, P.here R (.bl _)⟩⟩
  · obtain ⟨a, b', ka, kb, c, rfl, rfl, ea, eb, hk, rfl⟩ := eqD_of R rx ry e
    exact ⟨_, op_neK (room65 hr), fun Q P => ⟨_, _, _, _, _, rfl, rfl, ea, eb, hk, P.here R (.bl _)⟩⟩
theorem KVs.some_eq {ρ : List Addr} {H : Hp} {k : Kk} {kvs : List (Kk × D)} {ws : List (Key × V)} (h : KVs X.K ρ H kvs ws) : (valV ws (toK k)).isSome = (getK kvs k).isSome := by
  obtain ⟨i1, i2⟩ := h.val (k := k)
  cases e : getK kvs k with
  | none => rw [i2 e]; rfl
  | some d => obtain ⟨v, h, _⟩ := i1 d e; rw [h]; rfl
theorem dget_of {H : Hp} {a : Addr} {ws : List (Key × V)} {k : Key} (h : Rd H a (.dK ws)) : DGet H a (kV k) (valV ws k) := .inl ⟨ws, k, h, rfl, rfl⟩
theorem op_in_dict (hu : X.A.units + 1 < cLine) : OpR X (compareOp .In) (fun x y H Q => ∃ a o, y = .ref a ∧ DGet H a x o ∧ Q (.bl o.isSome) H) := by
  intro pins s σ H x y v u Q I rx ry h
  obtain ⟨a, o, rfl, g, q⟩ := h
  obtain rfl : u = Value.ref a := ry
  exact d_in hu I g rx fun s' I' => ⟨.bl _, H, I', rfl, q⟩
theorem op_notin_dict (hu : X.A.units + 1 < cLine) : OpR X (compareOp .NotIn) (fun x y H Q => ∃ a o, y = .ref a ∧ DGet H a x o ∧ Q (.bl (!o.isSome)) H) := by
  intro pins s σ H x y v u Q I rx ry h
  obtain ⟨a, o, rfl, g, q⟩ := h
  obtain rfl : u = Value.ref a := ry
  exact d_notIn hu I g rx fun s' I' => ⟨.bl _, H, I', rfl, q⟩
theorem char_mem (c : Char) (x : List Char) : decide (c.toNat ∈ (toS x).cps.toList) = decide (c ∈ x) := by
  rw [toS_list]
  by_cases h : c ∈ x
  · rw [decide_eq_true h]
    exact decide_eq_true (List.mem_map_of_mem h)
  · rw [decide_eq_false h]
    refine decide_eq_false fun z => ?_
    obtain ⟨k, hk, e⟩ := List.mem_map.mp z
    exact h (char_inj e ▸ hk)
theorem list_at {ρ : List Addr} {st : Sto} {H : Hp} {d : D} {v : V} {xs : List D} (R : Rl N X.K ρ st H) (r : Rep X.K ρ H d v) (h : listF st d = some xs) : ∃ a vs, v = .ref a ∧ Reps X.K ρ H xs vs ∧ SqL X.K H a vs := by
  cases r with
  | kls h1 h2 => cases h; exact ⟨_, _, rfl, h2, h1.sq⟩
  | @ref n a h1 =>
    simp only [listF] at h
    cases q : st[n]? with
    | none => rw [q] at h; cases h
    | some o =>
      rw [q] at h
      cases o with
      | lst ys =>
        cases h
        obtain ⟨vs, e, r⟩ := R.at_ _ _ _ h1 q
        exact ⟨_, _, rfl, r, .inl (.inl e)⟩
      | _ => cases h
  | _ => cases h
theorem memL_cases {ρ : List Addr} {st : Sto} {H : Hp} {dx dy : D} {x y : V} {b : Bool} (R : Rl N X.K ρ st H) (rx : Rep X.K ρ H dx x) (ry : Rep X.K ρ H dy y) (h : memF.memL st dx dy = some b) :
    (∃ p xs, y = .ref p ∧ (SqL X.K H p xs ∨ SqT X.K H p xs) ∧ flatV x = true ∧ xs.all flatV = true ∧ b = inV x xs) ∨
    (∃ d ds, Dp X.K H x d ∧ Dp X.K H y (.list ds) ∧ SeqAt.shaped d = true ∧ SeqAt.shaped (.list ds) = true ∧ b = ds.any fun z => PyData.eqv z d) := by
  have lists : (match listF st dy with
    | some xs => if flatF dx && xs.all flatF then some (xs.any fun z => eqS z dx) else (match treeF st 50 dx, treesF st 50 xs with
      | some t, some ts => some (ts.any fun z => T.eqv z t)
      | _, _ => none)
    | none => none) = some b → (∃ p xs, y = .ref p ∧ (SqL X.K H p xs ∨ SqT X.K H p xs) ∧ flatV x = true ∧ xs.all flatV = true ∧ b = inV x xs) ∨
    (∃ d ds, Dp X.K H x d ∧ Dp X.K H y (.list ds) ∧ SeqAt.shaped d = true ∧ SeqAt.shaped (.list ds) = true ∧ b = ds.any fun z => PyData.eqv z d) := by
    intro h
    split at h
    · rename_i xs q
      obtain ⟨a, vs, e, rs, hs⟩ := list_at R ry q
      subst e
      by_cases hf : (flatF dx && xs.all flatF) = true
      · rw [if_pos hf] at h
        cases h
        rw [Bool.and_eq_true] at hf
        exact .inl ⟨a, vs, rfl, .inl hs, flat_of rx hf.1, flats_of rs hf.2, (inV_of rx hf.1 rs hf.2).symm⟩
      · rw [if_neg hf] at h
        split at h
        · rename_i t ts e1 e2
          cases h
          obtain ⟨p1, p2⟩ := tree_of R 50 _ _ _ rx e1
          obtain ⟨q1, q2⟩ := trees_of R 50 _ _ _ rs e2
          refine .inr ⟨_, _, p1, .lst hs q1, shaped_toP (by omega), ?_, (any_toP t ts).symm⟩
          have := shaped_toP (t := .lst ts) (by simp only [toP, PyData.depth]; omega)
          simpa only [toP] using this
        · cases h
    · cases h
  unfold memF.memL at h
  cases ry with
  | tup h1 h2 =>
    dsimp only at h
    split at h
    · rename_i hf
      cases h
      rw [Bool.and_eq_true] at hf
      exact .inl ⟨_, _, rfl, .inr h1, flat_of rx hf.1, flats_of h2 hf.2, (inV_of rx hf.1 h2 hf.2).symm⟩
    · cases h
  | _ => exact lists h
theorem mem_cases {ρ : List Addr} {st : Sto} {H : Hp} {dx dy : D} {x y : V} {b : Bool} (R : Rl N X.K ρ st H) (rx : Rep X.K ρ H dx x) (ry : Rep X.K ρ H dy y) (h : memF st dx dy = some b) :
    (∃ (c : Nat) (z : Str), x = .str ⟨#[c]⟩ ∧ y = .str z ∧ b = decide (c ∈ z.cps.toList)) ∨
    (∃ a o, y = .ref a ∧ DGet H a x o ∧ b = o.isSome) ∨
    (∃ p xs, y = .ref p ∧ (SqL X.K H p xs ∨ SqT X.K H p xs) ∧ flatV x = true ∧ xs.all flatV = true ∧ b = inV x xs) ∨
    (∃ d ds, Dp X.K H x d ∧ Dp X.K H y (.list ds) ∧ SeqAt.shaped d = true ∧ SeqAt.shaped (.list ds) = true ∧ b = ds.any fun z => PyData.eqv z d) := by
  cases ry with
  | str z =>
    simp only [memF] at h
    split at h
    · rename_i c
      cases h
      cases rx
      exact .inl ⟨c.toNat, toS z, rfl, rfl, (char_mem c z).symm⟩
    · cases h
  | @ref n a h1 =>
    simp only [memF] at h
    split at h
    · rename_i kvs q
      obtain ⟨k, e, rfl⟩ := Option.map_eq_some_iff.mp h
      obtain ⟨a', ws, e1, _, rd, kv⟩ := dict_at R (.ref h1) q
      cases e1
      refine .inr (.inl ⟨_, valV ws (toK k), rfl, ?_, kv.some_eq.symm⟩)
      rw [keyF_of rx e]
      exact dget_of rd
    · exact .inr (.inr (memL_cases R rx (.ref h1) h))
  | non => exact .inr (.inr (memL_cases R rx Rep.non h))
  | bl k => exact .inr (.inr (memL_cases R rx (Rep.bl k) h))
  | int k => exact .inr (.inr (memL_cases R rx (Rep.int k) h))
  | tup h1 h2 => exact .inr (.inr (memL_cases R rx (.tup h1 h2) h))
  | kls h1 h2 => exact .inr (.inr (memL_cases R rx (.kls h1 h2) h))
theorem ok_mem {k : Nat} (hr : Room k X.A) : Op2Ok X N (compareOp .In) (opF .mem) := by
  intro ρ st H dx dy x y d st' R rx ry h
  simp only [opF] at h
  obtain ⟨b, e, h⟩ := MP.R.bind_eq h
  cases h
  have e := MP.R.of_eq e
  have hu := room65 hr
  rcases mem_cases R rx ry e with ⟨c, z, rfl, rfl, rfl⟩ | ⟨a, o, rfl, g, rfl⟩ | ⟨p, xs, rfl, hs, f1, f2, rfl⟩ | ⟨t, ds, h1, h2, h3, h4, rfl⟩
  · exact ⟨_, op_in_sign, fun Q P => ⟨_, _, rfl, rfl, P.here R (.bl _)⟩⟩
  · exact ⟨_, op_in_dict (by omega), fun Q P => ⟨_, _, rfl, g, P.here R (.bl _)⟩⟩
  · exact ⟨_, op_in_seq, fun Q P => ⟨_, _, rfl, hs, f1, f2, P.here R (.bl _)⟩⟩
  · exact ⟨_, op_inD hu, fun Q P => ⟨_, _, h1, h2, h3, h4, P.here R (.bl _)⟩⟩
theorem ok_nmem {k : Nat} (hr : Room k X.A) : Op2Ok X N (compareOp .NotIn) (opF .nmem) := by
  intro ρ st H dx dy x y d st' R rx ry h
  simp only [opF] at h
  obtain ⟨b, e, h⟩ := MP.R.bind_eq h
  cases h
  have e := MP.R.of_eq e
  have hu := room65 hr
  rcases mem_cases R rx ry e with ⟨c, z, rfl, rfl, rfl⟩ | ⟨a, o, rfl, g, rfl⟩ | ⟨p, xs, rfl, hs, f1, f2, rfl⟩ | ⟨t, ds, h1, h2, h3, h4, rfl⟩
  · exact ⟨_, op_notIn_sign, fun Q P => ⟨_, _, rfl, rfl, P.here R (.bl _)⟩⟩
  · exact ⟨_, op_notin_dict (by omega), fun Q P => ⟨_, _, rfl, g, P.here R (.bl _)⟩⟩
  · exact ⟨_, op_notIn_seq, fun Q P => ⟨_, _, rfl, hs, f1, f2, P.here R (.bl _)⟩⟩
  · exact ⟨_, op_notInD hu, fun Q P => ⟨_, _, h1, h2, h3, h4, P.here R (.bl _)⟩⟩
end
end MP

set_option Elab.async false
set_option linter.all false
set_option maxRecDepth 100000
set_option maxHeartbeats 1000000
/-! MPBi: built-in functions by values. -/
namespace MP
open PySem PySem.Spec PyProof.Rows L2
def CallOk (X : Cx) (N : Nm) (f : Value) (g : List D → Sto → RD) : Prop :=
  ∀ (ρ : List Addr) (st : Sto) (H : Hp) (ds : List D) (vs : List V) (d : D) (st' : Sto), Rl N X.K ρ st H → Reps X.K ρ H ds vs → g ds st = .ok (d, st') →
    ∃ r : List V → Hp → VK → Prop, CallR X f r ∧ ∀ Q : VK, Post N X.K ρ H d st' Q → r vs H Q
section
variable {X : Cx} {N : Nm} {ρ : List Addr} {H : Hp}
theorem ints_of : ∀ {ds : List D} {vs : List V} {ns : List Int}, Reps X.K ρ H ds vs → intsF ds = some ns → vs = ns.map V.int
  | _, _, _, .nil, h => by cases h; rfl
  | _, _, _, .cons r t, h => by
    cases r <;> simp [intsF] at h
    obtain ⟨l, e, rfl⟩ := h
    rw [List.map_cons, ← ints_of t e]
theorem bls_of : ∀ {ds : List D} {vs : List V} {ns : List Bool}, Reps X.K ρ H ds vs → blsF ds = some ns → vs = ns.map V.bl
  | _, _, _, .nil, h => by cases h; rfl
  | _, _, _, .cons r t, h => by
    cases r <;> simp [blsF] at h
    obtain ⟨l, e, rfl⟩ := h
    rw [List.map_cons, ← bls_of t e]
theorem strs_of : ∀ {ds : List D} {vs : List V} {ns : List (List Char)}, Reps X.K ρ H ds vs → strsF ds = some ns → vs = (ns.map toS).map V.str
  | _, _, _, .nil, h => by cases h; rfl
  | _, _, _, .cons r t, h => by
    cases r <;> simp [strsF] at h
    obtain ⟨l, e, rfl⟩ := h
    rw [List.map_cons, List.map_cons, ← strs_of t e]
theorem reps_strs : ∀ (ns : List (List Char)), Reps X.K ρ H (ns.map D.str) ((ns.map toS).map V.str)
  | [] => .nil
  | x :: r => .cons (.str x) (reps_strs r)
theorem reps1 {ds : List D} {d : D} {vs : List V} (r : Reps X.K ρ H (d :: []) vs) : ∃ v, vs = [v] ∧ Rep X.K ρ H d v := by
  cases r with
  | cons r t => cases t; exact ⟨_, rfl, r⟩
theorem reps2 {d e : D} {vs : List V} (r : Reps X.K ρ H [d, e] vs) : ∃ v u, vs = [v, u] ∧ Rep X.K ρ H d v ∧ Rep X.K ρ H e u := by
  cases r with
  | cons r t =>
    cases t with
    | cons q t => cases t; exact ⟨_, _, rfl, r, q⟩

/-! #### len, int, str, tuple, list -/
theorem ok_len : CallOk X N (.builtin "len") (biF .len) := by
  intro ρ st H ds vs d st' R rs h
  have hz := sz_line
  match ds, h with
  | [x], h =>
    obtain ⟨v, rfl, r⟩ := reps1 (ds := []) rs
    cases r with
    | str a =>
      simp only [biF] at h
      split at h
      · cases h
        refine ⟨_, call_len_str, fun Q P => ⟨_, rfl, by rw [toS_len]; omega, ?_⟩⟩
        rw [toS_len]
        exact P.here R (.int _)
      · cases h
    | tup h1 h2 =>
      simp only [biF] at h
      cases h
      exact ⟨_, call_len_seq, fun Q P => ⟨_, _, rfl, .inr h1, by rw [← h2.len]; exact P.here R (.int _)⟩⟩
    | kls h1 h2 =>
      simp only [biF] at h
      cases h
      exact ⟨_, call_len_seq, fun Q P => ⟨_, _, rfl, .inl h1.sq, by rw [← h2.len]; exact P.here R (.int _)⟩⟩
    | @ref n a h1 =>
      simp only [biF] at h
      split at h
      · rename_i q
        cases h
        obtain ⟨vs, e, rr⟩ := R.at_ _ _ _ h1 q
        exact ⟨_, call_len_seq, fun Q P => ⟨_, _, rfl, .inl (.inl (.inl e)), by rw [← rr.len]; exact P.here R (.int _)⟩⟩
      · rename_i q
        cases h
        obtain ⟨vs, e, rr⟩ := R.at_ _ _ _ h1 q
        exact ⟨_, call_lenD, fun Q P => ⟨_, _, rfl, e, by rw [← Paired.length rr]; exact P.here R (.int _)⟩⟩
      · cases h
    | _ => simp [biF] at h
  | [], h => simp [biF] at h
  | _ :: _ :: _, h => simp [biF] at h
theorem toS_cps (x : List Char) : (toS x).cps.toList = x.map Char.toNat := by simp [toS]
theorem digits_all {cs : List Char} (h : cs.all isDig = true) : NumText.AllDigits (cs.map Char.toNat) := by
  intro c hc
  obtain ⟨d, hd, rfl⟩ := List.mem_map.mp hc
  have := List.all_eq_true.mp h d hd
  rw [isDig, Bool.and_eq_true, decide_eq_true_eq, decide_eq_true_eq] at this
  exact this
theorem digits_val (cs : List Char) : NumText.digitsVal (cs.map Char.toNat) = valF cs := by
  unfold NumText.digitsVal valF
  rw [List.foldl_map]
theorem intF_ok {a : List Char} {n : Int} (hl : a.length ≤ 640) (h : intF a = some n) : intText? (toS a) = some n := by
  have hl2 : (toS a).length ≤ 4300 := by rw [toS_len]; omega
  cases a with
  | nil => cases h
  | cons c r =>
    rw [intF] at h
    split at h
    · rename_i hc
      split at h
      · rename_i hd
        cases h
        rw [Bool.and_eq_true] at hd
        rw [← digits_val]
        refine intText_neg ?_ (digits_all hd.1) ?_ hl2
        · rw [toS_cps, hc]; rfl
        · intro e
          rw [List.map_eq_nil_iff] at e
          rw [e] at hd
          exact absurd hd.2 (by simp)
      · cases h
    · split at h
      · rename_i hd
        cases h
        rw [← digits_val, ← toS_cps]
        exact intText_digits (by rw [toS_cps]; exact digits_all hd) (by rw [toS_cps]; simp) hl2
      · cases h
theorem ok_int : CallOk X N (.type "int") (biF .int) := by
  intro ρ st H ds vs d st' R rs h
  match ds, h with
  | [x], h =>
    obtain ⟨v, rfl, r⟩ := reps1 (ds := []) rs
    cases r with
    | bl b => simp only [biF] at h; cases h; exact ⟨_, call_int1, fun Q P => .inr ⟨_, rfl, P.here R (.int _)⟩⟩
    | int i => simp only [biF] at h; cases h; exact ⟨_, call_int1, fun Q P => .inl ⟨_, rfl, P.here R (.int _)⟩⟩
    | str a =>
      simp only [biF] at h
      split at h
      · rename_i hl
        split at h
        · rename_i n e
          cases h
          exact ⟨_, call_int_str, fun Q P => ⟨_, _, rfl, intF_ok hl e, by rw [toS_len]; exact hl, P.here R (.int _)⟩⟩
        · cases h
      · cases h
    | _ => simp [biF] at h
  | [], h => simp [biF] at h
  | _ :: _ :: _, h => simp [biF] at h
theorem toS_ofString (s : String) : Str.ofString s = toS s.toList := by rw [Str.ofString_eq_toList]; rfl
theorem showI_ok (i : Int) : Str.ofString (toString i) = toS (showI i) := by
  rw [toS_ofString]
  congr 1
  cases i with
  | ofNat n =>
    show (toString n).toList = digF n
    show (Nat.repr n).toList = _
    simp [Nat.repr, digF]
  | negSucc n =>
    show ("-" ++ toString (Nat.succ n)).toList = '-' :: digF (n + 1)
    rw [String.toList_append]
    show _ ++ (Nat.repr (n + 1)).toList = _
    simp [Nat.repr, digF]
theorem ok_str : CallOk X N (.type "str") (biF .str) := by
  intro ρ st H ds vs d st' R rs h
  match ds, h with
  | [x], h =>
    obtain ⟨v, rfl, r⟩ := reps1 (ds := []) rs
    cases r <;> simp only [biF, reduceCtorEq] at h
    · split at h
      · rename_i h0
        cases h
        exact ⟨_, call_str_int, fun Q P => ⟨_, rfl, by omega, by rw [showI_ok]; exact P.here R (.str _)⟩⟩
      · cases h
    · cases h
      exact ⟨_, SkE.call_str_str, fun Q P => ⟨_, rfl, P.here R (.str _)⟩⟩
  | [], h => simp [biF] at h
  | _ :: _ :: _, h => simp [biF] at h
theorem ok_tuple : CallOk X N (.type "tuple") (biF .tuple) := by
  intro ρ st H ds vs d st' R rs h
  match ds, h with
  | [x], h =>
    obtain ⟨v, rfl, r⟩ := reps1 (ds := []) rs
    simp only [biF] at h
    split at h
    · rename_i ys q
      cases h
      obtain ⟨a, us, rfl, rr, hs⟩ := seq_at R r q
      rcases hs with hs | hs
      · exact ⟨_, call_tuple_of, fun Q P => ⟨_, _, rfl, .inl ⟨hs, P.tup R rr⟩⟩⟩
      · exact ⟨_, call_tuple_of, fun Q P => ⟨_, _, rfl, .inr ⟨hs, P.here R (.tup hs rr)⟩⟩⟩
    · cases h
  | [], h => simp [biF] at h
  | _ :: _ :: _, h => simp [biF] at h
theorem reps_keys : ∀ {kvs : List (Kk × D)} {ws : List (Key × V)}, KVs X.K ρ H kvs ws → Reps X.K ρ H (kvs.map fun kv => keyD kv.1) (ws.map fun kv => kV kv.1)
  | _, _, .nil => .nil
  | _, _, .cons (a := p) (b := q) r t => by
    rw [List.map_cons, List.map_cons, r.1]
    exact .cons (rep_keyD _) (reps_keys t)
theorem ok_list (hc : X.calm = true) : CallOk X N (.type "list") (biF .list) := by
  intro ρ st H ds vs d st' R rs h
  match ds, h with
  | [x], h =>
    obtain ⟨v, rfl, r⟩ := reps1 (ds := []) rs
    simp only [biF] at h
    split at h
    · rename_i ys q
      cases h
      obtain ⟨a, us, rfl, rr, hs⟩ := seq_at R r q
      exact ⟨_, call_list_of, fun Q P => ⟨_, _, rfl, hs, P.lst R rr⟩⟩
    · cases r with
      | @ref n a h1 =>
        simp only at h
        split at h
        · rename_i kvs q
          cases h
          obtain ⟨b, ws, e, _, rd, kv⟩ := dict_at R (.ref h1) q
          cases e
          exact ⟨_, call_listD hc, fun Q P => ⟨_, _, rfl, rd, P.lst R (reps_keys kv)⟩⟩
        · cases h
      | _ => simp at h
  | [], h => simp [biF] at h
  | _ :: _ :: _, h => simp [biF] at h
theorem ok_dict : CallOk X N (.type "dict") (biF .dict) := by
  intro ρ st H ds vs d st' R rs h
  match ds, h with
  | [x], h =>
    obtain ⟨v, rfl, r⟩ := reps1 (ds := []) rs
    cases r <;> simp only [biF, reduceCtorEq] at h
    rename_i n a h1
    split at h
    · rename_i kvs q
      cases h
      obtain ⟨b, ws, e, _, rd, kv⟩ := dict_at R (.ref h1) q
      cases e
      exact ⟨_, call_dictD, fun Q P => ⟨_, _, rfl, rd, P.dct R kv⟩⟩
    · cases h
  | [], h => simp [biF] at h
  | _ :: _ :: _, h => simp [biF] at h

/-! #### numbers -/
theorem ok_max2 (hc : X.calm = true) : CallOk X N (.builtin "max") (biF .max2) := by
  intro ρ st H ds vs d st' R rs h
  match ds, h with
  | [x, y], h =>
    obtain ⟨v, u, rfl, r, q⟩ := reps2 rs
    cases r <;> cases q <;> simp only [biF, reduceCtorEq] at h
    cases h
    exact ⟨_, call_max2 hc, fun Q P => ⟨_, _, rfl, P.here R (.int _)⟩⟩
  | [], h => simp [biF] at h
  | [_], h => simp [biF] at h
  | _ :: _ :: _ :: _, h => simp [biF] at h
theorem ok_min2 (hc : X.calm = true) : CallOk X N (.builtin "min") (biF .min2) := by
  intro ρ st H ds vs d st' R rs h
  match ds, h with
  | [x, y], h =>
    obtain ⟨v, u, rfl, r, q⟩ := reps2 rs
    cases r <;> cases q <;> simp only [biF, reduceCtorEq] at h
    cases h
    exact ⟨_, call_min2 hc, fun Q P => ⟨_, _, rfl, P.here R (.int _)⟩⟩
  | [], h => simp [biF] at h
  | [_], h => simp [biF] at h
  | _ :: _ :: _ :: _, h => simp [biF] at h
theorem ok_abs : CallOk X N (.builtin "abs") (biF .abs) := by
  intro ρ st H ds vs d st' R rs h
  match ds, h with
  | [x], h =>
    obtain ⟨v, rfl, r⟩ := reps1 (ds := []) rs
    cases r <;> simp only [biF, reduceCtorEq] at h
    cases h
    exact ⟨_, call_abs, fun Q P => ⟨_, rfl, P.here R (.int _)⟩⟩
  | [], h => simp [biF] at h
  | _ :: _ :: _, h => simp [biF] at h
theorem ok_ord : CallOk X N (.builtin "ord") (biF .ord) := by
  intro ρ st H ds vs d st' R rs h
  match ds, h with
  | [.str [c]], h =>
    obtain ⟨v, rfl, r⟩ := reps1 (ds := []) rs
    cases r
    simp only [biF] at h
    cases h
    exact ⟨_, call_ord, fun Q P => ⟨_, rfl, by rw [toS_len]; rfl, P.here R (.int _)⟩⟩
  | [], h => simp [biF] at h
  | _ :: _ :: _, h => simp [biF] at h
  | [.str []], h => simp [biF] at h
  | [.str (_ :: _ :: _)], h => simp [biF] at h
  | [.non], h => simp [biF] at h
  | [.bl _], h => simp [biF] at h
  | [.int _], h => simp [biF] at h
  | [.tup _], h => simp [biF] at h
  | [.kls _], h => simp [biF] at h
  | [.ref _], h => simp [biF] at h
theorem bind_some {α β : Type} {x : Option α} {f : α → Option β} {b : β} (h : x.bind f = some b) : ∃ a, x = some a ∧ f a = some b := by
  cases x with
  | none => cases h
  | some a => exact ⟨a, rfl, h⟩
theorem ok_sum (hc : X.calm = true) : CallOk X N (.builtin "sum") (biF .sum) := by
  intro ρ st H ds vs d st' R rs h
  match ds, h with
  | [x], h =>
    obtain ⟨v, rfl, r⟩ := reps1 (ds := []) rs
    simp only [biF] at h
    split at h
    · rename_i ns q
      cases h
      obtain ⟨xs, e, q⟩ := bind_some q
      obtain ⟨a, us, rfl, rr, hs⟩ := list_at R r e
      rw [ints_of rr q] at hs
      exact ⟨_, cr_sum hc, fun Q P => ⟨_, _, rfl, hs, P.here R (.int _)⟩⟩
    · cases h
  | [], h => simp [biF] at h
  | _ :: _ :: _, h => simp [biF] at h
theorem fold_max : ∀ (r : List Int) (x m : Int), (∀ y ∈ x :: r, y ≤ m) → m ∈ x :: r → r.foldl (fun a b => if b > a then b else a) x = m
  | [], x, m, h, hm => by
    have : m = x := by simpa using hm
    rw [this]; rfl
  | y :: r, x, m, h, hm => by
    rw [List.foldl_cons]
    refine fold_max r _ m (fun z hz => ?_) ?_
    · rcases List.mem_cons.mp hz with e | e
      · rw [e]
        split
        · exact h y (by simp)
        · exact h x (by simp)
      · exact h z (by simp [e])
    · have hx := h x (by simp)
      have hy := h y (by simp)
      rcases List.mem_cons.mp hm with e | e
      · subst e
        have : ¬ y > m := by omega
        rw [if_neg this]; exact List.mem_cons_self
      · rcases List.mem_cons.mp e with e | e
        · subst e
          by_cases hgt : m > x
          · rw [if_pos hgt]; exact List.mem_cons_self
          · have : x = m := by omega
            rw [if_neg hgt, this]; exact List.mem_cons_self
        · exact List.mem_cons_of_mem _ e
theorem fold_min : ∀ (r : List Int) (x m : Int), (∀ y ∈ x :: r, m ≤ y) → m ∈ x :: r → r.foldl (fun a b => if b < a then b else a) x = m
  | [], x, m, h, hm => by
    have : m = x := by simpa using hm
    rw [this]; rfl
  | y :: r, x, m, h, hm => by
    rw [List.foldl_cons]
    refine fold_min r _ m (fun z hz => ?_) ?_
    · rcases List.mem_cons.mp hz with e | e
      · rw [e]
        split
        · exact h y (by simp)
        · exact h x (by simp)
      · exact h z (by simp [e])
    · have hx := h x (by simp)
      have hy := h y (by simp)
      rcases List.mem_cons.mp hm with e | e
      · subst e
        have : ¬ y < m := by omega
        rw [if_neg this]; exact List.mem_cons_self
      · rcases List.mem_cons.mp e with e | e
        · subst e
          by_cases hgt : m < x
          · rw [if_pos hgt]; exact List.mem_cons_self
          · have : x = m := by omega
            rw [if_neg hgt, this]; exact List.mem_cons_self
        · exact List.mem_cons_of_mem _ e
theorem ok_maxl (hc : X.calm = true) : CallOk X N (.builtin "max") (biF .maxl) := by
  intro ρ st H ds vs d st' R rs h
  match ds, h with
  | [x], h =>
    obtain ⟨v, rfl, r⟩ := reps1 (ds := []) rs
    simp only [biF] at h
    split at h
    · rename_i m q
      cases h
      obtain ⟨ns, q, hm⟩ := bind_some q
      obtain ⟨xs, e, q⟩ := bind_some q
      obtain ⟨a, us, rfl, rr, hs⟩ := list_at R r e
      rw [ints_of rr q] at hs
      cases ns with
      | nil => cases hm
      | cons y ns =>
        simp only [maxI] at hm
        cases hm
        refine ⟨_, cr_max hc, fun Q P => ⟨_, _, rfl, hs, by simp, fun m h1 h2 => ?_⟩⟩
        rw [fold_max ns y m h2 h1] at P
        exact P.here R (.int _)
    · cases h
  | [], h => simp [biF] at h
  | _ :: _ :: _, h => simp [biF] at h
theorem ok_minl (hc : X.calm = true) : CallOk X N (.builtin "min") (biF .minl) := by
  intro ρ st H ds vs d st' R rs h
  match ds, h with
  | [x], h =>
    obtain ⟨v, rfl, r⟩ := reps1 (ds := []) rs
    simp only [biF] at h
    split at h
    · rename_i m q
      cases h
      obtain ⟨ns, q, hm⟩ := bind_some q
      obtain ⟨xs, e, q⟩ := bind_some q
      obtain ⟨a, us, rfl, rr, hs⟩ := list_at R r e
      rw [ints_of rr q] at hs
      cases ns with
      | nil => cases hm
      | cons y ns =>
        simp only [minI] at hm
        cases hm
        refine ⟨_, cr_min hc, fun Q P => ⟨_, _, rfl, hs, by simp, fun m h1 h2 => ?_⟩⟩
        rw [fold_min ns y m h2 h1] at P
        exact P.here R (.int _)
    · cases h
  | [], h => simp [biF] at h
  | _ :: _ :: _, h => simp [biF] at h
theorem ok_any (hc : X.calm = true) : CallOk X N (.builtin "any") (biF .any) := by
  intro ρ st H ds vs d st' R rs h
  match ds, h with
  | [x], h =>
    obtain ⟨v, rfl, r⟩ := reps1 (ds := []) rs
    simp only [biF] at h
    split at h
    · rename_i ns q
      cases h
      obtain ⟨xs, e, q⟩ := bind_some q
      obtain ⟨a, us, rfl, rr, hs⟩ := list_at R r e
      rw [bls_of rr q] at hs
      exact ⟨_, cr_any hc, fun Q P => ⟨_, _, rfl, hs, P.here R (.bl _)⟩⟩
    · cases h
  | [], h => simp [biF] at h
  | _ :: _ :: _, h => simp [biF] at h
theorem ok_all (hc : X.calm = true) : CallOk X N (.builtin "all") (biF .all) := by
  intro ρ st H ds vs d st' R rs h
  match ds, h with
  | [x], h =>
    obtain ⟨v, rfl, r⟩ := reps1 (ds := []) rs
    simp only [biF] at h
    split at h
    · rename_i ns q
      cases h
      obtain ⟨xs, e, q⟩ := bind_some q
      obtain ⟨a, us, rfl, rr, hs⟩ := list_at R r e
      rw [bls_of rr q] at hs
      exact ⟨_, cr_all hc, fun Q P => ⟨_, _, rfl, hs, P.here R (.bl _)⟩⟩
    · cases h
  | [], h => simp [biF] at h
  | _ :: _ :: _, h => simp [biF] at h

/-! #### sorted texts -/
theorem cmpS_irr : ∀ x : List Char, cmpS x x = false
  | [] => rfl
  | a :: x => by simp [cmpS, cmpS_irr x]
theorem cmpS_trans : ∀ {x y z : List Char}, cmpS x y = true → cmpS y z = true → cmpS x z = true
  | _, [], _, h, _ => by cases ‹List Char› <;> simp [cmpS] at h
  | _, _ :: _, [], _, h => by simp [cmpS] at h
  | [], _ :: _, _ :: _, _, _ => rfl
  | a :: x, b :: y, c :: z, h1, h2 => by
    simp only [cmpS] at h1 h2 ⊢
    by_cases e1 : a.toNat < b.toNat
    · by_cases e2 : b.toNat < c.toNat
      · rw [if_pos (by omega)]
      · rw [if_neg e2] at h2
        by_cases e3 : b.toNat = c.toNat
        · rw [if_pos (by omega)]
        · rw [if_neg e3] at h2; cases h2
    · rw [if_neg e1] at h1
      by_cases e1' : a.toNat = b.toNat
      · rw [if_pos e1'] at h1
        by_cases e2 : b.toNat < c.toNat
        · rw [if_pos (by omega)]
        · rw [if_neg e2] at h2
          by_cases e3 : b.toNat = c.toNat
          · rw [if_pos e3] at h2
            rw [if_neg (by omega), if_pos (by omega)]
            exact cmpS_trans h1 h2
          · rw [if_neg e3] at h2; cases h2
      · rw [if_neg e1'] at h1; cases h1
theorem cmpS_tri : ∀ (x y : List Char), cmpS x y = false → cmpS y x = false → x = y
  | [], [], _, _ => rfl
  | [], _ :: _, h, _ => by simp [cmpS] at h
  | _ :: _, [], _, h => by simp [cmpS] at h
  | a :: x, b :: y, h1, h2 => by
    simp only [cmpS] at h1 h2
    by_cases e1 : a.toNat < b.toNat
    · rw [if_pos e1] at h1; cases h1
    · by_cases e2 : b.toNat < a.toNat
      · rw [if_pos e2] at h2; cases h2
      · have e : a.toNat = b.toNat := by omega
        rw [if_neg e1, if_pos e] at h1
        rw [if_neg e2, if_pos e.symm] at h2
        rw [char_inj e, cmpS_tri x y h1 h2]
/-- not behind -/
def leS (x y : List Char) : Prop := cmpS y x = false
theorem leS_trans {x y z : List Char} (h1 : leS x y) (h2 : leS y z) : leS x z := by
  unfold leS at *
  cases h : cmpS z x with
  | false => rfl
  | true =>
    cases h3 : cmpS x y with
    | true => rw [cmpS_trans h h3] at h2; cases h2
    | false =>
      have e := cmpS_tri x y h3 h1
      subst e
      rw [h] at h2; cases h2
theorem insS_perm (x : List Char) : ∀ l, (insS x l).Perm (x :: l)
  | [] => .refl _
  | y :: r => by
    unfold insS
    split
    · exact (List.Perm.cons y (insS_perm x r)).trans (.swap _ _ _)
    · exact .refl _
theorem sortS_perm : ∀ l, (sortS l).Perm l
  | [] => .refl _
  | x :: r => (insS_perm x _).trans (.cons x (sortS_perm r))
theorem insS_sorted (x : List Char) : ∀ l, l.Pairwise leS → (insS x l).Pairwise leS
  | [], _ => by simp [insS]
  | y :: r, h => by
    obtain ⟨h1, h2⟩ := List.pairwise_cons.mp h
    unfold insS
    by_cases e : cmpS y x = true
    · rw [if_pos e]
      refine List.pairwise_cons.mpr ⟨fun z hz => ?_, insS_sorted x r h2⟩
      rcases List.mem_cons.mp ((insS_perm x r).subset hz) with e2 | e2
      · subst e2
        unfold leS
        cases h4 : cmpS z y with
        | false => rfl
        | true =>
          have := cmpS_trans e h4
          rw [cmpS_irr] at this; cases this
      · exact h1 z e2
    · rw [if_neg e]
      have exy : leS x y := by simpa [leS] using e
      refine List.pairwise_cons.mpr ⟨fun z hz => ?_, h⟩
      rcases List.mem_cons.mp hz with e2 | e2
      · subst e2; exact exy
      · exact leS_trans exy (h1 z e2)
theorem sortS_sorted : ∀ l, (sortS l).Pairwise leS
  | [] => .nil
  | x :: r => insS_sorted x _ (sortS_sorted r)
theorem sortS_uniq {l m : List (List Char)} (hp : m.Perm l) (hs : m.Pairwise leS) : m = sortS l :=
  List.Perm.eq_of_pairwise (le := leS) (fun a b _ _ h1 h2 => cmpS_tri a b h2 h1) hs (sortS_sorted l) (hp.trans (sortS_perm l).symm)
theorem lt_cmpS : ∀ (x y : List Char), ltCps (x.map Char.toNat) (y.map Char.toNat) = cmpS x y
  | [], [] => rfl
  | [], _ :: _ => rfl
  | _ :: _, [] => rfl
  | a :: x, b :: y => by
    rw [List.map_cons, List.map_cons, ltCps, cmpS, lt_cmpS x y]
    by_cases h1 : a.toNat < b.toNat
    · rw [if_pos h1, decide_eq_true h1]; rfl
    · rw [if_neg h1, decide_eq_false h1]
      by_cases h2 : a.toNat = b.toNat
      · rw [if_pos h2, beq_iff_eq.mpr h2]; rfl
      · rw [if_neg h2, beq_eq_false_iff_ne.mpr h2]; rfl
theorem rising_of : ∀ (m : List (List Char)) (x : List Char), risingS (toS x) (m.map toS) = true → (x :: m).Pairwise leS
  | [], x, _ => by simp
  | y :: m, x, h => by
    rw [List.map_cons, risingS, Bool.and_eq_true] at h
    have h2 := rising_of m y h.2
    have hxy : leS x y := by
      have e : ltCps (toS y).cps.toList (toS x).cps.toList = cmpS y x := by
        rw [toS_list, toS_list, lt_cmpS]
      unfold leS
      rw [← e]
      simpa using h.1
    refine List.pairwise_cons.mpr ⟨fun z hz => ?_, h2⟩
    rcases List.mem_cons.mp hz with e2 | e2
    · subst e2; exact hxy
    · exact leS_trans hxy ((List.pairwise_cons.mp h2).1 z e2)
theorem sorted_of {m : List (List Char)} (h : sortedS (m.map toS) = true) : m.Pairwise leS := by
  cases m with
  | nil => exact .nil
  | cons x m => exact rising_of m x h
theorem perm_toS {ys : List Str} {ss : List (List Char)} (h : ys.Perm (ss.map toS)) (hs : sortedS ys = true) : ys = (sortS ss).map toS := by
  have : ∃ m : List (List Char), ys = m.map toS ∧ m.Perm ss := by
    have key : ∀ {a b : List Str}, a.Perm b → ∀ ss : List (List Char), b = ss.map toS → ∃ m : List (List Char), a = m.map toS ∧ m.Perm ss := by
      intro a b h
      induction h with
      | nil => intro ss e; cases ss with
        | nil => exact ⟨[], rfl, .refl _⟩
        | cons => cases e
      | cons x _ ih =>
        intro ss e
        cases ss with
        | nil => cases e
        | cons s ss =>
          rw [List.map_cons] at e
          injection e with e1 e2
          obtain ⟨m, h1, h2⟩ := ih ss e2
          exact ⟨s :: m, by rw [List.map_cons, h1, e1], .cons s h2⟩
      | swap x y l =>
        intro ss e
        match ss, e with
        | s :: t :: ss, e =>
          rw [List.map_cons, List.map_cons] at e
          injection e with e1 e2
          injection e2 with e2 e3
          exact ⟨t :: s :: ss, by rw [List.map_cons, List.map_cons, e1, e2, e3], .swap _ _ _⟩
      | trans _ _ i1 i2 =>
        intro ss e
        obtain ⟨m, h1, h2⟩ := i2 ss e
        obtain ⟨n, h3, h4⟩ := i1 m h1
        exact ⟨n, h3, h4.trans h2⟩
    exact key h ss rfl
  obtain ⟨m, e, hp⟩ := this
  subst e
  rw [sortS_uniq hp (sorted_of hs)]
theorem keys_str : ∀ {kvs : List (Kk × D)} {ws : List (Key × V)} {ss : List (List Char)}, KVs X.K ρ H kvs ws → strsF (kvs.map fun kv => keyD kv.1) = some ss → ws.map (·.1) = (ss.map toS).map Sum.inr
  | _, _, _, .nil, h => by cases h; rfl
  | _, _, _, .cons (a := p) (b := q) r t, h => by
    obtain ⟨k, d⟩ := p
    cases k with
    | i n => simp [keyD, strsF] at h
    | s x =>
      simp [keyD, strsF] at h
      obtain ⟨l, e, rfl⟩ := h
      rw [List.map_cons, List.map_cons, List.map_cons, keys_str t e, r.1]
      rfl
theorem ok_sorted (hc : X.calm = true) : CallOk X N (.builtin "sorted") (biF .sorted) := by
  intro ρ st H ds vs d st' R rs h
  match ds, h with
  | [x], h =>
    obtain ⟨v, rfl, r⟩ := reps1 (ds := []) rs
    cases r with
    | @ref n a h1 =>
      simp only [biF] at h
      split at h
      · rename_i kvs q
        split at h
        · rename_i ss e
          split at h
          · rename_i h64
            cases h
            obtain ⟨b, ws, eb, _, rd, kv⟩ := dict_at R (.ref h1) q
            cases eb
            refine ⟨_, call_sortedD hc, fun Q P => ⟨_, _, ss.map toS, rfl, rd, keys_str kv e, by rw [List.length_map]; exact h64, fun ys p hp hs hn => ?_⟩⟩
            rw [perm_toS hp hs]
            exact P.lst R (reps_strs _) p hn
          · cases h
        · cases h
      · split at h
        · rename_i ss e
          split at h
          · rename_i h64
            cases h
            obtain ⟨xs, e1, e2⟩ := bind_some e
            obtain ⟨b, us, eb, rr, hs⟩ := list_at R (.ref h1) e1
            cases eb
            rw [strs_of rr e2] at hs
            refine ⟨_, cr_sortedS, fun Q P => ⟨_, ss.map toS, rfl, hs, by rw [List.length_map]; exact h64, fun ys p hp hs hn => ?_⟩⟩
            rw [perm_toS hp hs]
            exact P.lst R (reps_strs _) p hn
          · cases h
        · cases h
    | _ => simp [biF] at h
  | [], h => simp [biF] at h
  | _ :: _ :: _, h => simp [biF] at h
end
end MP

set_option Elab.async false
set_option linter.all false
set_option maxRecDepth 100000
set_option maxHeartbeats 1000000
/-! MPIx: subscripts, slices, isinstance, stores, methods of built-in types, by values. -/
namespace MP
open PySem PySem.Spec PyProof.Rows L2
section
variable {X : Cx} {N : Nm}
def IxOk (X : Cx) (N : Nm) : Prop :=
  ∀ (ρ : List Addr) (st : Sto) (H : Hp) (dx dy : D) (x y : V) (d : D), Rl N X.K ρ st H → Rep X.K ρ H dx x → Rep X.K ρ H dy y → ixF st dx dy = some d →
    ∃ r : R2, IxR X r ∧ ∀ Q : VK, Post N X.K ρ H d st Q → r x y H Q
theorem ix_dict (hu : X.A.units + 1 < cLine) : IxR X (fun x y H Q => ∃ a v, x = .ref a ∧ DGet H a y (some v) ∧ Q v H) := by
  intro value slice pins s σ H x y v u Q I rx ry h hs
  obtain ⟨a, r, rfl, g, q⟩ := h
  obtain rfl : v = Value.ref a := rx
  exact tail_any (dict_typeIs I g) PySem.F.slot_dict_getitem.lookup (d_getItem hu I g ry fun w' s' I' r' => ⟨r, H, I', r', q⟩) hs
theorem idx_ix (n : Nat) (i : Int) : idxF n i = ixN n i := rfl
theorem at_reps {ρ : List Addr} {H : Hp} {ds : List D} {vs : List V} {i : Int} {d : D} (r : Reps X.K ρ H ds vs) (h : atF ds i = some d) : ∃ v, atI vs i = some v ∧ Rep X.K ρ H d v := by
  obtain ⟨j, e1, e2⟩ := bind_some h
  obtain ⟨v, e3, e4⟩ := r.get e2
  refine ⟨v, ?_, e4⟩
  unfold atI
  rw [← r.len, ← idx_ix, e1]
  exact e3
theorem at_str {x : List Char} {i : Int} {c : Char} (h : atF x i = some c) : atI (toS x).cps.toList i = some c.toNat := by
  obtain ⟨j, e1, e2⟩ := bind_some h
  unfold atI
  rw [toS_list, List.length_map, ← idx_ix, e1]
  show (x.map Char.toNat)[j]? = _
  rw [List.getElem?_map, e2]; rfl
theorem ok_ix {k : Nat} (hr : Room k X.A) : IxOk X N := by
  intro ρ st H dx dy x y d R rx ry h
  have hz := sz_line
  have hu := room65 hr
  cases rx with
  | str a =>
    cases ry <;> simp only [ixF, reduceCtorEq] at h
    split at h
    · obtain ⟨c, e, rfl⟩ := Option.map_eq_some_iff.mp h
      refine ⟨_, ix_str, fun Q P => ⟨_, _, _, rfl, rfl, by rw [toS_len]; omega, at_str e, P.here R (.str [c])⟩⟩
    · cases h
  | tup h1 h2 =>
    cases ry <;> simp only [ixF, reduceCtorEq] at h
    obtain ⟨v, e, r⟩ := at_reps h2 h
    exact ⟨_, ix_tup, fun Q P => ⟨_, _, _, _, rfl, rfl, h1, e, P.here R r⟩⟩
  | kls h1 h2 =>
    cases ry <;> simp only [ixF, reduceCtorEq] at h
    obtain ⟨v, e, r⟩ := at_reps h2 h
    exact ⟨_, ix_list, fun Q P => ⟨_, _, _, _, rfl, rfl, h1.sq, e, P.here R r⟩⟩
  | @ref n a h1 =>
    have dic : ∀ (kvs : List (Kk × D)), dictF st n = some kvs → ((keyF dy).bind (getK kvs)) = some d → ∃ r : R2, IxR X r ∧ ∀ Q : VK, Post N X.K ρ H d st Q → r (.ref a) y H Q := by
      intro kvs q h
      obtain ⟨k, e1, e2⟩ := bind_some h
      obtain ⟨b, ws, e, _, rd, kv⟩ := dict_at R (.ref h1) q
      cases e
      obtain ⟨v, e3, r⟩ := kv.val.1 d e2
      refine ⟨_, ix_dict (by omega), fun Q P => ⟨_, v, rfl, ?_, P.here R r⟩⟩
      rw [keyF_of ry e1, ← e3]
      exact dget_of rd
    simp only [ixF] at h
    split at h
    · rename_i xs q
      cases ry <;> simp only [reduceCtorEq] at h
      obtain ⟨vs, e, rs⟩ := R.at_ _ _ _ h1 q
      obtain ⟨v, e2, r⟩ := at_reps rs h
      exact ⟨_, ix_list, fun Q P => ⟨_, _, _, _, rfl, rfl, .inl (.inl e), e2, P.here R r⟩⟩
    · rename_i q
      exact dic _ (by unfold dictF; rw [q]) h
    · rename_i q
      exact dic _ (by unfold dictF; rw [q]) h
    · cases h
  | _ => simp [ixF] at h

/-! #### slices -/
def SlOk (X : Cx) (N : Nm) : Prop :=
  ∀ (ρ : List Addr) (st : Sto) (H : Hp) (dx : D) (x : V) (lo hi : Option Int) (d : D) (st' : Sto), Rl N X.K ρ st H → Rep X.K ρ H dx x → slF st dx lo hi = .ok (d, st') →
    ∃ r, SlR X r ∧ ∀ Q : VK, Post N X.K ρ H d st' Q → r x lo hi H Q
theorem slIx_eq (n d : Nat) (o : Option Int) : slIx n d o = HT.sIx n d o := by
  cases o <;> rfl
theorem cut_reps {ρ : List Addr} {H : Hp} {ds : List D} {vs : List V} (r : Reps X.K ρ H ds vs) (lo hi : Option Int) : Reps X.K ρ H (cutF ds lo hi) (cutV vs lo hi) := by
  unfold cutF cutV
  rw [slIx_eq, slIx_eq, r.len]
  exact (r.drop _).take _
theorem cut_str (x : List Char) (lo hi : Option Int) : cutS (toS x) lo hi = toS (cutF x lo hi) := by
  unfold cutS cutF toS
  simp only [Str.length, List.size_toArray, List.length_map, slIx_eq, List.map_take, List.map_drop]
theorem ok_sl : SlOk X N := by
  intro ρ st H dx x lo hi d st' R rx h
  have hz := sz_line
  cases rx with
  | str a =>
    simp only [slF] at h
    split at h
    · cases h
      exact ⟨_, sl_str, fun Q P => ⟨_, rfl, by rw [toS_len]; omega, by rw [cut_str]; exact P.here R (.str _)⟩⟩
    · cases h
  | @tup a ds vs h1 h2 =>
    simp only [slF] at h
    cases h
    refine ⟨_, sl_tupA, fun Q P => ⟨_, _, rfl, h1, fun hw => ?_, fun _ => P.tup R (cut_reps h2 lo hi)⟩⟩
    refine P.here R (.tup h1 ?_)
    have : cutF ds lo hi = ds := by
      unfold cutF
      rw [slIx_eq, slIx_eq, h2.len, hw.1, hw.2, ← h2.len, List.drop_zero, Nat.sub_zero, List.take_length]
    rw [this]
    exact h2
  | kls h1 h2 =>
    simp only [slF, newF] at h
    cases h
    exact ⟨_, sl_list, fun Q P => ⟨_, _, rfl, h1.sq, P.lst R (cut_reps h2 lo hi)⟩⟩
  | @ref n a h1 =>
    simp only [slF, newF] at h
    split at h
    · rename_i xs q
      cases h
      obtain ⟨vs, e, rs⟩ := R.at_ _ _ _ h1 q
      exact ⟨_, sl_list, fun Q P => ⟨_, _, rfl, .inl (.inl e), P.lst R (cut_reps rs lo hi)⟩⟩
    · cases h
  | _ => simp [slF] at h

/-! #### isinstance -/
def tyS : Ty → Option String
  | .int => some "int" | .bool => some "bool" | .str => some "str" | .tuple => some "tuple" | .list => some "list" | .dict => some "dict" | .cls _ => none
theorem ok_isi {P : Prog} {ρ : List Addr} {st : Sto} {H : Hp} {dx : D} {x : V} {t : Ty} {T : String} {b : Bool} (R : Rl N X.K ρ st H) (rx : Rep X.K ρ H dx x) (hT : tyS t = some T) (h : isiF P st dx t = some b) :
    ∀ Q : VK, Q (.bl b) H → rIsi X.K [x, .ty T] H Q := by
  have key : ∃ a : String, TyX X.K H x (.type a) ∧ kitB a T = some b := by
    cases rx with
    | non => exact ⟨"NoneType", .base .non, by cases t <;> simp [isiF, tyS] at h hT <;> subst h hT <;> decide +kernel⟩
    | bl k => exact ⟨"bool", .base (.bl k), by cases t <;> simp [isiF, tyS] at h hT <;> subst h hT <;> decide +kernel⟩
    | int k => exact ⟨"int", .base (.int k), by cases t <;> simp [isiF, tyS] at h hT <;> subst h hT <;> decide +kernel⟩
    | str k => exact ⟨"str", .base (.str _), by cases t <;> simp [isiF, tyS] at h hT <;> subst h hT <;> decide +kernel⟩
    | tup h1 h2 =>
      refine ⟨"tuple", ?_, by cases t <;> simp [isiF, tyS] at h hT <;> subst h hT <;> decide +kernel⟩
      rcases h1 with (h1 | ⟨o, h1⟩) | ⟨o, its, n, hk, hc, _⟩
      · exact .base (.tup h1)
      · exact .fTuple h1
      · exact .kTuple hk hc
    | kls h1 h2 =>
      refine ⟨"list", ?_, by cases t <;> simp [isiF, tyS] at h hT <;> subst h hT <;> decide +kernel⟩
      rcases h1.sq with (h1 | ⟨o, h1⟩) | ⟨o, its, n, hk, hc, _⟩
      · exact .base (.lst h1)
      · exact .base (.frz h1)
      · exact .kList hk hc
    | @ref n a h1 =>
      simp only [isiF] at h
      split at h
      · rename_i xs q
        obtain ⟨vs, e, rs⟩ := R.at_ _ _ _ h1 q
        exact ⟨"list", .base (.lst e), by cases t <;> simp [tyS] at h hT <;> subst h hT <;> decide +kernel⟩
      · rename_i xs q
        obtain ⟨vs, e, rs⟩ := R.at_ _ _ _ h1 q
        exact ⟨"dict", .base (.dK e), by cases t <;> simp [tyS] at h hT <;> subst h hT <;> decide +kernel⟩
      · cases h
  obtain ⟨a, ta, kb⟩ := key
  exact fun Q q => ⟨_, _, _, _, b, rfl, .ty T, ta, kit_ty kb, q⟩
end
end MP

set_option Elab.async false
set_option linter.all false
set_option maxRecDepth 100000
set_option maxHeartbeats 1000000
/-! MPMeth: methods of built-in types, by values. -/
namespace MP
open PySem PySem.Spec PyProof.Rows L2
def tyK : Kd → String
  | .s => "str" | .l => "list" | .d => "dict"
/-- a method of a built-in type by values -/
structure MtOk (X : Cx) (N : Nm) (k : Kd) (m : Bm) (name : Str) (id : String) : Prop where
  pa : PlainAttrs (tyK k)
  slot : Slot (tyK k) name id
  ty : typeOf (.builtin id) = pure (.type "method_descriptor")
  go : ∀ (ρ : List Addr) (st : Sto) (H : Hp) (o : D) (x : V) (ds : List D) (vs : List V) (d : D) (st' : Sto), Rl N X.K ρ st H → Rep X.K ρ H o x → Reps X.K ρ H ds vs → bmF k m o ds st = .ok (d, st') →
    ∃ r, MtR X id r ∧ ∀ Q : VK, Post N X.K ρ H d st' Q → r x vs H Q
theorem pa_k (k : Kd) : PlainAttrs (tyK k) := by
  cases k
  · exact PySem.F.plainAttrs_str
  · exact PySem.F.plainAttrs_list
  · exact PySem.F.plainAttrs_dict
section
variable {X : Cx} {N : Nm} {ρ : List Addr} {H : Hp}
theorem kind_is {st : Sto} {o : D} {x : V} {k : Kd} {pins : List (Addr × Obj)} {σ : L2.St} {s : Shared} {u : Value} (R : Rl N X.K ρ st H) (r : Rep X.K ρ H o x) (h : kindF st o = some k) (I : Inv X pins σ H s) (ru : RelV x u) :
    s.TypeIs u (tyK k) ∧ ∀ a, u = .ref a → ∃ ob, s.heap.get? a = some ob ∧ ob.dict = none := by
  cases r with
  | str x =>
    simp only [kindF] at h
    cases h
    exact tyV_is I ru (T := "str") rfl
  | @ref n a h1 =>
    simp only [kindF] at h
    split at h
    · rename_i q
      cases h
      obtain ⟨vs, e, rs⟩ := R.at_ _ _ _ h1 q
      exact tyV_is I ru (T := "list") (.inl ⟨rfl, vs, .inl (.inl e)⟩)
    · rename_i q
      cases h
      obtain ⟨vs, e, rs⟩ := R.at_ _ _ _ h1 q
      cases ru
      obtain ⟨a1, a2, _⟩ := isD_at I (.inl ⟨vs, .inl e⟩)
      exact ⟨a1, a2⟩
    · rename_i q
      cases h
      obtain ⟨o, vs, e, rs⟩ := R.at_ _ _ _ h1 q
      cases ru
      obtain ⟨a1, a2, _⟩ := isD_at I (.inl ⟨vs, .inr ⟨o, e⟩⟩)
      exact ⟨a1, a2⟩
    · cases h
  | _ => simp [kindF] at h

/-! #### lists -/
theorem lst_of {st : Sto} {n : Nat} {x : V} {ys : List D} (R : Rl N X.K ρ st H) (r : Rep X.K ρ H (.ref n) x) (h : lstF st n = some ys) : ∃ a vs, x = .ref a ∧ ρ[n]? = some a ∧ H a = some (.lst vs) ∧ Reps X.K ρ H ys vs ∧ st[n]? = some (.lst ys) := by
  unfold lstF at h
  split at h
  · rename_i q
    cases h
    obtain ⟨a, vs, e1, e2, e3, e4⟩ := lst_at R r q
    exact ⟨a, vs, e1, e2, e3, e4, q⟩
  · cases h
theorem Reps.mapR {K : PySem.W.Frag} {ρ ρ1 : List Addr} {H H1 : Hp} (g : ∀ {d : D} {v : V}, Rep K ρ H d v → Rep K ρ1 H1 d v) : ∀ {ds : List D} {vs : List V}, Reps K ρ H ds vs → Reps K ρ1 H1 ds vs
  | _, _, .nil => .nil
  | _, _, .cons r t => .cons (g r) (Reps.mapR g t)
theorem Post.put {st : Sto} {n : Nat} {a : Addr} {o : O} {ds : List D} {vs : List V} {d : D} {Q : VK} {v : V} (P : Post N X.K ρ H d (st.set n (.lst ds)) Q) (R : Rl N X.K ρ st H) (ha : ρ[n]? = some a) (ho : st[n]? = some o) (rs : Reps X.K ρ H ds vs) (r : Rep X.K ρ H d v) (hf : ∀ ob kvs, H a ≠ some (.frz ob (.dK kvs))) :
    Q v (upd H a (.lst vs)) := by
  obtain ⟨e, R2⟩ := R.put (u := .lst vs) (o' := .lst ds) ha ho hf (fun g => ⟨vs, upd_same, rs.mapR g⟩)
  exact P _ _ _ e R2 (r.ext e)
theorem lm_of {m : Bm} {o : D} {ds : List D} {st st' : Sto} {d : D} {x : V} (R : Rl N X.K ρ st H) (r : Rep X.K ρ H o x) (h : bmF .l m o ds st = .ok (d, st')) :
    ∃ n a ys vs, x = .ref a ∧ ρ[n]? = some a ∧ H a = some (.lst vs) ∧ Reps X.K ρ H ys vs ∧ st[n]? = some (.lst ys) ∧ lmF m n ys ds st = .ok (d, st') := by
  cases r with
  | @ref n a h1 =>
    simp only [bmF] at h
    split at h
    · rename_i ys q
      obtain ⟨b, vs, e1, e2, e3, e4, e5⟩ := lst_of R (.ref h1) q
      cases e1
      exact ⟨n, a, ys, vs, rfl, h1, e3, e4, e5, h⟩
    · cases h
  | _ => simp [bmF] at h
theorem ok_append : MtOk X N .l .append "append" "list.append" := by
  refine ⟨pa_k _, PySem.F.slot_list_append, PySem.F.type_list_append, fun ρ st H o x ds us d st' R r rs h => ?_⟩
  have hz := sz_line
  obtain ⟨n, a, ys, vs, rfl, h1, e, rr, q, h⟩ := lm_of R r h
  match ds, h with
  | [y], h =>
    obtain ⟨v, rfl, ry⟩ := reps1 (ds := []) rs
    simp only [lmF] at h
    split at h
    · cases h
      exact ⟨_, mt_append, fun Q P => ⟨_, _, _, rfl, rfl, e, by rw [← rr.len]; omega, P.put R h1 q (rr.app (.cons ry .nil)) .non (by simp [e])⟩⟩
    · cases h
  | [], h => simp [lmF] at h
  | _ :: _ :: _, h => simp [lmF] at h
theorem ok_popl : MtOk X N .l .pop "pop" "list.pop" := by
  refine ⟨pa_k _, PySem.F.slot_list_pop, PySem.F.type_list_pop, fun ρ st H o x ds us d st' R r rs h => ?_⟩
  obtain ⟨n, a, ys, vs, rfl, h1, e, rr, q, h⟩ := lm_of R r h
  match ds, h with
  | [], h =>
    cases rs
    simp only [lmF] at h
    split at h
    · rename_i y hy
      cases h
      obtain ⟨v, e2, rv⟩ := rr.get hy
      exact ⟨_, mt_pop, fun Q P => ⟨_, _, _, rfl, rfl, e, by rw [← rr.len]; exact e2, P.put R h1 q rr.dropLast rv (by simp [e])⟩⟩
    · cases h
  | _ :: _, h => simp [lmF] at h
theorem ok_extend : MtOk X N .l .extend "extend" "list.extend" := by
  refine ⟨pa_k _, PySem.F.slot_list_extend, PySem.F.type_list_extend, fun ρ st H o x ds us d st' R r rs h => ?_⟩
  have hz := sz_line
  obtain ⟨n, a, ys, vs, rfl, h1, e, rr, q, h⟩ := lm_of R r h
  match ds, h with
  | [.ref k], h =>
    obtain ⟨v, rfl, ry⟩ := reps1 (ds := []) rs
    simp only [lmF] at h
    split at h
    · rename_i zs hk
      obtain ⟨b, ws, e1, e2, e3, e4, e5⟩ := lst_of R ry hk
      subst e1
      split at h
      · cases h
        exact ⟨_, mt_extend, fun Q P => ⟨_, _, _, _, rfl, rfl, e, e3, by rw [← rr.len, ← e4.len]; omega, P.put R h1 q (rr.app e4) .non (by simp [e])⟩⟩
      · cases h
    · cases h
  | [], h => simp [lmF] at h
  | [.non], h => simp [lmF] at h
  | [.bl _], h => simp [lmF] at h
  | [.int _], h => simp [lmF] at h
  | [.str _], h => simp [lmF] at h
  | [.tup _], h => simp [lmF] at h
  | [.kls _], h => simp [lmF] at h
  | _ :: _ :: _, h => simp [lmF] at h
theorem ok_clear : MtOk X N .l .clear "clear" "list.clear" := by
  refine ⟨pa_k _, PySem.F.slot_list_clear, PySem.F.type_list_clear, fun ρ st H o x ds us d st' R r rs h => ?_⟩
  obtain ⟨n, a, ys, vs, rfl, h1, e, rr, q, h⟩ := lm_of R r h
  match ds, h with
  | [], h =>
    cases rs
    simp only [lmF] at h
    cases h
    exact ⟨_, mt_clear, fun Q P => ⟨_, _, rfl, rfl, e, P.put R h1 q .nil .non (by simp [e])⟩⟩
  | _ :: _, h => simp [lmF] at h
theorem ok_reverse : MtOk X N .l .reverse "reverse" "list.reverse" := by
  refine ⟨pa_k _, PySem.F.slot_list_reverse, PySem.F.type_list_reverse, fun ρ st H o x ds us d st' R r rs h => ?_⟩
  obtain ⟨n, a, ys, vs, rfl, h1, e, rr, q, h⟩ := lm_of R r h
  match ds, h with
  | [], h =>
    cases rs
    simp only [lmF] at h
    cases h
    exact ⟨_, mt_reverse, fun Q P => ⟨_, _, rfl, rfl, e, P.put R h1 q rr.rev .non (by simp [e])⟩⟩
  | _ :: _, h => simp [lmF] at h

/-! #### list.remove of a text -/
def eqS1 (x : Str) (v : Value) : Bool := match v with
  | .str y _ => decide (y = x)
  | _ => false
theorem eqS1_gives {x : Str} {t : Tok} : ∀ {us : List Value} {ss : List Str}, Vals (ss.map V.str) us → ∀ y ∈ us, MeetsSeq.EqGives y (.str x t) (eqS1 x y)
  | [], [], _ => fun y hy => by cases hy
  | u :: us, s :: ss, h => fun y hy => by
    cases h with
    | cons r h =>
      obtain ⟨t', rfl⟩ := (show ∃ t, u = Value.str s t from r)
      rcases List.mem_cons.mp hy with e | e
      · rw [e]
        have h3 := SeqRoads2.EqGives.str s x t' t
        have h4 : (s.cps.toList == x.cps.toList) = eqS1 x (.str s t') := by
          show _ = decide (s = x)
          rw [Bool.eq_iff_iff, beq_iff_eq, decide_eq_true_eq]
          exact ⟨fun h => by cases s; cases x; simp only [Str.mk.injEq]; exact Array.toList_inj.mp h, fun h => by rw [h]⟩
        rw [h4] at h3
        exact h3
      · exact eqS1_gives h y e
  | [], _ :: _, h => by cases h
  | _ :: _, [], h => by cases h
theorem erase_mapS : ∀ (l : List Str) (j : Nat), (l.map V.str).eraseIdx j = (l.eraseIdx j).map V.str
  | [], j => by simp
  | a :: r, 0 => by simp
  | a :: r, j + 1 => by
    have ih := erase_mapS r j
    simp [ih]
theorem mt_removeS : MtM X "list.remove" (fun x xs H Q => ∃ (l : Addr) (ss : List Str) (k : Str) (j : Nat), x = .ref l ∧ xs = [.str k] ∧ H l = some (.lst (ss.map V.str)) ∧ ss[j]? = some k ∧ (∀ m : Nat, m < j → ss[m]? ≠ some k) ∧ Q .non (upd H l (.lst ((ss.eraseIdx j).map V.str)))) := by
  intro pins s σ H x xs v us Q I rx rxs h
  obtain ⟨l, ns, k, j, rfl, rfl, hH, hj, hno, q⟩ := h
  cases rx
  obtain ⟨u, rfl, ru⟩ := rxs.one
  obtain ⟨t, rfl⟩ := ru
  obtain ⟨z, its, n, r, hl, e⟩ := I.lstM hH
  have hi := eqS1_gives (x := k) (t := t) r
  rw [List.length_map] at hl z
  have hjn : j < ns.length := (List.getElem?_eq_some_iff.mp hj).1
  have hjl : j < its.toArray.size := by rw [List.size_toArray]; omega
  have atk : ∀ (m : Nat) (y : Str), ns[m]? = some y → ∃ t, its[m]? = some (.str y t) := fun m y hm => by
    obtain ⟨w, hw, rw_⟩ := r.get (i := m) (x := .str y) (by rw [List.getElem?_map, hm]; rfl)
    obtain ⟨t', rfl⟩ := (show ∃ t, w = Value.str y t from rw_)
    exact ⟨t', hw⟩
  refine call_meets PySem.F.slot_list_remove ⟨_, e, rfl⟩ PySem.F.entry_list_remove (PySem.F.args_list_remove_2 _ _)
    (MeetsSeq.list_remove l its.toArray n (.str k t) (eqS1 k) (fun y hy => hi y (by simpa using hy)) j hjl ?_ ?_ (by rw [List.size_toArray]; omega)) ⟨e, ?_⟩
  · obtain ⟨tj, hjt⟩ := atk j k hj
    obtain ⟨h1, h2⟩ := List.getElem?_eq_some_iff.mp hjt
    have e1 : its.toArray[j] = .str k tj := by simpa using h2
    rw [e1]
    exact decide_eq_true rfl
  · intro m hm hmj
    have hmn : m < ns.length := by omega
    obtain ⟨tm, hmt⟩ := atk m _ (List.getElem?_eq_getElem hmn)
    obtain ⟨h1, h2⟩ := List.getElem?_eq_some_iff.mp hmt
    have e1 : its.toArray[m] = .str ns[m] tm := by simpa using h2
    rw [e1]
    refine decide_eq_false fun e2 => hno m hmj ?_
    rw [List.getElem?_eq_getElem hmn, e2]
  · have rr := r.eraseIdx j
    rw [erase_mapS] at rr
    refine ⟨.non, _, I.lset (its' := its.eraseIdx j) (t' := s.toks) hH e ?_ rr ?_, rfl, q⟩
    · show its.toArray.eraseIdxIfInBounds j = (its.eraseIdx j).toArray
      rw [List.eraseIdxIfInBounds_toArray]
    · have z2 := len_erase ns j
      rw [List.length_map]
      omega
theorem erase_at : ∀ {ss : List (List Char)} {x : List Char}, x ∈ ss → ∃ j, ss[j]? = some x ∧ (∀ m, m < j → ss[m]? ≠ some x) ∧ ss.erase x = ss.eraseIdx j
  | [], x, h => by cases h
  | y :: ss, x, h => by
    by_cases e : y = x
    · subst e
      exact ⟨0, rfl, fun m hm => by omega, by simp⟩
    · have h2 : x ∈ ss := by
        rcases List.mem_cons.mp h with h | h
        · exact absurd h.symm e
        · exact h
      obtain ⟨j, h3, h4, h5⟩ := erase_at h2
      refine ⟨j + 1, by simpa using h3, fun m hm => ?_, ?_⟩
      · cases m with
        | zero => simpa using e
        | succ m => simpa using h4 m (by omega)
      · rw [List.erase_cons_tail (by simpa using e), h5, List.eraseIdx_cons_succ]
theorem ok_remove : MtOk X N .l .remove "remove" "list.remove" := by
  refine ⟨pa_k _, PySem.F.slot_list_remove, PySem.F.type_list_remove, fun ρ st H o x ds us d st' R r rs h => ?_⟩
  obtain ⟨n, a, ys, vs, rfl, h1, e, rr, q, h⟩ := lm_of R r h
  match ds, h with
  | [.str k], h =>
    obtain ⟨v, rfl, ry⟩ := reps1 (ds := []) rs
    cases ry
    simp only [lmF] at h
    split at h
    · rename_i ss hs
      split at h
      · rename_i hk
        cases h
        have hv := strs_of rr hs
        obtain ⟨j, j1, j2, j3⟩ := erase_at hk
        refine ⟨_, mt_removeS, fun Q P => ⟨a, ss.map toS, toS k, j, rfl, rfl, by rw [e, hv], by rw [List.getElem?_map, j1]; rfl, fun m hm hx => ?_, ?_⟩⟩
        · rw [List.getElem?_map] at hx
          obtain ⟨z, z1, z2⟩ := Option.map_eq_some_iff.mp hx
          rw [toS_inj z2] at z1
          exact j2 m hm z1
        · rw [j3] at P
          have rr2 : Reps X.K ρ H ((ss.eraseIdx j).map D.str) (((ss.map toS).eraseIdx j).map V.str) := by
            have em : ∀ (l : List (List Char)) (j : Nat), (l.map toS).eraseIdx j = (l.eraseIdx j).map toS := fun l => by
              induction l with
              | nil => intro j; simp
              | cons x l ih =>
                intro j
                cases j with
                | zero => simp
                | succ j => simp [ih]
            rw [em]
            exact reps_strs _
          exact P.put R h1 q rr2 .non (by simp [e])
      · cases h
    · cases h
  | [], h => simp [lmF] at h
  | [.non], h => simp [lmF] at h
  | [.bl _], h => simp [lmF] at h
  | [.int _], h => simp [lmF] at h
  | [.ref _], h => simp [lmF] at h
  | [.tup _], h => simp [lmF] at h
  | [.kls _], h => simp [lmF] at h
  | _ :: _ :: _, h => simp [lmF] at h

/-! #### dicts -/
theorem dct_of {st : Sto} {n : Nat} {x : V} {ys : List (Kk × D)} (R : Rl N X.K ρ st H) (r : Rep X.K ρ H (.ref n) x) (h : dctF st n = some ys) : ∃ a vs, x = .ref a ∧ ρ[n]? = some a ∧ H a = some (.dK vs) ∧ KVs X.K ρ H ys vs ∧ st[n]? = some (.dct ys) := by
  unfold dctF at h
  split at h
  · rename_i q
    cases h
    obtain ⟨a, vs, e1, e2, e3, e4⟩ := dct_at R r q
    exact ⟨a, vs, e1, e2, e3, e4, q⟩
  · cases h
theorem Post.putD {st : Sto} {n : Nat} {a : Addr} {o : O} {ds : List (Kk × D)} {vs : List (Key × V)} {d : D} {Q : VK} {v : V} (P : Post N X.K ρ H d (st.set n (.dct ds)) Q) (R : Rl N X.K ρ st H) (ha : ρ[n]? = some a) (ho : st[n]? = some o) (rs : KVs X.K ρ H ds vs) (r : Rep X.K ρ H d v) (hf : ∀ ob kvs, H a ≠ some (.frz ob (.dK kvs))) :
    Q v (upd H a (.dK vs)) := by
  obtain ⟨e, R2⟩ := R.put (u := .dK vs) (o' := .dct ds) ha ho hf (fun g => ⟨vs, upd_same, pairedMap (fun _ _ z => ⟨z.1, g z.2⟩) rs⟩)
  exact P _ _ _ e R2 (r.ext e)
theorem KVs.drop {k : Kk} : ∀ {ds : List (Kk × D)} {vs : List (Key × V)}, KVs X.K ρ H ds vs → KVs X.K ρ H (MP.dropK ds k) (L2.dropK vs (toK k))
  | _, _, .nil => .nil
  | _, _, .cons (a := p) (b := q) r t => by
    have ih := KVs.drop (k := k) t
    unfold MP.dropK L2.dropK at ih ⊢
    rw [List.filter_cons, List.filter_cons, r.1]
    by_cases h : p.1 = k
    · rw [if_neg (by simp [h]), if_neg (by simp [h])]
      exact ih
    · rw [if_pos (by simp [h]), if_pos (by simp [show ¬ toK p.1 = toK k from fun z => h (toK_inj z)])]
      exact .cons r ih
theorem KVs.any {k : Kk} : ∀ {ds : List (Kk × D)} {vs : List (Key × V)}, KVs X.K ρ H ds vs → (vs.any fun kv => decide (kv.1 = toK k)) = ds.any fun kv => decide (kv.1 = k)
  | _, _, .nil => rfl
  | _, _, .cons (a := p) (b := q) r t => by rw [List.any_cons, List.any_cons, KVs.any t, r.1, toK_dec]
theorem KVs.put {k : Kk} {d : D} {v : V} {ds : List (Kk × D)} {vs : List (Key × V)} (h : KVs X.K ρ H ds vs) (r : Rep X.K ρ H d v) : KVs X.K ρ H (MP.putK ds k d) (L2.putK vs (toK k) v) := by
  unfold MP.putK L2.putK
  rw [h.any (k := k)]
  split
  · have : ∀ {ds : List (Kk × D)} {vs : List (Key × V)}, KVs X.K ρ H ds vs → KVs X.K ρ H (ds.map fun kv => if kv.1 = k then (kv.1, d) else kv) (vs.map fun kv => if kv.1 = toK k then (kv.1, v) else kv) := by
      intro ds vs h
      induction h with
      | nil => exact .nil
      | @cons p q _ _ r2 t ih =>
        rw [List.map_cons, List.map_cons]
        refine .cons ?_ ih
        by_cases e : p.1 = k
        · rw [if_pos e, if_pos (by rw [r2.1, e])]
          exact ⟨r2.1, r⟩
        · rw [if_neg e, if_neg (by rw [r2.1]; exact fun z => e (toK_inj z))]
          exact r2
    exact this h
  · have : ∀ {ds : List (Kk × D)} {vs : List (Key × V)}, KVs X.K ρ H ds vs → KVs X.K ρ H (ds ++ [(k, d)]) (vs ++ [(toK k, v)]) := by
      intro ds vs h
      induction h with
      | nil => exact .cons ⟨rfl, r⟩ .nil
      | cons r2 t ih => exact .cons r2 ih
    exact this h
theorem mt_get1 (hu : X.A.units + 1 < cLine) : MtR X "dict.get" (fun x xs H Q => ∃ a y o, x = .ref a ∧ xs = [y] ∧ DGet H a y o ∧ Q (o.getD .non) H) := by
  intro pins s σ H x xs v us Q I rx rs h
  obtain ⟨a, y, o, rfl, rfl, g, q⟩ := h
  obtain rfl : v = Value.ref a := rx
  obtain ⟨u, rfl, ru⟩ := vals1 rs
  exact d_get1 hu I g ru fun w' s' I' r' => ⟨_, H, I', r', q⟩
theorem mt_get2 (hu : X.A.units + 1 < cLine) : MtR X "dict.get" (fun x xs H Q => ∃ a y d o, x = .ref a ∧ xs = [y, d] ∧ DGet H a y o ∧ Q (o.getD d) H) := by
  intro pins s σ H x xs v us Q I rx rs h
  obtain ⟨a, y, d, o, rfl, rfl, g, q⟩ := h
  obtain rfl : v = Value.ref a := rx
  obtain ⟨u1, u2, rfl, r1, r2⟩ := vals2 rs
  exact d_get2 hu I g r1 r2 fun w' s' I' r' => ⟨_, H, I', r', q⟩
theorem mt_pop1 : MtR X "dict.pop" (fun x xs H Q => ∃ a kvs k v, x = .ref a ∧ xs = [kV k] ∧ H a = some (.dK kvs) ∧ valV kvs k = some v ∧ Q v (upd H a (.dK (L2.dropK kvs k)))) := by
  intro pins s σ H x xs v us Q I rx rs h
  obtain ⟨a, kvs, k, y, rfl, rfl, e, l, q⟩ := h
  obtain rfl : v = Value.ref a := rx
  obtain ⟨u, rfl, ru⟩ := vals1 rs
  exact d_pop I e ru l (.inl rfl) fun w' s' I' r' => ⟨_, _, I', r', q⟩
theorem mt_pop2 : MtR X "dict.pop" (fun x xs H Q => ∃ a kvs k d, x = .ref a ∧ xs = [kV k, d] ∧ H a = some (.dK kvs) ∧ (∀ v, valV kvs k = some v → Q v (upd H a (.dK (L2.dropK kvs k)))) ∧ (valV kvs k = none → Q d H)) := by
  intro pins s σ H x xs v us Q I rx rs h
  obtain ⟨a, kvs, k, y, rfl, rfl, e, q1, q2⟩ := h
  obtain rfl : v = Value.ref a := rx
  obtain ⟨u1, u2, rfl, r1, r2⟩ := vals2 rs
  cases l : valV kvs k with
  | some v => exact d_pop I e r1 l (.inr ⟨u2, rfl⟩) fun w' s' I' r' => ⟨_, _, I', r', q1 v l⟩
  | none => exact d_popD I e r1 l fun s' I' => ⟨_, _, I', r2, q2 l⟩
theorem dm_of {m : Bm} {o : D} {ds : List D} {st st' : Sto} {d : D} {x : V} (r : Rep X.K ρ H o x) (h : bmF .d m o ds st = .ok (d, st')) :
    ∃ n a, x = .ref a ∧ ρ[n]? = some a ∧ dmF m n ds st = .ok (d, st') := by
  cases r with
  | @ref n a h1 => exact ⟨n, a, rfl, h1, by simpa only [bmF] using h⟩
  | _ => simp [bmF] at h
theorem getD_of {k : Kk} {ds : List (Kk × D)} {vs : List (Key × V)} {d : D} {v : V} (h : KVs X.K ρ H ds vs) (r : Rep X.K ρ H d v) : Rep X.K ρ H ((getK ds k).getD d) ((valV vs (toK k)).getD v) := by
  obtain ⟨i1, i2⟩ := h.val (k := k)
  cases e : getK ds k with
  | none => rw [i2 e]; exact r
  | some y => obtain ⟨u, e2, r2⟩ := i1 y e; rw [e2]; exact r2
theorem ok_get {k : Nat} (hr : Room k X.A) : MtOk X N .d .get "get" "dict.get" := by
  refine ⟨pa_k _, PySem.F.slot_dict_get, PySem.F.type_dict_get, fun ρ st H o x ds us d st' R r rs h => ?_⟩
  have hu := room65 hr
  obtain ⟨n, a, rfl, h1, h⟩ := dm_of r h
  match ds, h with
  | [], h => simp [dmF] at h
  | [y], h =>
    obtain ⟨v, rfl, ry⟩ := reps1 (ds := []) rs
    simp only [dmF] at h
    split at h
    · rename_i kvs k q1 q2
      cases h
      obtain ⟨b, ws, e, _, rd, kv⟩ := dict_at R (.ref h1) q1
      cases e
      refine ⟨_, mt_get1 (by omega), fun Q P => ⟨a, v, _, rfl, rfl, ?_, P.here R (getD_of (k := k) kv .non)⟩⟩
      rw [keyF_of ry q2]
      exact dget_of rd
    · cases h
  | [y, z], h =>
    obtain ⟨v, u, rfl, ry, rz⟩ := reps2 rs
    simp only [dmF] at h
    split at h
    · rename_i kvs k q1 q2
      cases h
      obtain ⟨b, ws, e, _, rd, kv⟩ := dict_at R (.ref h1) q1
      cases e
      refine ⟨_, mt_get2 (by omega), fun Q P => ⟨a, v, u, _, rfl, rfl, ?_, P.here R (getD_of (k := k) kv rz)⟩⟩
      rw [keyF_of ry q2]
      exact dget_of rd
    · cases h
  | _ :: _ :: _ :: _, h => simp [dmF] at h
theorem ok_popd : MtOk X N .d .pop "pop" "dict.pop" := by
  refine ⟨pa_k _, PySem.F.slot_dict_pop, PySem.F.type_dict_pop, fun ρ st H o x ds us d st' R r rs h => ?_⟩
  obtain ⟨n, a, rfl, h1, h⟩ := dm_of r h
  match ds, h with
  | [], h => simp [dmF] at h
  | [y], h =>
    obtain ⟨v, rfl, ry⟩ := reps1 (ds := []) rs
    simp only [dmF] at h
    split at h
    · rename_i kvs k q1 q2
      obtain ⟨b, ws, e, _, ha, kv, q3⟩ := dct_of R (.ref h1) q1
      cases e
      split at h
      · rename_i y' q4
        cases h
        obtain ⟨w, e5, rw_⟩ := (kv.val (k := k)).1 _ q4
        exact ⟨_, mt_pop1, fun Q P => ⟨a, ws, toK k, w, rfl, by rw [keyF_of ry q2], ha, e5, P.putD R h1 q3 kv.drop rw_ (by simp [ha])⟩⟩
      · cases h
    · cases h
  | [y, z], h =>
    obtain ⟨v, u, rfl, ry, rz⟩ := reps2 rs
    simp only [dmF] at h
    split at h
    · rename_i kvs k q1 q2
      obtain ⟨b, ws, e, _, ha, kv, q3⟩ := dct_of R (.ref h1) q1
      cases e
      split at h
      · rename_i y' q4
        cases h
        obtain ⟨w, e5, rw_⟩ := (kv.val (k := k)).1 _ q4
        refine ⟨_, mt_pop2, fun Q P => ⟨a, ws, toK k, u, rfl, by rw [keyF_of ry q2], ha, fun w' hw => ?_, fun hw => by rw [e5] at hw; cases hw⟩⟩
        rw [e5] at hw
        cases hw
        exact P.putD R h1 q3 kv.drop rw_ (by simp [ha])
      · rename_i q4
        cases h
        refine ⟨_, mt_pop2, fun Q P => ⟨a, ws, toK k, u, rfl, by rw [keyF_of ry q2], ha, fun w' hw => ?_, fun hw => P.here R rz⟩⟩
        rw [(kv.val (k := k)).2 q4] at hw
        cases hw
    · cases h
  | _ :: _ :: _ :: _, h => simp [dmF] at h

/-! #### texts -/
theorem sm_of {m : Bm} {o : D} {ds : List D} {st st' : Sto} {d : D} {x : V} (r : Rep X.K ρ H o x) (h : bmF .s m o ds st = .ok (d, st')) : ∃ a, x = .str (toS a) ∧ smF m a ds st = .ok (d, st') := by
  cases r with
  | str a => exact ⟨a, rfl, by simpa only [bmF] using h⟩
  | _ => simp [bmF] at h
theorem pre1 (s c : Nat) (r : List Nat) : TL.pre [s] (c :: r) = decide (c = s) := by
  unfold TL.pre
  by_cases h : c = s
  · subst h; simp
  · rw [decide_eq_false h]
    simp [h]
theorem par_part (c : Char) : ∀ (x : List Char) (acc : List Nat), TL.par [c.toNat] acc (x.map Char.toNat) = (partF c x).map fun p => (acc ++ p.1.map Char.toNat, p.2.map Char.toNat)
  | [], acc => rfl
  | a :: x, acc => by
    rw [List.map_cons, TL.par, pre1, partF]
    by_cases h : a = c
    · subst h
      simp
    · have h2 : ¬ a.toNat = c.toNat := fun z => h (char_inj z)
      rw [if_neg (by simp [h2]), if_neg h, par_part c x]
      cases partF c x <;> simp
theorem splitF_ne (c : Char) (x : List Char) : splitF c x ≠ [] := by
  cases x with
  | nil => simp [splitF]
  | cons a x =>
    unfold splitF
    split
    · simp
    · split <;> simp
theorem spl_split (c : Char) : ∀ (x : List Char) (acc : List Nat), TL.spl [c.toNat] 0 acc (x.map Char.toNat) = (match splitF c x with | [] => [] | y :: ys => (acc ++ y.map Char.toNat) :: ys.map (·.map Char.toNat))
  | [], acc => by simp [splitF, TL.spl]
  | a :: x, acc => by
    rw [List.map_cons, TL.spl, pre1, splitF]
    by_cases h : a = c
    · subst h
      have ih := spl_split a x []
      simp
      rw [ih]
      cases q : splitF a x with
      | nil => exact absurd q (splitF_ne _ _)
      | cons y ys => simp
    · have h2 : ¬ a.toNat = c.toNat := fun z => h (char_inj z)
      rw [if_neg (by simp [h2]), if_neg h, spl_split c x]
      cases q : splitF c x with
      | nil => exact absurd q (splitF_ne _ _)
      | cons y ys => simp
theorem toS1 (c : Char) : toS [c] = ⟨#[c.toNat]⟩ := rfl
theorem partition_of (x : List Char) (c : Char) : Txt.partition (toS x) (toS [c]) = (match partF c x with | some p => (toS p.1, toS [c], toS p.2) | none => (toS x, toS [], toS [])) := by
  rw [TL.partition_par _ _ (by simp [toS])]
  have e : TL.par (TL.tl (toS [c])) [] (TL.tl (toS x)) = TL.par [c.toNat] [] (x.map Char.toNat) := by simp [toS]
  rw [e, par_part]
  cases partF c x with
  | none => rfl
  | some p => simp [toS]
theorem split_of (x : List Char) (c : Char) (hc : c.toNat < 256) : Txt.split (toS x) (toS [c]) = (splitF c x).map toS := by
  have h := TL.split_spl (toS x) (toS [c]) (by simp [toS]) (TL.kind_ok (by simp [toS, hc]))
  have e : TL.spl (TL.tl (toS [c])) 0 [] (TL.tl (toS x)) = TL.spl [c.toNat] 0 [] (x.map Char.toNat) := by simp [toS]
  rw [e, spl_split] at h
  refine TL.map_tl_inj (h.trans ?_)
  cases q : splitF c x with
  | nil => rfl
  | cons y ys =>
    simp only [List.nil_append, List.map_cons, List.map_map]
    congr 1
theorem join_of (a : List Char) : ∀ ys : List (List Char), Str.join (toS a) (ys.map toS) = toS (joinF a ys)
  | [] => rfl
  | [x] => rfl
  | x :: y :: r => by
    have ih := join_of a (y :: r)
    rw [List.map_cons] at ih
    rw [List.map_cons, List.map_cons, Str.join, ih, joinF, toS_app, toS_app]
    simp
theorem sign_of {ds : List D} {us : List V} {m : Bm} {a : List Char} {st st' : Sto} {d : D} (hm : m = .partition ∨ m = .split) (rs : Reps X.K ρ H ds us) (h : smF m a ds st = .ok (d, st')) : ∃ c, ds = [.str [c]] ∧ us = [.str (toS [c])] := by
  match ds, h with
  | [], h => rcases hm with rfl | rfl <;> simp [smF] at h
  | _ :: _ :: _, h => rcases hm with rfl | rfl <;> simp [smF] at h
  | [.str [c]], h =>
    obtain ⟨v, rfl, r⟩ := reps1 (ds := []) rs
    cases r
    exact ⟨c, rfl, rfl⟩
  | [.str []], h => rcases hm with rfl | rfl <;> simp [smF] at h
  | [.str (_ :: _ :: _)], h => rcases hm with rfl | rfl <;> simp [smF] at h
  | [.non], h => rcases hm with rfl | rfl <;> simp [smF] at h
  | [.bl _], h => rcases hm with rfl | rfl <;> simp [smF] at h
  | [.int _], h => rcases hm with rfl | rfl <;> simp [smF] at h
  | [.tup _], h => rcases hm with rfl | rfl <;> simp [smF] at h
  | [.kls _], h => rcases hm with rfl | rfl <;> simp [smF] at h
  | [.ref _], h => rcases hm with rfl | rfl <;> simp [smF] at h
theorem ok_partition : MtOk X N .s .partition "partition" "str.partition" := by
  refine ⟨pa_k _, PySem.F.slot_str_partition, PySem.F.type_str_partition, fun ρ st H o x ds us d st' R r rs h => ?_⟩
  have hz := sz_line
  obtain ⟨a, rfl, h⟩ := sm_of r h
  obtain ⟨c, rfl, rfl⟩ := sign_of (.inl rfl) rs h
  simp only [smF] at h
  have hp := partition_of a c
  split at h
  · split at h
    · rename_i p q
      cases h
      rw [q] at hp
      refine ⟨_, mt_partition, fun Q P => ⟨_, _, rfl, rfl, by rw [toS_len]; rfl, by rw [toS_len]; omega, ?_⟩⟩
      rw [hp]
      exact P.tup R (.cons (.str _) (.cons (.str _) (.cons (.str _) .nil)))
    · rename_i q
      cases h
      rw [q] at hp
      refine ⟨_, mt_partition, fun Q P => ⟨_, _, rfl, rfl, by rw [toS_len]; rfl, by rw [toS_len]; omega, ?_⟩⟩
      rw [hp]
      exact P.tup R (.cons (.str _) (.cons (.str _) (.cons (.str _) .nil)))
  · cases h
theorem ok_split : MtOk X N .s .split "split" "str.split" := by
  refine ⟨pa_k _, PySem.F.slot_str_split, PySem.F.type_str_split, fun ρ st H o x ds us d st' R r rs h => ?_⟩
  have hz := sz_line
  obtain ⟨a, rfl, h⟩ := sm_of r h
  obtain ⟨c, rfl, rfl⟩ := sign_of (.inr rfl) rs h
  simp only [smF, newF] at h
  split at h
  · rename_i h0
    cases h
    refine ⟨_, mt_split, fun Q P => ⟨_, _, rfl, rfl, by rw [toS_len]; rfl, by rw [toS_len]; omega, ?_⟩⟩
    rw [split_of a c h0.2]
    exact P.lst R (reps_strs _)
  · cases h
theorem ok_join : MtOk X N .s .join "join" "str.join" := by
  refine ⟨pa_k _, PySem.F.slot_str_join, PySem.F.type_str_join, fun ρ st H o x ds us d st' R r rs h => ?_⟩
  have hz : SZ ≤ 16777216 := by decide
  obtain ⟨a, rfl, h⟩ := sm_of r h
  match ds, h with
  | [], h => simp [smF] at h
  | [y], h =>
    obtain ⟨v, rfl, ry⟩ := reps1 (ds := []) rs
    simp only [smF] at h
    split at h
    · rename_i ys q
      split at h
      · rename_i h0
        cases h
        obtain ⟨xs, q1, q2⟩ := bind_some q
        obtain ⟨p, vs, rfl, rr, hs⟩ := seq_at R ry q1
        rw [strs_of rr q2] at hs
        refine ⟨_, mt_join, fun Q P => ⟨_, p, ys.map toS, rfl, rfl, hs, ?_, ?_⟩⟩
        · have e : ((ys.map toS).map (·.length)) = ys.map (·.length) := by
            rw [List.map_map]
            exact List.map_congr_left fun z _ => toS_len z
          rw [e, List.length_map, toS_len]
          omega
        · rw [TL.join_eq, join_of]
          exact P.here R (.str _)
      · cases h
    · cases h
  | _ :: _ :: _, h => simp [smF] at h
/-! #### find, startswith -/
theorem findF_none {c : Char} : ∀ {l : List Char} {k : Nat}, (∀ x ∈ l, x ≠ c) → findF c k l = -1
  | [], _, _ => rfl
  | x :: l, k, h => by
    rw [findF, if_neg (h x List.mem_cons_self)]
    exact findF_none fun y hy => h y (List.mem_cons_of_mem _ hy)
theorem findF_some {c : Char} : ∀ {l : List Char} {k j : Nat}, l[j]? = some c → (∀ m, m < j → l[m]? ≠ some c) → findF c k l = ((k + j : Nat) : Int)
  | [], _, _, h, _ => by simp at h
  | x :: l, k, 0, h, _ => by
    rw [findF, if_pos (by simpa using h)]
    rfl
  | x :: l, k, j + 1, h, hn => by
    have : x ≠ c := fun e => hn 0 (by omega) (by simp [e])
    rw [findF, if_neg this, findF_some (j := j) (by simpa using h) fun m hm => by simpa using hn (m + 1) (by omega)]
    congr 1
    omega
theorem toS_getD (a : List Char) (v : Nat) (h : v < a.length) : (toS a).cps.getD v 0 = (a[v]).toNat := by
  simp [toS, h]
theorem find3_of (a : List Char) (c : Char) (i : Nat) : Txt.find3 (toS a) (toS [c]) (i : Int) = findF c i (a.drop i) := by
  have hf : fromIndex (toS a).length (i : Int) = i := by unfold fromIndex; rw [if_neg (by omega)]; omega
  have hl := toS_len a
  have hs := StrLaws.find3_spec (toS a) c.toNat (i : Int)
  rw [hf, hl] at hs
  rcases hs with ⟨h1, h2⟩ | ⟨k, h1, h2, h3, h4, h5⟩
  · rw [show toS [c] = ⟨#[c.toNat]⟩ from rfl, h1, findF_none]
    intro x hx e
    obtain ⟨j, hj, hjx⟩ := List.getElem_of_mem hx
    rw [List.length_drop] at hj
    rw [List.getElem_drop] at hjx
    refine h2 (i + j) (by omega) (by omega) ?_
    rw [toS_getD a _ (by omega), hjx, e]
  · rw [show toS [c] = ⟨#[c.toNat]⟩ from rfl, h1, findF_some (j := k - i)]
    · congr 1; omega
    · rw [List.getElem?_drop, show i + (k - i) = k from by omega, List.getElem?_eq_getElem h3]
      rw [toS_getD a _ h3] at h4
      rw [char_inj h4]
    · intro m hm hx
      rw [List.getElem?_drop] at hx
      obtain ⟨g1, g2⟩ := List.getElem?_eq_some_iff.mp hx
      refine h5 (i + m) (by omega) (by omega) ?_
      rw [toS_getD a _ g1, g2]
theorem find_shape {a : List Char} {ds : List D} {st : Sto} {q : D × Sto} (h : smF .find a ds st = .ok q) : (∃ c, ds = [.str [c]] ∧ q = (.int (findF c 0 a), st)) ∨ ∃ c i, ds = [.str [c], .int i] ∧ 0 ≤ i ∧ q = (.int (findF c i.toNat (a.drop i.toNat)), st) := by
  unfold smF at h
  split at h <;> try contradiction
  · split at h
    · cases h; exact .inl ⟨_, rfl, rfl⟩
    · cases h
  · split at h
    · rename_i h0; cases h; exact .inr ⟨_, _, rfl, h0.2, rfl⟩
    · cases h
theorem starts_shape {a : List Char} {ds : List D} {st : Sto} {q : D × Sto} (h : smF .startswith a ds st = .ok q) : ∃ c, ds = [.str [c]] ∧ q = (.bl (headIs c a), st) := by
  unfold smF at h
  split at h <;> try contradiction
  cases h
  exact ⟨_, rfl, rfl⟩
theorem ok_find : MtOk X N .s .find "find" "str.find" := by
  refine ⟨pa_k _, PySem.F.slot_str_find, PySem.F.type_str_find, fun ρ st H o x ds us d st' R r rs h => ?_⟩
  obtain ⟨a, rfl, h⟩ := sm_of r h
  rcases find_shape h with ⟨c, rfl, e0⟩ | ⟨c, i, rfl, h0, e0⟩
  · obtain ⟨v, rfl, rv⟩ := reps1 (ds := []) rs
    cases rv
    cases e0
    refine ⟨_, mt_find, fun Q P => ⟨_, _, rfl, rfl, ?_⟩⟩
    have e := find3_of a c 0
    rw [List.drop_zero] at e
    rw [PyProof.Rows.find_is_find3, show (0 : Int) = ((0 : Nat) : Int) from rfl, e]
    exact P.here R (.int _)
  · obtain ⟨v, u, rfl, rv, ru⟩ := reps2 rs
    cases rv
    cases ru
    cases e0
    refine ⟨_, mt_find3, fun Q P => ⟨_, _, _, rfl, rfl, ?_⟩⟩
    have e := find3_of a c i.toNat
    rw [Int.toNat_of_nonneg h0] at e
    rw [e]
    exact P.here R (.int _)
theorem starts_of (a : List Char) (c : Char) : Txt.startswith (toS a) (toS [c]) = headIs c a := by
  have h := StrLaws.subAt_one (toS a) c.toNat 0
  have e : Txt.startswith (toS a) ⟨#[c.toNat]⟩ = true ↔ StrLaws.At (toS a) ⟨#[c.toNat]⟩ (toS a).length 0 := by
    unfold Txt.startswith StrLaws.At
    rw [Bool.and_eq_true, decide_eq_true_eq]
  rw [Bool.eq_iff_iff, show toS [c] = ⟨#[c.toNat]⟩ from rfl, e]
  refine Iff.trans h ?_
  cases a with
  | nil => simp [toS, headIs]
  | cons x r =>
    simp only [headIs, decide_eq_true_eq]
    constructor
    · intro q
      have : some x.toNat = some c.toNat := by simpa [toS] using q
      exact char_inj (Option.some.inj this)
    · rintro rfl
      simp [toS]
theorem ok_starts : MtOk X N .s .startswith "startswith" "str.startswith" := by
  refine ⟨pa_k _, PySem.F.slot_str_startswith, PySem.F.type_str_startswith, fun ρ st H o x ds us d st' R r rs h => ?_⟩
  obtain ⟨a, rfl, h⟩ := sm_of r h
  obtain ⟨c, rfl, e0⟩ := starts_shape h
  obtain ⟨v, rfl, rv⟩ := reps1 (ds := []) rs
  cases rv
  cases e0
  refine ⟨_, mt_startswith, fun Q P => ⟨_, _, rfl, rfl, ?_⟩⟩
  rw [starts_of]
  exact P.here R (.bl _)
end
end MP

set_option Elab.async false
set_option linter.all false
set_option maxRecDepth 100000
set_option maxHeartbeats 1000000
/-! MPExpr: readings of expressions by the interpreter. -/
namespace MP
open PySem PySem.Spec PyProof.Rows L2

def tR (N : Nm) (K : PySem.W.Frag) (f : Fr → Sto → RD) : TE := fun σ H Q => ∃ (ρ : List Addr) (fr : Fr) (st : Sto) (d : D) (st' : Sto), Rl N K ρ st H ∧ Rf K ρ H fr σ ∧ f fr st = .ok (d, st') ∧ Post N K ρ H d st' Q
def PostL (N : Nm) (K : PySem.W.Frag) (ρ : List Addr) (H : Hp) (ds : List D) (st : Sto) (Q : List V → Hp → Prop) : Prop := ∀ ρ' H' vs, Ext ρ H ρ' H' → Rl N K ρ' st H' → Reps K ρ' H' ds vs → Q vs H'
def tRs (N : Nm) (K : PySem.W.Frag) (f : Fr → Sto → R (List D × Sto)) : TA := fun σ H Q => ∃ (ρ : List Addr) (fr : Fr) (st : Sto) (ds : List D) (st' : Sto), Rl N K ρ st H ∧ Rf K ρ H fr σ ∧ f fr st = .ok (ds, st') ∧ PostL N K ρ H ds st' Q
def PostB (N : Nm) (K : PySem.W.Frag) (ρ : List Addr) (H : Hp) {α : Type} (b : α) (st : Sto) (Q : α → Hp → Prop) : Prop := ∀ ρ' H', Ext ρ H ρ' H' → Rl N K ρ' st H' → Q b H'
def tRb (N : Nm) (K : PySem.W.Frag) {α : Type} (f : Fr → Sto → R (α × Sto)) : L2.St → Hp → (α → Hp → Prop) → Prop := fun σ H Q => ∃ (ρ : List Addr) (fr : Fr) (st : Sto) (b : α) (st' : Sto), Rl N K ρ st H ∧ Rf K ρ H fr σ ∧ f fr st = .ok (b, st') ∧ PostB N K ρ H b st' Q

theorem PE.imp {X : Cx} {e : Expr} {t t' : TE} (h : PE X e t) (i : ∀ σ H Q, t' σ H Q → t σ H Q) : PE X e t' := ⟨fun pins s σ H Q I q => h.run pins s σ H Q I (i σ H Q q)⟩
theorem PT.imp {X : Cx} {e : Expr} {t t' : TT} (h : PT X e t) (i : ∀ σ H Q, t' σ H Q → t σ H Q) : PT X e t' := ⟨fun pins s σ H Q I q => h.run pins s σ H Q I (i σ H Q q)⟩
theorem PA.imp {X : Cx} {e : List Expr} {t t' : TA} (h : PA X e t) (i : ∀ σ H Q, t' σ H Q → t σ H Q) : PA X e t' := ⟨fun pos pins s σ H Q I q => h.run pos pins s σ H Q I (i σ H Q q)⟩
theorem PE.by {X : Cx} {e : Expr} {t' : TE} (h : ∀ σ H Q, t' σ H Q → ∃ t, PE X e t ∧ t σ H Q) : PE X e t' := ⟨fun pins s σ H Q I q => let ⟨_, p, q'⟩ := h σ H Q q; p.run pins s σ H Q I q'⟩

section
variable {X : Cx} {N : Nm} {fa fb fc : Fr → Sto → RD} {a b c : Expr} {σ : L2.St} {H : Hp} {Q : VK}

/-! ### names and constants -/
theorem m_var {i : Nat} {x : Str} {pos : Pos} (hN : X.N[i]? = some x) (hv : Vis X.env.scope x) (hd : (x == ("__debug__" : Str)) = false) (hcd : (x == ("__classdict__" : Str)) = false) :
    PE X (.Name x pos) (tR N X.K fun fr st => match fr[i]? with | some (some d) => .ok (d, st) | _ => .no) := by
  refine PE.imp (pe_var hN hv hd hcd) fun σ H Q ⟨ρ, fr, st, d, st', R, F, e, P⟩ => ?_
  dsimp only at e
  split at e
  · rename_i d' q
    cases e
    obtain ⟨v, h1, h2⟩ := F.at_ _ _ q
    exact ⟨v, h1, P.here R h2⟩
  · cases e
theorem m_const {e : Expr} {d : D} {v : V} (he : PE X e (tC v)) (hr : ∀ ρ H, Rep X.K ρ H d v) : PE X e (tR N X.K fun _ st => .ok (d, st)) := by
  refine PE.imp he fun σ H Q ⟨ρ, fr, st, d', st', R, F, e, P⟩ => ?_
  cases e
  exact P.here R (hr _ _)

/-! ### two values -/
theorem read_bin {F : Value → Value → Sem Value} {g : D → D → Sto → RD} (hg : Op2Ok X N F g) (h : tR N X.K (fun fr st => (fa fr st).bind fun p => (fb fr p.2).bind fun q => g p.1 q.1 q.2) σ H Q) :
    tOp (rAny X F) (tR N X.K fa) (tR N X.K fb) σ H Q := by
  obtain ⟨ρ, fr, st, d, st', R, Fr', e, P⟩ := h
  obtain ⟨p, e1, e⟩ := MP.R.bind_eq e
  obtain ⟨q, e2, e⟩ := MP.R.bind_eq e
  refine ⟨ρ, fr, st, p.1, p.2, R, Fr', e1, fun ρ1 H1 x E1 R1 r1 => ?_⟩
  refine ⟨ρ1, fr, p.2, q.1, q.2, R1, Fr'.ext E1, e2, fun ρ2 H2 y E2 R2 r2 => ?_⟩
  obtain ⟨r, ho, hr⟩ := hg ρ2 q.2 H2 p.1 q.1 x y d st' R2 (r1.ext E2) r2 e
  exact ⟨r, ho, hr Q (P.after (E1.trans E2))⟩
theorem m_bin {op : Operator} {g : D → D → Sto → RD} {pos : Pos} (ha : PE X a (tR N X.K fa)) (hb : PE X b (tR N X.K fb)) (hg : Op2Ok X N (binaryOp op) g) :
    PE X (.BinOp a op b pos) (tR N X.K fun fr st => (fa fr st).bind fun p => (fb fr p.2).bind fun q => g p.1 q.1 q.2) :=
  PE.imp (pe_op opR_any ha hb) fun _ _ _ h => read_bin hg h
theorem m_cmp {op : CmpOp} {g : D → D → Sto → RD} {pos : Pos} (ha : PE X a (tR N X.K fa)) (hb : PE X b (tR N X.K fb)) (hg : Op2Ok X N (compareOp op) g) (hm : behindInMarks op b = false) :
    PE X (.Compare a [op] [b] pos) (tR N X.K fun fr st => (fa fr st).bind fun p => (fb fr p.2).bind fun q => g p.1 q.1 q.2) :=
  PE.imp (pe_cmpR opR_any ha hb hm) fun _ _ _ h => read_bin hg h
theorem read_chain {F G : Value → Value → Sem Value} {f g : D → D → Sto → RD} (hf : Op2Ok X N F f) (hg : Op2Ok X N G g)
    (h : tR N X.K (fun fr st => (fa fr st).bind fun p => (fb fr p.2).bind fun q => (f p.1 q.1 q.2).bind fun r => match r.1 with
      | .bl true => (fc fr r.2).bind fun s => g q.1 s.1 s.2
      | .bl false => .ok r
      | _ => .no) σ H Q) :
    tChain (rAny X F) (rAny X G) (tR N X.K fa) (tR N X.K fb) (tR N X.K fc) σ H Q := by
  obtain ⟨ρ, fr, st, d, st', R, Fr', e, P⟩ := h
  obtain ⟨p, e1, e⟩ := MP.R.bind_eq e
  obtain ⟨q, e2, e⟩ := MP.R.bind_eq e
  obtain ⟨r, e3, e⟩ := MP.R.bind_eq e
  refine ⟨ρ, fr, st, p.1, p.2, R, Fr', e1, fun ρ1 H1 x E1 R1 r1 => ?_⟩
  refine ⟨ρ1, fr, p.2, q.1, q.2, R1, Fr'.ext E1, e2, fun ρ2 H2 y E2 R2 r2 => ?_⟩
  obtain ⟨z, ho, hz⟩ := hf ρ2 q.2 H2 p.1 q.1 x y r.1 r.2 R2 (r1.ext E2) r2 e3
  refine ⟨z, ho, hz _ fun ρ3 H3 v E3 R3 r3 => ?_⟩
  split at e
  · rename_i hb
    rw [hb] at r3
    cases r3
    refine ⟨true, rfl, ?_⟩
    rw [if_pos rfl]
    obtain ⟨s, e4, e⟩ := MP.R.bind_eq e
    refine ⟨ρ3, fr, r.2, s.1, s.2, R3, Fr'.ext (E1.trans (E2.trans E3)), e4, fun ρ4 H4 w E4 R4 r4 => ?_⟩
    obtain ⟨z2, ho2, hz2⟩ := hg ρ4 s.2 H4 q.1 s.1 y w d st' R4 (r2.ext (E3.trans E4)) r4 e
    exact ⟨z2, ho2, hz2 Q (P.after (E1.trans (E2.trans (E3.trans E4))))⟩
  · rename_i hb
    cases e
    rw [show d = .bl false from hb] at r3 P
    cases r3
    refine ⟨false, rfl, ?_⟩
    rw [if_neg (by decide)]
    exact (P.after (E1.trans (E2.trans E3))).here R3 (.bl _)
  · cases e
theorem m_chain {op op' : CmpOp} {f g : D → D → Sto → RD} {pos : Pos} (ha : PE X a (tR N X.K fa)) (hb : PE X b (tR N X.K fb)) (hc : PE X c (tR N X.K fc)) (hf : Op2Ok X N (compareOp op) f) (hg : Op2Ok X N (compareOp op') g) (hm : lastMarks [op, op'] [b, c] = false) :
    PE X (.Compare a [op, op'] [b, c] pos) (tR N X.K fun fr st => (fa fr st).bind fun p => (fb fr p.2).bind fun q => (f p.1 q.1 q.2).bind fun r => match r.1 with
      | .bl true => (fc fr r.2).bind fun s => g q.1 s.1 s.2
      | .bl false => .ok r
      | _ => .no) :=
  PE.imp (pe_chain opR_any opR_any ha hb hc hm) fun _ _ _ h => read_chain hf hg h

/-! ### one value -/
theorem read_un {g : D → Sto → RD} {r : V → Hp → VK → Prop} (hg : ∀ (ρ : List Addr) (st : Sto) (H : Hp) (dx : D) (x : V) (d : D) (st' : Sto), Rl N X.K ρ st H → Rep X.K ρ H dx x → g dx st = .ok (d, st') → ∀ Q : VK, Post N X.K ρ H d st' Q → r x H Q)
    (h : tR N X.K (fun fr st => (fa fr st).bind fun p => g p.1 p.2) σ H Q) : tUn r (tR N X.K fa) σ H Q := by
  obtain ⟨ρ, fr, st, d, st', R, Fr', e, P⟩ := h
  obtain ⟨p, e1, e⟩ := MP.R.bind_eq e
  exact ⟨ρ, fr, st, p.1, p.2, R, Fr', e1, fun ρ1 H1 x E1 R1 r1 => hg ρ1 p.2 H1 p.1 x d st' R1 r1 e Q (P.after E1)⟩
theorem m_neg {pos : Pos} (ha : PE X a (tR N X.K fa)) : PE X (.UnaryOp .USub a pos) (tR N X.K fun fr st => (fa fr st).bind fun p => match p.1 with
    | .int i => .ok (.int (-i), p.2)
    | _ => .no) := by
  refine PE.imp (pe_un un_neg ha) fun σ H Q h => read_un (g := fun d st => match d with | .int i => .ok (.int (-i), st) | _ => .no) (fun ρ st H dx x d st' R r e Q P => ?_) h
  cases r <;> simp only [reduceCtorEq] at e
  cases e
  exact ⟨_, rfl, P.here R (.int _)⟩
theorem tru_of {ρ : List Addr} {st : Sto} {H : Hp} {d : D} {v : V} {k : Bool} (R : Rl N X.K ρ st H) (r : Rep X.K ρ H d v) (h : truthF st d = some k) : TruV X.K v H k := by
  have hz := sz_line
  cases r with
  | non => simp only [truthF] at h; cases h; rfl
  | bl => simp only [truthF] at h; cases h; rfl
  | int => simp only [truthF] at h; cases h; rfl
  | str x =>
    simp only [truthF] at h
    split at h
    · cases h
      refine ⟨by rw [toS_len]; omega, ?_⟩
      rw [toS_len]
      cases x with
      | nil => rfl
      | cons a x =>
        show (!false) = _
        rw [List.length_cons]
        show true = _
        symm
        rw [bne_iff_ne]
        omega
    · cases h
  | tup h1 h2 =>
    simp only [truthF] at h
    cases h
    exact .inr (.inl ⟨_, h1, by cases h2 <;> rfl⟩)
  | kls h1 h2 =>
    simp only [truthF] at h
    cases h
    exact .inl ⟨_, h1.sq, by cases h2 <;> rfl⟩
  | @ref n a h1 =>
    simp only [truthF] at h
    split at h
    · rename_i q
      cases h
      obtain ⟨vs, e, rs⟩ := R.at_ _ _ _ h1 q
      exact .inl ⟨_, .inl (.inl e), by cases rs <;> rfl⟩
    · rename_i q
      cases h
      obtain ⟨vs, e, rs⟩ := R.at_ _ _ _ h1 q
      exact .inr (.inr ⟨_, e, by cases rs <;> rfl⟩)
    · cases h
theorem m_not {pos : Pos} (ha : PE X a (tR N X.K fa)) : PE X (.UnaryOp .Not a pos) (tR N X.K fun fr st => (fa fr st).bind fun p => match truthF p.2 p.1 with
    | some b => .ok (.bl (!b), p.2)
    | none => .no) := by
  refine PE.imp (pe_notT ha) fun σ H Q h => ?_
  obtain ⟨ρ, fr, st, d, st', R, Fr', e, P⟩ := h
  obtain ⟨p, e1, e⟩ := MP.R.bind_eq e
  refine ⟨ρ, fr, st, p.1, p.2, R, Fr', e1, fun ρ1 H1 x E1 R1 r1 => ?_⟩
  split at e
  · rename_i k q
    cases e
    exact ⟨k, tru_of R1 r1 q, (P.after E1).here R1 (.bl _)⟩
  · cases e
theorem m_and {pos : Pos} {rest : List Expr} (ha : PE X a (tR N X.K fa)) (hb : PE X (.BoolOp .And (b :: rest) pos) (tR N X.K fb)) : PE X (.BoolOp .And (a :: b :: rest) pos) (tR N X.K fun fr st => (fa fr st).bind fun p => match truthF p.2 p.1 with
    | some true => fb fr p.2
    | some false => .ok p
    | none => .no) := by
  refine PE.imp (pe_andT ha hb) fun σ H Q h => ?_
  obtain ⟨ρ, fr, st, d, st', R, Fr', e, P⟩ := h
  obtain ⟨p, e1, e⟩ := MP.R.bind_eq e
  refine ⟨ρ, fr, st, p.1, p.2, R, Fr', e1, fun ρ1 H1 x E1 R1 r1 => ?_⟩
  split at e
  · rename_i q
    refine ⟨true, tru_of R1 r1 q, ?_⟩
    rw [if_pos rfl]
    exact ⟨ρ1, fr, p.2, d, st', R1, Fr'.ext E1, e, P.after E1⟩
  · rename_i q
    cases e
    refine ⟨false, tru_of R1 r1 q, ?_⟩
    rw [if_neg (by decide)]
    exact (P.after E1).here R1 r1
  · cases e
theorem m_or {pos : Pos} {rest : List Expr} (ha : PE X a (tR N X.K fa)) (hb : PE X (.BoolOp .Or (b :: rest) pos) (tR N X.K fb)) : PE X (.BoolOp .Or (a :: b :: rest) pos) (tR N X.K fun fr st => (fa fr st).bind fun p => match truthF p.2 p.1 with
    | some true => .ok p
    | some false => fb fr p.2
    | none => .no) := by
  refine PE.imp (pe_orT ha hb) fun σ H Q h => ?_
  obtain ⟨ρ, fr, st, d, st', R, Fr', e, P⟩ := h
  obtain ⟨p, e1, e⟩ := MP.R.bind_eq e
  refine ⟨ρ, fr, st, p.1, p.2, R, Fr', e1, fun ρ1 H1 x E1 R1 r1 => ?_⟩
  split at e
  · rename_i q
    cases e
    refine ⟨true, tru_of R1 r1 q, ?_⟩
    rw [if_pos rfl]
    exact (P.after E1).here R1 r1
  · rename_i q
    refine ⟨false, tru_of R1 r1 q, ?_⟩
    rw [if_neg (by decide)]
    exact ⟨ρ1, fr, p.2, d, st', R1, Fr'.ext E1, e, P.after E1⟩
  · cases e
theorem read_isN (h : tR N X.K (fun fr st => (fa fr st).bind fun p => .ok (.bl (match p.1 with | .non => true | _ => false), p.2)) σ H Q) :
    tOp (fun x y H Q => y = .non ∧ Q (.bl (decide (x = .non))) H) (tR N X.K fa) (tC .non) σ H Q := by
  obtain ⟨ρ, fr, st, d, st', R, Fr', e, P⟩ := h
  obtain ⟨p, e1, e⟩ := MP.R.bind_eq e
  refine ⟨ρ, fr, st, p.1, p.2, R, Fr', e1, fun ρ1 H1 x E1 R1 r1 => ⟨rfl, ?_⟩⟩
  cases e
  have P1 := (P.after E1).here R1 (.bl _)
  generalize hp : p.1 = d at r1 P1
  cases r1 <;> exact P1
theorem read_notN (h : tR N X.K (fun fr st => (fa fr st).bind fun p => .ok (.bl (match p.1 with | .non => false | _ => true), p.2)) σ H Q) :
    tOp (fun x y H Q => y = .non ∧ Q (.bl (!decide (x = .non))) H) (tR N X.K fa) (tC .non) σ H Q := by
  obtain ⟨ρ, fr, st, d, st', R, Fr', e, P⟩ := h
  obtain ⟨p, e1, e⟩ := MP.R.bind_eq e
  refine ⟨ρ, fr, st, p.1, p.2, R, Fr', e1, fun ρ1 H1 x E1 R1 r1 => ⟨rfl, ?_⟩⟩
  cases e
  have P1 := (P.after E1).here R1 (.bl _)
  generalize hp : p.1 = d at r1 P1
  cases r1 <;> exact P1
theorem m_isN {j : Nat} {pos pos' : Pos} (ha : PE X a (tR N X.K fa)) : PE X (.Compare a [.Is] [.Constant .none j pos'] pos) (tR N X.K fun fr st => (fa fr st).bind fun p => .ok (.bl (match p.1 with | .non => true | _ => false), p.2)) :=
  PE.imp (pe_cmpR op_isN ha pe_non (by rfl)) fun _ _ _ h => read_isN h
theorem m_notN {j : Nat} {pos pos' : Pos} (ha : PE X a (tR N X.K fa)) : PE X (.Compare a [.IsNot] [.Constant .none j pos'] pos) (tR N X.K fun fr st => (fa fr st).bind fun p => .ok (.bl (match p.1 with | .non => false | _ => true), p.2)) :=
  PE.imp (pe_cmpR op_notN ha pe_non (by rfl)) fun _ _ _ h => read_notN h

theorem read_isB {k : Bool} (h : tR N X.K (fun fr st => (fa fr st).bind fun p => match p.1 with | .bl c => .ok (.bl (decide (c = k)), p.2) | _ => .no) σ H Q) :
    tOp (fun x y H Q => ∃ a b, x = .bl a ∧ y = .bl b ∧ Q (.bl (decide (a = b))) H) (tR N X.K fa) (tC (.bl k)) σ H Q := by
  obtain ⟨ρ, fr, st, d, st', R, Fr', e, P⟩ := h
  obtain ⟨p, e1, e⟩ := MP.R.bind_eq e
  refine ⟨ρ, fr, st, p.1, p.2, R, Fr', e1, fun ρ1 H1 x E1 R1 r1 => ?_⟩
  split at e
  · rename_i c hc
    cases e
    rw [hc] at r1
    cases r1
    exact ⟨_, _, rfl, rfl, (P.after E1).here R1 (.bl _)⟩
  · cases e
theorem read_isnB {k : Bool} (h : tR N X.K (fun fr st => (fa fr st).bind fun p => match p.1 with | .bl c => .ok (.bl (!decide (c = k)), p.2) | _ => .no) σ H Q) :
    tOp (fun x y H Q => ∃ a b, x = .bl a ∧ y = .bl b ∧ Q (.bl (!decide (a = b))) H) (tR N X.K fa) (tC (.bl k)) σ H Q := by
  obtain ⟨ρ, fr, st, d, st', R, Fr', e, P⟩ := h
  obtain ⟨p, e1, e⟩ := MP.R.bind_eq e
  refine ⟨ρ, fr, st, p.1, p.2, R, Fr', e1, fun ρ1 H1 x E1 R1 r1 => ?_⟩
  split at e
  · rename_i c hc
    cases e
    rw [hc] at r1
    cases r1
    exact ⟨_, _, rfl, rfl, (P.after E1).here R1 (.bl _)⟩
  · cases e
theorem m_isB {j : Nat} {k : Bool} {pos pos' : Pos} (ha : PE X a (tR N X.K fa)) : PE X (.Compare a [.Is] [.Constant (.bool k) j pos'] pos) (tR N X.K fun fr st => (fa fr st).bind fun p => match p.1 with | .bl c => .ok (.bl (decide (c = k)), p.2) | _ => .no) :=
  PE.imp (pe_cmpR op_is_bl ha pe_bl (by rfl)) fun _ _ _ h => read_isB h
theorem m_isnB {j : Nat} {k : Bool} {pos pos' : Pos} (ha : PE X a (tR N X.K fa)) : PE X (.Compare a [.IsNot] [.Constant (.bool k) j pos'] pos) (tR N X.K fun fr st => (fa fr st).bind fun p => match p.1 with | .bl c => .ok (.bl (!decide (c = k)), p.2) | _ => .no) :=
  PE.imp (pe_cmpR op_isnot_bl ha pe_bl (by rfl)) fun _ _ _ h => read_isnB h

/-! ### tests -/
def tst (f : Fr → Sto → RD) : Fr → Sto → R (Bool × Sto) := fun fr st => testF (f fr st)
/-- a test, from the expression's own reading -/
theorem m_truth (ha : PE X a (tR N X.K fa)) (he : ∀ whole, isTrue a X.env whole = (do let v ← whole; standAt a.pos; holding [v] (truthy v))) : PT X a (tRb N X.K (tst fa)) := by
  refine PT.imp (pt_truth ha he) fun σ H Q ⟨ρ, fr, st, b, st', R, F, e, P⟩ => ?_
  obtain ⟨p, e1, e⟩ := MP.R.bind_eq e
  obtain ⟨k, e2, e⟩ := MP.R.bind_eq e
  cases e
  exact ⟨ρ, fr, st, p.1, p.2, R, F, e1, fun ρ1 H1 x E1 R1 r1 => ⟨b, tru_of R1 r1 (MP.R.of_eq e2), P _ _ E1 R1⟩⟩
/-- a reading that gives a truth, as a test -/
theorem read_test {t : TE} (h : ∀ Q, tR N X.K fa σ H Q → t σ H Q) (hb : ∀ fr st d st', fa fr st = .ok (d, st') → ∃ k, d = .bl k) {Q : Bool → Hp → Prop} (q : tRb N X.K (tst fa) σ H Q) : tTest t σ H Q := by
  obtain ⟨ρ, fr, st, b, st', R, F, e, P⟩ := q
  obtain ⟨p, e1, e⟩ := MP.R.bind_eq e
  obtain ⟨k, e2, e⟩ := MP.R.bind_eq e
  cases e
  obtain ⟨k', e3⟩ := hb _ _ _ _ e1
  have e4 : b = k' := by
    have := MP.R.of_eq e2
    rw [e3] at this
    exact (Option.some.inj this).symm
  subst e4
  refine h _ ⟨ρ, fr, st, _, _, R, F, e1, fun ρ1 H1 x E1 R1 r1 => ?_⟩
  rw [show (p.1, p.2).1 = .bl b from e3] at r1
  cases r1
  exact ⟨b, rfl, P _ _ E1 R1⟩
theorem op_bl {o : Op} (ho : o = .eq ∨ o = .ne ∨ o = .lt ∨ o = .le ∨ o = .gt ∨ o = .ge ∨ o = .mem ∨ o = .nmem) {x y : D} {st st' : Sto} {d : D} (h : opF o x y st = .ok (d, st')) : ∃ k, d = .bl k := by
  rcases ho with rfl | rfl | rfl | rfl | rfl | rfl | rfl | rfl <;> simp only [opF] at h
  · obtain ⟨k, _, h⟩ := MP.R.bind_eq h; cases h; exact ⟨_, rfl⟩
  · obtain ⟨k, _, h⟩ := MP.R.bind_eq h; cases h; exact ⟨_, rfl⟩
  · split at h <;> cases h <;> exact ⟨_, rfl⟩
  · split at h <;> cases h <;> exact ⟨_, rfl⟩
  · split at h <;> cases h <;> exact ⟨_, rfl⟩
  · split at h <;> cases h <;> exact ⟨_, rfl⟩
  · obtain ⟨k, _, h⟩ := MP.R.bind_eq h; cases h; exact ⟨_, rfl⟩
  · obtain ⟨k, _, h⟩ := MP.R.bind_eq h; cases h; exact ⟨_, rfl⟩
theorem mt_cmp {op : CmpOp} {o : Op} {pos : Pos} (ho : o = .eq ∨ o = .ne ∨ o = .lt ∨ o = .le ∨ o = .gt ∨ o = .ge ∨ o = .mem ∨ o = .nmem) (ha : PE X a (tR N X.K fa)) (hb : PE X b (tR N X.K fb)) (hg : Op2Ok X N (compareOp op) (opF o)) (hm : behindInMarks op b = false) :
    PT X (.Compare a [op] [b] pos) (tRb N X.K (tst fun fr st => (fa fr st).bind fun p => (fb fr p.2).bind fun q => opF o p.1 q.1 q.2)) :=
  PT.imp (pt_cmpR opR_any ha hb hm) fun _ _ _ h => read_test (fun _ h => read_bin hg h) (fun fr st d st' e => by
    obtain ⟨p, _, e⟩ := MP.R.bind_eq e
    obtain ⟨q, _, e⟩ := MP.R.bind_eq e
    exact op_bl ho e) h
theorem mt_chain {op op' : CmpOp} {o o' : Op} {pos : Pos} (ho : o' = .eq ∨ o' = .ne ∨ o' = .lt ∨ o' = .le ∨ o' = .gt ∨ o' = .ge ∨ o' = .mem ∨ o' = .nmem) (ha : PE X a (tR N X.K fa)) (hb : PE X b (tR N X.K fb)) (hc : PE X c (tR N X.K fc)) (hf : Op2Ok X N (compareOp op) (opF o)) (hg : Op2Ok X N (compareOp op') (opF o')) (hm : lastMarks [op, op'] [b, c] = false) :
    PT X (.Compare a [op, op'] [b, c] pos) (tRb N X.K (tst fun fr st => (fa fr st).bind fun p => (fb fr p.2).bind fun q => (opF o p.1 q.1 q.2).bind fun r => match r.1 with
      | .bl true => (fc fr r.2).bind fun s => opF o' q.1 s.1 s.2
      | .bl false => .ok r
      | _ => .no)) :=
  PT.imp (pt_chain opR_any opR_any ha hb hc hm) fun _ _ _ h => read_test (fun _ h => read_chain hf hg h) (fun fr st d st' e => by
    obtain ⟨p, _, e⟩ := MP.R.bind_eq e
    obtain ⟨q, _, e⟩ := MP.R.bind_eq e
    obtain ⟨r, _, e⟩ := MP.R.bind_eq e
    split at e
    · obtain ⟨s, _, e⟩ := MP.R.bind_eq e
      exact op_bl ho e
    · rename_i hb
      cases e
      exact ⟨_, hb⟩
    · cases e) h
theorem mt_isN {j : Nat} {pos pos' : Pos} (ha : PE X a (tR N X.K fa)) : PT X (.Compare a [.Is] [.Constant .none j pos'] pos) (tRb N X.K (tst fun fr st => (fa fr st).bind fun p => .ok (.bl (match p.1 with | .non => true | _ => false), p.2))) :=
  PT.imp (pt_cmpR op_isN ha pe_non (by rfl)) fun _ _ _ h => read_test (fun _ h => read_isN h) (fun fr st d st' e => by
    obtain ⟨p, _, e⟩ := MP.R.bind_eq e
    cases e
    exact ⟨_, rfl⟩) h
theorem mt_notN {j : Nat} {pos pos' : Pos} (ha : PE X a (tR N X.K fa)) : PT X (.Compare a [.IsNot] [.Constant .none j pos'] pos) (tRb N X.K (tst fun fr st => (fa fr st).bind fun p => .ok (.bl (match p.1 with | .non => false | _ => true), p.2))) :=
  PT.imp (pt_cmpR op_notN ha pe_non (by rfl)) fun _ _ _ h => read_test (fun _ h => read_notN h) (fun fr st d st' e => by
    obtain ⟨p, _, e⟩ := MP.R.bind_eq e
    cases e
    exact ⟨_, rfl⟩) h
theorem mt_isB {j : Nat} {k : Bool} {pos pos' : Pos} (ha : PE X a (tR N X.K fa)) : PT X (.Compare a [.Is] [.Constant (.bool k) j pos'] pos) (tRb N X.K (tst fun fr st => (fa fr st).bind fun p => match p.1 with | .bl c => .ok (.bl (decide (c = k)), p.2) | _ => .no)) :=
  PT.imp (pt_cmpR op_is_bl ha pe_bl (by rfl)) fun _ _ _ h => read_test (fun _ h => read_isB h) (fun fr st d st' e => by
    obtain ⟨p, _, e⟩ := MP.R.bind_eq e
    split at e
    · cases e; exact ⟨_, rfl⟩
    · cases e) h
theorem mt_isnB {j : Nat} {k : Bool} {pos pos' : Pos} (ha : PE X a (tR N X.K fa)) : PT X (.Compare a [.IsNot] [.Constant (.bool k) j pos'] pos) (tRb N X.K (tst fun fr st => (fa fr st).bind fun p => match p.1 with | .bl c => .ok (.bl (!decide (c = k)), p.2) | _ => .no)) :=
  PT.imp (pt_cmpR op_isnot_bl ha pe_bl (by rfl)) fun _ _ _ h => read_test (fun _ h => read_isnB h) (fun fr st d st' e => by
    obtain ⟨p, _, e⟩ := MP.R.bind_eq e
    split at e
    · cases e; exact ⟨_, rfl⟩
    · cases e) h
theorem mt_not {pos : Pos} (ha : PT X a (tRb N X.K (tst fa))) : PT X (.UnaryOp .Not a pos) (tRb N X.K (tst fun fr st => (fa fr st).bind fun p => match truthF p.2 p.1 with
    | some b => .ok (.bl (!b), p.2)
    | none => .no)) := by
  refine PT.imp (pt_not ha) fun σ H Q ⟨ρ, fr, st, b, st', R, F, e, P⟩ => ?_
  obtain ⟨p, e1, e⟩ := MP.R.bind_eq e
  obtain ⟨q, e2, e1⟩ := MP.R.bind_eq e1
  split at e1
  · rename_i k hk
    cases e1
    simp only [truthF, MP.R.of_some, MP.R.bind_ok] at e
    cases e
    refine ⟨ρ, fr, st, k, q.2, R, F, ?_, fun ρ1 H1 E1 R1 => P _ _ E1 R1⟩
    simp only [tst, testF, e2, MP.R.bind_ok, hk, MP.R.of_some]
  · cases e1
theorem mw_and {pos : Pos} {rest : List Expr} (ha : PT X a (tRb N X.K (tst fa))) (hb : PW X (.BoolOp .And (b :: rest) pos) (tRb N X.K (tst fb))) : PW X (.BoolOp .And (a :: b :: rest) pos) (tRb N X.K (tst fun fr st => (fa fr st).bind fun p => match truthF p.2 p.1 with
    | some true => fb fr p.2
    | some false => .ok p
    | none => .no)) := by
  refine ⟨fun whole pins s σ H Q I h => (pw_and ha hb).run whole pins s σ H Q I ?_⟩
  obtain ⟨ρ, fr, st, b, st', R, F, e, P⟩ := h
  obtain ⟨p, e1, e⟩ := MP.R.bind_eq e
  obtain ⟨q, e2, e1⟩ := MP.R.bind_eq e1
  split at e1
  · rename_i hk
    refine ⟨ρ, fr, st, true, q.2, R, F, by simp only [tst, testF, e2, MP.R.bind_ok, hk, MP.R.of_some], fun ρ1 H1 E1 R1 => ?_⟩
    refine iteT ?_
    refine ⟨ρ1, fr, q.2, b, st', R1, F.ext E1, ?_, fun ρ2 H2 E2 R2 => P _ _ (E1.trans E2) R2⟩
    simp only [tst, testF, e1, MP.R.bind_ok]
    exact e
  · rename_i hk
    cases e1
    simp only [hk, MP.R.of_some, MP.R.bind_ok] at e
    cases e
    refine ⟨ρ, fr, st, false, p.2, R, F, by simp only [tst, testF, e2, MP.R.bind_ok, hk, MP.R.of_some], fun ρ1 H1 E1 R1 => ?_⟩
    refine iteF ?_
    exact P _ _ E1 R1
  · cases e1
theorem mw_or {pos : Pos} {rest : List Expr} (ha : PT X a (tRb N X.K (tst fa))) (hb : PW X (.BoolOp .Or (b :: rest) pos) (tRb N X.K (tst fb))) : PW X (.BoolOp .Or (a :: b :: rest) pos) (tRb N X.K (tst fun fr st => (fa fr st).bind fun p => match truthF p.2 p.1 with
    | some true => .ok p
    | some false => fb fr p.2
    | none => .no)) := by
  refine ⟨fun whole pins s σ H Q I h => (pw_or ha hb).run whole pins s σ H Q I ?_⟩
  obtain ⟨ρ, fr, st, b, st', R, F, e, P⟩ := h
  obtain ⟨p, e1, e⟩ := MP.R.bind_eq e
  obtain ⟨q, e2, e1⟩ := MP.R.bind_eq e1
  split at e1
  · rename_i hk
    cases e1
    simp only [hk, MP.R.of_some, MP.R.bind_ok] at e
    cases e
    refine ⟨ρ, fr, st, true, p.2, R, F, by simp only [tst, testF, e2, MP.R.bind_ok, hk, MP.R.of_some], fun ρ1 H1 E1 R1 => ?_⟩
    refine iteT ?_
    exact P _ _ E1 R1
  · rename_i hk
    refine ⟨ρ, fr, st, false, q.2, R, F, by simp only [tst, testF, e2, MP.R.bind_ok, hk, MP.R.of_some], fun ρ1 H1 E1 R1 => ?_⟩
    refine iteF ?_
    refine ⟨ρ1, fr, q.2, b, st', R1, F.ext E1, ?_, fun ρ2 H2 E2 R2 => P _ _ (E1.trans E2) R2⟩
    simp only [tst, testF, e1, MP.R.bind_ok]
    exact e
  · cases e1
theorem mw_one {op : BoolOp} {pos : Pos} (ha : PT X a (tRb N X.K (tst fa))) : PW X (.BoolOp op [a] pos) (tRb N X.K (tst fa)) := by
  cases op
  · exact pw_and1 ha
  · exact pw_or1 ha
theorem m_ife {c : Expr} {pos : Pos} (hc : PT X c (tRb N X.K (tst fc))) (ha : PE X a (tR N X.K fa)) (hb : PE X b (tR N X.K fb)) : PE X (.IfExp c a b pos) (tR N X.K fun fr st => (fc fr st).bind fun p => match truthF p.2 p.1 with
    | some true => fa fr p.2
    | some false => fb fr p.2
    | none => .no) := by
  refine PE.imp (pe_ifExp hc ha hb) fun σ H Q ⟨ρ, fr, st, d, st', R, F, e, P⟩ => ?_
  obtain ⟨p, e1, e⟩ := MP.R.bind_eq e
  split at e
  · rename_i hk
    refine ⟨ρ, fr, st, true, p.2, R, F, by simp only [tst, testF, e1, MP.R.bind_ok, hk, MP.R.of_some], fun ρ1 H1 E1 R1 => ?_⟩
    refine iteT ?_
    exact ⟨ρ1, fr, p.2, d, st', R1, F.ext E1, e, P.after E1⟩
  · rename_i hk
    refine ⟨ρ, fr, st, false, p.2, R, F, by simp only [tst, testF, e1, MP.R.bind_ok, hk, MP.R.of_some], fun ρ1 H1 E1 R1 => ?_⟩
    refine iteF ?_
    exact ⟨ρ1, fr, p.2, d, st', R1, F.ext E1, e, P.after E1⟩
  · cases e

/-! ### lists of expressions, displays -/
variable {fs : Fr → Sto → R (List D × Sto)} {es : List Expr}
theorem m_nil : PA X [] (tRs N X.K fun _ st => .ok ([], st)) :=
  PA.imp pa_nil fun σ H Q ⟨ρ, fr, st, ds, st', R, F, e, P⟩ => by
    cases e
    exact P _ _ _ Ext.refl R .nil
theorem m_cons (ha : PE X a (tR N X.K fa)) (hs : PA X es (tRs N X.K fs)) (hst : starEach (a :: es) X.env = (false, eval a X.env) :: starEach es X.env) : PA X (a :: es) (tRs N X.K fun fr st => (fa fr st).bind fun p => (fs fr p.2).bind fun q => .ok (p.1 :: q.1, q.2)) :=
  PA.imp (pa_cons ha hs hst) fun σ H Q ⟨ρ, fr, st, ds, st', R, F, e, P⟩ => by
    obtain ⟨p, e1, e⟩ := MP.R.bind_eq e
    obtain ⟨q, e2, e⟩ := MP.R.bind_eq e
    cases e
    refine ⟨ρ, fr, st, p.1, p.2, R, F, e1, fun ρ1 H1 x E1 R1 r1 => ?_⟩
    refine ⟨ρ1, fr, p.2, q.1, q.2, R1, F.ext E1, e2, fun ρ2 H2 xs E2 R2 r2 => ?_⟩
    exact P _ _ _ (E1.trans E2) R2 (.cons (r1.ext E2) r2)
theorem PostL.then {ρ ρ1 : List Addr} {H H1 : Hp} {d : D} {st st' : Sto} (P : Post N X.K ρ H d st Q) (E : Ext ρ H ρ1 H1) : Post N X.K ρ1 H1 d st Q := P.after E
theorem m_tup {k : Nat} {pos : Pos} (h : PA X es (tRs N X.K fs)) : PE X (.Tuple es k pos) (tR N X.K fun fr st => (fs fr st).bind fun p => if p.1.length ≤ SZ then .ok (.tup p.1, p.2) else .no) := by
  refine PE.imp (pe_tup h) fun σ H Q ⟨ρ, fr, st, d, st', R, F, e, P⟩ => ?_
  obtain ⟨p, e1, e⟩ := MP.R.bind_eq e
  split at e
  · rename_i hl
    cases e
    have hz := sz_line
    refine ⟨ρ, fr, st, p.1, p.2, R, F, e1, fun ρ1 H1 xs E1 R1 r1 => ⟨by rw [← r1.len]; omega, (P.after E1).tup R1 r1⟩⟩
  · cases e
theorem m_lst {pos : Pos} (h : PA X es (tRs N X.K fs)) : PE X (.List es pos) (tR N X.K fun fr st => (fs fr st).bind fun p => if p.1.length ≤ SZ then newF p.2 (.lst p.1) else .no) := by
  refine PE.imp (pe_lst h) fun σ H Q ⟨ρ, fr, st, d, st', R, F, e, P⟩ => ?_
  obtain ⟨p, e1, e⟩ := MP.R.bind_eq e
  split at e
  · rename_i hl
    cases e
    have hz := sz_line
    refine ⟨ρ, fr, st, p.1, p.2, R, F, e1, fun ρ1 H1 xs E1 R1 r1 => ⟨by rw [← r1.len]; omega, (P.after E1).lst R1 r1⟩⟩
  · cases e
end
end MP

set_option Elab.async false
set_option linter.all false
set_option maxRecDepth 100000
set_option maxHeartbeats 1000000
/-! MPExpr2: subscripts, slices, attributes, calls. -/
namespace MP
open PySem PySem.Spec PyProof.Rows L2

section
variable {X : Cx} {N : Nm} {fa fb fc : Fr → Sto → RD} {a b c : Expr} {fs : Fr → Sto → R (List D × Sto)} {es : List Expr}

/-! ### subscripts -/
def rAnyIx (X : Cx) : R2 := fun x y H Q => ∃ r : R2, IxR X r ∧ r x y H Q
theorem ixR_any : IxR X (rAnyIx X) := fun value slice pins s σ H x y v u Q I rx ry ⟨_, h, q⟩ hs => h value slice pins s σ H x y v u Q I rx ry q hs
theorem m_ix {k : Nat} {pos : Pos} (hr : Room k X.A) (ha : PE X a (tR N X.K fa)) (hb : PE X b (tR N X.K fb)) (hs : PlainIx b) :
    PE X (.Subscript a b pos) (tR N X.K fun fr st => (fa fr st).bind fun p => (fb fr p.2).bind fun q => (R.of (ixF q.2 p.1 q.1)).bind fun d => .ok (d, q.2)) := by
  refine PE.imp (pe_ix ixR_any ha hb hs) fun σ H Q ⟨ρ, fr, st, d, st', R, F, e, P⟩ => ?_
  obtain ⟨p, e1, e⟩ := MP.R.bind_eq e
  obtain ⟨q, e2, e⟩ := MP.R.bind_eq e
  obtain ⟨y, e3, e⟩ := MP.R.bind_eq e
  cases e
  refine ⟨ρ, fr, st, p.1, p.2, R, F, e1, fun ρ1 H1 x E1 R1 r1 => ?_⟩
  refine ⟨ρ1, fr, p.2, q.1, q.2, R1, F.ext E1, e2, fun ρ2 H2 y E2 R2 r2 => ?_⟩
  obtain ⟨z, ho, hz⟩ := ok_ix hr ρ2 q.2 H2 p.1 q.1 x y d R2 (r1.ext E2) r2 (MP.R.of_eq e3)
  exact ⟨z, ho, hz Q (P.after (E1.trans E2))⟩
def rAnySl (X : Cx) : V → Option Int → Option Int → Hp → VK → Prop := fun x lo hi H Q => ∃ r, SlR X r ∧ r x lo hi H Q
theorem slR_any : SlR X (rAnySl X) := fun pins s σ H x v vl vu lo hi sl Q I rx hs pl pu ⟨_, h, q⟩ => h pins s σ H x v vl vu lo hi sl Q I rx hs pl pu q
theorem m_part {o : Option Expr} {fo : Fr → Sto → R (Option Int × Sto)} (h : (o = none ∧ fo = fun _ st => .ok (none, st)) ∨ (∃ e f, o = some e ∧ PE X e (tR N X.K f) ∧ fo = fun fr st => (f fr st).bind fun p => match p.1 with | .int i => .ok (some i, p.2) | _ => .no)) :
    PO X o (tRb N X.K fo) := by
  rcases h with ⟨rfl, rfl⟩ | ⟨e, f, rfl, he, rfl⟩
  · exact ⟨fun pins s σ H Q I ⟨ρ, fr, st, b, st', R, F, e, P⟩ => po_none.run pins s σ H Q I (by cases e; exact P _ _ Ext.refl R)⟩
  · refine ⟨fun pins s σ H Q I ⟨ρ, fr, st, b, st', R, F, e, P⟩ => (po_some he).run pins s σ H Q I ?_⟩
    obtain ⟨p, e1, e⟩ := MP.R.bind_eq e
    refine ⟨ρ, fr, st, p.1, p.2, R, F, e1, fun ρ1 H1 x E1 R1 r1 => ?_⟩
    split at e
    · rename_i i hi
      cases e
      rw [hi] at r1
      cases r1
      exact ⟨i, rfl, P _ _ E1 R1⟩
    · cases e
theorem m_sl {lo hi : Option Expr} {fl fh : Fr → Sto → R (Option Int × Sto)} {pos p2 : Pos} (ha : PE X a (tR N X.K fa)) (hl : PO X lo (tRb N X.K fl)) (hh : PO X hi (tRb N X.K fh)) :
    PE X (.Subscript a (.Slice lo hi none p2) pos) (tR N X.K fun fr st => (fa fr st).bind fun p => (fl fr p.2).bind fun q => (fh fr q.2).bind fun r => slF r.2 p.1 q.1 r.1) := by
  refine PE.imp (pe_slice slR_any ha hl hh) fun σ H Q ⟨ρ, fr, st, d, st', R, F, e, P⟩ => ?_
  obtain ⟨p, e1, e⟩ := MP.R.bind_eq e
  obtain ⟨q, e2, e⟩ := MP.R.bind_eq e
  obtain ⟨r, e3, e⟩ := MP.R.bind_eq e
  refine ⟨ρ, fr, st, p.1, p.2, R, F, e1, fun ρ1 H1 x E1 R1 r1 => ?_⟩
  refine ⟨ρ1, fr, p.2, q.1, q.2, R1, F.ext E1, e2, fun ρ2 H2 E2 R2 => ?_⟩
  refine ⟨ρ2, fr, q.2, r.1, r.2, R2, F.ext (E1.trans E2), e3, fun ρ3 H3 E3 R3 => ?_⟩
  obtain ⟨z, ho, hz⟩ := ok_sl ρ3 r.2 H3 p.1 x q.1 r.1 d st' R3 (r1.ext (E2.trans E3)) e
  exact ⟨z, ho, hz Q (P.after (E1.trans (E2.trans E3)))⟩

/-! ### built-in functions -/
def rAnyC (X : Cx) (f : Value) : List V → Hp → VK → Prop := fun vs H Q => ∃ r, CallR X f r ∧ r vs H Q
theorem callR_any {f : Value} : CallR X f (rAnyC X f) := fun pins s σ H xs us Q I r ⟨_, h, q⟩ => h pins s σ H xs us Q I r q
theorem read_call {f : Value} {g : List D → Sto → RD} (hg : CallOk X N f g) {σ : L2.St} {H : Hp} {Q : VK} (h : tR N X.K (fun fr st => (fs fr st).bind fun p => g p.1 p.2) σ H Q) : tCB (rAnyC X f) (tRs N X.K fs) σ H Q := by
  obtain ⟨ρ, fr, st, d, st', R, F, e, P⟩ := h
  obtain ⟨p, e1, e⟩ := MP.R.bind_eq e
  refine ⟨ρ, fr, st, p.1, p.2, R, F, e1, fun ρ1 H1 vs E1 R1 r1 => ?_⟩
  obtain ⟨r, ho, hr⟩ := hg ρ1 p.2 H1 p.1 vs d st' R1 r1 e
  exact ⟨r, ho, hr Q (P.after E1)⟩
theorem m_callB {id : String} {g : List D → Sto → RD} {x : Str} {p pos : Pos} {e : Expr} (hg : CallOk X N (.builtin id) g) (hgl : Gl X x) (hm : X.mg x = none) (hv : bootBuiltins x = some (.builtin id)) (ha : PA X (e :: es) (tRs N X.K fs)) (hn : x ≠ "__name__") (hdb : (x == ("__debug__" : Str)) = false)
    (he : starEach (e :: es) X.env = (false, eval e X.env) :: starEach es X.env) (hpl : (backTo pos (starEach es X.env)).any (·.1) = false) : PE X (.Call (.Name x p) (e :: es) [] pos) (tR N X.K fun fr st => (fs fr st).bind fun p => g p.1 p.2) :=
  PE.imp (pe_callB callR_any hgl hm hv ha hn hdb he hpl) fun _ _ _ h => read_call hg h
theorem m_callTy {id : String} {g : List D → Sto → RD} {x : Str} {p pos : Pos} {e : Expr} (hg : CallOk X N (.type id) g) (hgl : Gl X x) (hm : X.mg x = none) (hv : bootBuiltins x = some (.type id)) (ha : PA X (e :: es) (tRs N X.K fs)) (hn : x ≠ "__name__") (hdb : (x == ("__debug__" : Str)) = false)
    (he : starEach (e :: es) X.env = (false, eval e X.env) :: starEach es X.env) (hpl : (backTo pos (starEach es X.env)).any (·.1) = false) : PE X (.Call (.Name x p) (e :: es) [] pos) (tR N X.K fun fr st => (fs fr st).bind fun p => g p.1 p.2) :=
  PE.imp (pe_callTy callR_any hgl hm hv ha hn hdb he hpl) fun _ _ _ h => read_call hg h
theorem m_isi {P0 : Prog} {t : Ty} {T : String} {x y : Str} {p p' pos : Pos} (hT : tyS t = some T) (hx : x = "isinstance") (hgx : Gl X x) (hmx : X.mg x = none) (hy : bootBuiltins y = some (.type T)) (hgy : Gl X y) (hmy : X.mg y = none) (hny : y ≠ "__name__") (hdy : (y == ("__debug__" : Str)) = false)
    (ha : PE X a (tR N X.K fa)) (he : starEach [a, .Name y p'] X.env = (false, eval a X.env) :: starEach [.Name y p'] X.env) :
    PE X (.Call (.Name x p) [a, .Name y p'] [] pos) (tR N X.K fun fr st => (fa fr st).bind fun p => (R.of (isiF P0 p.2 p.1 t)).bind fun b => .ok (.bl b, p.2)) := by
  subst hx
  refine PE.imp (pe_callB call_isi hgx hmx (by decide +kernel) (pa_cons ha (pa_cons (pe_bltn hgy hmy hy (show RelV (.ty T) _ from rfl) hny hdy) pa_nil) he) (by decide) (by decide) he (by rfl)) fun σ H Q ⟨ρ, fr, st, d, st', R, F, e, P⟩ => ?_
  obtain ⟨q, e1, e⟩ := MP.R.bind_eq e
  obtain ⟨k, e2, e⟩ := MP.R.bind_eq e
  cases e
  refine ⟨ρ, fr, st, q.1, q.2, R, F, e1, fun ρ1 H1 v E1 R1 r1 => ?_⟩
  exact ok_isi R1 r1 hT (MP.R.of_eq e2) Q ((P.after E1).here R1 (.bl _))

/-! ### methods of built-in types -/
theorem read_bm0 {name : Str} {m : Bm} {ids : Kd → String} {apos cpos : Pos} (hm : ∀ k, (∃ d o st, kindF st o = some k ∧ bmF k m o [] st = .ok d) → MtOk X N k m name (ids k)) (ho : PE X a (tR N X.K fa))
    (hbase : attributeBase a name X.env (eval a X.env) = eval a X.env) (hline : (apos.endLine == cpos.line) = true) :
    PE X (.Call (.Attribute a name apos) [] [] cpos) (tR N X.K fun fr st => (fa fr st).bind fun p => match kindF p.2 p.1 with
      | some k => bmF k m p.1 [] p.2
      | none => .no) := by
  refine ⟨fun pins s σ H Q I ⟨ρ, fr, st, d, st', R, F, e, P⟩ => ?_⟩
  obtain ⟨p, e1, e⟩ := MP.R.bind_eq e
  split at e
  · rename_i k hk
    have M := hm k ⟨_, _, _, hk, e⟩
    refine wpAny_Call_method0_late hbase hline (thn (ho.run pins s σ H (fun x H1 => ∃ ρ1, Ext ρ H ρ1 H1 ∧ Rl N X.K ρ1 p.2 H1 ∧ Rep X.K ρ1 H1 p.1 x) I ⟨ρ, fr, st, p.1, p.2, R, F, e1, fun ρ1 H1 x E1 R1 r1 => ⟨ρ1, E1, R1, r1⟩⟩) fun v s1 ⟨x, H1, I1, r1, ρ1, E1, R1, q1⟩ => ?_)
    obtain ⟨h1, h2⟩ := kind_is R1 q1 hk I1 r1
    refine ⟨_, ids k, M.pa, M.slot, M.ty, h1, h2, ?_⟩
    obtain ⟨r, hr, hq⟩ := M.go ρ1 p.2 H1 p.1 x [] [] d st' R1 q1 .nil e
    exact Calls.callWith_builtin rfl (PySem.evalArgs_none (hr pins s1 σ H1 x [] v [] Q I1 r1 .nil (hq Q (P.after E1))))
  · cases e
theorem read_bm {name : Str} {m : Bm} {ids : Kd → String} {apos cpos : Pos} {e0 : Expr} (hm : ∀ k, (∃ d o ds st, bmF k m o ds st = .ok d) → MtOk X N k m name (ids k)) (ho : PE X a (tR N X.K fa)) (ha : PA X (e0 :: es) (tRs N X.K fs))
    (hbase : attributeBase a name X.env (eval a X.env) = eval a X.env)
    (hfew : ((backTo cpos (starEach (e0 :: es) X.env)).all (fun x => !x.1) && (backToKw cpos (keywordEach [] X.env)).all (fun x => x.1.isSome)
      && decide ((e0 :: es).length + ([] : List Keyword).length + (if ([] : List Keyword).isEmpty then 0 else 1) < 30)) = true)
    (hline : (apos.endLine == cpos.line) = true) (hs : starEach (e0 :: es) X.env = (false, eval e0 X.env) :: starEach es X.env) (hplain : (backTo cpos (starEach es X.env)).any (·.1) = false) :
    PE X (.Call (.Attribute a name apos) (e0 :: es) [] cpos) (tR N X.K fun fr st => (fa fr st).bind fun p => match kindF p.2 p.1 with
      | some k => (fs fr p.2).bind fun q => bmF k m p.1 q.1 q.2
      | none => .no) := by
  refine ⟨fun pins s σ H Q I ⟨ρ, fr, st, d, st', R, F, e, P⟩ => ?_⟩
  obtain ⟨p, e1, e⟩ := MP.R.bind_eq e
  split at e
  · rename_i k hk
    obtain ⟨q, e2, e⟩ := MP.R.bind_eq e
    have M := hm k ⟨_, _, _, _, e⟩
    refine wpAny_Call_method_late hbase hfew hline rfl (thn (ho.run pins s σ H (fun x H1 => ∃ ρ1, Ext ρ H ρ1 H1 ∧ Rl N X.K ρ1 p.2 H1 ∧ Rep X.K ρ1 H1 p.1 x) I ⟨ρ, fr, st, p.1, p.2, R, F, e1, fun ρ1 H1 x E1 R1 r1 => ⟨ρ1, E1, R1, r1⟩⟩) fun v s1 ⟨x, H1, I1, r1, ρ1, E1, R1, q1⟩ => ?_)
    obtain ⟨h1, h2⟩ := kind_is R1 q1 hk I1 r1
    refine ⟨_, ids k, M.pa, M.slot, M.ty, h1, h2, ?_⟩
    have hA := ha.run cpos pins s1 σ H1 (fun vs H2 => ∃ ρ2, Ext ρ1 H1 ρ2 H2 ∧ Rl N X.K ρ2 q.2 H2 ∧ Reps X.K ρ2 H2 q.1 vs) I1 ⟨ρ1, fr, p.2, q.1, q.2, R1, F.ext E1, e2, fun ρ2 H2 vs E2 R2 r2 => ⟨ρ2, E2, R2, r2⟩⟩
    rw [hs] at hA ⊢
    refine Calls.callWith_builtin (by show (false || (backTo cpos (starEach es X.env)).any (·.1)) = false; rw [hplain] <;> rfl) (Calls.evalArgs_plain ?_)
    refine thn hA fun us s2 ⟨vs, H2, I2, r2, ρ2, E2, R2, q2⟩ => ?_
    obtain ⟨r, hr, hq⟩ := M.go ρ2 q.2 H2 p.1 x q.1 vs d st' R2 (q1.ext E2) q2 e
    exact hr pins s2 σ H2 x vs v us Q I2 r1 r2 (hq Q (P.after (E1.trans E2)))
  · cases e

/-! ### attributes -/
theorem FSs.get {ρ : List Addr} {H : Hp} {f : Nat} {x : Str} {d : D} (nd : N.fld.Nodup) (hx : N.fld[f]? = some x) : ∀ {fs : List (Nat × D)} {gs : List (Str × V)}, FSs N X.K ρ H fs gs → fldN fs f = some d → ∃ v, gs.lookup x = some v ∧ Rep X.K ρ H d v
  | _, _, .nil, h => by simp [fldN] at h
  | _, _, .cons (a := p) (b := q) r t, h => by
    obtain ⟨g, e⟩ := p
    obtain ⟨y, v⟩ := q
    rw [fldN] at h
    by_cases hg : g = f
    · subst hg
      rw [if_pos rfl] at h
      cases h
      have e : y = x := Option.some.inj (r.1.symm.trans hx)
      subst e
      exact ⟨v, by simp [List.lookup], r.2⟩
    · rw [if_neg hg] at h
      obtain ⟨v', h1, h2⟩ := FSs.get nd hx t h
      have ne : x ≠ y := by
        intro z
        subst z
        obtain ⟨l1, e1⟩ := List.getElem?_eq_some_iff.mp r.1
        obtain ⟨l2, e2⟩ := List.getElem?_eq_some_iff.mp hx
        exact hg ((List.getElem_inj nd).mp (e1.trans e2.symm))
      refine ⟨v', ?_, h2⟩
      rw [List.lookup, beq_eq_false_iff_ne.mpr ne]
      exact h1
theorem FSs.put {ρ : List Addr} {H : Hp} {f : Nat} {x : Str} {d : D} {v : V} (nd : N.fld.Nodup) (hx : N.fld[f]? = some x) (r0 : Rep X.K ρ H d v) : ∀ {fs : List (Nat × D)} {gs : List (Str × V)}, FSs N X.K ρ H fs gs → FSs N X.K ρ H (putN f d fs) (putF x v gs)
  | _, _, .nil => .cons ⟨hx, r0⟩ .nil
  | _, _, .cons (a := p) (b := q) r t => by
    obtain ⟨g, e⟩ := p
    obtain ⟨y, w⟩ := q
    rw [putN, putF]
    by_cases hg : g = f
    · subst hg
      have e : y = x := Option.some.inj (r.1.symm.trans hx)
      subst e
      rw [if_pos rfl]
      simp
      exact .cons ⟨hx, r0⟩ t
    · have ne : y ≠ x := by
        intro z
        subst z
        obtain ⟨l1, e1⟩ := List.getElem?_eq_some_iff.mp r.1
        obtain ⟨l2, e2⟩ := List.getElem?_eq_some_iff.mp hx
        exact hg ((List.getElem_inj nd).mp (e1.trans e2.symm))
      rw [if_neg hg]
      simp [ne, ne.symm]
      exact .cons r (FSs.put nd hx r0 t)
end
end MP

set_option Elab.async false
set_option linter.all false
set_option maxRecDepth 100000
set_option maxHeartbeats 1000000
/-! MPCall: calls of the program's own defs, instances made, methods, attributes. -/
namespace MP
open PySem PySem.Spec PyProof.Rows L2

/-- the promise of the def number f by the interpreter -/
def spF (N : Nm) (K : PySem.W.Frag) (cf : Cf) (f : Nat) : Sp := fun vs H Q _ => ∃ (ρ : List Addr) (st : Sto) (ds : List D) (d : D) (st' : Sto), Rl N K ρ st H ∧ Reps K ρ H ds vs ∧ cf f ds st = .ok (d, st') ∧ Post N K ρ H d st' Q
/-- a def at f keeps the interpreter's promise, at the floor k -/
structure FnG (X : Cx) (N : Nm) (cf : Cf) (k : Nat) (id : Nat) (dfl : List D) (f : Addr) : Prop where
  ok : ∃ (fd : FuncData) (ps : List Str), FnOk X.prog X.w X.K X.mg X.base CX0 k f fd ps (spF N X.K cf id) ∧ ∀ j, j ≤ dfl.length → ∃ (ds : List Value) (dvs : List V), Vals dvs ds ∧ Binds X.K fd ps ds ∧ ∀ ρ H, Reps X.K ρ H (dfl.drop j) dvs
  kp : PySem.W.keepIn X.K (.ref f) = true

section
variable {X : Cx} {N : Nm} {fa fb fc : Fr → Sto → RD} {a b c : Expr} {fs : Fr → Sto → R (List D × Sto)} {es : List Expr} {cf mf : Cf} {k : Nat}
theorem read_args {id : Nat} {dfl : List D} {dvs : List V} {σ : L2.St} {H : Hp} {Q : VK} (hd : ∀ ρ H, Reps X.K ρ H dfl dvs) (h : tR N X.K (fun fr st => (fs fr st).bind fun p => cf id (p.1 ++ dfl) p.2) σ H Q) : tCall (spF N X.K cf id) dvs E0 (tRs N X.K fs) σ H Q := by
  obtain ⟨ρ, fr, st, d, st', R, F, e, P⟩ := h
  obtain ⟨p, e1, e⟩ := MP.R.bind_eq e
  exact ⟨ρ, fr, st, p.1, p.2, R, F, e1, fun ρ1 H1 vs E1 R1 r1 => ⟨ρ1, p.2, _, d, st', R1, r1.app (hd _ _), e, P.after E1⟩⟩
theorem m_call {id : Nat} {dfl : List D} {j : Nat} {f : Addr} {x : Str} {p pos : Pos} {e : Expr} (F : FnG X N cf k id dfl f) (hj : j ≤ dfl.length) (hr : Room k X.A) (hg : Gl X x) (hm : X.mg x = some (.ref f)) (hdb : (x == ("__debug__" : Str)) = false)
    (ha : PA X (e :: es) (tRs N X.K fs)) (h1 : starEach (e :: es) X.env = (false, eval e X.env) :: starEach es X.env) (h2 : (backTo pos (starEach es X.env)).any (·.1) = false) :
    PE X (.Call (.Name x p) (e :: es) [] pos) (tR N X.K fun fr st => (fs fr st).bind fun p => cf id (p.1 ++ dfl.drop j) p.2) := by
  obtain ⟨fd, ps, ok, bd⟩ := F.ok
  obtain ⟨ds, dvs, hv, hb, hd⟩ := bd j hj
  exact PE.imp (pe_call ok hr hg hm F.kp hb hv pass0 ha hdb h1 h2) fun _ _ _ h => read_args hd h
theorem m_call0 {id : Nat} {dfl : List D} {j : Nat} {f : Addr} {x : Str} {p pos : Pos} (F : FnG X N cf k id dfl f) (hj : j ≤ dfl.length) (hr : Room k X.A) (hg : Gl X x) (hm : X.mg x = some (.ref f)) (hdb : (x == ("__debug__" : Str)) = false) :
    PE X (.Call (.Name x p) [] [] pos) (tR N X.K fun fr st => (R.ok (([] : List D), st)).bind fun p => cf id (p.1 ++ dfl.drop j) p.2) := by
  obtain ⟨fd, ps, ok, bd⟩ := F.ok
  obtain ⟨ds, dvs, hv, hb, hd⟩ := bd j hj
  refine PE.imp (pe_call0 ok hr hg hm F.kp hb hv pass0 hdb) fun σ H Q ⟨ρ, fr, st, d, st', R, F', e, P⟩ => ?_
  exact ⟨ρ, st, _, d, st', R, hd _ _, e, P⟩

/-! ### instances made -/
theorem read_make {c id : Nat} {dfl : List D} {dvs : List V} {C : Addr} {σ : L2.St} {H : Hp} {Q : VK} (hc : N.cls c = some C) (hd : ∀ ρ H, Reps X.K ρ H dfl dvs)
    (h : tR N X.K (fun fr st => (fs fr st).bind fun p => (mf id (.ref p.2.length :: (p.1 ++ dfl)) (p.2 ++ [.ins c []])).bind fun q => match q.1 with
      | .non => .ok (.ref p.2.length, q.2)
      | _ => .no) σ H Q) : tMake C (spF N X.K mf id) dvs E0 (tRs N X.K fs) σ H Q := by
  obtain ⟨ρ, fr, st, d, st', R, F, e, P⟩ := h
  obtain ⟨p, e1, e⟩ := MP.R.bind_eq e
  obtain ⟨q, e2, e⟩ := MP.R.bind_eq e
  split at e
  · rename_i hn
    cases e
    refine ⟨ρ, fr, st, p.1, p.2, R, F, e1, fun ρ1 H1 vs E1 R1 r1 x dx hx hdx ne => ?_⟩
    obtain ⟨Ea, Ra⟩ := R1.lay (u := .own x) hdx
    have hx2 : (upd H1 dx (.own x)) x = none := by rw [upd_ne (Ne.symm ne)]; exact hx
    obtain ⟨Eb, Rb⟩ := Ra.new (u := .ins C dx []) (o := .ins c []) hx2 ⟨C, dx, [], hc, upd_same, .nil⟩
    refine ⟨ρ1 ++ [x], _, _, q.1, q.2, Rb, .cons (.ref R1.top) (((r1.app (hd _ _)).ext Ea).ext Eb), e2, fun ρ2 H2 v E2 R2 r2 => ?_⟩
    rw [hn] at r2
    cases r2
    exact ⟨rfl, P _ _ _ (E1.trans (Ea.trans (Eb.trans E2))) R2 (.ref (E2.ix R1.top))⟩
  · cases e
theorem m_make {c id : Nat} {dfl : List D} {j : Nat} {f C : Addr} {x : Str} {p pos : Pos} {e : Expr} (M : Mk X.K C f) (hc : N.cls c = some C) (F : FnG X N mf k id dfl f) (hj : j ≤ dfl.length) (hr : Room (k + 1) X.A) (hg : Gl X x) (hm : X.mg x = some (.ref C)) (hdb : (x == ("__debug__" : Str)) = false)
    (ha : PA X (e :: es) (tRs N X.K fs)) (h1 : starEach (e :: es) X.env = (false, eval e X.env) :: starEach es X.env) (h2 : (backTo pos (starEach es X.env)).any (·.1) = false) :
    PE X (.Call (.Name x p) (e :: es) [] pos) (tR N X.K fun fr st => (fs fr st).bind fun p => (mf id (.ref p.2.length :: (p.1 ++ dfl.drop j)) (p.2 ++ [.ins c []])).bind fun q => match q.1 with
      | .non => .ok (.ref p.2.length, q.2)
      | _ => .no) := by
  obtain ⟨fd, ps, ok, bd⟩ := F.ok
  obtain ⟨ds, dvs, hv, hb, hd⟩ := bd j hj
  exact PE.imp (pe_make M ok hr hg hm hb hv pass0 ha hdb h1 h2) fun _ _ _ h => read_make hc hd h
theorem m_make0 {c id : Nat} {dfl : List D} {j : Nat} {f C : Addr} {x : Str} {p pos : Pos} (M : Mk X.K C f) (hc : N.cls c = some C) (F : FnG X N mf k id dfl f) (hj : j ≤ dfl.length) (hr : Room (k + 1) X.A) (hg : Gl X x) (hm : X.mg x = some (.ref C)) (hdb : (x == ("__debug__" : Str)) = false) :
    PE X (.Call (.Name x p) [] [] pos) (tR N X.K fun fr st => (R.ok (([] : List D), st)).bind fun p => (mf id (.ref p.2.length :: (p.1 ++ dfl.drop j)) (p.2 ++ [.ins c []])).bind fun q => match q.1 with
      | .non => .ok (.ref p.2.length, q.2)
      | _ => .no) := by
  obtain ⟨fd, ps, ok, bd⟩ := F.ok
  obtain ⟨ds, dvs, hv, hb, hd⟩ := bd j hj
  refine PE.imp (pe_make0 M ok hr hg hm hb hv pass0 hdb) fun σ H Q h => ?_
  obtain ⟨ρ, fr, st, ds', st', R, F', e, P⟩ := read_make (fs := fun _ st => .ok ([], st)) hc hd h
  cases e
  exact P _ _ _ Ext.refl R .nil

/-! ### methods -/
theorem FSs.none {ρ : List Addr} {H : Hp} {x : Str} (hx : x ∉ N.fld) : ∀ {fs : List (Nat × D)} {gs : List (Str × V)}, FSs N X.K ρ H fs gs → gs.lookup x = none
  | _, _, .nil => rfl
  | _, _, .cons (b := q) r t => by
    obtain ⟨y, v⟩ := q
    have ne : x ≠ y := fun z => hx (by rw [z]; exact List.mem_of_getElem? r.1)
    rw [List.lookup, beq_eq_false_iff_ne.mpr ne]
    exact FSs.none hx t
theorem cls_of {st : Sto} {o : D} {v : V} {c : Nat} {ρ : List Addr} {H : Hp} (R : Rl N X.K ρ st H) (r : Rep X.K ρ H o v) (h : clsF st o = some c) : ∃ a C dx gs fs, v = .ref a ∧ N.cls c = some C ∧ H a = some (.ins C dx gs) ∧ FSs N X.K ρ H fs gs := by
  cases r with
  | @ref n a h1 =>
    simp only [clsF] at h
    split at h
    · rename_i q
      cases h
      obtain ⟨C, dx, gs, h2, h3, h4⟩ := R.at_ _ _ _ h1 q
      exact ⟨a, C, dx, gs, _, rfl, h2, h3, h4⟩
    · cases h
  | _ => simp [clsF] at h
/-- the classes: their attributes, their methods by number -/
structure ClG (X : Cx) (N : Nm) (P : Prog) (cf : Cf) (k : Nat) (mths : List Str) : Prop where
  cl : ∀ c C, N.cls c = some C → Cls X.K C
  no : ∀ c C, N.cls c = some C → ∀ (f : Nat) x, N.fld[f]? = some x → NoAttr X.K C x
  nd : N.fld.Nodup
  tot : ∀ c m fd, findM P c m = some fd → ∃ C, N.cls c = some C
  me : ∀ c C, N.cls c = some C → ∀ (m : Nat) x id dfl, mths[m]? = some x → findM P c m = some (id, dfl) → x ∉ N.fld ∧ ∃ f, Meth X.K C x f ∧ FnG X N cf k id dfl f
def methFn (P : Prog) (cf : Cf) (m : Nat) (fa : Fr → Sto → RD) (fs : Fr → Sto → R (List D × Sto)) : Fr → Sto → RD := fun fr st => (fa fr st).bind fun p => match clsF p.2 p.1 with
    | some c => match findM P c m with
      | some fd => (fs fr p.2).bind fun q => cf fd.1 (p.1 :: (q.1 ++ dflF P fd.1 fd.2 (q.1.length + 1))) q.2
      | none => .no
    | none => .no
theorem drop_any (dfl : List D) (i : Nat) : ∃ j, j ≤ dfl.length ∧ dfl.drop i = dfl.drop j := by
  by_cases h : i ≤ dfl.length
  · exact ⟨i, h, rfl⟩
  · exact ⟨dfl.length, Nat.le_refl _, by rw [List.drop_length, List.drop_eq_nil_of_le (by omega)]⟩
theorem dflF_any (P : Prog) (f : Nat) (dfl : List D) (n : Nat) : ∃ j, j ≤ dfl.length ∧ dflF P f dfl n = dfl.drop j := by
  unfold dflF
  split
  · exact drop_any _ _
  · exact ⟨dfl.length, Nat.le_refl _, by rw [List.drop_length]⟩
theorem m_meth {P : Prog} {mths : List Str} {m : Nat} {x : Str} {apos pos : Pos} {e : Expr} {pl : Sem Bool} (G : ClG X N P cf k mths) (hm : mths[m]? = some x) (hr : Room k X.A) (ho : PE X a (tR N X.K fa))
    (ha : PA X (e :: es) (tRs N X.K fs)) (h1 : starEach (e :: es) X.env = (false, eval e X.env) :: starEach es X.env) (h2 : (backTo pos (starEach es X.env)).any (·.1) = false)
    (ht : eval (.Call (.Attribute a x apos) (e :: es) [] pos) X.env = (do
      let ov ← eval a X.env
      standAt apos.atName
      let (f, first) ← holding [ov] (getMethod ov x pl)
      callWith pos f first (backTo pos (starEach (e :: es) X.env)) (backToKw pos (keywordEach [] X.env)))) :
    PE X (.Call (.Attribute a x apos) (e :: es) [] pos) (tR N X.K (methFn P cf m fa fs)) := by
  refine PE.by fun σ H Q ⟨ρ, fr, st, d, st', R, F, e0, P0⟩ => ?_
  obtain ⟨p, e1, e2⟩ := MP.R.bind_eq e0
  split at e2
  · rename_i c hc
    split at e2
    · rename_i fd hf
      obtain ⟨q, e3, e4⟩ := MP.R.bind_eq e2
      obtain ⟨j, hj, hjd⟩ := dflF_any P fd.1 fd.2 (q.1.length + 1)
      rw [hjd] at e4
      obtain ⟨C, hC⟩ := G.tot c m fd hf
      obtain ⟨hx, f, hM, hF⟩ := G.me c C hC m x fd.1 fd.2 hm hf
      obtain ⟨fdd, ps, ok, bd⟩ := hF.ok
      obtain ⟨ds, dvs, hv, hb, hd⟩ := bd j hj
      refine ⟨_, pe_meth ho (G.cl c C hC) hM ok hr hb hv pass0 ha h1 h2 ht, ?_⟩
      refine ⟨ρ, fr, st, p.1, p.2, R, F, e1, fun ρ1 H1 v E1 R1 r1 => ?_⟩
      obtain ⟨a', C', dx, gs, fs', rfl, hC', hH, hfs⟩ := cls_of R1 r1 hc
      rw [hC] at hC'
      cases hC'
      refine ⟨a', dx, gs, rfl, hH, hfs.none hx, ?_⟩
      refine ⟨ρ1, fr, p.2, q.1, q.2, R1, F.ext E1, e3, fun ρ2 H2 vs E2 R2 r2 => ?_⟩
      exact ⟨ρ2, q.2, _, d, st', R2, .cons (r1.ext E2) (r2.app (hd _ _)), e4, P0.after (E1.trans E2)⟩
    · cases e2
  · cases e2
theorem m_meth0 {P : Prog} {mths : List Str} {m : Nat} {x : Str} {apos pos : Pos} {pl : Sem Bool} (G : ClG X N P cf k mths) (hm : mths[m]? = some x) (hr : Room k X.A) (ho : PE X a (tR N X.K fa))
    (ht : eval (.Call (.Attribute a x apos) [] [] pos) X.env = (do
      let ov ← eval a X.env
      standAt apos.atName
      let (f, first) ← holding [ov] (getMethod ov x pl)
      callWith pos f first (backTo pos (starEach [] X.env)) (backToKw pos (keywordEach [] X.env)))) :
    PE X (.Call (.Attribute a x apos) [] [] pos) (tR N X.K (methFn P cf m fa fun _ st => .ok ([], st))) := by
  refine PE.by fun σ H Q ⟨ρ, fr, st, d, st', R, F, e0, P0⟩ => ?_
  obtain ⟨p, e1, e2⟩ := MP.R.bind_eq e0
  split at e2
  · rename_i c hc
    split at e2
    · rename_i fd hf
      obtain ⟨q, e3, e4⟩ := MP.R.bind_eq e2
      cases e3
      obtain ⟨j, hj, hjd⟩ := dflF_any P fd.1 fd.2 (([] : List D).length + 1)
      rw [hjd] at e4
      obtain ⟨C, hC⟩ := G.tot c m fd hf
      obtain ⟨hx, f, hM, hF⟩ := G.me c C hC m x fd.1 fd.2 hm hf
      obtain ⟨fdd, ps, ok, bd⟩ := hF.ok
      obtain ⟨ds, dvs, hv, hb, hd⟩ := bd j hj
      refine ⟨_, pe_meth0 ho (G.cl c C hC) hM ok hr hb hv pass0 ht, ?_⟩
      refine ⟨ρ, fr, st, p.1, p.2, R, F, e1, fun ρ1 H1 v E1 R1 r1 => ?_⟩
      obtain ⟨a', C', dx, gs, fs', rfl, hC', hH, hfs⟩ := cls_of R1 r1 hc
      rw [hC] at hC'
      cases hC'
      refine ⟨a', dx, gs, rfl, hH, hfs.none hx, ?_⟩
      exact ⟨ρ1, p.2, _, d, st', R1, .cons r1 (hd _ _), e4, P0.after E1⟩
    · cases e2
  · cases e2

/-! ### attributes -/
theorem m_fld {P : Prog} {mths : List Str} {f : Nat} {x : Str} {pos : Pos} (G : ClG X N P cf k mths) (hx : N.fld[f]? = some x) (ha : PE X a (tR N X.K fa)) (hb : attributeBase a x X.env (eval a X.env) = eval a X.env) :
    PE X (.Attribute a x pos) (tR N X.K fun fr st => (fa fr st).bind fun p => (R.of (fldF p.2 p.1 f)).bind fun d => .ok (d, p.2)) := by
  refine PE.imp (pe_fld ha hb) fun σ H Q ⟨ρ, fr, st, d, st', R, F, e, P⟩ => ?_
  obtain ⟨p, e1, e⟩ := MP.R.bind_eq e
  obtain ⟨y, e2, e⟩ := MP.R.bind_eq e
  cases e
  refine ⟨ρ, fr, st, p.1, p.2, R, F, e1, fun ρ1 H1 v E1 R1 r1 => ?_⟩
  have e3 := MP.R.of_eq e2
  generalize hp : p.1 = o at r1 e3
  cases r1 with
  | @ref n a' h1 =>
    simp only [fldF] at e3
    split at e3
    · rename_i q
      obtain ⟨C, dx, gs, h2, h3, h4⟩ := R1.at_ _ _ _ h1 q
      obtain ⟨u, h5, h6⟩ := h4.get G.nd hx e3
      exact ⟨a', C, dx, gs, u, rfl, h3, G.cl _ C h2, G.no _ C h2 f x hx, h5, (P.after E1).here R1 h6⟩
    · cases e3
  | _ => simp [fldF] at e3
end
end MP

set_option Elab.async false
set_option linter.all false
set_option maxRecDepth 100000
set_option maxHeartbeats 1000000
/-! MPWalk: targets, what is walked, comprehensions. -/
namespace MP
open PySem PySem.Spec PyProof.Rows L2

section
variable {N : Nm} {K : PySem.W.Frag} {ρ ρ1 ρ2 : List Addr} {H H1 H2 : Hp} {st st1 : Sto} {fr : Fr} {σ : L2.St}
/-- something changes that is no tuple and no read list -/
structure Chg (H : Hp) (p : Addr) : Prop where
  t : ∀ xs, H p ≠ some (.tup xs)
  l : ∀ ob xs, H p ≠ some (.frz ob (.lst xs))
  f : ∀ ob xs, H p ≠ some (.frz ob (.tup xs))
theorem Chg.sqT {p : Addr} {u : HO} (h : Chg H p) {c : Addr} {xs : List V} (s : SqT K H c xs) : SqT K (upd H p u) c xs := by
  rcases s with (s | ⟨o, s⟩) | s
  · exact .inl (.inl (by rw [upd_ne (fun z => h.t xs (by rw [← z]; exact s))]; exact s))
  · exact .inl (.inr ⟨o, by rw [upd_ne (fun z => h.f o xs (by rw [← z]; exact s))]; exact s⟩)
  · exact .inr s
theorem Chg.sqK {p : Addr} {u : HO} (h : Chg H p) {c : Addr} {xs : List V} (s : SqK K H c xs) : SqK K (upd H p u) c xs := by
  rcases s with ⟨o, s⟩ | s
  · exact .inl ⟨o, by rw [upd_ne (fun z => h.l o xs (by rw [← z]; exact s))]; exact s⟩
  · exact .inr s
mutual
theorem Rep.chg {p : Addr} {u : HO} (h : Chg H p) : ∀ {d : D} {v : V}, Rep K ρ H d v → Rep K ρ (upd H p u) d v
  | _, _, .non => .non
  | _, _, .bl b => .bl b
  | _, _, .int i => .int i
  | _, _, .str x => .str x
  | _, _, .tup s r => .tup (h.sqT s) (Reps.chg h r)
  | _, _, .kls s r => .kls (h.sqK s) (Reps.chg h r)
  | _, _, .ref e => .ref e
theorem Reps.chg {p : Addr} {u : HO} (h : Chg H p) : ∀ {ds : List D} {vs : List V}, Reps K ρ H ds vs → Reps K ρ (upd H p u) ds vs
  | _, _, .nil => .nil
  | _, _, .cons r t => .cons (Rep.chg h r) (Reps.chg h t)
end
theorem Rf.chg {p : Addr} {u : HO} (h : Chg H p) (F : Rf K ρ H fr σ) : Rf K ρ (upd H p u) fr σ := ⟨F.len, fun i d e => let ⟨v, h1, h2⟩ := F.at_ i d e; ⟨v, h1, h2.chg h⟩⟩
theorem OAt.chg {a : Addr} {o : O} (h : OAt N K ρ H a o) : Chg H a := by
  obtain ⟨u, e, h1, h2, h3⟩ := h.some
  exact ⟨fun xs z => h1 xs (Option.some.inj (e.symm.trans z)), fun ob xs z => h2 ob xs (Option.some.inj (e.symm.trans z)), fun ob xs z => h3 ob xs (Option.some.inj (e.symm.trans z))⟩
/-- an object of the store becomes another -/
theorem Rl.set (R : Rl N K ρ st H) {n : Nat} {a : Addr} {o' : O} {u : HO} (ha : ρ[n]? = some a) (new : OAt N K ρ (upd H a u) a o') : Rl N K ρ (st.set n o') (upd H a u) := by
  have ln : n < st.length := by rw [← R.len]; exact (List.getElem?_eq_some_iff.mp ha).1
  have hc := (R.at_ n a _ ha (List.getElem?_eq_getElem ln)).chg
  refine ⟨by rw [List.length_set]; exact R.len, R.nd, fun m c x h1 h2 => ?_⟩
  by_cases hm : n = m
  · subst hm
    rw [ha] at h1; cases h1
    rw [List.getElem?_set_self ln] at h2; cases h2
    exact new
  · rw [List.getElem?_set_ne hm] at h2
    have nc : c ≠ a := fun z => by
      subst z
      obtain ⟨l1, e1⟩ := List.getElem?_eq_some_iff.mp h1
      obtain ⟨l2, e2⟩ := List.getElem?_eq_some_iff.mp ha
      exact hm ((List.getElem_inj R.nd).mp (e2.trans e1.symm))
    have h := R.at_ m c x h1 h2
    cases x with
    | lst ds => obtain ⟨vs, h, r⟩ := h; exact ⟨vs, by rw [upd_ne nc]; exact h, r.chg hc⟩
    | dct ds => obtain ⟨vs, h, r⟩ := h; exact ⟨vs, by rw [upd_ne nc]; exact h, pairedMap (fun _ _ z => ⟨z.1, z.2.chg hc⟩) r⟩
    | fdc ds => obtain ⟨o, vs, h, r⟩ := h; exact ⟨o, vs, by rw [upd_ne nc]; exact h, pairedMap (fun _ _ z => ⟨z.1, z.2.chg hc⟩) r⟩
    | ins c' fs => obtain ⟨C, dx, vs, hc', h, r⟩ := h; exact ⟨C, dx, vs, hc', by rw [upd_ne nc]; exact h, pairedMap (fun _ _ z => ⟨z.1, z.2.chg hc⟩) r⟩
/-- something outside, that was not there at first, changes -/
theorem Ext.touch {p : Addr} {u : HO} (hp : H p = none) (e : Ext ρ H ρ1 H1) : Ext ρ H ρ1 (upd H1 p u) :=
  ⟨e.more, fun a o h n => by rw [upd_ne (ne_of_none h hp)]; exact e.rest a o h n, fun a xs h => by rw [upd_ne (ne_of_none h hp)]; exact e.tups a xs h, fun a ob xs h => by rw [upd_ne (ne_of_none h hp)]; exact e.frzs a ob xs h,
    fun a ob xs h => by rw [upd_ne (ne_of_none h hp)]; exact e.frzt a ob xs h, fun a ob xs h => by rw [upd_ne (ne_of_none h hp)]; exact e.frzd a ob xs h⟩
theorem Ext.add {p : Addr} (hp : H p = none) (e : Ext ρ H ρ1 H1) : Ext ρ H (ρ1 ++ [p]) H1 := by
  obtain ⟨r, e1, hr⟩ := e.more
  refine ⟨⟨r ++ [p], by rw [e1, List.append_assoc], fun a ha n => ?_⟩, e.rest, e.tups, e.frzs, e.frzt, e.frzd⟩
  rcases List.mem_append.mp ha with ha | ha
  · exact hr a ha n
  · rw [List.mem_singleton.mp ha]; exact hp
/-- a locked dict is unlocked -/
theorem Ext.unlock {p : Addr} {od : Obj} {ws : List (Key × V)} (hm : p ∈ ρ) (hp : H p = some (.dK ws)) (e : Ext ρ (upd H p (.frz od (.dK ws))) ρ1 H1) : Ext ρ H ρ1 (upd H1 p (.dK ws)) := by
  have ne : ∀ a o, H a = some o → (∀ ws, o ≠ .dK ws) → a ≠ p := fun a o h z q => by subst q; rw [hp] at h; exact z ws (Option.some.inj h).symm
  obtain ⟨r, e1, hr⟩ := e.more
  refine ⟨⟨r, e1, fun a ha n => ?_⟩, fun a o h n => ?_, fun a xs h => ?_, fun a ob xs h => ?_, fun a ob xs h => ?_, fun a ob xs h => ?_⟩
  · have z := hr a ha n
    rw [upd_ne (fun q => n (by rw [q]; exact hm))] at z
    exact z
  · have z : a ≠ p := fun q => n (by rw [q]; exact hm)
    rw [upd_ne z]
    exact e.rest a o (by rw [upd_ne z]; exact h) n
  · have z := ne a _ h (by simp)
    rw [upd_ne z]
    exact e.tups a xs (by rw [upd_ne z]; exact h)
  · have z := ne a _ h (by simp)
    rw [upd_ne z]
    exact e.frzs a ob xs (by rw [upd_ne z]; exact h)
  · have z := ne a _ h (by simp)
    rw [upd_ne z]
    exact e.frzt a ob xs (by rw [upd_ne z]; exact h)
  · have z := ne a _ h (by simp)
    rw [upd_ne z]
    exact e.frzd a ob xs (by rw [upd_ne z]; exact h)

/-! ### the frame's slots -/
theorem Rf.set {d : D} {v : V} (F : Rf K ρ H fr σ) (r : Rep K ρ H d v) (i : Nat) : Rf K ρ H (fr.set i (some d)) (σ.set i (some v)) := by
  refine ⟨by rw [List.length_set, List.length_set]; exact F.len, fun j e h => ?_⟩
  by_cases hj : i = j
  · subst hj
    have l : i < fr.length := by
      have := (List.getElem?_eq_some_iff.mp h).1
      rw [List.length_set] at this
      exact this
    rw [List.getElem?_set_self l] at h
    cases h
    exact ⟨v, by rw [List.getElem?_set_self (by rw [← F.len]; exact l)], r⟩
  · rw [List.getElem?_set_ne hj] at h
    obtain ⟨u, h1, h2⟩ := F.at_ j e h
    exact ⟨u, by rw [List.getElem?_set_ne hj]; exact h1, h2⟩
theorem wipeF_len (fr : Fr) : ∀ vs, (wipeF fr vs).length = fr.length
  | [] => rfl
  | v :: vs => by rw [wipeF, List.length_set, wipeF_len fr vs]
theorem Rf.wipe (F : Rf K ρ H fr σ) : ∀ vs, Rf K ρ H (wipeF fr vs) (L2.wipe σ vs)
  | [] => F
  | v :: vs => by
    have ih := F.wipe vs
    refine ⟨by rw [wipeF, L2.wipe, List.length_set, List.length_set]; exact ih.len, fun j e h => ?_⟩
    rw [wipeF] at h
    by_cases hj : v = j
    · subst hj
      have l : v < (wipeF fr vs).length := by
        have := (List.getElem?_eq_some_iff.mp h).1
        rw [List.length_set] at this
        exact this
      rw [List.getElem?_set_self l] at h
      cases h
    · rw [List.getElem?_set_ne hj] at h
      obtain ⟨u, h1, h2⟩ := ih.at_ j e h
      exact ⟨u, by rw [L2.wipe, List.getElem?_set_ne hj]; exact h1, h2⟩
theorem wipe_set (i : Nat) (x : Option V) : ∀ (vs : List Nat) (σ : L2.St), i ∈ vs → L2.wipe (σ.set i x) vs = L2.wipe σ vs
  | [], _, h => by cases h
  | v :: vs, σ, h => by
    rw [L2.wipe, L2.wipe]
    by_cases hv : i ∈ vs
    · rw [wipe_set i x vs σ hv]
    · have e : i = v := by
        rcases List.mem_cons.mp h with h | h
        · exact h
        · exact absurd h hv
      subst e
      have key : ∀ (ws : List Nat), i ∉ ws → L2.wipe (σ.set i x) ws = (L2.wipe σ ws).set i x := by
        intro ws
        induction ws with
        | nil => intro _; rfl
        | cons w ws ih =>
          intro hn
          rw [L2.wipe, L2.wipe, ih (fun z => hn (List.mem_cons_of_mem _ z)), List.set_comm]
          intro z
          exact hn (by rw [z]; exact List.mem_cons_self)
      rw [key vs hv, List.set_set]
theorem wipe_wipe : ∀ (vs ws : List Nat) (σ : L2.St), (∀ v ∈ vs, v ∈ ws) → L2.wipe (L2.wipe σ vs) ws = L2.wipe σ ws
  | [], ws, σ, _ => rfl
  | v :: vs, ws, σ, h => by
    rw [L2.wipe, wipe_set _ _ _ _ (h v List.mem_cons_self)]
    exact wipe_wipe vs ws σ fun z hz => h z (List.mem_cons_of_mem _ hz)
end

/-! ### targets -/
mutual
def slotsT : Tg → List Nat
  | .v i => [i]
  | .tup ts => slotsTs ts
def slotsTs : Tgs → List Nat
  | .nil => []
  | .cons t r => slotsT t ++ slotsTs r
end
def lenTs : Tgs → Nat
  | .nil => 0
  | .cons _ r => lenTs r + 1
mutual
def gT (K : PySem.W.Frag) : Tg → TG
  | .v i => gName i
  | .tup ts => gTup K (lenTs ts) (gTs K ts)
def gTs (K : PySem.W.Frag) : Tgs → TGs
  | .nil => gNil
  | .cons t r => gCons (gT K t) (gTs K r)
end
theorem tgs_len : ∀ (ts : Tgs) (ds : List D) (fr fr' : Fr), tgsF ts ds fr = some fr' → ds.length = lenTs ts
  | .nil, [], _, _, _ => rfl
  | .nil, _ :: _, _, _, h => by simp [tgsF] at h
  | .cons _ _, [], _, _, h => by simp [tgsF] at h
  | .cons t r, d :: ds, fr, fr', h => by
    rw [tgsF] at h
    split at h
    · rw [List.length_cons, tgs_len r ds _ _ h]; rfl
    · cases h
section
variable {K : PySem.W.Frag} {ρ : List Addr} {H : Hp}
mutual
theorem read_tg : ∀ (t : Tg) {d : D} {v : V} {fr fr' : Fr} {σ : L2.St} {Q : L2.St → Hp → Prop}, Rep K ρ H d v → Rf K ρ H fr σ → tgF t d fr = some fr' →
    (∀ σ', Rf K ρ H fr' σ' → (∀ vs, (∀ i ∈ slotsT t, i ∈ vs) → L2.wipe σ' vs = L2.wipe σ vs) → Q σ' H) → gT K t v σ H Q
  | .v i, d, v, fr, fr', σ, Q, r, F, h, q => by
    rw [tgF] at h
    cases h
    exact q _ (F.set r i) fun vs hv => wipe_set i _ vs σ (hv i (by simp [slotsT]))
  | .tup ts, d, v, fr, fr', σ, Q, r, F, h, q => by
    cases r with
    | tup h1 h2 =>
      simp only [tgF] at h
      exact ⟨_, _, rfl, h1, by rw [← h2.len]; exact tgs_len ts _ _ _ h, read_tgs ts h2 F h (fun σ' F' hw => q σ' F' fun vs hv => hw vs (by simpa [slotsT] using hv))⟩
    | _ => simp [tgF] at h
theorem read_tgs : ∀ (ts : Tgs) {ds : List D} {vs : List V} {fr fr' : Fr} {σ : L2.St} {Q : L2.St → Hp → Prop}, Reps K ρ H ds vs → Rf K ρ H fr σ → tgsF ts ds fr = some fr' →
    (∀ σ', Rf K ρ H fr' σ' → (∀ ws, (∀ i ∈ slotsTs ts, i ∈ ws) → L2.wipe σ' ws = L2.wipe σ ws) → Q σ' H) → gTs K ts vs σ H Q
  | .nil, ds, vs, fr, fr', σ, Q, r, F, h, q => by
    cases r with
    | nil =>
      rw [tgsF] at h
      cases h
      exact ⟨rfl, q _ F fun _ _ => rfl⟩
    | cons => simp [tgsF] at h
  | .cons t rest, ds, vs, fr, fr', σ, Q, r, F, h, q => by
    cases r with
    | nil => simp [tgsF] at h
    | cons r1 r2 =>
      rw [tgsF] at h
      split at h
      · rename_i fr2 h2
        refine ⟨_, _, rfl, read_tg t r1 F h2 fun σ' F' w1 => ?_⟩
        refine read_tgs rest r2 F' h fun σ2 F2 w2 => q σ2 F2 fun ws hws => ?_
        simp only [slotsTs, List.mem_append] at hws
        rw [w2 ws fun i hi => hws i (.inr hi), w1 ws fun i hi => hws i (.inl hi)]
      · cases h
end
end
end MP

set_option Elab.async false
set_option linter.all false
set_option maxRecDepth 100000
set_option maxHeartbeats 1000000
/-! MPLc: comprehensions, for, while. -/
namespace MP
open PySem PySem.Spec PyProof.Rows L2

/-- an iterator J gives the items of w, from (ρ0, H0) on -/
def WalkOk (N : Nm) (K : PySem.W.Frag) (ρ0 : List Addr) (H0 : Hp) (J : L2.It) (w : Wk) : Prop :=
  ∀ (ρ : List Addr) (st : Sto) (H : Hp) (i : Nat), Ext ρ0 H0 ρ H → Rl N K ρ st H → w.ok st = true →
    (∀ d, w.ds[i]? = some d → J.go i H ∧ ∀ x H', J.yld i H x H' → Ext ρ H ρ H' ∧ Rl N K ρ st H' ∧ Rep K ρ H' d x) ∧ (w.ds.length ≤ i → J.stop i H)

section
variable {X : Cx} {N : Nm}

/-! ### comprehensions -/
theorem lc_walk {g : TG} {tt : TT} {te : TE} {vs : List Nat} {ρ1 : List Addr} {st1 : Sto} {H1 : Hp} {fr : Fr} {σ : L2.St} {J : L2.It} {w : Wk} {Q : VK} {acc : List D} {st2 : Sto}
    {turn : D → Sto → R (Option D × Sto)}
    (wk : WalkOk N X.K ρ1 H1 J w) (R1 : Rl N X.K ρ1 st1 H1) (F1 : Rf X.K ρ1 H1 fr σ) (e : lcF w.ok turn w.ds [] st1 = .ok (acc, st2))
    (hturn : ∀ (ρ : List Addr) (st : Sto) (H : Hp) (d : D) (x : V) (y : Option D) (st' : Sto) (K1 : VK) (K0 : Hp → Prop), Rl N X.K ρ st H → Rf X.K ρ H (wipeF fr vs) (L2.wipe σ vs) → Rep X.K ρ H d x → turn d st = .ok (y, st') →
      (∀ d', y = some d' → ∀ ρ' H' v, Ext ρ H ρ' H' → Rl N X.K ρ' st' H' → Rep X.K ρ' H' d' v → K1 v H') → (y = none → ∀ ρ' H', Ext ρ H ρ' H' → Rl N X.K ρ' st' H' → K0 H') →
      g x (L2.wipe σ vs) H fun σ2 H2 => L2.wipe σ2 vs = L2.wipe σ vs ∧ tt σ2 H2 fun b H3 => if b = true then te σ2 H3 fun z H4 => K1 z H4 else K0 H3)
    (fin : ∀ (ρ : List Addr) (H : Hp) (D0 : Addr), Ext ρ1 H1 ρ H → Ext ρ1 H1 (ρ ++ [D0]) H → Rl N X.K (ρ ++ [D0]) (st2 ++ [.lst acc]) H → ρ.length = st2.length → Q (.ref D0) H) :
    ∀ D0, H1 D0 = none → ∃ W : Nat → Nat → Hp → Prop, (∃ m, W 0 m (upd H1 D0 (.lst []))) ∧ ∀ i m H, W i m H →
      (J.stop i H ∧ Q (.ref D0) H) ∨ (J.go i H ∧ ∃ Nx : Hp → Prop, (∀ H', Nx H' → ∃ m', m' < m ∧ W (i + 1) m' H') ∧ ∀ x H', J.yld i H x H' → g x (L2.wipe σ vs) H' fun σ2 H2 => L2.wipe σ2 vs = L2.wipe σ vs ∧ tt σ2 H2 fun b H3 =>
        if b = true then te σ2 H3 fun y H4 => ∃ acc, H4 D0 = some (.lst acc) ∧ acc.length < sizeLine ∧ Nx (upd H4 D0 (.lst (acc ++ [y]))) else Nx H3) := by
  intro D0 hD
  have hz := sz_line
  obtain ⟨E0, R0⟩ := R1.lay (u := .lst []) hD
  refine ⟨fun i m H => m = w.ds.length - i ∧ i ≤ w.ds.length ∧ ∃ (ρ : List Addr) (st : Sto) (ac : List D) (av : List V), Ext ρ1 H1 ρ H ∧ Rl N X.K ρ st H ∧ D0 ∉ ρ ∧ H D0 = some (.lst av) ∧ Reps X.K ρ H ac av ∧ lcF w.ok turn (w.ds.drop i) ac st = .ok (acc, st2),
    ⟨_, rfl, Nat.zero_le _, ρ1, st1, [], [], E0, R0, R1.notIn hD, upd_same, .nil, by rw [List.drop_zero]; exact e⟩, ?_⟩
  intro i m H hW
  obtain ⟨rfl, hi, ρ, st, ac, av, E, R, hn, hH, ra, el⟩ := hW
  by_cases hlt : i < w.ds.length
  · -- a turn
    have ed : w.ds.drop i = w.ds[i] :: w.ds.drop (i + 1) := List.drop_eq_getElem_cons hlt
    rw [ed, lcF] at el
    by_cases hok : w.ok st = true
    · rw [if_pos hok] at el
      obtain ⟨p, et, el⟩ := MP.R.bind_eq el
      obtain ⟨h1, _⟩ := wk ρ st H i E R hok
      obtain ⟨hgo, hy⟩ := h1 w.ds[i] (List.getElem?_eq_getElem hlt)
      refine .inr ⟨hgo, fun H' => ∃ (ρ : List Addr) (st : Sto) (ac : List D) (av : List V), Ext ρ1 H1 ρ H' ∧ Rl N X.K ρ st H' ∧ D0 ∉ ρ ∧ H' D0 = some (.lst av) ∧ Reps X.K ρ H' ac av ∧ lcF w.ok turn (w.ds.drop (i + 1)) ac st = .ok (acc, st2),
        fun H' h => ⟨_, by omega, rfl, by omega, h⟩, fun x H' hyl => ?_⟩
      obtain ⟨Ea, Ra, rx⟩ := hy x H' hyl
      obtain ⟨na, ha⟩ := Ea.outside hH hn
      refine hturn ρ st H' _ x p.1 p.2 _ _ Ra ((F1.ext (E.trans Ea)).wipe vs) rx et (fun d' hd' ρ' H2 v E2 R2 r2 => ?_) (fun hd' ρ' H2 E2 R2 => ?_)
      · obtain ⟨nb, hb⟩ := E2.outside ha na
        rw [hd'] at el
        dsimp only at el
        split at el
        · rename_i hl
          have hc : Chg H2 D0 := ⟨by simp [hb], by simp [hb], by simp [hb]⟩
          have ra2 := (ra.ext Ea).ext E2
          refine ⟨av, hb, by rw [← ra.len]; omega, ρ', p.2, ac ++ [d'], av ++ [v], (E.trans (Ea.trans E2)).touch hD, R2.out nb hb (by simp) (by simp) (by simp), nb, upd_same, (ra2.app (.cons r2 .nil)).chg hc, el⟩
        · cases el
      · obtain ⟨nb, hb⟩ := E2.outside ha na
        rw [hd'] at el
        dsimp only at el
        exact ⟨ρ', p.2, ac, av, E.trans (Ea.trans E2), R2, nb, hb, (ra.ext Ea).ext E2, el⟩
    · rw [if_neg hok] at el
      cases el
  · -- the end
    have ei : i = w.ds.length := by omega
    subst ei
    rw [List.drop_length, lcF] at el
    by_cases hok : w.ok st = true
    · rw [if_pos hok] at el
      obtain ⟨_, h2⟩ := wk ρ st H _ E R hok
      obtain ⟨rfl, rfl⟩ : ac = acc ∧ st = st2 := by simpa using el
      exact .inl ⟨h2 (Nat.le_refl _), fin ρ H D0 E (E.add hD) (R.grow hn ⟨av, hH, ra.grow _⟩) R.len⟩
    · rw [if_neg hok] at el
      cases el
/-- what a for walks, by the interpreter -/
def ItOk (X : Cx) (N : Nm) (tg iter : Expr) (f : Fr → Sto → R (Wk × Sto × (Sto → Sto))) : Prop :=
  ∀ (ρ : List Addr) (fr : Fr) (st : Sto) (H : Hp) (σ : L2.St) (w : Wk) (st1 : Sto) (u : Sto → Sto), Rl N X.K ρ st H → Rf X.K ρ H fr σ → f fr st = .ok (w, st1, u) →
    (u = id ∧ ∃ wi, PI X tg iter wi ∧ ∀ R' : L2.It → Hp → Prop, (∀ ρ1 H1 J, Ext ρ H ρ1 H1 → Rl N X.K ρ1 st1 H1 → WalkOk N X.K ρ1 H1 J w → R' J H1) → wi σ H R') ∨
    (∃ n a kvs ws, ρ[n]? = some a ∧ st[n]? = some (.dct kvs) ∧ H a = some (.dK ws) ∧ KVs X.K ρ H kvs ws ∧ st1 = st.set n (.fdc kvs) ∧ u = (fun s => s.set n (.dct kvs)) ∧
      ∃ wi, PI X tg iter wi ∧ ∀ (od : Obj) (R' : L2.It → Hp → Prop), Rl N X.K ρ st1 (upd H a (.frz od (.dK ws))) → (∀ ρ1 H1 J, Ext ρ (upd H a (.frz od (.dK ws))) ρ1 H1 → Rl N X.K ρ1 st1 H1 → WalkOk N X.K ρ1 H1 J w → R' J H1) → wi σ (upd H a (.frz od (.dK ws))) R')
theorem Rl.lock {ρ : List Addr} {st : Sto} {H : Hp} {n : Nat} {a : Addr} {kvs : List (Kk × D)} {ws : List (Key × V)} (R : Rl N X.K ρ st H) (ha : ρ[n]? = some a) (hH : H a = some (.dK ws)) (kv : KVs X.K ρ H kvs ws) (od : Obj) : Rl N X.K ρ (st.set n (.fdc kvs)) (upd H a (.frz od (.dK ws))) :=
  R.set ha ⟨od, ws, upd_same, pairedMap (fun _ _ z => ⟨z.1, z.2.chg ⟨by simp [hH], by simp [hH], by simp [hH]⟩⟩) kv⟩
theorem Rl.unlock {ρ0 ρ : List Addr} {st : Sto} {H0 H : Hp} {n : Nat} {a : Addr} {kvs : List (Kk × D)} {ws : List (Key × V)} {od : Obj} (R : Rl N X.K ρ st H) (ha : ρ[n]? = some a) (hH : H a = some (.frz od (.dK ws))) (kv : KVs X.K ρ0 H0 kvs ws) (e : Ext ρ0 H0 ρ (upd H a (.dK ws))) : Rl N X.K ρ (st.set n (.dct kvs)) (upd H a (.dK ws)) :=
  R.set ha ⟨ws, upd_same, kv.ext e⟩
theorem swap_set {α : Type} (l : List α) (n : Nat) (x y : α) (h : n < l.length) : (l ++ [y]).set n x = l.set n x ++ [y] := by
  rw [List.set_append_left _ _ h]
theorem m_lc {tg iter elt : Expr} {ifs : List Expr} {scope : Scope} {pos : Pos} {own : List (Str × Nat)} {t : Tg} {fit : Fr → Sto → R (Wk × Sto × (Sto → Sto))} {fifs : Fr → Sto → R (Bool × Sto)} {felt : Fr → Sto → RD}
    (hc : X.calm = true) (hN : X.N.Nodup) (hi : ItOk X N tg iter fit) (ok : BlkOk X.N X.env.scope scope own) (hs : ∀ x, foldedSetIterable iter X.env x = pure x) (hslots : ∀ i ∈ slotsT t, i ∈ own.map (·.2))
    (hg : ∀ (s : Shared) (H : Hp) (C : Addr) (cl : List (Str × Addr)) (fp : List Addr), PG (X.blk s H scope (compEnvC scope cl C X.env) fp) tg (gT X.K t))
    (ht : ∀ (s : Shared) (H : Hp) (C : Addr) (cl : List (Str × Addr)) (fp : List Addr), PTs (X.blk s H scope (compEnvC scope cl C X.env) fp) ifs (tRb N X.K fifs))
    (he : ∀ (s : Shared) (H : Hp) (C : Addr) (cl : List (Str × Addr)) (fp : List Addr), PE (X.blk s H scope (compEnvC scope cl C X.env) fp) elt (tR N X.K felt)) :
    PE X (.ListComp elt [⟨tg, iter, ifs, 0⟩] scope pos) (tR N X.K fun fr st => (fit fr st).bind fun w =>
      (lcF w.1.ok (fun d st => match tgF t d (wipeF fr (own.map (·.2))) with
        | some fr2 => (fifs fr2 st).bind fun p => if p.1 then (felt fr2 p.2).bind fun q => .ok (some q.1, q.2) else .ok (none, p.2)
        | none => .no) w.1.ds [] w.2.1).bind fun q => newF (w.2.2 q.2) (.lst q.1)) := by
  refine PE.by fun σ H Q ⟨ρ, fr, st, d, st', R, F, e, P⟩ => ?_
  obtain ⟨⟨w, st1, u⟩, e1, e⟩ := MP.R.bind_eq e
  obtain ⟨⟨acc, st2⟩, e2, e⟩ := MP.R.bind_eq e
  have hturn : ∀ (ρa : List Addr) (sta : Sto) (Ha : Hp) (d : D) (x : V) (y : Option D) (stb : Sto) (K1 : VK) (K0 : Hp → Prop), Rl N X.K ρa sta Ha → Rf X.K ρa Ha (wipeF fr (own.map (·.2))) (L2.wipe σ (own.map (·.2))) → Rep X.K ρa Ha d x →
      (match tgF t d (wipeF fr (own.map (·.2))) with
        | some fr2 => (fifs fr2 sta).bind fun p => if p.1 then (felt fr2 p.2).bind fun q => .ok (some q.1, q.2) else .ok (none, p.2)
        | none => .no) = .ok (y, stb) →
      (∀ d', y = some d' → ∀ ρ' H' v, Ext ρa Ha ρ' H' → Rl N X.K ρ' stb H' → Rep X.K ρ' H' d' v → K1 v H') → (y = none → ∀ ρ' H', Ext ρa Ha ρ' H' → Rl N X.K ρ' stb H' → K0 H') →
      gT X.K t x (L2.wipe σ (own.map (·.2))) Ha fun σ2 H2 => L2.wipe σ2 (own.map (·.2)) = L2.wipe σ (own.map (·.2)) ∧ tRb N X.K fifs σ2 H2 fun b H3 => if b = true then tR N X.K felt σ2 H3 fun z H4 => K1 z H4 else K0 H3 := by
    intro ρa sta Ha d x y stb K1 K0 Ra Fa ra et k1 k0
    split at et
    · rename_i fr2 ht2
      refine read_tg t ra Fa ht2 fun σ' F' hw => ⟨by rw [hw _ hslots]; exact wipe_wipe _ _ _ fun _ h => h, ?_⟩
      obtain ⟨p, e3, et⟩ := MP.R.bind_eq et
      refine ⟨ρa, fr2, sta, p.1, p.2, Ra, F', e3, fun ρ2 H2 E2 R2 => ?_⟩
      by_cases hp : p.1 = true
      · rw [if_pos hp] at et
        obtain ⟨q, e4, et⟩ := MP.R.bind_eq et
        cases et
        rw [hp]
        exact iteT ⟨ρ2, fr2, p.2, q.1, q.2, R2, F'.ext E2, e4, fun ρ3 H3 v E3 R3 r3 => k1 _ rfl ρ3 H3 v (E2.trans E3) R3 r3⟩
      · rw [if_neg hp] at et
        cases et
        have hp' : p.1 = false := by simpa using hp
        rw [hp']
        exact iteF (k0 rfl ρ2 H2 E2 R2)
    · cases et
  rcases hi ρ fr st H σ w st1 u R F e1 with ⟨rfl, wi, pi, hwi⟩ | ⟨n, a, kvs, ws, ha, hst, hH, kv, rfl, rfl, wi, pi, hwi⟩
  · cases e
    refine ⟨_, pe_lc hc hN pi ok hg ht he hs, ?_⟩
    refine hwi _ fun ρ1 H1 J E1 R1 wk => ?_
    exact lc_walk wk R1 (F.ext E1) e2 hturn fun ρ2 H2 D0 _ E2 R2 hl => P _ _ _ (E1.trans E2) R2 (.ref (by
      show (ρ2 ++ [D0])[(id st2).length]? = some D0
      show (ρ2 ++ [D0])[st2.length]? = some D0
      rw [← hl, List.getElem?_append_right (Nat.le_refl _), Nat.sub_self]; rfl))
  · cases e
    refine ⟨_, pe_lock (pe_lc hc hN pi ok hg ht he hs), ?_⟩
    refine ⟨a, .dK ws, hH, trivial, fun od => ?_⟩
    have RL := R.lock ha hH kv od
    refine hwi od _ RL fun ρ1 H1 J E1 R1 wk => ?_
    have hcg : Chg H a := ⟨by simp [hH], by simp [hH], by simp [hH]⟩
    refine lc_walk (Q := fun v H' => H' a = some (HO.frz od (HO.dK ws)) ∧ Q v (upd H' a (HO.dK ws))) wk R1 ((F.chg hcg).ext E1) e2 hturn fun ρ2 H2 D0 E3 E2 R2 hl => ?_
    replace E3 := E1.trans E3
    replace E2 := E1.trans E2
    have hfz := E2.frzd a od ws upd_same
    refine ⟨hfz, ?_⟩
    have EU := Ext.unlock (List.mem_of_getElem? ha) hH E2
    have RU := R2.unlock (E2.ix ha) hfz kv EU
    have ln : n < st2.length := by
      rw [← hl]
      exact (List.getElem?_eq_some_iff.mp (E3.ix ha)).1
    rw [swap_set _ _ _ _ ln] at RU
    refine P _ _ _ EU RU (.ref ?_)
    show (ρ2 ++ [D0])[(st2.set n (.dct kvs)).length]? = some D0
    rw [List.length_set, ← hl, List.getElem?_append_right (Nat.le_refl _), Nat.sub_self]; rfl
end
end MP

set_option Elab.async false
set_option linter.all false
set_option maxRecDepth 100000
set_option maxHeartbeats 1000000
/-! MPStm: statements, for, while. -/
namespace MP
open PySem PySem.Spec PyProof.Rows L2

/-- what is wanted behind an outcome -/
def PostC (N : Nm) (K : PySem.W.Frag) (D : Ends) (ρ : List Addr) (H : Hp) : C → Prop
  | .nx fr st => ∀ ρ' H' σ', Ext ρ H ρ' H' → Rl N K ρ' st H' → Rf K ρ' H' fr σ' → D.nx σ' H'
  | .rt d st => ∀ ρ' H' v, Ext ρ H ρ' H' → Rl N K ρ' st H' → Rep K ρ' H' d v → D.rt v H'
  | _ => False
def tS (N : Nm) (K : PySem.W.Frag) (f : Fr → Sto → C) : TS := fun D σ H => ∃ (ρ : List Addr) (fr : Fr) (st : Sto), Rl N K ρ st H ∧ Rf K ρ H fr σ ∧ PostC N K D ρ H (f fr st)
theorem PS.imp {X : Cx} {e : Stmt} {t t' : TS} (h : PS X e t) (i : ∀ D σ H, t' D σ H → t D σ H) : PS X e t' := ⟨fun pins s σ H D I q => h.run pins s σ H D I (i D σ H q)⟩
theorem PS.by {X : Cx} {e : Stmt} {t' : TS} (h : ∀ D σ H, t' D σ H → ∃ t, PS X e t ∧ t D σ H) : PS X e t' := ⟨fun pins s σ H D I q => let ⟨_, p, q'⟩ := h D σ H q; p.run pins s σ H D I q'⟩
theorem PSs.imp {X : Cx} {e : List Stmt} {t t' : TS} (h : PSs X e t) (i : ∀ D σ H, t' D σ H → t D σ H) : PSs X e t' := ⟨fun pins s σ H D I q => h.run pins s σ H D I (i D σ H q)⟩

section
variable {X : Cx} {N : Nm} {D : Ends} {ρ ρ1 : List Addr} {H H1 : Hp} {fe fa fb fc : Fr → Sto → RD} {e a b c : Expr}
theorem PostC.stm {α : Type} {fr : Fr} {x : R α} {f : α → C} (h : PostC N X.K D ρ H (x.stm fr f)) : ∃ a, x = .ok a ∧ PostC N X.K D ρ H (f a) := by
  cases x with
  | ok a => exact ⟨a, rfl, h⟩
  | ex c st => exact h.elim
  | no => exact h.elim
theorem PostC.after {o : C} (E : Ext ρ H ρ1 H1) (h : PostC N X.K D ρ H o) : PostC N X.K D ρ1 H1 o := by
  cases o with
  | nx fr st => exact fun ρ' H' σ' E' => h ρ' H' σ' (E.trans E')
  | rt d st => exact fun ρ' H' v E' => h ρ' H' v (E.trans E')
  | ex c fr st => exact h
  | no => exact h
theorem PostC.seq {o : C} {f : Fr → Sto → C} {nx : L2.St → Hp → Prop} (h : PostC N X.K D ρ H (o.seq f))
    (k : ∀ fr st, PostC N X.K D ρ H (f fr st) → ∀ ρ' H' σ', Ext ρ H ρ' H' → Rl N X.K ρ' st H' → Rf X.K ρ' H' fr σ' → nx σ' H') : PostC N X.K { D with nx := nx } ρ H o := by
  cases o with
  | nx fr st => exact k fr st h
  | rt d st => exact h
  | ex c fr st => exact h.elim
  | no => exact h.elim
theorem PostC.mono {o : C} {D' : Ends} (h : PostC N X.K D ρ H o) (hn : ∀ σ H, D.nx σ H → D'.nx σ H) (hr : ∀ v H, D.rt v H → D'.rt v H) : PostC N X.K D' ρ H o := by
  cases o with
  | nx fr st => exact fun ρ' H' σ' E' R' F' => hn _ _ (h ρ' H' σ' E' R' F')
  | rt d st => exact fun ρ' H' v E' R' r' => hr _ _ (h ρ' H' v E' R' r')
  | ex c fr st => exact h
  | no => exact h

/-! ### blocks -/
theorem s_nil : PSs X [] (tS N X.K fun fr st => .nx fr st) := PSs.imp pss_nil fun D σ H ⟨ρ, fr, st, R, F, P⟩ => P ρ H σ (Ext.refl) R F
theorem s_cons {s : Stmt} {rest : List Stmt} {f g : Fr → Sto → C} (h1 : PS X s (tS N X.K f)) (h2 : PSs X rest (tS N X.K g)) : PSs X (s :: rest) (tS N X.K fun fr st => (f fr st).seq g) :=
  PSs.imp (pss_cons h1 h2) fun D σ H ⟨ρ, fr, st, R, F, P⟩ => ⟨ρ, fr, st, R, F, P.seq fun fr1 st1 P1 ρ' H' σ' E' R' F' => ⟨ρ', fr1, st1, R', F', P1.after E'⟩⟩
theorem s_pass {pos : Pos} : PS X (.Pass pos) (tS N X.K fun fr st => .nx fr st) := PS.imp ps_pass fun D σ H ⟨ρ, fr, st, R, F, P⟩ => P ρ H σ (Ext.refl) R F
theorem s_doc {x : Str} {j : Nat} {pos pos' : Pos} : PS X (.Expr (.Constant (.str x) j pos) pos') (tS N X.K fun fr st => .nx fr st) := PS.imp ps_doc fun D σ H ⟨ρ, fr, st, R, F, P⟩ => P ρ H σ (Ext.refl) R F
theorem s_nev {s : Stmt} : PS X s (tS N X.K fun fr st => .no) := PS.imp ps_never fun D σ H ⟨ρ, fr, st, R, F, P⟩ => P.elim
theorem s_ret {pos : Pos} (he : PE X e (tR N X.K fe)) : PS X (.Return (some e) pos) (tS N X.K fun fr st => (fe fr st).stm fr fun p => .rt p.1 p.2) :=
  PS.imp (ps_ret he) fun D σ H ⟨ρ, fr, st, R, F, P⟩ => let ⟨p, e1, P⟩ := P.stm; ⟨ρ, fr, st, p.1, p.2, R, F, e1, fun ρ1 H1 v E1 R1 r1 => P ρ1 H1 v E1 R1 r1⟩
theorem s_retn {pos : Pos} : PS X (.Return none pos) (tS N X.K fun fr st => .rt .non st) :=
  PS.imp ps_retN fun D σ H ⟨ρ, fr, st, R, F, P⟩ => P ρ H .non (Ext.refl) R .non
theorem s_ex {pos : Pos} (he : PE X e (tR N X.K fe)) (hs : swapsWith e none pos.line X.env = pure false) : PS X (.Expr e pos) (tS N X.K fun fr st => (fe fr st).stm fr fun p => .nx fr p.2) :=
  PS.imp (ps_expr he hs) fun D σ H ⟨ρ, fr, st, R, F, P⟩ => let ⟨p, e1, P⟩ := P.stm; ⟨ρ, fr, st, p.1, p.2, R, F, e1, fun ρ1 H1 v E1 R1 r1 => P ρ1 H1 σ E1 R1 (F.ext E1)⟩
theorem s_if {pos : Pos} {p q : List Stmt} {f g : Fr → Sto → C} (hc : PT X c (tRb N X.K (tst fc))) (hp : PSs X p (tS N X.K f)) (hq : PSs X q (tS N X.K g)) :
    PS X (.If c p q pos) (tS N X.K fun fr st => (testF (fc fr st)).stm fr fun p => if p.1 then f fr p.2 else g fr p.2) :=
  PS.imp (ps_if hc hp hq) fun D σ H ⟨ρ, fr, st, R, F, P⟩ => let ⟨p, e1, P⟩ := P.stm; ⟨ρ, fr, st, p.1, p.2, R, F, e1, fun ρ1 H1 E1 R1 => by
    obtain ⟨k, st1⟩ := p
    cases k with
    | true => exact iteT ⟨ρ1, fr, st1, R1, F.ext E1, P.after E1⟩
    | false => exact iteF ⟨ρ1, fr, st1, R1, F.ext E1, P.after E1⟩⟩
/-! ### stores -/
theorem s_set {tg : Expr} {t : Tg} {pos : Pos} (he : PE X e (tR N X.K fe)) (hg : PG X tg (gT X.K t)) (hs : swapsWithSole [tg] e pos.line X.env = pure false) (hw : swappedStores [tg] e X.env = pure none)
    (h1 : (assignEach [tg] X.env).map (·.2) = [assign tg X.env]) : PS X (.Assign [tg] e pos) (tS N X.K fun fr st => (fe fr st).stm fr fun p => match tgF t p.1 fr with
      | some fr => .nx fr p.2
      | none => .no) :=
  PS.imp (ps_asg he hg hs hw h1) fun D σ H ⟨ρ, fr, st, R, F, P⟩ => let ⟨p, e1, P⟩ := P.stm; ⟨ρ, fr, st, p.1, p.2, R, F, e1, fun ρ1 H1 v E1 R1 r1 => by
    try dsimp only at P
    split at P
    · rename_i fr2 ht
      exact read_tg t r1 (F.ext E1) ht fun σ' F' _ => P ρ1 H1 σ' E1 R1 F'
    · exact P.elim⟩
theorem FSs.len {fs : List (Nat × MP.D)} {gs : List (Str × V)} : FSs N X.K ρ H fs gs → fs.length = gs.length := fun h => by
  induction h with
  | nil => rfl
  | cons _ _ ih => rw [List.length_cons, List.length_cons, ih]
theorem fld_put {P : Prog} {cf : Cf} {k : Nat} {mths : List Str} {x : Str} {f : Nat} {st st' : Sto} {o d : MP.D} {a v : V} (G : ClG X N P cf k mths) (hx : N.fld[f]? = some x) (R : Rl N X.K ρ st H) (r : Rep X.K ρ H o a) (rd : Rep X.K ρ H d v) (h : setFldF st o f d = some st') :
    ∃ p C dx gs, a = .ref p ∧ H p = some (.ins C dx gs) ∧ Cls X.K C ∧ NoAttr X.K C x ∧ gs.length < 1000 ∧ Ext ρ H ρ (upd H p (.ins C dx (putF x v gs))) ∧ Rl N X.K ρ st' (upd H p (.ins C dx (putF x v gs))) ∧ ∃ c, clsF st o = some c ∧ N.cls c = some C := by
  cases r with
  | @ref n p h1 =>
    simp only [setFldF] at h
    split at h
    · rename_i c fs q
      split at h
      · rename_i hl
        cases h
        obtain ⟨C, dx, gs, h2, h3, h4⟩ := R.at_ _ _ _ h1 q
        have hlen := h4.len
        obtain ⟨E, R2⟩ := R.put (u := .ins C dx (putF x v gs)) (o' := .ins c (putN f d fs)) h1 q (by simp [h3]) fun keep => ⟨C, dx, _, h2, upd_same, FSs.put G.nd hx (keep rd) (pairedMap (fun _ _ z => ⟨z.1, keep z.2⟩) h4)⟩
        exact ⟨p, C, dx, gs, rfl, h3, G.cl _ C h2, G.no _ C h2 f x hx, by omega, E, R2, c, by simp [clsF, q], h2⟩
      · cases h
    · cases h
  | _ => simp [setFldF] at h
theorem s_setfld {o : Expr} {x : Str} {f : Nat} {P : Prog} {cf : Cf} {k : Nat} {mths : List Str} {pos pos' : Pos} (G : ClG X N P cf k mths) (hx : N.fld[f]? = some x) (ha : PE X o (tR N X.K fa)) (he : PE X e (tR N X.K fe))
    (hs : swapsWith e (some (.Attribute o x pos')) pos.line X.env = pure false) : PS X (.Assign [.Attribute o x pos'] e pos) (tS N X.K fun fr st => (fe fr st).stm fr fun p => (fa fr p.2).stm fr fun q => match setFldF q.2 q.1 f p.1 with
      | some st => .nx fr st
      | none => .no) :=
  PS.imp (ps_fld ha he hs) fun D σ H ⟨ρ, fr, st, R, F, P⟩ => by
    obtain ⟨p, e1, P⟩ := P.stm
    obtain ⟨q, e2, P⟩ := P.stm
    try dsimp only at P
    split at P
    · rename_i st2 h
      refine ⟨ρ, fr, st, p.1, p.2, R, F, e1, fun ρ1 H1 v E1 R1 r1 => ⟨ρ1, fr, p.2, q.1, q.2, R1, F.ext E1, e2, fun ρ2 H2 a E2 R2 r2 => ?_⟩⟩
      obtain ⟨p', C, dx, gs, rfl, h3, h4, h5, h6, E, R3, _⟩ := fld_put G hx R2 r2 (r1.ext E2) h
      exact ⟨p', C, dx, gs, rfl, h3, h4, h5, h6, P ρ2 _ σ (E1.trans (E2.trans E)) R3 (((F.ext E1).ext E2).ext E)⟩
    · exact P.elim
theorem s_augfld {o : Expr} {x : Str} {f : Nat} {P : Prog} {cf : Cf} {k : Nat} {mths : List Str} {pos pos' : Pos} (G : ClG X N P cf k mths) (hx : N.fld[f]? = some x) (ha : PE X o (tR N X.K fa)) (he : PE X e (tR N X.K fe)) :
    PS X (.AugAssign (.Attribute o x pos') .Add e pos) (tS N X.K fun fr st => (fa fr st).stm fr fun p => (R.of (fldF p.2 p.1 f)).stm fr fun x => (fe fr p.2).stm fr fun q =>
    match x, q.1 with
    | .int i, .int j => if clsF q.2 p.1 = clsF p.2 p.1 then (match setFldF q.2 p.1 f (.int (i + j)) with
      | some st => .nx fr st
      | none => .no) else .no
    | _, _ => .no) :=
  PS.imp (ps_fldaug ha he in_add) fun D σ H ⟨ρ, fr, st, R, F, P⟩ => by
    obtain ⟨p, e1, P⟩ := P.stm
    obtain ⟨y, e2, P⟩ := P.stm
    obtain ⟨q, e3, P⟩ := P.stm
    obtain ⟨o, st1⟩ := p
    obtain ⟨d2, st3⟩ := q
    dsimp only at *
    split at P
    · rename_i i j
      split at P
      · rename_i hc
        split at P
        · rename_i st2 h
          have PK : PostC N X.K D ρ H (.nx fr st2) := P
          refine ⟨ρ, fr, st, _, _, R, F, e1, fun ρ1 H1 a E1 R1 r1 => ?_⟩
          have e4 := MP.R.of_eq e2
          cases r1 with
          | @ref n a h1 =>
            simp only [fldF] at e4
            split at e4
            · rename_i c fs q
              obtain ⟨C, dx, gs, h2, h3, h4⟩ := R1.at_ _ _ _ h1 q
              obtain ⟨u, h5, h6⟩ := h4.get G.nd hx e4
              cases h6
              refine ⟨a, C, dx, gs, _, rfl, h3, G.cl _ C h2, G.no _ C h2 f x hx, h5, ?_⟩
              refine ⟨ρ1, fr, st1, _, _, R1, F.ext E1, e3, fun ρ2 H2 v E2 R2 r2 => ?_⟩
              cases r2
              refine ⟨_, _, rfl, rfl, ?_⟩
              obtain ⟨p', C', dx', gs', hp, h3', h4', h5', h6', E, R3, c', hc', hC'⟩ := fld_put G hx R2 (.ref (E2.ix h1)) (.int _) h
              cases hp
              have ec : c' = c := by
                rw [hc', show clsF st1 (.ref n) = some c by simp [clsF, q]] at hc
                exact Option.some.inj hc
              subst ec
              rw [h2] at hC'
              cases hC'
              exact ⟨dx', gs', h3', h6', PK ρ2 _ σ (E1.trans (E2.trans E)) R3 (((F.ext E1).ext E2).ext E)⟩
            · cases e4
          | _ => simp [fldF] at e4
        · exact P.elim
      · exact P.elim
    · exact P.elim
/-! ### while -/
theorem s_while {pos : Pos} {body : List Stmt} {g : Fr → Sto → C} (hp : PassesOwn (model X.prog X.w) X.A X.env X.xe) (hc : PT X c (tRb N X.K (tst fc))) (hb : PSs X body (tS N X.K g)) :
    PS X (.While c body [] pos) (tS N X.K fun fr st => whlF (fun fr st => testF (fc fr st)) g WF fr st) := by
  refine PS.imp (ps_while hp hc hb) fun D σ H ⟨ρ, fr, st, R, F, P⟩ => ?_
  have P : PostC N X.K D ρ H (whlF (fun fr st => testF (fc fr st)) g WF fr st) := P
  generalize eo : whlF (fun fr st => testF (fc fr st)) g WF fr st = o at P
  refine ⟨fun m σ1 H1 => ∃ ρ1 fr1 st1, Ext ρ H ρ1 H1 ∧ Rl N X.K ρ1 st1 H1 ∧ Rf X.K ρ1 H1 fr1 σ1 ∧ whlF (fun fr st => testF (fc fr st)) g m fr1 st1 = o, ⟨WF, ρ, fr, st, Ext.refl, R, F, eo⟩, ?_⟩
  intro m σ1 H1 ⟨ρ1, fr1, st1, E1, R1, F1, e1⟩
  cases m with
  | zero => rw [whlF] at e1; subst e1; exact P.elim
  | succ m =>
    rw [whlF] at e1
    have P1 := P.after E1
    rw [← e1] at P1
    obtain ⟨p, et, P1⟩ := P1.stm
    rw [et, MP.R.stm_ok] at e1
    refine ⟨ρ1, fr1, st1, p.1, p.2, R1, F1, et, fun ρ2 H2 E2 R2 => ?_⟩
    obtain ⟨k, st2⟩ := p
    cases k with
    | false =>
      refine iteF ?_
      exact P1 ρ2 H2 σ1 E2 R2 (F1.ext E2)
    | true =>
      refine iteT ⟨fun σ' H' => ∃ ρ1 fr1 st1, Ext ρ H ρ1 H' ∧ Rl N X.K ρ1 st1 H' ∧ Rf X.K ρ1 H' fr1 σ' ∧ whlF (fun fr st => testF (fc fr st)) g m fr1 st1 = o, fun σ' H' h => ⟨m, Nat.lt_succ_self _, h⟩, ?_⟩
      have e2 : (g fr1 st2).seq (whlF (fun fr st => testF (fc fr st)) g m) = o := e1
      refine ⟨ρ2, fr1, st2, R2, F1.ext E2, ?_⟩
      have P2 := P.after (E1.trans E2)
      cases hg : g fr1 st2 with
      | nx fr3 st3 => rw [hg] at e2; exact fun ρ3 H3 σ3 E3 R3 F3 => ⟨ρ3, fr3, st3, E1.trans (E2.trans E3), R3, F3, e2⟩
      | rt d st3 => rw [hg] at e2; rw [← e2] at P2; exact P2
      | ex c fr3 st3 => rw [hg] at e2; rw [← e2] at P2; exact P2.elim
      | no => rw [hg] at e2; rw [← e2] at P2; exact P2.elim
/-! ### for -/
theorem for_walk {g : TG} {tb : TS} {ρ1 : List Addr} {st1 : Sto} {H1 : Hp} {fr : Fr} {σ : L2.St} {J : L2.It} {w : Wk} {D : Ends} {o : C} {turn : MP.D → Fr → Sto → C}
    (wk : WalkOk N X.K ρ1 H1 J w) (R1 : Rl N X.K ρ1 st1 H1) (F1 : Rf X.K ρ1 H1 fr σ) (e : forF w.ok turn w.ds fr st1 = o) (P : PostC N X.K D ρ1 H1 o)
    (hturn : ∀ (ρ : List Addr) (fr : Fr) (st : Sto) (H : Hp) (σ : L2.St) (d : MP.D) (x : V) (D' : Ends), Rl N X.K ρ st H → Rf X.K ρ H fr σ → Rep X.K ρ H d x → PostC N X.K D' ρ H (turn d fr st) → g x σ H fun σ2 H2 => tb D' σ2 H2) :
    ∃ W : Nat → Nat → L2.St → Hp → Prop, (∃ m, W 0 m σ H1) ∧ ∀ i m σ H, W i m σ H →
  (J.stop i H ∧ D.nx σ H) ∨ (J.go i H ∧ ∃ N : L2.St → Hp → Prop, (∀ σ' H', N σ' H' → ∃ m', m' < m ∧ W (i + 1) m' σ' H') ∧ ∀ x H', J.yld i H x H' → g x σ H' fun σ2 H2 => tb { D with nx := N, ct := N, bk := D.nx } σ2 H2) := by
  refine ⟨fun i m σ H => m = w.ds.length - i ∧ i ≤ w.ds.length ∧ ∃ (ρ : List Addr) (fr : Fr) (st : Sto), Ext ρ1 H1 ρ H ∧ Rl N X.K ρ st H ∧ Rf X.K ρ H fr σ ∧ forF w.ok turn (w.ds.drop i) fr st = o,
    ⟨_, rfl, Nat.zero_le _, ρ1, fr, st1, Ext.refl, R1, F1, by rw [List.drop_zero]; exact e⟩, ?_⟩
  intro i m σ H hW
  obtain ⟨rfl, hi, ρ, fr, st, E, R, F, el⟩ := hW
  have P1 := P.after E
  by_cases hlt : i < w.ds.length
  · have ed : w.ds.drop i = w.ds[i] :: w.ds.drop (i + 1) := List.drop_eq_getElem_cons hlt
    rw [ed, forF] at el
    by_cases hok : w.ok st = true
    · rw [if_pos hok] at el
      obtain ⟨h1, _⟩ := wk ρ st H i E R hok
      obtain ⟨hgo, hy⟩ := h1 w.ds[i] (List.getElem?_eq_getElem hlt)
      refine .inr ⟨hgo, fun σ' H' => ∃ (ρ : List Addr) (fr : Fr) (st : Sto), Ext ρ1 H1 ρ H' ∧ Rl N X.K ρ st H' ∧ Rf X.K ρ H' fr σ' ∧ forF w.ok turn (w.ds.drop (i + 1)) fr st = o,
        fun σ' H' h => ⟨_, by omega, rfl, by omega, h⟩, fun x H' hyl => ?_⟩
      obtain ⟨Ea, Ra, rx⟩ := hy x H' hyl
      refine hturn ρ fr st H' σ _ x _ Ra (F.ext Ea) rx ?_
      have P2 := P1.after Ea
      cases hg : turn w.ds[i] fr st with
      | nx fr3 st3 => rw [hg] at el; exact fun ρ3 H3 σ3 E3 R3 F3 => ⟨ρ3, fr3, st3, E.trans (Ea.trans E3), R3, F3, el⟩
      | rt d st3 => rw [hg] at el; rw [← el] at P2; exact P2
      | ex c fr3 st3 => rw [hg] at el; rw [← el] at P2; exact P2.elim
      | no => rw [hg] at el; rw [← el] at P2; exact P2.elim
    · rw [if_neg hok] at el
      subst el
      exact P1.elim
  · have ei : i = w.ds.length := by omega
    subst ei
    rw [List.drop_length, forF] at el
    by_cases hok : w.ok st = true
    · rw [if_pos hok] at el
      obtain ⟨_, h2⟩ := wk ρ st H _ E R hok
      rw [← el] at P1
      exact .inl ⟨h2 (Nat.le_refl _), P1 ρ H σ (Ext.refl) R F⟩
    · rw [if_neg hok] at el
      subst el
      exact P1.elim
theorem s_for {pos : Pos} {tg iter : Expr} {body : List Stmt} {t : Tg} {fit : Fr → Sto → R (Wk × Sto × (Sto → Sto))} {g : Fr → Sto → C} (hp : PassesOwn (model X.prog X.w) X.A X.env X.xe) (hc : X.calm = true) (hi : ItOk X N tg iter fit) (hg : PG X tg (gT X.K t)) (hb : PSs X body (tS N X.K g))
    (hs : ∀ x, foldedSetIterable iter X.env x = pure x) :
    PS X (.For tg iter body [] pos) (tS N X.K fun fr st => (fit fr st).stm fr fun w => (forF w.1.ok (fun d fr st => match tgF t d fr with
      | some fr => g fr st
      | none => .no) w.1.ds fr w.2.1).un w.2.2) := by
  refine PS.by fun D σ H ⟨ρ, fr, st, R, F, P⟩ => ?_
  obtain ⟨⟨w, st1, u⟩, e1, P⟩ := P.stm
  try dsimp only at P
  have hturn : ∀ (ρ : List Addr) (fr : Fr) (st : Sto) (H : Hp) (σ : L2.St) (d : MP.D) (x : V) (D' : Ends), Rl N X.K ρ st H → Rf X.K ρ H fr σ → Rep X.K ρ H d x → PostC N X.K D' ρ H (match tgF t d fr with
      | some fr => g fr st
      | none => .no) → gT X.K t x σ H fun σ2 H2 => tS N X.K g D' σ2 H2 := by
    intro ρ fr st H σ d x D' R F r P
    split at P
    · rename_i fr2 ht
      exact read_tg t r F ht fun σ' F' _ => ⟨ρ, fr2, st, R, F', P⟩
    · exact P.elim
  rcases hi ρ fr st H σ w st1 u R F e1 with ⟨rfl, wi, pi, hwi⟩ | ⟨n, a, kvs, ws, ha, hst, hH, kv, rfl, rfl, wi, pi, hwi⟩
  · have eu : ∀ o : C, o.un id = o := fun o => by cases o <;> rfl
    rw [eu] at P
    exact ⟨_, ps_for hp hc pi hg hb hs, hwi _ fun ρ1 H1 J E1 R1 wk => for_walk wk R1 (F.ext E1) rfl (P.after E1) hturn⟩
  · refine ⟨_, ps_lock (ps_for hp hc pi hg hb hs), ?_⟩
    refine ⟨a, .dK ws, hH, trivial, fun od => ?_⟩
    have RL := R.lock ha hH kv od
    have hcg : Chg H a := ⟨by simp [hH], by simp [hH], by simp [hH]⟩
    refine hwi od _ RL fun ρ1 H1 J E1 R1 wk => ?_
    refine for_walk wk R1 ((F.chg hcg).ext E1) rfl ?_ hturn
    have fz : ∀ {ρ2 : List Addr} {H2 : Hp}, Ext ρ (upd H a (.frz od (.dK ws))) ρ2 H2 → H2 a = some (.frz od (.dK ws)) := fun E2 => E2.frzd a od ws upd_same
    have cg : ∀ {ρ2 : List Addr} {H2 : Hp}, Ext ρ (upd H a (.frz od (.dK ws))) ρ2 H2 → Chg H2 a := fun E2 => ⟨by simp [fz E2], by simp [fz E2], by simp [fz E2]⟩
    generalize forF w.ok _ w.ds fr _ = o at P
    cases o with
    | nx fr3 st3 =>
      exact fun ρ2 H2 σ2 E2 R2 F2 => have E2 := E1.trans E2; ⟨fz E2, P ρ2 _ σ2 (Ext.unlock (List.mem_of_getElem? ha) hH E2) (R2.unlock (E2.ix ha) (fz E2) kv (Ext.unlock (List.mem_of_getElem? ha) hH E2)) (F2.chg (cg E2))⟩
    | rt d st3 =>
      exact fun ρ2 H2 v E2 R2 r2 => have E2 := E1.trans E2; ⟨fz E2, P ρ2 _ v (Ext.unlock (List.mem_of_getElem? ha) hH E2) (R2.unlock (E2.ix ha) (fz E2) kv (Ext.unlock (List.mem_of_getElem? ha) hH E2)) (r2.chg (cg E2))⟩
    | ex c fr3 st3 => exact P.elim
    | no => exact P.elim
end
end MP

set_option Elab.async false
set_option linter.all false
set_option maxRecDepth 100000
set_option maxHeartbeats 1000000
/-! MPIter: what a for walks. -/
namespace MP
open PySem PySem.Spec PyProof.Rows L2 RZ

mutual
theorem D.beq_eq : ∀ {a b : D}, D.beq a b = true → a = b
  | .non, b, h => by cases b <;> simp [D.beq] at h; rfl
  | .bl a, b, h => by cases b <;> simp [D.beq] at h; rw [h]
  | .int a, b, h => by cases b <;> simp [D.beq] at h; rw [h]
  | .str a, b, h => by cases b <;> simp [D.beq] at h; rw [h]
  | .tup a, b, h => by
    cases b <;> simp only [D.beq] at h <;> first | cases h; done | skip
    rw [D.beqs_eq h]
  | .kls a, b, h => by
    cases b <;> simp only [D.beq] at h <;> first | cases h; done | skip
    rw [D.beqs_eq h]
  | .ref a, b, h => by cases b <;> simp [D.beq] at h; rw [h]
theorem D.beqs_eq : ∀ {a b : List D}, D.beqs a b = true → a = b
  | [], [], _ => rfl
  | [], _ :: _, h => by simp [D.beqs] at h
  | _ :: _, [], h => by simp [D.beqs] at h
  | x :: xs, y :: ys, h => by
    simp only [D.beqs, Bool.and_eq_true] at h
    rw [D.beq_eq h.1, D.beqs_eq h.2]
end
theorem stands_eq {n : Nat} {xs : List D} {st : Sto} (h : stands n xs st = true) : st[n]? = some (.lst xs) := by
  unfold stands at h
  split at h
  · rename_i ys q; rw [q, D.beqs_eq h]
  · cases h

section
variable {X : Cx} {N : Nm} {ρ : List Addr} {H : Hp} {st : Sto}
theorem get_lt {α : Type} {l : List α} {i : Nat} {x : α} (h : l[i]? = some x) : i < l.length := (List.getElem?_eq_some_iff.mp h).1
theorem get_ge {α : Type} {l : List α} {i : Nat} (h : l.length ≤ i) : l[i]? = none := List.getElem?_eq_none h

/-! ### sequences -/
theorem walk_tup {a : Addr} {ds : List D} {vs : List V} (s : SqT X.K H a vs) (r : Reps X.K ρ H ds vs) : WalkOk N X.K ρ H (Itt X.K a) ⟨ds, fun _ => true⟩ := by
  intro ρ2 st2 H2 i E R _
  have s2 := E.sqT s
  have r2 := r.ext E
  refine ⟨fun d hd => ?_, fun h => ⟨vs, s2, by rw [← r2.len]; exact h⟩⟩
  obtain ⟨v, hv, rv⟩ := r2.get hd
  refine ⟨⟨vs, v, s2, hv⟩, fun x H' ⟨e, hx⟩ => ?_⟩
  subst e
  have hx := hx vs s2
  rw [hv] at hx
  cases hx
  exact ⟨Ext.refl, R, rv⟩
/-- a list that stands there whenever ok says so -/
theorem walk_lst {a : Addr} {ds : List D} {ok : Sto → Bool} (h : ∀ ρ2 st2 H2, Ext ρ H ρ2 H2 → Rl N X.K ρ2 st2 H2 → ok st2 = true → ∃ vs, SqL X.K H2 a vs ∧ Reps X.K ρ2 H2 ds vs) : WalkOk N X.K ρ H (Itl X.K a) ⟨ds, ok⟩ := by
  intro ρ2 st2 H2 i E R ho
  obtain ⟨vs, s2, r2⟩ := h ρ2 st2 H2 E R ho
  refine ⟨fun d hd => ?_, fun h => ⟨vs, s2, by rw [← r2.len]; exact h⟩⟩
  obtain ⟨v, hv, rv⟩ := r2.get hd
  refine ⟨⟨vs, v, s2, hv⟩, fun x H' ⟨e, hx⟩ => ?_⟩
  subst e
  have hx := hx vs s2
  rw [hv] at hx
  cases hx
  exact ⟨Ext.refl, R, rv⟩
theorem lst_stands {n : Nat} {a : Addr} {ds : List D} (ha : ρ[n]? = some a) : ∀ ρ2 st2 H2, Ext ρ H ρ2 H2 → Rl N X.K ρ2 st2 H2 → stands n ds st2 = true → ∃ vs, SqL X.K H2 a vs ∧ Reps X.K ρ2 H2 ds vs := by
  intro ρ2 st2 H2 E R h
  obtain ⟨vs, h1, r⟩ := R.at_ n a _ (E.ix ha) (stands_eq h)
  exact ⟨vs, .inl (.inl h1), r⟩
theorem kls_stands {a : Addr} {ds : List D} {vs : List V} {ok : Sto → Bool} (s : SqK X.K H a vs) (r : Reps X.K ρ H ds vs) : ∀ ρ2 st2 H2, Ext ρ H ρ2 H2 → Rl N X.K ρ2 st2 H2 → ok st2 = true → ∃ vs, SqL X.K H2 a vs ∧ Reps X.K ρ2 H2 ds vs :=
  fun ρ2 st2 H2 E R _ => ⟨vs, (E.sqK s).sq, r.ext E⟩
theorem list_stands {x : D} {v : V} {ds : List D} (R : Rl N X.K ρ st H) (r : Rep X.K ρ H x v) (h : listF st x = some ds) : ∃ a, v = .ref a ∧ (∃ vs, SqL X.K H a vs) ∧ ∀ ρ2 st2 H2, Ext ρ H ρ2 H2 → Rl N X.K ρ2 st2 H2 → standsD x ds st2 = true → ∃ vs, SqL X.K H2 a vs ∧ Reps X.K ρ2 H2 ds vs := by
  cases r with
  | kls s r => simp only [listF, Option.some.injEq] at h; subst h; exact ⟨_, rfl, ⟨_, s.sq⟩, kls_stands s r⟩
  | @ref n a ha =>
    simp only [listF] at h
    split at h
    · rename_i xs q
      cases h
      obtain ⟨vs, h1, r⟩ := R.at_ n a _ ha q
      exact ⟨a, rfl, ⟨vs, .inl (.inl h1)⟩, fun ρ2 st2 H2 E R2 hs => lst_stands ha ρ2 st2 H2 E R2 hs⟩
    · cases h
  | _ => simp [listF] at h
theorem walk_str {x : List Char} : WalkOk N X.K ρ H (Its (toS x)) ⟨signsF x, fun _ => true⟩ := by
  intro ρ2 st2 H2 i E R _
  have e : (toS x).cps.size = x.length := by simp [toS]
  refine ⟨fun d hd => ?_, fun h => ?_⟩
  · have hl : i < x.length := by have := get_lt hd; simpa [signsF] using this
    refine ⟨by show i < (toS x).cps.size; rw [e]; exact hl, fun v H' ⟨eh, c, hc, ev⟩ => ?_⟩
    subst eh ev
    refine ⟨Ext.refl, R, ?_⟩
    have h1 : d = .str [x[i]] := by
      simp only [signsF, List.getElem?_map, List.getElem?_eq_getElem hl, Option.map_some, Option.some.injEq] at hd
      exact hd.symm
    have h2 : c = x[i].toNat := by
      have : (toS x).cps[i]? = some x[i].toNat := by simp [toS, hl]
      rw [this] at hc
      exact (Option.some.inj hc).symm
    subst h1 h2
    exact .str [x[i]]
  · show (toS x).cps.size ≤ i
    rw [e]
    simpa [signsF] using h
theorem walk_range {lo : Int} {n : Nat} : WalkOk N X.K ρ H (Itr lo n) ⟨rangeF lo n, fun _ => true⟩ := by
  intro ρ2 st2 H2 i E R _
  refine ⟨fun d hd => ?_, fun h => ?_⟩
  · have hl : i < n := by have := get_lt hd; simpa [rangeF] using this
    refine ⟨hl, fun v H' ⟨eh, ev⟩ => ?_⟩
    subst eh ev
    have h1 : d = .int (lo + i) := by
      simp [rangeF, hl] at hd
      exact hd.symm
    subst h1
    exact ⟨Ext.refl, R, .int _⟩
  · show n ≤ i
    simpa [rangeF] using h
theorem enumF_get : ∀ (k : Nat) (xs : List D) (i : Nat), (enumF k xs)[i]? = xs[i]?.map fun x => D.tup [.int ((k + i : Nat) : Int), x]
  | _, [], _ => rfl
  | k, x :: r, 0 => rfl
  | k, x :: r, i + 1 => by
    rw [enumF, List.getElem?_cons_succ, List.getElem?_cons_succ, enumF_get (k + 1) r i, show k + 1 + i = k + (i + 1) by omega]
theorem enumF_len : ∀ (k : Nat) (xs : List D), (enumF k xs).length = xs.length
  | _, [] => rfl
  | k, x :: r => by rw [enumF, List.length_cons, List.length_cons, enumF_len (k + 1) r]
theorem fresh_tup {vs : List V} {ds : List D} {p : Addr} (R : Rl N X.K ρ st H) (hp : H p = none) (r : Reps X.K ρ H ds vs) : Ext ρ H ρ (upd H p (.tup vs)) ∧ Rl N X.K ρ st (upd H p (.tup vs)) ∧ Rep X.K ρ (upd H p (.tup vs)) (.tup ds) (.ref p) := by
  obtain ⟨e, R2⟩ := R.lay (u := .tup vs) hp
  exact ⟨e, R2, .tup (.inl (.inl upd_same)) (r.ext e)⟩
theorem walk_enum {a : Addr} {ds : List D} {ok : Sto → Bool} (h : ∀ ρ2 st2 H2, Ext ρ H ρ2 H2 → Rl N X.K ρ2 st2 H2 → ok st2 = true → ∃ vs, SqL X.K H2 a vs ∧ Reps X.K ρ2 H2 ds vs) : WalkOk N X.K ρ H (Ite X.K a) ⟨enumF 0 ds, ok⟩ := by
  intro ρ2 st2 H2 i E R ho
  obtain ⟨vs, s2, r2⟩ := h ρ2 st2 H2 E R ho
  refine ⟨fun d hd => ?_, fun h => ⟨vs, s2, by rw [← r2.len, ← enumF_len 0 ds]; exact h⟩⟩
  rw [enumF_get] at hd
  cases q : ds[i]? with
  | none => rw [q] at hd; cases hd
  | some d0 =>
    rw [q] at hd
    simp only [Option.map_some, Option.some.injEq, Nat.zero_add] at hd
    subst hd
    obtain ⟨v, hv, rv⟩ := r2.get q
    refine ⟨⟨vs, v, s2, hv⟩, fun x H' ⟨T, y, e1, hT, e2, hx⟩ => ?_⟩
    subst e1 e2
    have hx := hx vs s2
    rw [hv] at hx
    cases hx
    exact fresh_tup R hT (.cons (.int _) (.cons rv .nil))
theorem zipF_get : ∀ (xs ys : List D) (i : Nat) (d : D), (zipF xs ys)[i]? = some d → ∃ x y, xs[i]? = some x ∧ ys[i]? = some y ∧ d = .tup [x, y]
  | [], _, _, _, h => by simp [zipF] at h
  | _ :: _, [], _, _, h => by simp [zipF] at h
  | x :: xs, y :: ys, 0, d, h => by simp [zipF] at h; exact ⟨x, y, rfl, rfl, h.symm⟩
  | x :: xs, y :: ys, i + 1, d, h => by
    rw [zipF, List.getElem?_cons_succ] at h
    exact zipF_get xs ys i d h
theorem zipF_len : ∀ (xs ys : List D), (zipF xs ys).length = min xs.length ys.length
  | [], _ => by simp [zipF]
  | _ :: _, [] => by simp [zipF]
  | x :: xs, y :: ys => by rw [zipF, List.length_cons, List.length_cons, List.length_cons, zipF_len xs ys]; omega
theorem walk_zip {a b : Addr} {ds es : List D} {ok : Sto → Bool} (h : ∀ ρ2 st2 H2, Ext ρ H ρ2 H2 → Rl N X.K ρ2 st2 H2 → ok st2 = true → (∃ vs, SqL X.K H2 a vs ∧ Reps X.K ρ2 H2 ds vs) ∧ ∃ vs, SqL X.K H2 b vs ∧ Reps X.K ρ2 H2 es vs) : WalkOk N X.K ρ H (Itz X.K a b) ⟨zipF ds es, ok⟩ := by
  intro ρ2 st2 H2 i E R ho
  obtain ⟨⟨vs, s2, r2⟩, us, s3, r3⟩ := h ρ2 st2 H2 E R ho
  refine ⟨fun d hd => ?_, fun h => ⟨vs, us, s2, s3, ?_⟩⟩
  · obtain ⟨x, y, hx, hy, rfl⟩ := zipF_get _ _ _ _ hd
    obtain ⟨v, hv, rv⟩ := r2.get hx
    obtain ⟨u, hu, ru⟩ := r3.get hy
    refine ⟨⟨vs, us, v, u, s2, s3, hv, hu⟩, fun x H' ⟨T, x1, y1, e1, hT, e2, h1, h2⟩ => ?_⟩
    subst e1 e2
    have h1 := h1 vs s2
    have h2 := h2 us s3
    rw [hv] at h1; rw [hu] at h2
    cases h1; cases h2
    exact fresh_tup R hT (.cons rv (.cons ru .nil))
  · have h' : (zipF ds es).length ≤ i := h
    rw [zipF_len, r2.len, r3.len] at h'
    omega
theorem walk_zipT {a b : Addr} {ds es : List D} {vs us : List V} (s : SqT X.K H a vs) (r : Reps X.K ρ H ds vs) (s' : SqT X.K H b us) (r' : Reps X.K ρ H es us) : WalkOk N X.K ρ H (ItzT X.K a b) ⟨zipF ds es, fun _ => true⟩ := by
  intro ρ2 st2 H2 i E R ho
  have s2 := E.sqT s
  have s3 := E.sqT s'
  have r2 := r.ext E
  have r3 := r'.ext E
  refine ⟨fun d hd => ?_, fun h => ⟨vs, us, s2, s3, ?_⟩⟩
  · obtain ⟨x, y, hx, hy, rfl⟩ := zipF_get _ _ _ _ hd
    obtain ⟨v, hv, rv⟩ := r2.get hx
    obtain ⟨u, hu, ru⟩ := r3.get hy
    refine ⟨⟨vs, us, v, u, s2, s3, hv, hu⟩, fun x H' ⟨T, x1, y1, e1, hT, e2, h1, h2⟩ => ?_⟩
    subst e1 e2
    have h1 := h1 vs s2
    have h2 := h2 us s3
    rw [hv] at h1; rw [hu] at h2
    cases h1; cases h2
    exact fresh_tup R hT (.cons rv (.cons ru .nil))
  · have h' : (zipF ds es).length ≤ i := h
    rw [zipF_len, r2.len, r3.len] at h'
    omega
theorem walk_rev {a : Addr} {ds : List D} {ok : Sto → Bool} (h : ∀ ρ2 st2 H2, Ext ρ H ρ2 H2 → Rl N X.K ρ2 st2 H2 → ok st2 = true → ∃ vs, SqL X.K H2 a vs ∧ Reps X.K ρ2 H2 ds vs) : WalkOk N X.K ρ H (Itv X.K a ds.length) ⟨ds.reverse, ok⟩ := by
  intro ρ2 st2 H2 i E R ho
  obtain ⟨vs, s2, r2⟩ := h ρ2 st2 H2 E R ho
  refine ⟨fun d hd => ?_, fun h => by have h' : ds.reverse.length ≤ i := h; rw [List.length_reverse] at h'; exact h'⟩
  have hl : i < ds.length := by have := get_lt hd; simpa using this
  have hd' : ds[ds.length - 1 - i]? = some d := by rw [List.getElem?_reverse hl] at hd; exact hd
  obtain ⟨v, hv, rv⟩ := r2.get hd'
  refine ⟨⟨hl, vs, v, s2, hv⟩, fun x H' ⟨e, hx⟩ => ?_⟩
  subst e
  have hx := hx vs s2
  rw [hv] at hx
  cases hx
  exact ⟨Ext.refl, R, rv⟩

/-! ### dicts, locked -/
theorem KVs.get {kvs : List (Kk × D)} {ws : List (Key × V)} (h : KVs X.K ρ H kvs ws) {i : Nat} {kv : Kk × D} (hi : kvs[i]? = some kv) : ∃ v, ws[i]? = some (toK kv.1, v) ∧ Rep X.K ρ H kv.2 v := by
  induction h generalizing i with
  | nil => simp at hi
  | cons r t ih =>
    cases i with
    | zero =>
      simp at hi; subst hi
      rename_i p q l1 l2
      exact ⟨q.2, by rw [List.getElem?_cons_zero]; rw [← r.1], r.2⟩
    | succ i => exact ih (by simpa using hi)
theorem Paired.len {α β : Type} {F : α → β → Prop} : ∀ {l₁ : List α} {l₂ : List β}, Paired F l₁ l₂ → l₁.length = l₂.length
  | _, _, .nil => rfl
  | _, _, .cons _ t => congrArg Nat.succ (Paired.len t)
theorem rep_key (k : Kk) : Rep X.K ρ H (keyD k) (kV (toK k)) := by
  cases k with
  | i n => exact .int n
  | s x => exact .str x
theorem walk_keys {a : Addr} {od : Obj} {kvs : List (Kk × D)} {ws : List (Key × V)} (h : H a = some (.frz od (.dK ws))) (kv : KVs X.K ρ H kvs ws) : WalkOk N X.K ρ H (Itk a od ws) ⟨kvs.map fun kv => keyD kv.1, fun _ => true⟩ := by
  intro ρ2 st2 H2 i E R _
  have h2 := E.frzd a od ws h
  refine ⟨fun d hd => ?_, fun hl => ⟨h2, by rw [← Paired.len kv]; simpa using hl⟩⟩
  rw [List.getElem?_map] at hd
  cases q : kvs[i]? with
  | none => rw [q] at hd; cases hd
  | some p =>
    rw [q] at hd
    simp only [Option.map_some, Option.some.injEq] at hd
    subst hd
    obtain ⟨v, hv, rv⟩ := KVs.get kv q
    refine ⟨⟨h2, get_lt hv⟩, fun x H' ⟨e, k, v', hk, ex⟩ => ?_⟩
    subst e ex
    rw [hv] at hk
    cases hk
    exact ⟨Ext.refl, R, rep_key _⟩
theorem walk_values {a : Addr} {od : Obj} {kvs : List (Kk × D)} {ws : List (Key × V)} (h : H a = some (.frz od (.dK ws))) (kv : KVs X.K ρ H kvs ws) : WalkOk N X.K ρ H (Itd a od ws) ⟨kvs.map fun kv => kv.2, fun _ => true⟩ := by
  intro ρ2 st2 H2 i E R _
  have h2 := E.frzd a od ws h
  refine ⟨fun d hd => ?_, fun hl => ⟨h2, by rw [← Paired.len kv]; simpa using hl⟩⟩
  rw [List.getElem?_map] at hd
  cases q : kvs[i]? with
  | none => rw [q] at hd; cases hd
  | some p =>
    rw [q] at hd
    simp only [Option.map_some, Option.some.injEq] at hd
    subst hd
    obtain ⟨v, hv, rv⟩ := KVs.get kv q
    refine ⟨⟨h2, get_lt hv⟩, fun x H' ⟨e, k, hk⟩ => ?_⟩
    subst e
    rw [hv] at hk
    cases hk
    exact ⟨Ext.refl, R, rv.ext E⟩
theorem walk_items {a : Addr} {od : Obj} {kvs : List (Kk × D)} {ws : List (Key × V)} (h : H a = some (.frz od (.dK ws))) (kv : KVs X.K ρ H kvs ws) : WalkOk N X.K ρ H (Iti a od ws) ⟨kvs.map fun kv => .tup [keyD kv.1, kv.2], fun _ => true⟩ := by
  intro ρ2 st2 H2 i E R _
  have h2 := E.frzd a od ws h
  refine ⟨fun d hd => ?_, fun hl => ⟨h2, by rw [← Paired.len kv]; simpa using hl⟩⟩
  rw [List.getElem?_map] at hd
  cases q : kvs[i]? with
  | none => rw [q] at hd; cases hd
  | some p =>
    rw [q] at hd
    simp only [Option.map_some, Option.some.injEq] at hd
    subst hd
    obtain ⟨v, hv, rv⟩ := KVs.get kv q
    refine ⟨⟨h2, get_lt hv⟩, fun x H' ⟨T, k, v', hk, ex, hT, e⟩ => ?_⟩
    subst e ex
    rw [hv] at hk
    cases hk
    exact fresh_tup R hT (.cons (rep_key _) (.cons (rv.ext E) .nil))
end
end MP

set_option Elab.async false
set_option linter.all false
set_option maxRecDepth 100000
set_option maxHeartbeats 1000000
/-! MPItOk: what a for walks, by expressions. -/
namespace MP
open PySem PySem.Spec PyProof.Rows L2 RZ

section
variable {X : Cx} {N : Nm} {P : Prog} {cf mf : Cf}
/-- a path is evaluated alike while a dict is locked -/
theorem path_lock : ∀ (e : E), pathE e = true → ∀ (fr : Fr) (st : Sto) (d : D) (st' : Sto) (n : Nat) (kvs : List (Kk × D)), st[n]? = some (.dct kvs) → evE P cf mf e fr st = .ok (d, st') → st' = st ∧ evE P cf mf e fr (st.set n (.fdc kvs)) = .ok (d, st.set n (.fdc kvs)) := by
  intro e
  induction e using E.rec (motive_2 := fun _ => True) (motive_3 := fun _ => True) (motive_4 := fun _ => True) (motive_5 := fun _ => True) (motive_6 := fun _ => True) with
  | v i =>
    intro _ fr st d st' n kvs _ h
    simp only [evE] at h ⊢
    split at h
    · rename_i q; cases h; exact ⟨rfl, rfl⟩
    · cases h
  | fld o f ih =>
    intro hp fr st d st' n kvs hn h
    simp only [evE] at h ⊢
    obtain ⟨p, e1, h⟩ := MP.R.bind_eq h
    obtain ⟨y, e2, h⟩ := MP.R.bind_eq h
    cases h
    obtain ⟨h1, h2⟩ := ih (by simpa [pathE] using hp) fr st p.1 p.2 n kvs hn (by simpa using e1)
    refine ⟨h1, ?_⟩
    rw [h2]
    have e3 := MP.R.of_eq e2
    rw [h1] at e3
    have e4 : fldF (st.set n (.fdc kvs)) p.1 f = some d := by
      revert e3
      generalize p.1 = o
      intro e3
      cases o with
      | ref m =>
        simp only [fldF] at e3 ⊢
        by_cases hm : n = m
        · subst hm; rw [hn] at e3; cases e3
        · rw [List.getElem?_set_ne hm]; exact e3
      | _ => simp [fldF] at e3
    simp [e4]
  | _ => first | trivial | (intro hp; simp [pathE] at hp)

theorem path_same : ∀ (e : E), pathE e = true → ∀ (fr : Fr) (st : Sto) (d : D) (st' : Sto), evE P cf mf e fr st = .ok (d, st') → st' = st := by
  intro e
  induction e using E.rec (motive_2 := fun _ => True) (motive_3 := fun _ => True) (motive_4 := fun _ => True) (motive_5 := fun _ => True) (motive_6 := fun _ => True) with
  | v i =>
    intro _ fr st d st' h
    simp only [evE] at h
    split at h
    · cases h; rfl
    · cases h
  | fld o f ih =>
    intro hp fr st d st' h
    simp only [evE] at h
    obtain ⟨p, e1, h⟩ := MP.R.bind_eq h
    obtain ⟨y, e2, h⟩ := MP.R.bind_eq h
    cases h
    exact ih (by simpa [pathE] using hp) fr st p.1 p.2 (by simpa using e1)
  | _ => first | trivial | (intro hp; simp [pathE] at hp)
/-- a dict that a path names, locked -/
theorem dict_lock {e : E} {fr : Fr} {st st2 : Sto} {H : Hp} {ρ : List Addr} {n : Nat} {kvs : List (Kk × D)} (R : Rl N X.K ρ st H) (hp : pathE e = true) (e1 : evE P cf mf e fr st = .ok (.ref n, st2)) (q : st2[n]? = some (.dct kvs)) :
    st2 = st ∧ ∃ a ws, ρ[n]? = some a ∧ H a = some (.dK ws) ∧ KVs X.K ρ H kvs ws ∧ evE P cf mf e fr (st.set n (.fdc kvs)) = .ok (.ref n, st.set n (.fdc kvs)) := by
  have es := path_same e hp _ _ _ _ e1
  subst es
  obtain ⟨a, ha, ws, h1, h2⟩ := R.ix q
  exact ⟨rfl, a, ws, ha, h1, h2, (path_lock e hp fr st2 _ _ n kvs q e1).2⟩
theorem kv_lock {H : Hp} {a : Addr} {kvs : List (Kk × D)} {ws : List (Key × V)} {ρ : List Addr} {u : HO} (h : H a = some (.dK ws)) (kv : KVs X.K ρ H kvs ws) : KVs X.K ρ (upd H a u) kvs ws :=
  pairedMap (fun _ _ z => ⟨z.1, z.2.chg ⟨by simp [h], by simp [h], by simp [h]⟩⟩) kv
theorem KVs.inj {ρ ρ' : List Addr} {H H' : Hp} {kvs : List (Kk × D)} {ws ws' : List (Key × V)} (h : KVs X.K ρ H kvs ws) : True := trivial
theorem itok_any {tg ex : Expr} {e : E} (ha : PE X ex (tR N X.K (evE P cf mf e))) : ItOk X N tg ex (evIt P cf mf (.any e)) := by
  intro ρ fr st H σ w st1 u R F h
  rw [evIt] at h
  obtain ⟨⟨d, st2⟩, e1, h⟩ := MP.R.bind_eq h
  dsimp only at h
  split at h
  · cases h
    refine .inl ⟨rfl, _, pi_tup ha, fun R' hR => ⟨ρ, fr, st, _, _, R, F, e1, fun ρ1 H1 v E1 R1 r1 => ?_⟩⟩
    cases r1 with
    | tup s r => exact ⟨_, rfl, ⟨_, s⟩, hR ρ1 H1 _ E1 R1 (walk_tup s r)⟩
  · cases h
    refine .inl ⟨rfl, _, pi_list ha, fun R' hR => ⟨ρ, fr, st, _, _, R, F, e1, fun ρ1 H1 v E1 R1 r1 => ?_⟩⟩
    cases r1 with
    | kls s r => exact ⟨_, rfl, ⟨_, s.sq⟩, hR ρ1 H1 _ E1 R1 (walk_lst (kls_stands s r))⟩
  · cases h
    refine .inl ⟨rfl, _, pi_str ha, fun R' hR => ⟨ρ, fr, st, _, _, R, F, e1, fun ρ1 H1 v E1 R1 r1 => ?_⟩⟩
    cases r1
    exact ⟨_, rfl, hR ρ1 H1 _ E1 R1 walk_str⟩
  · rename_i n
    split at h
    · rename_i ds q
      cases h
      refine .inl ⟨rfl, _, pi_list ha, fun R' hR => ⟨ρ, fr, st, _, _, R, F, e1, fun ρ1 H1 v E1 R1 r1 => ?_⟩⟩
      cases r1 with
      | @ref n a h1 =>
        obtain ⟨vs, h2, r⟩ := R1.at_ n a _ h1 q
        exact ⟨_, rfl, ⟨_, .inl (.inl h2)⟩, hR ρ1 H1 _ E1 R1 (walk_lst (lst_stands h1))⟩
    · rename_i kvs q
      split at h
      · rename_i hp
        cases h
        obtain ⟨rfl, a, ws, ha', hH, kv, e2⟩ := dict_lock R hp e1 q
        refine .inr ⟨n, a, kvs, ws, ha', q, hH, kv, rfl, rfl, _, pi_keys ha, fun od R' RL hR => ?_⟩
        refine ⟨ρ, fr, _, _, _, RL, F.chg ⟨by simp [hH], by simp [hH], by simp [hH]⟩, e2, fun ρ1 H1 v E1 R1 r1 => ?_⟩
        cases r1 with
        | @ref _ b hb =>
          have eb : b = a := by rw [E1.ix ha'] at hb; exact (Option.some.inj hb).symm
          subst eb
          have h2 := E1.frzd _ od ws upd_same
          exact ⟨b, od, rfl, .inl ⟨ws, h2, hR ρ1 H1 _ E1 R1 (walk_keys h2 ((kv_lock hH kv).ext E1))⟩⟩
      · cases h
    · cases h
  · cases h
theorem ev1 {e : E} {fr : Fr} {st st1 : Sto} {d : D} (h : evE P cf mf e fr st = .ok (d, st1)) : evEs P cf mf (.cons e .nil) fr st = .ok ([d], st1) := by simp [evEs, h]
theorem ev2 {e f : E} {fr : Fr} {st st1 st2 : Sto} {d d' : D} (h : evE P cf mf e fr st = .ok (d, st1)) (h' : evE P cf mf f fr st1 = .ok (d', st2)) : evEs P cf mf (.cons e (.cons f .nil)) fr st = .ok ([d, d'], st2) := by simp [evEs, h, h']
theorem itok_range1 {tg a : Expr} {e : E} {p pos : Pos} (hg : Gl X "range") (hm : X.mg "range" = none) (ha : PA X [a] (tRs N X.K (evEs P cf mf (.cons e .nil)))) (hs : starEach [a] X.env = [(false, eval a X.env)]) : ItOk X N tg (.Call (.Name "range" p) [a] [] pos) (evIt P cf mf (.range1 e)) := by
  intro ρ fr st H σ w st1 u R F h
  rw [evIt] at h
  obtain ⟨⟨d, st2⟩, e1, h⟩ := MP.R.bind_eq h
  dsimp only at h
  split at h
  · rename_i j
    split at h
    · rename_i hj
      cases h
      refine .inl ⟨rfl, _, pi_range1 hg hm ha hs, fun R' hR => ⟨ρ, fr, st, _, _, R, F, ev1 e1, fun ρ1 H1 v E1 R1 r1 => ?_⟩⟩
      cases r1 with
      | cons r t =>
        cases r; cases t
        exact ⟨_, rfl, hj.1, hj.2, hR ρ1 H1 _ E1 R1 walk_range⟩
    · cases h
  · cases h
theorem itok_range2 {tg a b : Expr} {e f : E} {p pos : Pos} (hg : Gl X "range") (hm : X.mg "range" = none) (ha : PA X [a, b] (tRs N X.K (evEs P cf mf (.cons e (.cons f .nil))))) (hs : starEach [a, b] X.env = [(false, eval a X.env), (false, eval b X.env)]) (hs2 : starEach [b] X.env = [(false, eval b X.env)]) :
    ItOk X N tg (.Call (.Name "range" p) [a, b] [] pos) (evIt P cf mf (.range2 e f)) := by
  intro ρ fr st H σ w st1 u R F h
  rw [evIt] at h
  obtain ⟨⟨d, st2⟩, e1, h⟩ := MP.R.bind_eq h
  obtain ⟨⟨d', st3⟩, e2, h⟩ := MP.R.bind_eq h
  dsimp only at h
  split at h
  · rename_i i j
    split at h
    · rename_i hj
      cases h
      refine .inl ⟨rfl, _, pi_range2 hg hm ha hs hs2, fun R' hR => ⟨ρ, fr, st, _, _, R, F, ev2 e1 e2, fun ρ1 H1 v E1 R1 r1 => ?_⟩⟩
      cases r1 with
      | cons r t =>
        cases t with
        | cons r' t =>
          cases r; cases r'; cases t
          exact ⟨_, _, rfl, hj, hR ρ1 H1 _ E1 R1 walk_range⟩
    · cases h
  · cases h
theorem itok_enum {a : Expr} {elts : List Expr} {kk : Nat} {tpos : Pos} {e : E} {p pos : Pos} (hg : Gl X "enumerate") (hm : X.mg "enumerate" = none) (ha : PA X [a] (tRs N X.K (evEs P cf mf (.cons e .nil)))) (hs : starEach [a] X.env = [(false, eval a X.env)]) :
    ItOk X N (.Tuple elts kk tpos) (.Call (.Name "enumerate" p) [a] [] pos) (evIt P cf mf (.enum e)) := by
  intro ρ fr st H σ w st1 u R F h
  rw [evIt] at h
  obtain ⟨⟨d, st2⟩, e1, h⟩ := MP.R.bind_eq h
  dsimp only at h
  split at h
  · rename_i ds
    cases h
    refine .inl ⟨rfl, _, pi_enum hg hm ha hs, fun R' hR => ⟨ρ, fr, st, _, _, R, F, ev1 e1, fun ρ1 H1 v E1 R1 r1 => ?_⟩⟩
    cases r1 with
    | cons r t =>
      cases t
      cases r with
      | kls s r => exact ⟨_, _, rfl, s.sq, hR ρ1 H1 _ E1 R1 (walk_enum (kls_stands s r))⟩
  · rename_i n
    split at h
    · rename_i ds q
      cases h
      refine .inl ⟨rfl, _, pi_enum hg hm ha hs, fun R' hR => ⟨ρ, fr, st, _, _, R, F, ev1 e1, fun ρ1 H1 v E1 R1 r1 => ?_⟩⟩
      cases r1 with
      | cons r t =>
        cases t
        cases r with
        | @ref n a h1 =>
          obtain ⟨vs, h2, r⟩ := R1.at_ n a _ h1 q
          exact ⟨_, _, rfl, .inl (.inl h2), hR ρ1 H1 _ E1 R1 (walk_enum (lst_stands h1))⟩
    · cases h
  · cases h
theorem itok_zip {a b : Expr} {elts : List Expr} {kk : Nat} {tpos : Pos} {e f : E} {p pos : Pos} (hg : Gl X "zip") (hm : X.mg "zip" = none) (ha : PA X [a, b] (tRs N X.K (evEs P cf mf (.cons e (.cons f .nil)))))
    (hs : starEach [a, b] X.env = [(false, eval a X.env), (false, eval b X.env)]) (hs2 : starEach [b] X.env = [(false, eval b X.env)]) :
    ItOk X N (.Tuple elts kk tpos) (.Call (.Name "zip" p) [a, b] [] pos) (evIt P cf mf (.zip e f)) := by
  intro ρ fr st H σ w st1 u R F h
  rw [evIt] at h
  obtain ⟨⟨d, st2⟩, e1, h⟩ := MP.R.bind_eq h
  obtain ⟨⟨d', st3⟩, e2, h⟩ := MP.R.bind_eq h
  dsimp only at h
  have ev := ev2 e1 e2
  split at h
  · rename_i xs ys hx hy
    cases h
    refine .inl ⟨rfl, _, pi_zipA hg hm ha (by rw [hs, hs2]) (by rw [hs2]; rfl), fun R' hR => ⟨ρ, fr, st, _, _, R, F, ev, fun ρ1 H1 v E1 R1 r1 => ?_⟩⟩
    cases r1 with
    | cons r t =>
      cases t with
      | cons r' t =>
        cases t
        obtain ⟨a1, rfl, ⟨vs, s1⟩, k1⟩ := list_stands R1 r hx
        obtain ⟨a2, rfl, ⟨us, s2⟩, k2⟩ := list_stands R1 r' hy
        refine ⟨a1, a2, vs, us, rfl, .inl ⟨s1, s2, hR ρ1 H1 _ E1 R1 (walk_zip fun ρ2 st2 H2 E2 R2 ho => ?_)⟩⟩
        simp only [Bool.and_eq_true] at ho
        exact ⟨k1 ρ2 st2 H2 E2 R2 ho.1, k2 ρ2 st2 H2 E2 R2 ho.2⟩
  · split at h
    · cases h
      refine .inl ⟨rfl, _, pi_zipA hg hm ha (by rw [hs, hs2]) (by rw [hs2]; rfl), fun R' hR => ⟨ρ, fr, st, _, _, R, F, ev, fun ρ1 H1 v E1 R1 r1 => ?_⟩⟩
      cases r1 with
      | cons r t =>
        cases t with
        | cons r' t =>
          cases t
          cases r with
          | tup s r =>
            cases r' with
            | tup s' r' => exact ⟨_, _, _, _, rfl, .inr ⟨s, s', hR ρ1 H1 _ E1 R1 (walk_zipT s r s' r')⟩⟩
    · cases h
theorem itok_rev {tg a : Expr} {e : E} {p pos : Pos} (hg : Gl X "reversed") (hm : X.mg "reversed" = none) (ha : PA X [a] (tRs N X.K (evEs P cf mf (.cons e .nil)))) (hs : starEach [a] X.env = [(false, eval a X.env)]) : ItOk X N tg (.Call (.Name "reversed" p) [a] [] pos) (evIt P cf mf (.rev e)) := by
  intro ρ fr st H σ w st1 u R F h
  rw [evIt] at h
  obtain ⟨⟨d, st2⟩, e1, h⟩ := MP.R.bind_eq h
  dsimp only at h
  split at h
  · rename_i n
    split at h
    · rename_i ds q
      cases h
      refine .inl ⟨rfl, _, pi_reversed hg hm ha hs, fun R' hR => ⟨ρ, fr, st, _, _, R, F, ev1 e1, fun ρ1 H1 v E1 R1 r1 => ?_⟩⟩
      cases r1 with
      | cons r t =>
        cases t
        cases r with
        | @ref n a h1 =>
          obtain ⟨vs, h2, r⟩ := R1.at_ n a _ h1 q
          refine ⟨_, _, rfl, .inl (.inl h2), hR ρ1 H1 _ E1 R1 ?_⟩
          rw [← r.len]
          exact walk_rev (lst_stands h1)
    · cases h
  · cases h
theorem itok_items {a : Expr} {elts : List Expr} {kk : Nat} {tpos : Pos} {e : E} {apos cpos : Pos} (ha : PE X a (tR N X.K (evE P cf mf e))) (hbase : attributeBase a "items" X.env (eval a X.env) = eval a X.env) (hline : (apos.endLine == cpos.line) = true) :
    ItOk X N (.Tuple elts kk tpos) (.Call (.Attribute a "items" apos) [] [] cpos) (evIt P cf mf (.items e)) := by
  intro ρ fr st H σ w st1 u R F h
  rw [evIt] at h
  obtain ⟨⟨d, st2⟩, e1, h⟩ := MP.R.bind_eq h
  dsimp only at h
  split at h
  · rename_i n
    split at h
    · rename_i kvs q
      split at h
      · rename_i hp
        cases h
        obtain ⟨rfl, a, ws, ha', hH, kv, e2⟩ := dict_lock R hp e1 q
        refine .inr ⟨n, a, kvs, ws, ha', q, hH, kv, rfl, rfl, _, pi_items ha hbase hline, fun od R' RL hR => ?_⟩
        refine ⟨ρ, fr, _, _, _, RL, F.chg ⟨by simp [hH], by simp [hH], by simp [hH]⟩, e2, fun ρ1 H1 v E1 R1 r1 => ?_⟩
        cases r1 with
        | @ref _ b hb =>
          have eb : b = a := by rw [E1.ix ha'] at hb; exact (Option.some.inj hb).symm
          subst eb
          have h2 := E1.frzd _ od ws upd_same
          exact ⟨b, od, ws, rfl, h2, hR ρ1 H1 _ E1 R1 (walk_items h2 ((kv_lock hH kv).ext E1))⟩
      · cases h
    · cases h
  · cases h
theorem itok_values {tg a : Expr} {e : E} {apos cpos : Pos} (ha : PE X a (tR N X.K (evE P cf mf e))) (hbase : attributeBase a "values" X.env (eval a X.env) = eval a X.env) (hline : (apos.endLine == cpos.line) = true) :
    ItOk X N tg (.Call (.Attribute a "values" apos) [] [] cpos) (evIt P cf mf (.values e)) := by
  intro ρ fr st H σ w st1 u R F h
  rw [evIt] at h
  obtain ⟨⟨d, st2⟩, e1, h⟩ := MP.R.bind_eq h
  dsimp only at h
  split at h
  · rename_i n
    split at h
    · rename_i kvs q
      split at h
      · rename_i hp
        cases h
        obtain ⟨rfl, a, ws, ha', hH, kv, e2⟩ := dict_lock R hp e1 q
        refine .inr ⟨n, a, kvs, ws, ha', q, hH, kv, rfl, rfl, _, pi_values ha hbase hline, fun od R' RL hR => ?_⟩
        refine ⟨ρ, fr, _, _, _, RL, F.chg ⟨by simp [hH], by simp [hH], by simp [hH]⟩, e2, fun ρ1 H1 v E1 R1 r1 => ?_⟩
        cases r1 with
        | @ref _ b hb =>
          have eb : b = a := by rw [E1.ix ha'] at hb; exact (Option.some.inj hb).symm
          subst eb
          have h2 := E1.frzd _ od ws upd_same
          exact ⟨b, od, ws, rfl, h2, hR ρ1 H1 _ E1 R1 (walk_values h2 ((kv_lock hH kv).ext E1))⟩
      · cases h
    · cases h
  · cases h
end
end MP

set_option Elab.async false
set_option linter.all false
set_option maxRecDepth 100000
set_option maxHeartbeats 1000000
/-! MPSet: items stored; a name set to a comprehension. -/
namespace MP
open PySem PySem.Spec PyProof.Rows L2

section
variable {X : Cx} {N : Nm} {fe fa fb : Fr → Sto → RD} {o i e : Expr}
def rAnySet (X : Cx) : TSet := fun o i v H Q => ∃ t : TSet, PSet X t ∧ t o i v H Q
theorem pset_any : PSet X (rAnySet X) := fun pins s σ H o i v ov iv u Q I r1 r2 r3 ⟨_, h, q⟩ => h pins s σ H o i v ov iv u Q I r1 r2 r3 q
def rSetD : TSet := fun o i v H Q => ∃ a H', o = .ref a ∧ DPut H a i v H' ∧ Q H'
theorem set_dict {k : Nat} (hr : Room k X.A) : PSet X rSetD := by
  intro pins s σ H o i v ov iv u Q I r1 r2 r3 ⟨a, H', e, g, q⟩
  subst e
  obtain rfl : ov = Value.ref a := r1
  exact d_setItem (by have := room65 hr; omega) I g r2 r3 fun s4 I4 => ⟨H', I4, q⟩
theorem ixN_idx {n : Nat} {k : Int} {j : Nat} (h : idxF n k = some j) : ixN n k = some j := by
  unfold idxF at h
  unfold ixN
  split at h
  · split at h
    · cases h
      simp_all
    · cases h
  · split at h
    · cases h
      simp_all
      omega
    · cases h
theorem ok_setix {k : Nat} (hr : Room k X.A) {ρ : List Addr} {st st' : Sto} {H : Hp} {x y d : D} {a b v : V} {Q : Hp → Prop} (R : Rl N X.K ρ st H) (ra : Rep X.K ρ H x a) (rb : Rep X.K ρ H y b) (rv : Rep X.K ρ H d v) (h : setIxF st x y d = some st')
    (q : ∀ H', Ext ρ H ρ H' → Rl N X.K ρ st' H' → Q H') : rAnySet X a b v H Q := by
  have hz := sz_line
  cases ra with
  | @ref n p h1 =>
    simp only [setIxF] at h
    split at h
    · rename_i xs hs
      split at h
      · rename_i k
        cases hj : idxF xs.length k with
        | none => rw [hj] at h; cases h
        | some j =>
          rw [hj] at h
          cases h
          cases rb
          obtain ⟨p', vs, e, _, h2, r⟩ := lst_at R (.ref h1) hs
          cases e
          obtain ⟨E, R2⟩ := R.put (u := .lst (vs.set j v)) (o' := .lst (xs.set j d)) h1 hs (by simp [h2]) fun keep => ⟨_, upd_same, Reps.mapR keep (r.set rv j)⟩
          exact ⟨_, set_list, p, vs, k, j, rfl, rfl, h2, by rw [← r.len]; exact ixN_idx hj, q _ E R2⟩
      · cases h
    · rename_i kvs hs
      split at h
      · rename_i k hk
        split at h
        · rename_i hl
          cases h
          obtain ⟨p', ws, e, _, h2, r⟩ := dct_at R (.ref h1) hs
          cases e
          have hlen := Paired.len r
          obtain ⟨E, R2⟩ := R.put (u := .dK (L2.putK ws (toK k) v)) (o' := .dct (MP.putK kvs k d)) h1 hs (by simp [h2]) fun keep => ⟨_, upd_same, pairedMap (fun _ _ z => ⟨z.1, keep z.2⟩) (KVs.put r rv)⟩
          refine ⟨_, set_dict hr, p, _, rfl, ?_, q _ E R2⟩
          rw [keyF_of rb hk]
          exact DPut.k h2 (by omega)
        · cases h
      · cases h
    · cases h
  | _ => simp [setIxF] at h
theorem s_setix {k : Nat} {pos pos' : Pos} (hr : Room k X.A) (ho : PE X o (tR N X.K fa)) (hi : PE X i (tR N X.K fb)) (he : PE X e (tR N X.K fe)) (hs : swapsWithSole [.Subscript o i pos'] e pos.line X.env = pure false) (hw : swappedStores [.Subscript o i pos'] e X.env = pure none)
    (hsl : ∀ v, assign (.Subscript o i pos') X.env v = (do
      let ov ← holding [v] (eval o X.env)
      let iv ← holding [v, ov] (eval i X.env)
      standAt pos'
      holding [v, ov, iv] (setItem ov iv v)
      release [v, ov, iv] [])) :
    PS X (.Assign [.Subscript o i pos'] e pos) (tS N X.K fun fr st => (fe fr st).stm fr fun p => (fa fr p.2).stm fr fun q => (fb fr q.2).stm fr fun r =>
      match setIxF r.2 q.1 r.1 p.1 with
      | some st => .nx fr st
      | none => .no) :=
  PS.imp (ps_asg he (pg_sub ho hi pset_any hsl) hs hw (by rfl)) fun D σ H ⟨ρ, fr, st, R, F, P⟩ => by
    obtain ⟨p, e1, P⟩ := P.stm
    obtain ⟨q, e2, P⟩ := P.stm
    obtain ⟨r, e3, P⟩ := P.stm
    try dsimp only at P
    split at P
    · rename_i st2 h
      refine ⟨ρ, fr, st, p.1, p.2, R, F, e1, fun ρ1 H1 v E1 R1 r1 => ⟨ρ1, fr, p.2, q.1, q.2, R1, F.ext E1, e2, fun ρ2 H2 a E2 R2 r2 => ⟨ρ2, fr, q.2, r.1, r.2, R2, (F.ext E1).ext E2, e3, fun ρ3 H3 b E3 R3 r3 => ?_⟩⟩⟩
      exact ok_setix hr R3 (r2.ext E3) r3 ((r1.ext E2).ext E3) h fun H' E R4 => P ρ3 H' σ (E1.trans (E2.trans (E3.trans E))) R4 ((((F.ext E1).ext E2).ext E3).ext E)
    · exact P.elim
end
end MP

set_option Elab.async false
set_option linter.all false
set_option maxRecDepth 100000
set_option maxHeartbeats 1000000
/-! MPKd: readings of a written dict of the module. -/
namespace MP
open PySem PySem.Spec PyProof.Rows L2

/-- the written dict of a name -/
def KdM (K : PySem.W.Frag) (w : World) (mg : Str → Option Value) (x : Str) (kvs : List (List Char × D)) : Prop := ∃ a es n, mg x = some (.ref a) ∧ KDict K w a es n ∧
  ∀ z : List Char, ∃ r, PySem.W.nsIn K a (toS z) = some r ∧ (getKk kvs z = none → r = none) ∧ ∀ d, getKk kvs z = some d → ∃ v u, r = some u ∧ RelV v u ∧ ∀ ρ H, Rep K ρ H d v
def KdOk (X : Cx) (x : Str) (kvs : List (List Char × D)) : Prop := KdM X.K X.w X.mg x kvs

section
variable {X : Cx} {N : Nm} {fb fc : Fr → Sto → RD} {b c : Expr} {x : Str} {kvs : List (List Char × D)}
theorem m_kix {p pos : Pos} (hg : Gl X x) (hd : (x == ("__debug__" : Str)) = false) (k : KdOk X x kvs) (hb : PE X b (tR N X.K fb)) (hs : PlainIx b) :
    PE X (.Subscript (.Name x p) b pos) (tR N X.K fun fr st => (fb fr st).bind fun p => match p.1 with
      | .str z => (R.of (getKk kvs z)).bind fun d => .ok (d, p.2)
      | _ => .no) := by
  obtain ⟨a, es, n, hm, D, hz⟩ := k
  refine PE.imp (pe_ix ix_kdict (pe_glob hg hm (v := .ref a) rfl hd) hb hs) fun σ H Q ⟨ρ, fr, st, d, st', R, F, e, P⟩ => ?_
  obtain ⟨q, e1, e⟩ := MP.R.bind_eq e
  refine ⟨ρ, fr, st, q.1, q.2, R, F, e1, fun ρ1 H1 y E1 R1 r1 => ?_⟩
  obtain ⟨q1, q2⟩ := q
  dsimp only at e r1 R1
  cases r1 <;> simp only [reduceCtorEq] at e
  rename_i z
  obtain ⟨d', e2, e⟩ := MP.R.bind_eq e
  cases e
  obtain ⟨r, h1, h2, h3⟩ := hz z
  obtain ⟨v, u, rfl, h4, h5⟩ := h3 d (MP.R.of_eq e2)
  exact ⟨a, toS z, v, rfl, rfl, ⟨es, n, u, D.at_, D.lit, h1, h4⟩, (P.after E1).here R1 (h5 _ _)⟩
theorem kd_some {z : List Char} {a : Addr} {r : Option Value} (h2 : getKk kvs z = none → r = none) (h3 : ∀ d, getKk kvs z = some d → ∃ v u, r = some u ∧ RelV v u ∧ ∀ ρ H, Rep X.K ρ H d v) : r.isSome = (getKk kvs z).isSome := by
  cases e : getKk kvs z with
  | none => rw [h2 e]; rfl
  | some d => obtain ⟨v, u, rfl, _⟩ := h3 d e; rfl
def kmF (kvs : List (List Char × D)) (neg : Bool) (fb : Fr → Sto → RD) : Fr → Sto → RD := fun fr st => (fb fr st).bind fun p => match p.1 with
      | .str z => .ok (.bl (if neg then !(getKk kvs z).isSome else (getKk kvs z).isSome), p.2)
      | _ => .no
theorem read_kmem {neg : Bool} {a : Addr} {r2 : R2} {σ : L2.St} {H : Hp} {Q : VK} (hz : ∀ z : List Char, ∃ r, PySem.W.nsIn X.K a (toS z) = some r ∧ (getKk kvs z = none → r = none) ∧ ∀ d, getKk kvs z = some d → ∃ v u, r = some u ∧ RelV v u ∧ ∀ ρ H, Rep X.K ρ H d v)
    (hr2 : ∀ (z : Str) (r : Option Value) (H : Hp) (Q : VK), PySem.W.nsIn X.K a z = some r → Q (.bl (if neg then !r.isSome else r.isSome)) H → r2 (.str z) (.ref a) H Q) (h : tR N X.K (kmF kvs neg fb) σ H Q) : tOp r2 (tR N X.K fb) (tC (.ref a)) σ H Q := by
  obtain ⟨ρ, fr, st, d, st', R, F, e, P⟩ := h
  unfold kmF at e
  obtain ⟨q, e1, e⟩ := MP.R.bind_eq e
  refine ⟨ρ, fr, st, q.1, q.2, R, F, e1, fun ρ1 H1 y E1 R1 r1 => ?_⟩
  obtain ⟨q1, q2⟩ := q
  dsimp only at e r1 R1
  cases r1 <;> simp only [reduceCtorEq] at e
  rename_i z
  cases e
  obtain ⟨r, h1, h2, h3⟩ := hz z
  refine hr2 _ _ _ _ h1 ?_
  rw [kd_some (a := a) h2 h3]
  exact (P.after E1).here R1 (.bl _)
theorem kop {neg : Bool} {op : CmpOp} {a : Addr} {es : Array DictEntry} {n : Nat} (ho : (neg = false ∧ op = .In) ∨ (neg = true ∧ op = .NotIn)) (D : KDict X.K X.w a es n) : ∃ r2 : R2, OpR X (compareOp op) r2 ∧ ∀ (z : Str) (r : Option Value) (H : Hp) (Q : VK), PySem.W.nsIn X.K a z = some r → Q (.bl (if neg then !r.isSome else r.isSome)) H → r2 (.str z) (.ref a) H Q := by
  rcases ho with ⟨rfl, rfl⟩ | ⟨rfl, rfl⟩
  · exact ⟨_, op_in_kd D, fun z r H Q h1 q => ⟨z, r, rfl, rfl, h1, q⟩⟩
  · exact ⟨_, op_notIn_kd D, fun z r H Q h1 q => ⟨z, r, rfl, rfl, h1, q⟩⟩
theorem m_kmem {neg : Bool} {op : CmpOp} {p pos : Pos} (ho : (neg = false ∧ op = .In) ∨ (neg = true ∧ op = .NotIn)) (hg : Gl X x) (hd : (x == ("__debug__" : Str)) = false) (k : KdOk X x kvs) (hb : PE X b (tR N X.K fb)) (hm : behindInMarks op (.Name x p) = false) :
    PE X (.Compare b [op] [.Name x p] pos) (tR N X.K (kmF kvs neg fb)) := by
  obtain ⟨a, es, n, hmg, D, hz⟩ := k
  obtain ⟨r2, h1, h2⟩ := kop ho D
  exact PE.imp (pe_cmpR h1 hb (pe_glob hg hmg (v := .ref a) rfl hd) hm) fun σ H Q h => read_kmem hz h2 h
theorem mt_kmem {neg : Bool} {op : CmpOp} {p pos : Pos} (ho : (neg = false ∧ op = .In) ∨ (neg = true ∧ op = .NotIn)) (hg : Gl X x) (hd : (x == ("__debug__" : Str)) = false) (k : KdOk X x kvs) (hb : PE X b (tR N X.K fb)) (hm : behindInMarks op (.Name x p) = false) :
    PT X (.Compare b [op] [.Name x p] pos) (tRb N X.K (tst (kmF kvs neg fb))) := by
  obtain ⟨a, es, n, hmg, D, hz⟩ := k
  obtain ⟨r2, h1, h2⟩ := kop ho D
  exact PT.imp (pt_cmpR h1 hb (pe_glob hg hmg (v := .ref a) rfl hd) hm) fun σ H Q h => read_test (fun _ h => read_kmem hz h2 h) (fun fr st d st' e => by
    unfold kmF at e
    obtain ⟨q, _, e⟩ := MP.R.bind_eq e
    split at e
    · cases e; exact ⟨_, rfl⟩
    · cases e) h
theorem m_kget {p ap pos : Pos} (hg : Gl X x) (hd : (x == ("__debug__" : Str)) = false) (k : KdOk X x kvs) (hb : PE X b (tR N X.K fb)) (hc : PE X c (tR N X.K fc)) (m : M2 X (.Name x p) "get" ap b c pos) :
    PE X (.Call (.Attribute (.Name x p) "get" ap) [b, c] [] pos) (tR N X.K fun fr st => (fb fr st).bind fun p => (fc fr p.2).bind fun q => match p.1 with
      | .str z => .ok ((getKk kvs z).getD q.1, q.2)
      | _ => .no) := by
  obtain ⟨a, es, n, hmg, D, hz⟩ := k
  refine ⟨fun pins s σ H Q I ⟨ρ, fr, st, d, st', R, F, e, P⟩ => ?_⟩
  refine wpAny_Call_method m.base m.few m.line PySem.F.plainAttrs_dict PySem.F.slot_dict_get PySem.F.type_dict_get (thn ((pe_glob hg hmg (v := .ref a) rfl hd).run pins s σ H (fun v H2 => v = .ref a ∧ H2 = H) I ⟨rfl, rfl⟩) fun u s1 ⟨y, H1, I1, rx, ey, eh⟩ => ?_)
  subst ey
  subst eh
  obtain rfl : u = Value.ref a := rx
  obtain ⟨q, e1, e⟩ := MP.R.bind_eq e
  obtain ⟨q', e2, e⟩ := MP.R.bind_eq e
  have mo := PySem.W.mapOf_K (prog := X.prog) (w := X.w) I1.kIn D.at_ D.lit
  refine ⟨mo.typeIs, fun b hb => ?_, ?_⟩
  · cases hb
    exact ⟨_, I1.kIn _ _ D.at_, rfl⟩
  rw [m.trees]
  refine Calls.callWith_builtin rfl (Calls.evalArgs_plain (Calls.spliced_cons (thn (hb.run pins s1 σ _ (fun y H2 => ∃ ρ1, Ext ρ H1 ρ1 H2 ∧ Rl N X.K ρ1 q.2 H2 ∧ Rep X.K ρ1 H2 q.1 y) I1 ⟨ρ, fr, st, q.1, q.2, R, F, e1, fun ρ1 H1 y E1 R1 r1 => ⟨ρ1, E1, R1, r1⟩⟩) fun iv s2 ⟨y, H2, I2, ry, ρ1, E1, R1, r1⟩ => ?_)))
  refine Calls.spliced_cons (thn (hc.run pins s2 σ H2 (fun y H3 => ∃ ρ2, Ext ρ1 H2 ρ2 H3 ∧ Rl N X.K ρ2 q'.2 H3 ∧ Rep X.K ρ2 H3 q'.1 y) I2 ⟨ρ1, fr, q.2, q'.1, q'.2, R1, F.ext E1, e2, fun ρ2 H3 y E2 R2 r2 => ⟨ρ2, E2, R2, r2⟩⟩) fun fv s3 ⟨z, H3, I3, rz, ρ2, E2, R2, r2⟩ => Calls.spliced_nil ?_)
  obtain ⟨q1, q2⟩ := q
  dsimp only at e r1 R1
  cases r1 <;> simp only [reduceCtorEq] at e
  rename_i zz _ _
  cases e
  obtain ⟨t, rfl⟩ := (show ∃ t, iv = Value.str (toS zz) t from ry)
  have mo3 := PySem.W.mapOf_K (prog := X.prog) (w := X.w) I3.kIn D.at_ D.lit
  refine call_meetsIn PySem.F.slot_dict_get mo3.typeIs PySem.F.entry_dict_get (PySem.F.args_dict_get_3 _ _ _) (meets_dict_get_default (PySem.strKind X.prog X.w) a (PySem.strKind_is X.prog X.w (toS zz) t) D.low fv) ⟨_, mo3, ?_⟩
  obtain ⟨r, h1, h2, h3⟩ := hz zz
  rw [PySem.W.find_K D.at_ h1]
  cases eg : getKk kvs zz with
  | none =>
    rw [h2 eg]
    rw [eg] at P
    exact ⟨z, H3, I3.tok _, rz, ((P.after E1).after E2).here R2 r2⟩
  | some d =>
    obtain ⟨v, u, rfl, h4, h5⟩ := h3 d eg
    rw [eg] at P
    exact ⟨v, H3, I3.tok _, h4, ((P.after E1).after E2).here R2 (h5 _ _)⟩
end
end MP

set_option Elab.async false
set_option linter.all false
set_option maxRecDepth 100000
set_option maxHeartbeats 1000000
/-! MPChk0: a test that an interpreter's text reads a def's body. -/
namespace MP
open PySem PySem.Spec PyProof.Rows L2

/-- what stands in the program's globals: defs (by number: their global names, their defaults), classes (by number: the name, the number of the def that makes, its defaults), constants, built-in names that are not bound -/
structure Tab where
  fns : List (List Str × List D)
  cls : List (Str × Nat × List D)
  con : List (Str × D)
  kds : List (Str × List (List Char × D))
  free : List Str
  flds : List Str
  mths : List Str

def glB (sc : Scope) (x : Str) : Bool := match sc.names.lookup x with | some .globalImplicit => true | _ => false
def visB (sc : Scope) (x : Str) : Bool := match sc.names.lookup x with | some .local => true | some .cell => true | some .free => true | _ => false
def locB (sc : Scope) (cl : List Str) (x : Str) : Bool := match sc.names.lookup x with | some .local => true | some .cell => decide (x ∈ cl) | _ => false
def dbgB (x : Str) : Bool := !(x == ("__debug__" : Str)) && !(x == ("__classdict__" : Str)) && !(x == ("__name__" : Str))
def starB : Expr → Bool | .Starred .. => false | _ => true
def sliceB : Expr → Bool | .Slice .. => false | _ => true
def setB : Expr → Bool | .Set .. => false | _ => true
def baseB : Expr → Bool | .Call (.Name ..) [] [] _ => false | _ => true
def compB : Expr → Bool | .ListComp .. => false | .SetComp .. => false | .DictComp .. => false | _ => true
def seqTB : Expr → Bool | .Tuple .. => false | .List .. => false | _ => true
def opB : Op → Operator → Bool
  | .add, .Add => true | .sub, .Sub => true | .mul, .Mult => true | .mod, .Mod => true | .fdiv, .FloorDiv => true | .modN, .Mod => true | .fdivN, .FloorDiv => true | .pow, .Pow => true | _, _ => false
def cmpB : Op → CmpOp → Bool
  | .eq, .Eq => true | .ne, .NotEq => true | .lt, .Lt => true | .le, .LtE => true | .gt, .Gt => true | .ge, .GtE => true | .mem, .In => true | .nmem, .NotIn => true | _, _ => false
def biN : Bi → Str
  | .len => "len" | .int => "int" | .str => "str" | .tuple => "tuple" | .list => "list" | .max2 => "max" | .min2 => "min" | .abs => "abs" | .ord => "ord" | .sum => "sum" | .maxl => "max" | .minl => "min" | .any => "any" | .all => "all" | .sorted => "sorted" | .dict => "dict" | .lenset => "?"
def bmN : Bm → Str
  | .append => "append" | .pop => "pop" | .extend => "extend" | .clear => "clear" | .reverse => "reverse" | .remove => "remove" | .find => "find" | .startswith => "startswith" | .partition => "partition" | .split => "split" | .join => "join" | .get => "get" | _ => "?"
def bmNew : Bm → Bool | .append => true | .pop => true | .extend => true | .clear => true | .reverse => true | .remove => true | .find => true | .startswith => true | .partition => true | .split => true | .join => true | .get => true | _ => false
def tyN : Ty → Option Str
  | .int => some "int" | .bool => some "bool" | .str => some "str" | .tuple => some "tuple" | .list => some "list" | .dict => some "dict" | .cls _ => none
def freeB (T : Tab) (sc : Scope) (x : Str) : Bool := glB sc x && decide (x ∈ T.free) && dbgB x
def conB (T : Tab) (sc : Scope) (d : D) : Expr → Bool
  | .Constant (.int i) _ _ => (match d with | .int j => decide (j = i) | _ => false)
  | .Constant (.bool b) _ _ => (match d with | .bl c => decide (c = b) | _ => false)
  | .Constant .none _ _ => (match d with | .non => true | _ => false)
  | .Constant (.str x) _ _ => (match d with | .str y => decide (toS y = x) | _ => false)
  | .Name x _ => glB sc x && dbgB x && (match T.con.lookup x with | some e => D.beq e d | none => false)
  | _ => false
def kdEq : List (List Char × D) → List (List Char × D) → Bool
  | [], [] => true
  | (x, d) :: r, (y, e) :: s => decide (x = y) && (D.beq d e && kdEq r s)
  | _, _ => false
theorem kdEq_eq : ∀ {a b : List (List Char × D)}, kdEq a b = true → a = b
  | [], [], _ => rfl
  | [], _ :: _, h => by cases h
  | _ :: _, [], h => by cases h
  | (x, d) :: r, (y, e) :: s, h => by
    rw [kdEq, Bool.and_eq_true, Bool.and_eq_true, decide_eq_true_eq] at h
    rw [h.1, D.beq_eq h.2.1, kdEq_eq h.2.2]
/-- a written dict of the globals -/
def kdsB (T : Tab) (sc : Scope) (x : Str) (kvs : List (List Char × D)) : Bool := glB sc x && (dbgB x && (match T.kds.lookup x with | some e => kdEq e kvs | none => false))
/-- the last of dfl are ds -/
def dflB (dfl ds : List D) : Bool := decide (ds.length ≤ dfl.length) && D.beqs (dfl.drop (dfl.length - ds.length)) ds
def cellsB (sc : Scope) : List Str := sc.names.filterMap fun y => match y.2 with | .cell => some y.1 | _ => none
def ownL (sl : List Str) (own : List Nat) : List (Str × Nat) := own.map fun i => ((sl[i]?).getD Str.empty, i)

section
variable (T : Tab) (sl : List Str)
mutual
def kTg : Tg → Scope → List Str → Expr → Bool
  | .v i, sc, cl, e => match e with
    | .Name x _ => decide (sl[i]? = some x) && locB sc cl x
    | _ => false
  | .tup ts, sc, cl, e => match e with
    | .Tuple es _ _ => kTgs ts sc cl es
    | _ => false
def kTgs : Tgs → Scope → List Str → List Expr → Bool
  | .nil, _, _, es => match es with | [] => true | _ => false
  | .cons t r, sc, cl, es => match es with
    | e :: es => starB e && kTg t sc cl e && kTgs r sc cl es
    | [] => false
end
mutual
def kE : E → Scope → Expr → Bool
  | .v i, sc, e => match e with
    | .Name x _ => decide (sl[i]? = some x) && visB sc x && dbgB x
    | _ => false
  | .c d, sc, e => conB T sc d e
  | .op o a b, sc, e => match e with
    | .BinOp l p r _ => opB o p && kE a sc l && kE b sc r
    | .Compare l [p] [r] _ => cmpB o p && !behindInMarks p r && kE a sc l && kE b sc r
    | _ => false
  | .neg a, sc, e => match e with
    | .UnaryOp .USub x _ => kE a sc x
    | _ => false
  | .not a, sc, e => match e with
    | .UnaryOp .Not x _ => kE a sc x
    | _ => false
  | .and a b, sc, e => match e with
    | .BoolOp .And (x :: y :: r) pos => kE a sc x && (match r with | [] => kE b sc y | _ => kE b sc (.BoolOp .And (y :: r) pos))
    | _ => false
  | .or a b, sc, e => match e with
    | .BoolOp .Or (x :: y :: r) pos => kE a sc x && (match r with | [] => kE b sc y | _ => kE b sc (.BoolOp .Or (y :: r) pos))
    | _ => false
  | .ife c a b, sc, e => match e with
    | .IfExp x y z _ => kE c sc x && kE a sc y && kE b sc z
    | _ => false
  | .chain o o' a b c, sc, e => match e with
    | .Compare x [p, q] [y, z] _ => cmpB o p && cmpB o' q && !lastMarks [p, q] [y, z] && kE a sc x && kE b sc y && kE c sc z
    | _ => false
  | .isN a, sc, e => match e with
    | .Compare x [.Is] [.Constant .none _ _] _ => kE a sc x
    | _ => false
  | .notN a, sc, e => match e with
    | .Compare x [.IsNot] [.Constant .none _ _] _ => kE a sc x
    | _ => false
  | .isB a neg b, sc, e => match e with
    | .Compare x [.Is] [.Constant (.bool c) _ _] _ => !neg && (c == b) && kE a sc x
    | .Compare x [.IsNot] [.Constant (.bool c) _ _] _ => neg && (c == b) && kE a sc x
    | _ => false
  | .tup es, sc, e => match e with
    | .Tuple xs _ _ => kEs es sc xs
    | _ => false
  | .lst es, sc, e => match e with
    | .List xs _ => kEs es sc xs
    | _ => false
  | .dic es, sc, e => match e with
    | .Dict ks vs _ => kPs es sc ks vs && decide (ks.length ≤ 15)
    | _ => false
  | .call f es ds, sc, e => match e with
    | .Call (.Name x _) as [] _ => glB sc x && dbgB x && kEs es sc as && (match T.fns[f]? with | some q => decide (x ∈ q.1) && dflB q.2 ds | none => false)
    | _ => false
  | .make c f es ds, sc, e => match e with
    | .Call (.Name x _) as [] _ => glB sc x && dbgB x && kEs es sc as && (match T.cls[c]? with | some q => decide (x = q.1) && decide (q.2.1 = f) && dflB q.2.2 ds | none => false)
    | _ => false
  | .meth m o es, sc, e => match e with
    | .Call (.Attribute x n ap) as [] p => baseB x && kE o sc x && kEs es sc as && decide (T.mths[m]? = some n) && (ap.endLine == p.line) && decide (as.length < 30)
    | _ => false
  | .fld o f, sc, e => match e with
    | .Attribute x n _ => baseB x && kE o sc x && decide (T.flds[f]? = some n)
    | _ => false
  | .ix a b, sc, e => match e with
    | .Subscript x y _ => sliceB y && kE a sc x && kE b sc y
    | _ => false
  | .sl a lo hi, sc, e => match e with
    | .Subscript x (.Slice l h none _) _ => kE a sc x && kEo lo sc l && kEo hi sc h
    | _ => false
  | .bi b es, sc, e => match e with
    | .Call (.Name x _) (a :: as) [] _ => decide (x = biN b) && freeB T sc x && (match b with | .lenset => false | _ => true) && kEs es sc (a :: as)
    | _ => false
  | .isi a t, sc, e => match e with
    | .Call (.Name x _) [y, .Name z _] [] _ => decide (x = ("isinstance" : Str)) && freeB T sc x && decide (tyN t = some z) && freeB T sc z && starB y && kE a sc y
    | _ => false
  | .bm m o es, sc, e => match e with
    | .Call (.Attribute x n ap) as [] p => bmNew m && decide (n = bmN m) && baseB x && kE o sc x && kEs es sc as && (ap.endLine == p.line) && decide (as.length < 30)
    | _ => false
  | .lc tg it ifs elt own, sc, e => match e with
    | .ListComp x [⟨t, i, fs, 0⟩] scope _ => kIt it sc t i && setB i && blkC sl sc scope (ownL sl own) && (slotsT tg).all (fun j => decide (j ∈ own)) && kTg sl tg (relS scope sc) (cellsB scope) t && kIfs ifs (relS scope sc) fs && kE elt (relS scope sc) x
    | _ => false
  | .kix kvs k, sc, e => match e with
    | .Subscript (.Name x _) y _ => kdsB T sc x kvs && (sliceB y && kE k sc y)
    | _ => false
  | .kget kvs k d, sc, e => match e with
    | .Call (.Attribute (.Name x _) n ap) [y, z] [] p => kdsB T sc x kvs && (decide (n = ("get" : Str)) && ((ap.endLine == p.line) && (starB y && (starB z && (kE k sc y && kE d sc z)))))
    | _ => false
  | .kmem kvs neg k, sc, e => match e with
    | .Compare y [.In] [.Name x np] _ => kdsB T sc x kvs && (!neg && (!behindInMarks .In (.Name x np) && kE k sc y))
    | .Compare y [.NotIn] [.Name x np] _ => kdsB T sc x kvs && (neg && (!behindInMarks .NotIn (.Name x np) && kE k sc y))
    | _ => false
def kEs : Es → Scope → List Expr → Bool
  | .nil, _, es => match es with | [] => true | _ => false
  | .cons e r, sc, es => match es with
    | x :: xs => starB x && kE e sc x && kEs r sc xs
    | [] => false
/-- at most one if -/
def kIfs : Es → Scope → List Expr → Bool
  | .nil, _, es => match es with | [] => true | _ => false
  | .cons e r, sc, es => match es with
    | [x] => kE e sc x && (match r with | .nil => true | _ => false)
    | _ => false
def kPs : Es → Scope → List (Option Expr) → List Expr → Bool
  | .nil, _, ks, vs => match ks, vs with | [], [] => true | _, _ => false
  | .cons k r, sc, ks, vs => match ks, vs with
    | some x :: ks, y :: vs => kE k sc x && (match r with
      | .cons v r => kE v sc y && kPs r sc ks vs
      | .nil => false)
    | _, _ => false
def kEo : Eo → Scope → Option Expr → Bool
  | .no, _, o => match o with | none => true | _ => false
  | .so e, sc, o => match o with | some x => kE e sc x | none => false
def kIt : It → Scope → Expr → Expr → Bool
  | .any e, sc, _, x => kE e sc x
  | .range1 e, sc, _, x => match x with
    | .Call (.Name n _) [a] [] _ => decide (n = ("range" : Str)) && freeB T sc n && starB a && kE e sc a
    | _ => false
  | .range2 e f, sc, _, x => match x with
    | .Call (.Name n _) [a, b] [] _ => decide (n = ("range" : Str)) && freeB T sc n && starB a && starB b && kE e sc a && kE f sc b
    | _ => false
  | .enum e, sc, t, x => match t with
    | .Tuple .. => match x with
      | .Call (.Name n _) [a] [] _ => decide (n = ("enumerate" : Str)) && freeB T sc n && starB a && kE e sc a
      | _ => false
    | _ => false
  | .zip e f, sc, t, x => match t with
    | .Tuple .. => match x with
      | .Call (.Name n _) [a, b] [] _ => decide (n = ("zip" : Str)) && freeB T sc n && starB a && starB b && kE e sc a && kE f sc b
      | _ => false
    | _ => false
  | .items e, sc, t, x => match t with
    | .Tuple .. => match x with
      | .Call (.Attribute a n ap) [] [] p => decide (n = ("items" : Str)) && baseB a && (ap.endLine == p.line) && kE e sc a
      | _ => false
    | _ => false
  | .values e, sc, _, x => match x with
    | .Call (.Attribute a n ap) [] [] p => decide (n = ("values" : Str)) && baseB a && (ap.endLine == p.line) && kE e sc a
    | _ => false
  | .rev e, sc, _, x => match x with
    | .Call (.Name n _) [a] [] _ => decide (n = ("reversed" : Str)) && freeB T sc n && starB a && kE e sc a
    | _ => false
end
/-- a name set to a comprehension on one line -/
def swapB (sc : Scope) (tg v : Expr) (line : Nat) : Bool := match tg, v with
  | .Name x p, .ListComp _ _ s vp => p.line == vp.line && (match sc.names.lookup x with | some .local => true | _ => false) && !(s.names.any fun y => y.1 == x && (y.2 == .local || y.2 == .cell))
  | _, _ => false
mutual
def kS : S → Scope → List Str → Stmt → Bool
  | .set t e, sc, cl, s => match s with
    | .Assign [tg] v p => (seqTB tg || seqTB v) && (compB v || swapB sc tg v p.line) && kTg sl t sc cl tg && kE T sl e sc v
    | _ => false
  | .setix o i e, sc, _, s => match s with
    | .Assign [.Subscript a b _] v _ => sliceB b && kE T sl o sc a && kE T sl i sc b && kE T sl e sc v
    | _ => false
  | .setfld o f e, sc, _, s => match s with
    | .Assign [.Attribute a n _] v _ => decide (T.flds[f]? = some n) && kE T sl o sc a && kE T sl e sc v
    | _ => false
  | .augfld o f e, sc, _, s => match s with
    | .AugAssign (.Attribute a n _) .Add v _ => decide (T.flds[f]? = some n) && kE T sl o sc a && kE T sl e sc v
    | _ => false
  | .ex e, sc, _, s => match s with
    | .Expr v _ => compB v && kE T sl e sc v
    | _ => false
  | .ret e, sc, _, s => match s with
    | .Return (some v) _ => kE T sl e sc v
    | _ => false
  | .retn, _, _, s => match s with
    | .Return none _ => true
    | _ => false
  | .ife c a b, sc, cl, s => match s with
    | .If x p q _ => kE T sl c sc x && kSs a sc cl p && kSs b sc cl q
    | _ => false
  | .forr t it b, sc, cl, s => match s with
    | .For tg i body [] _ => kIt T sl it sc tg i && setB i && kTg sl t sc cl tg && kSs b sc cl body
    | _ => false
  | .whl c b, sc, cl, s => match s with
    | .While x body [] _ => kE T sl c sc x && kSs b sc cl body
    | _ => false
  | .pass, _, _, s => match s with
    | .Pass _ => true
    | _ => false
  | .raise _, _, _, _ => false
  | .nev, _, _, _ => true
def kSs : Ss → Scope → List Str → List Stmt → Bool
  | .nil, _, _, ss => match ss with | [] => true | _ => false
  | .cons s r, sc, cl, ss => match ss with
    | x :: xs => kS s sc cl x && kSs r sc cl xs
    | [] => false
end
end
end MP

set_option Elab.async false
set_option linter.all false
set_option maxRecDepth 100000
set_option maxHeartbeats 1000000
/-! MPChk1: what the test asks of an expression's form; the context. -/
namespace MP
open PySem PySem.Spec PyProof.Rows L2

/-- the context of a def's body, or of a comprehension in it -/
structure GX (T : Tab) (N : Nm) (P : Prog) (n : Nat) (sl : List Str) (X : Cx) : Prop where
  nm : X.N = sl
  nd : sl.Nodup
  calm : X.calm = true
  kd : X.env.scope.kind = .function
  room : Room (n + 1) X.A
  fns : ∀ f q, T.fns[f]? = some q → ∃ a, FnG X N (callF P n) (n + 1) f q.2 a ∧ ∀ x ∈ q.1, X.mg x = some (.ref a)
  cls : ∀ c x id dfl, T.cls[c]? = some (x, id, dfl) → ∃ C a, N.cls c = some C ∧ X.mg x = some (.ref C) ∧ Mk X.K C a ∧ FnG X N (makeF P n) n id dfl a
  con : ∀ x d, T.con.lookup x = some d → ∃ v u, X.mg x = some u ∧ RelV v u ∧ ∀ ρ H, Rep X.K ρ H d v
  kds : ∀ x kvs, T.kds.lookup x = some kvs → KdOk X x kvs
  free : ∀ x ∈ T.free, X.mg x = none
  meth : ClG X N P (callF P n) (n + 1) T.mths
  fld : N.fld = T.flds

section
variable {T : Tab} {N : Nm} {P : Prog} {n : Nat} {sl : List Str} {X : Cx}
theorem FnG.to {X' : Cx} {cf : Cf} {k id : Nat} {dfl : List D} {f : Addr} (h : FnG X N cf k id dfl f) (e1 : X'.prog = X.prog) (e2 : X'.w = X.w) (e3 : X'.K = X.K) (e4 : X'.mg = X.mg) (e5 : X'.base = X.base) : FnG X' N cf k id dfl f := by
  obtain ⟨h1, h2⟩ := h
  refine ⟨?_, by rw [e3]; exact h2⟩
  rw [e1, e2, e3, e4, e5]
  exact h1
theorem ClG.to {X' : Cx} {cf : Cf} {k : Nat} {mths : List Str} (h : ClG X N P cf k mths) (e1 : X'.prog = X.prog) (e2 : X'.w = X.w) (e3 : X'.K = X.K) (e4 : X'.mg = X.mg) (e5 : X'.base = X.base) : ClG X' N P cf k mths := by
  refine ⟨by rw [e3]; exact h.cl, by rw [e3]; exact h.no, h.nd, h.tot, fun c C hc m x id dfl h1 h2 => ?_⟩
  obtain ⟨h3, f, h4, h5⟩ := h.me c C hc m x id dfl h1 h2
  exact ⟨h3, f, by rw [e3]; exact h4, h5.to e1 e2 e3 e4 e5⟩
theorem GX.blk (g : GX T N P n sl X) (s : Shared) (H : Hp) (scope : Scope) (C : Addr) (cl : List (Str × Addr)) (fp : List Addr) (hk : scope.kind = .function) : GX T N P n sl (X.blk s H scope (compEnvC scope cl C X.env) fp) where
  nm := g.nm
  nd := g.nd
  calm := g.calm
  kd := hk
  room := g.room
  fns := fun f q h => let ⟨a, h1, h2⟩ := g.fns f q h; ⟨a, h1.to rfl rfl rfl rfl rfl, h2⟩
  cls := fun c x id dfl h => let ⟨C, a, h1, h2, h3, h4⟩ := g.cls c x id dfl h; ⟨C, a, h1, h2, h3, h4.to rfl rfl rfl rfl rfl⟩
  con := g.con
  kds := g.kds
  free := g.free
  meth := g.meth.to rfl rfl rfl rfl rfl
  fld := g.fld

/-! ### forms -/
theorem star_cons {a : Expr} {es : List Expr} {env : Env} (h : starB a = true) : starEach (a :: es) env = (false, eval a env) :: starEach es env := by
  cases a <;> first | rfl | exact absurd h (by simp [starB])
theorem star_any {env : Env} {pos : Pos} : ∀ {es : List Expr}, (∀ a ∈ es, starB a = true) → (backTo pos (starEach es env)).any (·.1) = false
  | [], _ => rfl
  | a :: es, h => by
    rw [star_cons (h a List.mem_cons_self)]
    show (false || (backTo pos (starEach es env)).any (·.1)) = false
    rw [star_any fun b hb => h b (List.mem_cons_of_mem _ hb)]
    rfl
theorem star_all {env : Env} {pos : Pos} : ∀ {es : List Expr}, (∀ a ∈ es, starB a = true) → (backTo pos (starEach es env)).all (fun x => !x.1) = true
  | [], _ => rfl
  | a :: es, h => by
    rw [star_cons (h a List.mem_cons_self)]
    show (true && (backTo pos (starEach es env)).all (fun x => !x.1)) = true
    rw [star_all fun b hb => h b (List.mem_cons_of_mem _ hb)]
    rfl
theorem base_ok {a : Expr} {x : Str} {env : Env} (h : baseB a = true) : attributeBase a x env (eval a env) = eval a env := by
  cases a with
  | Call f as ks p =>
    cases f with
    | Name id p2 =>
      cases as with
      | nil =>
        cases ks with
        | nil => exact absurd h (by simp [baseB])
        | cons => rfl
      | cons => rfl
    | _ => rfl
  | _ => rfl
theorem slice_ok {b : Expr} (h : sliceB b = true) : PlainIx b := by
  intro o i
  cases b <;> first | rfl | exact absurd h (by simp [sliceB])
theorem set_ok {a : Expr} {env : Env} (h : setB a = true) : ∀ x, foldedSetIterable a env x = pure x := by
  intro x
  cases a <;> first | rfl | exact absurd h (by simp [setB])
theorem comp_ok {v : Expr} {tg : Option Expr} {l : Nat} {env : Env} (h : compB v = true) : swapsWith v tg l env = pure false := by
  cases v <;> first | rfl | exact absurd h (by simp [compB])
theorem seqT_ok {tg v : Expr} {env : Env} (h : (seqTB tg || seqTB v) = true) : swappedStores [tg] v env = pure none := by
  rw [Bool.or_eq_true] at h
  rcases h with h | h
  · cases tg <;> first | rfl | exact absurd h (by simp [seqTB])
  · cases v with
    | Tuple => exact absurd h (by simp [seqTB])
    | _ => cases tg <;> rfl
theorem meth_eval {a e : Expr} {es : List Expr} {x : Str} {apos pos : Pos} {env : Env} (hb : baseB a = true) (hl : (apos.endLine == pos.line) = true) (hs : ∀ y ∈ e :: es, starB y = true) (hn : (e :: es).length < 30) :
    eval (.Call (.Attribute a x apos) (e :: es) [] pos) env = (do
      let ov ← eval a env
      standAt apos.atName
      let (f, first) ← holding [ov] (getMethod ov x (do return (← importBound a env).getD true))
      callWith pos f first (backTo pos (starEach (e :: es) env)) (backToKw pos (keywordEach [] env))) := by
  have hform : methodCallForm ((e :: es).length + ([] : List Keyword).length) (backTo pos (starEach (e :: es) env)) (backToKw pos (keywordEach [] env)) = true := by
    show ((backTo pos (starEach (e :: es) env)).all (fun x => !x.1) && true && decide ((e :: es).length + 0 + 0 < 30)) = true
    rw [star_all hs]
    simpa using hn
  have hpos : methodCallPos true a env apos pos = pure pos := by unfold methodCallPos; simp [hl]
  rw [arm_eval_Call, base_ok hb]
  unfold methodCall
  rw [hform, hpos]
  rfl
theorem meth_eval0 {a : Expr} {x : Str} {apos pos : Pos} {env : Env} (hb : baseB a = true) (hl : (apos.endLine == pos.line) = true) :
    eval (.Call (.Attribute a x apos) [] [] pos) env = (do
      let ov ← eval a env
      standAt apos.atName
      let (f, first) ← holding [ov] (getMethod ov x (do return (← importBound a env).getD true))
      callWith pos f first (backTo pos (starEach [] env)) (backToKw pos (keywordEach [] env))) := by
  have hform : methodCallForm (([] : List Expr).length + ([] : List Keyword).length) (backTo pos (starEach [] env)) (backToKw pos (keywordEach [] env)) = true := rfl
  have hpos : methodCallPos true a env apos pos = pure pos := by unfold methodCallPos; simp [hl]
  rw [arm_eval_Call, base_ok hb]
  unfold methodCall
  rw [hform, hpos]
  rfl

/-! ### names -/
theorem gl_ok {sc : Scope} {x : Str} (e : X.env.scope = sc) (h : glB sc x = true) : Gl X x := by
  show X.env.scope.names.lookup x = _
  rw [e]
  unfold glB at h
  split at h
  · assumption
  · exact absurd h (by decide)
theorem vis_ok {sc : Scope} {x : Str} (e : X.env.scope = sc) (h : visB sc x = true) : Vis X.env.scope x := by
  rw [e]
  unfold visB at h
  unfold Vis
  split at h <;> simp_all
theorem dbg_ok {x : Str} (h : dbgB x = true) : (x == ("__debug__" : Str)) = false ∧ (x == ("__classdict__" : Str)) = false ∧ x ≠ "__name__" := by
  unfold dbgB at h
  simp only [Bool.and_eq_true, Bool.not_eq_true'] at h
  exact ⟨h.1.1, h.1.2, fun e => by rw [e] at h; exact absurd h.2 (by decide)⟩
theorem loc_ok {sc : Scope} {cl : List Str} {x : Str} (e : X.env.scope = sc) (hf : ∀ y ∈ cl, X.fn y = true) (h : locB sc cl x = true) : Loc X.env.scope x ∧ (X.fn x = true ∨ X.env.scope.names.lookup x = some .local) := by
  unfold locB at h
  rw [e]
  split at h
  · rename_i q; exact ⟨.inl q, .inr q⟩
  · rename_i q; exact ⟨.inr q, .inl (hf x (by simpa using h))⟩
  · exact absurd h (by decide)
theorem free_ok (g : GX T N P n sl X) {sc : Scope} {x : Str} (e : X.env.scope = sc) (h : freeB T sc x = true) : Gl X x ∧ X.mg x = none ∧ (x == ("__debug__" : Str)) = false ∧ x ≠ "__name__" := by
  unfold freeB at h
  simp only [Bool.and_eq_true, decide_eq_true_eq] at h
  exact ⟨gl_ok e h.1.1, g.free x h.1.2, (dbg_ok h.2).1, (dbg_ok h.2).2.2⟩

theorem con_ok (g : GX T N P n sl X) {sc : Scope} {d : D} {e : Expr} (es : X.env.scope = sc) (h : conB T sc d e = true) : PE X e (tR N X.K fun _ st => .ok (d, st)) := by
  unfold conB at h
  split at h
  · split at h
    · rw [decide_eq_true_eq] at h; subst h; exact m_const pe_int fun _ _ => .int _
    · exact absurd h (by decide)
  · split at h
    · rw [decide_eq_true_eq] at h; subst h; exact m_const pe_bl fun _ _ => .bl _
    · exact absurd h (by decide)
  · split at h
    · exact m_const pe_non fun _ _ => .non
    · exact absurd h (by decide)
  · split at h
    · rw [decide_eq_true_eq] at h; subst h; exact m_const pe_str fun _ _ => .str _
    · exact absurd h (by decide)
  · rename_i x pos
    simp only [Bool.and_eq_true] at h
    obtain ⟨⟨h1, h2⟩, h3⟩ := h
    split at h3
    · rename_i e2 hl
      obtain rfl := D.beq_eq h3
      obtain ⟨v, u, a1, a2, a3⟩ := g.con x _ hl
      exact m_const (pe_glob (gl_ok es h1) a1 a2 (dbg_ok h2).1) a3
    · exact absurd h3 (by decide)
  · exact absurd h (by decide)
theorem kds_ok (g : GX T N P n sl X) {sc : Scope} {x : Str} {kvs : List (List Char × D)} (es : X.env.scope = sc) (h : kdsB T sc x kvs = true) : Gl X x ∧ (x == ("__debug__" : Str)) = false ∧ KdOk X x kvs := by
  unfold kdsB at h
  simp only [Bool.and_eq_true] at h
  obtain ⟨h1, h2, h3⟩ := h
  split at h3
  · rename_i e2 hl
    obtain rfl := kdEq_eq h3
    exact ⟨gl_ok es h1, (dbg_ok h2).1, g.kds x _ hl⟩
  · exact absurd h3 (by decide)
theorem dfl_ok {dfl ds : List D} (h : dflB dfl ds = true) : ∃ j, j ≤ dfl.length ∧ ds = dfl.drop j := by
  unfold dflB at h
  simp only [Bool.and_eq_true, decide_eq_true_eq] at h
  exact ⟨_, by omega, (D.beqs_eq h.2).symm⟩

/-! ### targets -/
mutual
theorem kTg_ok {sc : Scope} {cl : List Str} (g : GX T N P n sl X) (e : X.env.scope = sc) (hf : ∀ y ∈ cl, X.fn y = true) : ∀ (t : Tg) (ast : Expr), kTg sl t sc cl ast = true → PG X ast (gT X.K t)
  | .v i, ast, h => by
    cases ast <;> simp only [kTg, Bool.false_eq_true, Bool.and_eq_true, decide_eq_true_eq] at h
    obtain ⟨h1, h2⟩ := loc_ok e hf h.2
    exact pg_name (by rw [g.nm]; exact g.nd) (by rw [g.nm]; exact h.1) h1 h2
  | .tup ts, ast, h => by
    cases ast <;> simp only [kTg, Bool.false_eq_true] at h
    obtain ⟨h1, h2, h3⟩ := kTgs_ok g e hf ts _ h
    exact pg_tup g.calm h1 h2 h3
theorem kTgs_ok {sc : Scope} {cl : List Str} (g : GX T N P n sl X) (e : X.env.scope = sc) (hf : ∀ y ∈ cl, X.fn y = true) : ∀ (t : Tgs) (as : List Expr), kTgs sl t sc cl as = true → PGs X as (gTs X.K t) ∧ (assignEach as X.env).length = lenTs t ∧ (assignEach as X.env).findIdx? (·.1) = none
  | .nil, as, h => by
    cases as <;> simp only [kTgs, Bool.false_eq_true] at h
    exact ⟨pgs_nil, rfl, rfl⟩
  | .cons t r, as, h => by
    cases as with
    | nil => simp [kTgs] at h
    | cons a as =>
      simp only [kTgs, Bool.and_eq_true] at h
      obtain ⟨h1, h2, h3⟩ := kTgs_ok g e hf r as h.2
      have hs : assignEach (a :: as) X.env = (false, assign a X.env) :: assignEach as X.env := by
        have := h.1.1
        cases a <;> first | rfl | exact absurd this (by simp [starB])
      refine ⟨pgs_cons (kTg_ok g e hf t a h.1.2) h1 (by rw [hs]; rfl), by rw [hs, List.length_cons, h2]; rfl, ?_⟩
      rw [hs, List.findIdx?_cons, h3]
      rfl
end
theorem assign1 {tg : Expr} {t : Tg} {sc : Scope} {cl : List Str} {env : Env} (h : kTg sl t sc cl tg = true) : (assignEach [tg] env).map (·.2) = [assign tg env] := by
  cases t <;> cases tg <;> first | rfl | simp [kTg] at h

/-! ### operators -/
theorem bin_ok (g : GX T N P n sl X) {o : Op} {p : Operator} (h : opB o p = true) : Op2Ok X N (binaryOp p) (opF o) := by
  cases o <;> cases p <;> simp only [opB, Bool.false_eq_true] at h
  · exact ok_add
  · exact ok_sub
  · exact ok_mul
  · exact ok_mod
  · exact ok_fdiv
  · exact ok_modN
  · exact ok_fdivN
  · exact ok_pow
theorem cmp_ok (g : GX T N P n sl X) {o : Op} {p : CmpOp} (h : cmpB o p = true) : Op2Ok X N (compareOp p) (opF o) ∧ (o = .eq ∨ o = .ne ∨ o = .lt ∨ o = .le ∨ o = .gt ∨ o = .ge ∨ o = .mem ∨ o = .nmem) := by
  cases o <;> cases p <;> simp only [cmpB, Bool.false_eq_true] at h
  · exact ⟨ok_eq g.room, by simp⟩
  · exact ⟨ok_ne g.room, by simp⟩
  · exact ⟨ok_lt, by simp⟩
  · exact ⟨ok_le, by simp⟩
  · exact ⟨ok_gt, by simp⟩
  · exact ⟨ok_ge, by simp⟩
  · exact ⟨ok_mem g.room, by simp⟩
  · exact ⟨ok_nmem g.room, by simp⟩
/-- an if-else as a test -/
theorem mt_ife {fc fa fb : Fr → Sto → RD} {c a b : Expr} {pos : Pos} (hc : PT X c (tRb N X.K (tst fc))) (ha : PT X a (tRb N X.K (tst fa))) (hb : PT X b (tRb N X.K (tst fb))) : PT X (.IfExp c a b pos) (tRb N X.K (tst fun fr st => (fc fr st).bind fun p => match truthF p.2 p.1 with
    | some true => fa fr p.2
    | some false => fb fr p.2
    | none => .no)) := by
  refine ⟨fun pins s σ H Q I ⟨ρ, fr, st, k, st', R, F, e, Po⟩ => ?_⟩
  obtain ⟨p, e1, e2⟩ := MP.R.bind_eq e
  obtain ⟨q, e3, e4⟩ := MP.R.bind_eq e1
  show wpAny _ _ (do if ← isTrue c X.env (eval c X.env) then isTrue a X.env (eval a X.env) else isTrue b X.env (eval b X.env)) _ _ s
  split at e4
  · rename_i hk
    refine wpAny_bind (thn (hc.run pins s σ H (fun k H1 => k = true ∧ ∃ ρ1, Ext ρ H ρ1 H1 ∧ Rl N X.K ρ1 q.2 H1) I ⟨ρ, fr, st, true, q.2, R, F, by simp only [tst, testF, e3, MP.R.bind_ok, hk, MP.R.of_some], fun ρ1 H1 E1 R1 => ⟨rfl, ρ1, E1, R1⟩⟩) fun k s1 ⟨H1, I1, hk1, ρ1, E1, R1⟩ => ?_)
    rw [hk1]
    refine ha.run pins s1 σ H1 Q I1 ⟨ρ1, fr, q.2, _, st', R1, F.ext E1, ?_, fun ρ2 H2 E2 R2 => Po ρ2 H2 (E1.trans E2) R2⟩
    simp only [tst, testF, e4, MP.R.bind_ok]
    exact e2
  · rename_i hk
    refine wpAny_bind (thn (hc.run pins s σ H (fun k H1 => k = false ∧ ∃ ρ1, Ext ρ H ρ1 H1 ∧ Rl N X.K ρ1 q.2 H1) I ⟨ρ, fr, st, false, q.2, R, F, by simp only [tst, testF, e3, MP.R.bind_ok, hk, MP.R.of_some], fun ρ1 H1 E1 R1 => ⟨rfl, ρ1, E1, R1⟩⟩) fun k s1 ⟨H1, I1, hk1, ρ1, E1, R1⟩ => ?_)
    rw [hk1]
    refine hb.run pins s1 σ H1 Q I1 ⟨ρ1, fr, q.2, _, st', R1, F.ext E1, ?_, fun ρ2 H2 E2 R2 => Po ρ2 H2 (E1.trans E2) R2⟩
    simp only [tst, testF, e4, MP.R.bind_ok]
    exact e2
  · cases e4
end
end MP

set_option Elab.async false
set_option linter.all false
set_option maxRecDepth 100000
set_option maxHeartbeats 2000000
/-! MPChk2: the test is sound for expressions. -/
namespace MP
open PySem PySem.Spec PyProof.Rows L2

section
variable {T : Tab} {N : Nm} {P : Prog} {n : Nat} {sl : List Str} {X : Cx}

/-- what an expression's text gives -/
structure EOk (X : Cx) (N : Nm) (ast : Expr) (f : Fr → Sto → RD) : Prop where
  pe : PE X ast (tR N X.K f)
  pt : PT X ast (tRb N X.K (tst f))
  pw : ∀ op xs pos, ast = .BoolOp op xs pos → PW X ast (tRb N X.K (tst f))
theorem EOk.plain {ast : Expr} {f : Fr → Sto → RD} (h : PE X ast (tR N X.K f)) (he : ∀ whole, isTrue ast X.env whole = (do let v ← whole; standAt ast.pos; holding [v] (truthy v))) (hb : ∀ op xs pos, ast ≠ .BoolOp op xs pos) : EOk X N ast f :=
  ⟨h, m_truth h he, fun op xs pos e => absurd e (hb op xs pos)⟩
theorem EOk.both {ast : Expr} {f : Fr → Sto → RD} (h : PE X ast (tR N X.K f)) (ht : PT X ast (tRb N X.K (tst f))) (hb : ∀ op xs pos, ast ≠ .BoolOp op xs pos) : EOk X N ast f := ⟨h, ht, fun op xs pos e => absurd e (hb op xs pos)⟩
theorem EOk.cast {ast : Expr} {f f' : Fr → Sto → RD} (h : EOk X N ast f) (e : ∀ fr st, f' fr st = f fr st) : EOk X N ast f' := by
  have : f' = f := funext fun fr => funext fun st => e fr st
  rw [this]; exact h
theorem castA {as : List Expr} {f f' : Fr → Sto → R (List D × Sto)} (h : PA X as (tRs N X.K f)) (e : ∀ fr st, f' fr st = f fr st) : PA X as (tRs N X.K f') := by
  have : f' = f := funext fun fr => funext fun st => e fr st
  rw [this]; exact h

/-! ### dict displays -/
def trsOf (N : Nm) (K : PySem.W.Frag) (P : Prog) (cf mf : Cf) : Es → List (TE × TE)
  | .nil => []
  | .cons _ .nil => []
  | .cons k (.cons v r) => (tR N K (evE P cf mf k), tR N K (evE P cf mf v)) :: trsOf N K P cf mf r
def evenE : Es → Bool
  | .nil => true
  | .cons _ .nil => false
  | .cons _ (.cons _ r) => evenE r
/-- pairs as they stand in a row -/
def flatP : List (V × V) → List V
  | [] => []
  | p :: r => p.1 :: p.2 :: flatP r
theorem read_pairs {cf mf : Cf} : ∀ (es : Es), evenE es = true → ∀ {ρ : List Addr} {fr : Fr} {st st' : Sto} {H : Hp} {σ : L2.St} {ds : List D} {Q : List (V × V) → Hp → Prop}, Rl N X.K ρ st H → Rf X.K ρ H fr σ → evEs P cf mf es fr st = .ok (ds, st') →
    (∀ ρ' H' ps, Ext ρ H ρ' H' → Rl N X.K ρ' st' H' → Reps X.K ρ' H' ds (flatP ps) → Q ps H') → tPairs (trsOf N X.K P cf mf es) σ H Q
  | .nil, _, ρ, fr, st, st', H, σ, ds, Q, R, F, e, q => by
    rw [evEs] at e
    cases e
    exact q ρ H [] Ext.refl R .nil
  | .cons _ .nil, h, ρ, fr, st, st', H, σ, ds, Q, R, F, e, q => by simp [evenE] at h
  | .cons k (.cons v r), h, ρ, fr, st, st', H, σ, ds, Q, R, F, e, q => by
    rw [evEs] at e
    obtain ⟨p1, e1, e⟩ := MP.R.bind_eq e
    obtain ⟨p2, e2, e⟩ := MP.R.bind_eq e
    rw [evEs] at e2
    obtain ⟨p3, e3, e2⟩ := MP.R.bind_eq e2
    obtain ⟨p4, e4, e2⟩ := MP.R.bind_eq e2
    cases e
    cases e2
    refine ⟨ρ, fr, st, p1.1, p1.2, R, F, e1, fun ρ1 H1 x E1 R1 r1 => ?_⟩
    refine ⟨ρ1, fr, p1.2, p3.1, p3.2, R1, F.ext E1, e3, fun ρ2 H2 y E2 R2 r2 => ?_⟩
    refine read_pairs r (by simpa [evenE] using h) R2 ((F.ext E1).ext E2) e4 fun ρ3 H3 ps E3 R3 r3 => ?_
    exact q ρ3 H3 _ (E1.trans (E2.trans E3)) R3 (.cons ((r1.ext E2).ext E3) (.cons (r2.ext E3) r3))
theorem pairF_of {ρ : List Addr} {H : Hp} : ∀ {ps : List (V × V)} {ds : List D} {kvs : List (Kk × D)}, Reps X.K ρ H ds (flatP ps) → pairF ds = some kvs → ∃ ws : List (Key × V), ps = ws.map (fun kv => (kV kv.1, kv.2)) ∧ KVs X.K ρ H kvs ws
  | [], _, _, r, h => by
    cases r
    simp only [pairF] at h
    cases h
    exact ⟨[], rfl, .nil⟩
  | p :: ps, _, kvs, r, h => by
    cases r with
    | cons r1 r =>
      cases r with
      | cons r2 r =>
        simp only [pairF] at h
        split at h
        · rename_i k l hk hl
          cases h
          obtain ⟨ws, rfl, q⟩ := pairF_of r hl
          refine ⟨(toK k, p.2) :: ws, ?_, .cons ⟨rfl, r2⟩ q⟩
          have := keyF_of r1 hk
          rw [List.map_cons, ← this]
        · cases h
theorem merge_of {ρ : List Addr} {H : Hp} : ∀ {kvs : List (Kk × D)} {ws : List (Key × V)} {acc : List (Kk × D)} {vs : List (Key × V)}, KVs X.K ρ H kvs ws → KVs X.K ρ H acc vs → KVs X.K ρ H (kvs.foldl (fun acc kv => MP.putK acc kv.1 kv.2) acc) (mergeK vs ws)
  | [], _, _, _, h, q => by cases h; exact q
  | k :: kvs, _, acc, vs, h, q => by
    cases h with
    | @cons _ b _ l r t =>
      rw [List.foldl_cons]
      have := KVs.put (k := k.1) q r.2
      rw [← r.1] at this
      exact merge_of (ws := l) t this
theorem kPs_len {sc : Scope} : ∀ (es : Es) (ks : List (Option Expr)) (vs : List Expr), kPs T sl es sc ks vs = true → evenE es = true ∧ ks.all (·.isSome) = true ∧ ks.length = vs.length
  | .nil, ks, vs, h => by
    unfold kPs at h
    split at h
    · exact ⟨rfl, rfl, rfl⟩
    · cases h
  | .cons k .nil, ks, vs, h => by
    unfold kPs at h
    split at h <;> simp at h
  | .cons k (.cons v r), ks, vs, h => by
    unfold kPs at h
    split at h
    · simp only [Bool.and_eq_true] at h
      obtain ⟨h1, h2, h3⟩ := kPs_len r _ _ h.2.2
      exact ⟨h1, by rw [List.all_cons, h2]; rfl, by rw [List.length_cons, List.length_cons, h3]⟩
    · cases h
theorem m_dic {cf mf : Cf} {es : Es} {ks : List (Option Expr)} {vs : List Expr} {pos : Pos} {sc : Scope} (hk : kPs T sl es sc ks vs = true) (h15 : ks.length ≤ 15) (hp : PPs X pos ks vs (trsOf N X.K P cf mf es)) :
    PE X (.Dict ks vs pos) (tR N X.K fun fr st => (evEs P cf mf es fr st).bind fun p => match pairF p.1 with
    | some kvs => if kvs.length ≤ 15 then newF p.2 (.dct (kvs.foldl (fun acc kv => MP.putK acc kv.1 kv.2) [])) else .no
    | none => .no) := by
  obtain ⟨he, hall, hl⟩ := kPs_len es ks vs hk
  by_cases h0 : ks = []
  · subst h0
    have : vs = [] := by cases vs <;> simp_all
    subst this
    refine PE.imp pe_dnewK fun σ H Q ⟨ρ, fr, st, d, st', R, F, e, Po⟩ => ?_
    have e0 : es = .nil := by
      cases es with
      | nil => rfl
      | cons => simp [kPs] at hk
    subst e0
    simp only [evEs, MP.R.bind_ok, pairF, List.foldl_nil, List.length_nil] at e
    rw [if_pos (by decide)] at e
    cases e
    exact Po.dct R .nil
  · refine PE.imp (pe_disp hp hall hl h0 h15) fun σ H Q ⟨ρ, fr, st, d, st', R, F, e, Po⟩ p hpn => ?_
    obtain ⟨q, e1, e⟩ := MP.R.bind_eq e
    split at e
    · rename_i kvs hkv
      split at e
      · rename_i hlen
        cases e
        obtain ⟨E0, R0⟩ := R.lay (u := .dK []) hpn
        refine read_pairs es he R0 (F.ext E0) e1 fun ρ1 H1 ps E1 R1 r1 => ?_
        obtain ⟨hn, hH⟩ := E1.outside upd_same (R.notIn hpn)
        obtain ⟨ws, hps, kv⟩ := pairF_of r1 hkv
        refine ⟨hH, ws, hps, by rw [← Paired.len kv]; exact hlen, ?_⟩
        have cg : Chg H1 p := ⟨by simp [hH], by simp [hH], by simp [hH]⟩
        refine Po (ρ1 ++ [p]) _ _ (E1.fin hpn [p] (by simp)) ?_ (.ref R1.top)
        refine (R1.out hn hH (by simp) (by simp) (by simp)).grow hn ⟨_, upd_same, ?_⟩
        exact pairedMap (fun _ _ z => ⟨z.1, (z.2.chg cg).grow [p]⟩) (merge_of kv .nil)
      · cases e
    · cases e

/-! ### built-in functions and methods -/
theorem bi_call (g : GX T N P n sl X) {b : Bi} {sc : Scope} {e : Expr} {es : List Expr} {p pos : Pos} {fs : Fr → Sto → R (List D × Sto)} (hb : (match b with | .lenset => false | _ => true) = true) (es0 : X.env.scope = sc) (hf : freeB T sc (biN b) = true)
    (ha : PA X (e :: es) (tRs N X.K fs)) (hs : ∀ a ∈ e :: es, starB a = true) : PE X (.Call (.Name (biN b) p) (e :: es) [] pos) (tR N X.K fun fr st => (fs fr st).bind fun p => biF b p.1 p.2) := by
  obtain ⟨h1, h2, h3, h4⟩ := free_ok g es0 hf
  have hst := star_cons (es := es) (env := X.env) (hs e List.mem_cons_self)
  have hpl := star_any (env := X.env) (pos := pos) fun a ha => hs a (List.mem_cons_of_mem _ ha)
  cases b with
  | len => exact m_callB ok_len h1 h2 (by decide +kernel) ha h4 h3 hst hpl
  | int => exact m_callTy ok_int h1 h2 (by decide +kernel) ha h4 h3 hst hpl
  | str => exact m_callTy ok_str h1 h2 (by decide +kernel) ha h4 h3 hst hpl
  | tuple => exact m_callTy ok_tuple h1 h2 (by decide +kernel) ha h4 h3 hst hpl
  | list => exact m_callTy (ok_list g.calm) h1 h2 (by decide +kernel) ha h4 h3 hst hpl
  | max2 => exact m_callB (ok_max2 g.calm) h1 h2 (by decide +kernel) ha h4 h3 hst hpl
  | min2 => exact m_callB (ok_min2 g.calm) h1 h2 (by decide +kernel) ha h4 h3 hst hpl
  | abs => exact m_callB ok_abs h1 h2 (by decide +kernel) ha h4 h3 hst hpl
  | ord => exact m_callB ok_ord h1 h2 (by decide +kernel) ha h4 h3 hst hpl
  | sum => exact m_callB (ok_sum g.calm) h1 h2 (by decide +kernel) ha h4 h3 hst hpl
  | maxl => exact m_callB (ok_maxl g.calm) h1 h2 (by decide +kernel) ha h4 h3 hst hpl
  | minl => exact m_callB (ok_minl g.calm) h1 h2 (by decide +kernel) ha h4 h3 hst hpl
  | any => exact m_callB (ok_any g.calm) h1 h2 (by decide +kernel) ha h4 h3 hst hpl
  | all => exact m_callB (ok_all g.calm) h1 h2 (by decide +kernel) ha h4 h3 hst hpl
  | sorted => exact m_callB (ok_sorted g.calm) h1 h2 (by decide +kernel) ha h4 h3 hst hpl
  | dict => exact m_callTy ok_dict h1 h2 (by decide +kernel) ha h4 h3 hst hpl
  | lenset => exact absurd hb (by decide)
def bmId : Kd → Bm → String
  | .l, .append => "list.append" | .l, .pop => "list.pop" | .l, .extend => "list.extend" | .l, .clear => "list.clear" | .l, .reverse => "list.reverse" | .l, .remove => "list.remove" | .s, .find => "str.find" | .s, .startswith => "str.startswith"
  | .d, .get => "dict.get" | .d, .pop => "dict.pop" | .s, .partition => "str.partition" | .s, .split => "str.split" | .s, .join => "str.join" | _, _ => ""
theorem dm_no {m : Bm} {k : Nat} {ds : List D} {st : Sto} (h1 : m ≠ .get) (h2 : m ≠ .pop) : dmF m k ds st = .no := by
  unfold dmF; split <;> simp_all
theorem lm_no {m : Bm} {k : Nat} {ys ds : List D} {st : Sto} (h1 : m ≠ .append) (h2 : m ≠ .pop) (h3 : m ≠ .extend) (h4 : m ≠ .clear) (h5 : m ≠ .reverse) (h6 : m ≠ .remove) : lmF m k ys ds st = .no := by
  unfold lmF; split <;> simp_all
theorem sm_no {m : Bm} {a : List Char} {ds : List D} {st : Sto} (h1 : m ≠ .partition) (h2 : m ≠ .split) (h3 : m ≠ .join) (h4 : m ≠ .startswith) (h5 : m ≠ .find) : smF m a ds st = .no := by
  unfold smF; split <;> simp_all
theorem mt_ok (g : GX T N P n sl X) {m : Bm} {k : Kd} (hm : bmNew m = true) (h : ∃ d o ds st, bmF k m o ds st = .ok d) : MtOk X N k m (bmN m) (bmId k m) := by
  obtain ⟨d, o, ds, st, h⟩ := h
  cases k with
  | l =>
    have h2 : ∃ k ys, lmF m k ys ds st = .ok d := by
      cases o <;> simp only [bmF, reduceCtorEq] at h
      split at h
      · exact ⟨_, _, h⟩
      · cases h
    obtain ⟨k, ys, h2⟩ := h2
    cases m with
    | append => exact ok_append
    | pop => exact ok_popl
    | extend => exact ok_extend
    | clear => exact ok_clear
    | reverse => exact ok_reverse
    | remove => exact ok_remove
    | _ => rw [lm_no (by decide) (by decide) (by decide) (by decide) (by decide) (by decide)] at h2; cases h2
  | d =>
    have h2 : ∃ k, dmF m k ds st = .ok d := by
      cases o <;> simp only [bmF, reduceCtorEq] at h
      exact ⟨_, h⟩
    obtain ⟨k, h2⟩ := h2
    cases m with
    | get => exact ok_get g.room
    | pop => exact ok_popd
    | _ => rw [dm_no (by decide) (by decide)] at h2; cases h2
  | s =>
    have h2 : ∃ a, smF m a ds st = .ok d := by
      cases o <;> simp only [bmF, reduceCtorEq] at h
      exact ⟨_, h⟩
    obtain ⟨k, h2⟩ := h2
    cases m with
    | partition => exact ok_partition
    | split => exact ok_split
    | join => exact ok_join
    | startswith => exact ok_starts
    | find => exact ok_find
    | _ => rw [sm_no (by decide) (by decide) (by decide) (by decide) (by decide)] at h2; cases h2
end
end MP

set_option Elab.async false
set_option linter.all false
set_option maxRecDepth 100000
set_option maxHeartbeats 4000000
/-! MPChk3: the test is sound for expressions: the induction. -/
namespace MP
open PySem PySem.Spec PyProof.Rows L2

section
variable {T : Tab} {N : Nm} {P : Prog} {n : Nat} {sl : List Str}

theorem own_ix (sl : List Str) (own : List Nat) : (ownL sl own).map (·.2) = own := by
  unfold ownL
  rw [List.map_map]
  exact List.map_id _
theorem cells_fn {scope : Scope} {y : Str} (hu : ∀ z ∈ scope.names, scope.names.lookup z.1 = some z.2) (h : y ∈ cellsB scope) : (scope.names.lookup y == some .cell) = true := by
  unfold cellsB at h
  rw [List.mem_filterMap] at h
  obtain ⟨z, hz, e⟩ := h
  split at e
  · rename_i hk
    cases e
    have := hu z hz
    rw [hk] at this
    rw [this]
    rfl
  · cases e
theorem notBool {ast : Expr} (h : (match ast with | .BoolOp .. => false | _ => true) = true) : ∀ op xs pos, ast ≠ .BoolOp op xs pos := by
  intro op xs pos e
  subst e
  exact absurd h (by simp)

mutual
theorem kE_ok : ∀ (e : E) {X : Cx} {sc : Scope} (ast : Expr), GX T N P n sl X → X.env.scope = sc → kE T sl e sc ast = true → EOk X N ast (evE P (callF P n) (makeF P n) e)
  | .v i, X, sc, ast, g, es, h => by
    cases ast <;> simp only [kE, Bool.false_eq_true, Bool.and_eq_true, decide_eq_true_eq] at h
    obtain ⟨⟨h1, h2⟩, h3⟩ := h
    obtain ⟨d1, d2, _⟩ := dbg_ok h3
    exact (EOk.plain (m_var (by rw [g.nm]; exact h1) (vis_ok es h2) d1 d2) (fun _ => rfl) (notBool rfl)).cast fun fr st => by rw [evE] <;> rfl
  | .c d, X, sc, ast, g, es, h => by
    have hp := con_ok g es (show conB T sc d ast = true by simpa only [kE] using h)
    refine (?_ : EOk X N ast fun _ st => .ok (d, st)).cast fun fr st => by rw [evE]
    have h : conB T sc d ast = true := by simpa only [kE] using h
    unfold conB at h
    split at h <;> first | exact EOk.plain hp (fun _ => rfl) (notBool rfl) | exact absurd h (by decide)
  | .op o a b, X, sc, ast, g, es, h => by
    unfold kE at h
    split at h
    · simp only [Bool.and_eq_true] at h
      obtain ⟨⟨h1, h2⟩, h3⟩ := h
      exact (EOk.plain (m_bin (kE_ok a _ g es h2).pe (kE_ok b _ g es h3).pe (bin_ok g h1)) (fun _ => rfl) (notBool rfl)).cast fun fr st => by rw [evE]
    · simp only [Bool.and_eq_true, Bool.not_eq_true'] at h
      obtain ⟨⟨⟨h1, h2⟩, h3⟩, h4⟩ := h
      obtain ⟨c1, c2⟩ := cmp_ok g h1
      exact (EOk.both (m_cmp (kE_ok a _ g es h3).pe (kE_ok b _ g es h4).pe c1 h2) (mt_cmp c2 (kE_ok a _ g es h3).pe (kE_ok b _ g es h4).pe c1 h2) (notBool rfl)).cast fun fr st => by rw [evE]
    · cases h
  | .neg a, X, sc, ast, g, es, h => by
    unfold kE at h
    split at h
    · exact (EOk.plain (m_neg (kE_ok a _ g es h).pe) (fun _ => rfl) (notBool rfl)).cast fun fr st => by rw [evE] <;> rfl
    · cases h
  | .not a, X, sc, ast, g, es, h => by
    unfold kE at h
    split at h
    · have ha := kE_ok a _ g es h
      exact (EOk.both (m_not ha.pe) (mt_not ha.pt) (notBool rfl)).cast fun fr st => by rw [evE] <;> rfl
    · cases h
  | .and a b, X, sc, ast, g, es, h => by
    unfold kE at h
    split at h
    · rename_i x y r pos
      rw [Bool.and_eq_true] at h
      have ha := kE_ok a _ g es h.1
      have hb : PE X (.BoolOp .And (y :: r) pos) (tR N X.K (evE P (callF P n) (makeF P n) b)) ∧ PW X (.BoolOp .And (y :: r) pos) (tRb N X.K (tst (evE P (callF P n) (makeF P n) b))) := by
        have h2 := h.2
        split at h2
        · have hb := kE_ok b _ g es h2
          exact ⟨pe_one hb.pe, mw_one hb.pt⟩
        · have hb := kE_ok b _ g es h2
          exact ⟨hb.pe, hb.pw _ _ _ rfl⟩
      have w := mw_and (pos := pos) ha.pt hb.2
      exact (⟨m_and ha.pe hb.1, w.pt, fun _ _ _ _ => w⟩ : EOk X N _ _).cast fun fr st => by rw [evE] <;> rfl
    · cases h
  | .or a b, X, sc, ast, g, es, h => by
    unfold kE at h
    split at h
    · rename_i x y r pos
      rw [Bool.and_eq_true] at h
      have ha := kE_ok a _ g es h.1
      have hb : PE X (.BoolOp .Or (y :: r) pos) (tR N X.K (evE P (callF P n) (makeF P n) b)) ∧ PW X (.BoolOp .Or (y :: r) pos) (tRb N X.K (tst (evE P (callF P n) (makeF P n) b))) := by
        have h2 := h.2
        split at h2
        · have hb := kE_ok b _ g es h2
          exact ⟨pe_one hb.pe, mw_one hb.pt⟩
        · have hb := kE_ok b _ g es h2
          exact ⟨hb.pe, hb.pw _ _ _ rfl⟩
      have w := mw_or (pos := pos) ha.pt hb.2
      exact (⟨m_or ha.pe hb.1, w.pt, fun _ _ _ _ => w⟩ : EOk X N _ _).cast fun fr st => by rw [evE] <;> rfl
    · cases h
  | .ife c a b, X, sc, ast, g, es, h => by
    unfold kE at h
    split at h
    · simp only [Bool.and_eq_true] at h
      have hc := kE_ok c _ g es h.1.1
      have ha := kE_ok a _ g es h.1.2
      have hb := kE_ok b _ g es h.2
      exact (EOk.both (m_ife hc.pt ha.pe hb.pe) (mt_ife hc.pt ha.pt hb.pt) (notBool rfl)).cast fun fr st => by rw [evE] <;> rfl
    · cases h
  | .chain o o' a b c, X, sc, ast, g, es, h => by
    unfold kE at h
    split at h
    · simp only [Bool.and_eq_true, Bool.not_eq_true'] at h
      obtain ⟨⟨⟨⟨⟨h1, h2⟩, h3⟩, h4⟩, h5⟩, h6⟩ := h
      obtain ⟨c1, c2⟩ := cmp_ok g h1
      obtain ⟨c3, c4⟩ := cmp_ok g h2
      have ha := (kE_ok a _ g es h4).pe
      have hb := (kE_ok b _ g es h5).pe
      have hc := (kE_ok c _ g es h6).pe
      exact (EOk.both (m_chain ha hb hc c1 c3 h3) (mt_chain c4 ha hb hc c1 c3 h3) (notBool rfl)).cast fun fr st => by rw [evE] <;> rfl
    · cases h
  | .isN a, X, sc, ast, g, es, h => by
    unfold kE at h
    split at h
    · have ha := (kE_ok a _ g es h).pe
      exact (EOk.both (m_isN ha) (mt_isN ha) (notBool rfl)).cast fun fr st => by rw [evE] <;> rfl
    · cases h
  | .notN a, X, sc, ast, g, es, h => by
    unfold kE at h
    split at h
    · have ha := (kE_ok a _ g es h).pe
      exact (EOk.both (m_notN ha) (mt_notN ha) (notBool rfl)).cast fun fr st => by rw [evE] <;> rfl
    · cases h
  | .isB a neg b, X, sc, ast, g, es, h => by
    unfold kE at h
    split at h
    · simp only [Bool.and_eq_true, Bool.not_eq_true', beq_iff_eq] at h
      obtain ⟨⟨rfl, rfl⟩, h3⟩ := h
      have ha := (kE_ok a _ g es h3).pe
      exact (EOk.both (m_isB ha) (mt_isB ha) (notBool rfl)).cast fun fr st => by rw [evE] <;> rfl
    · simp only [Bool.and_eq_true, beq_iff_eq] at h
      obtain ⟨⟨rfl, rfl⟩, h3⟩ := h
      have ha := (kE_ok a _ g es h3).pe
      exact (EOk.both (m_isnB ha) (mt_isnB ha) (notBool rfl)).cast fun fr st => by rw [evE] <;> rfl
    · cases h
  | .tup xs, X, sc, ast, g, es, h => by
    unfold kE at h
    split at h
    · exact (EOk.plain (m_tup (kEs_ok xs _ g es h).1) (fun _ => rfl) (notBool rfl)).cast fun fr st => by rw [evE]
    · cases h
  | .lst xs, X, sc, ast, g, es, h => by
    unfold kE at h
    split at h
    · exact (EOk.plain (m_lst (kEs_ok xs _ g es h).1) (fun _ => rfl) (notBool rfl)).cast fun fr st => by rw [evE]
    · cases h
  | .dic xs, X, sc, ast, g, es, h => by
    unfold kE at h
    split at h
    · simp only [Bool.and_eq_true, decide_eq_true_eq] at h
      exact (EOk.plain (m_dic h.1 h.2 (kPs_ok xs _ _ g es h.1)) (fun _ => rfl) (notBool rfl)).cast fun fr st => by rw [evE] <;> rfl
    · cases h
  | .call f xs ds, X, sc, ast, g, es, h => by
    unfold kE at h
    split at h
    · rename_i x p as pos
      simp only [Bool.and_eq_true] at h
      obtain ⟨⟨⟨h1, h2⟩, h3⟩, h4⟩ := h
      obtain ⟨ha, hs⟩ := kEs_ok xs as g es h3
      split at h4
      · rename_i q hq
        simp only [Bool.and_eq_true, decide_eq_true_eq] at h4
        obtain ⟨a, hF, hm⟩ := g.fns f q hq
        obtain ⟨j, hj, rfl⟩ := dfl_ok h4.2
        cases as with
        | nil =>
          have e0 : xs = .nil := by cases xs with | nil => rfl | cons => simp [kEs] at h3
          subst e0
          exact (EOk.plain (m_call0 hF hj g.room (gl_ok es h1) (hm _ h4.1) (dbg_ok h2).1) (fun _ => rfl) (notBool rfl)).cast fun fr st => by rw [evE, evEs]
        | cons e0 as =>
          exact (EOk.plain (m_call hF hj g.room (gl_ok es h1) (hm _ h4.1) (dbg_ok h2).1 ha (star_cons (hs _ List.mem_cons_self)) (star_any fun b hb => hs b (List.mem_cons_of_mem _ hb))) (fun _ => rfl) (notBool rfl)).cast fun fr st => by rw [evE]
      · cases h4
    · cases h
  | .make c f xs ds, X, sc, ast, g, es, h => by
    unfold kE at h
    split at h
    · rename_i x p as pos
      simp only [Bool.and_eq_true] at h
      obtain ⟨⟨⟨h1, h2⟩, h3⟩, h4⟩ := h
      obtain ⟨ha, hs⟩ := kEs_ok xs as g es h3
      split at h4
      · rename_i q hq
        obtain ⟨qx, qi, qd⟩ := q
        simp only [Bool.and_eq_true, decide_eq_true_eq] at h4
        obtain ⟨⟨rfl, rfl⟩, h5⟩ := h4
        obtain ⟨C, a, hC, hm, hM, hF⟩ := g.cls c _ _ _ hq
        obtain ⟨j, hj, rfl⟩ := dfl_ok h5
        cases as with
        | nil =>
          have e0 : xs = .nil := by cases xs with | nil => rfl | cons => simp [kEs] at h3
          subst e0
          exact (EOk.plain (m_make0 hM hC hF hj g.room (gl_ok es h1) hm (dbg_ok h2).1) (fun _ => rfl) (notBool rfl)).cast fun fr st => by rw [evE, evEs] <;> rfl
        | cons e0 as =>
          exact (EOk.plain (m_make hM hC hF hj g.room (gl_ok es h1) hm (dbg_ok h2).1 ha (star_cons (hs _ List.mem_cons_self)) (star_any fun b hb => hs b (List.mem_cons_of_mem _ hb))) (fun _ => rfl) (notBool rfl)).cast fun fr st => by rw [evE] <;> rfl
      · cases h4
    · cases h
  | .meth m o xs, X, sc, ast, g, es, h => by
    unfold kE at h
    split at h
    · rename_i x nm ap as pos
      simp only [Bool.and_eq_true, decide_eq_true_eq] at h
      obtain ⟨⟨⟨⟨⟨h1, h2⟩, h3⟩, h4⟩, h5⟩, h6⟩ := h
      obtain ⟨ha, hs⟩ := kEs_ok xs as g es h3
      have ho := (kE_ok o _ g es h2).pe
      cases as with
      | nil =>
        have e0 : xs = .nil := by cases xs with | nil => rfl | cons => simp [kEs] at h3
        subst e0
        exact (EOk.plain (m_meth0 g.meth h4 g.room ho (meth_eval0 h1 h5)) (fun _ => rfl) (notBool rfl)).cast fun fr st => by rw [evE]; unfold methFn; simp only [evEs] <;> rfl
      | cons e0 as =>
        exact (EOk.plain (m_meth g.meth h4 g.room ho ha (star_cons (hs _ List.mem_cons_self)) (star_any fun b hb => hs b (List.mem_cons_of_mem _ hb)) (meth_eval h1 h5 hs h6)) (fun _ => rfl) (notBool rfl)).cast fun fr st => by rw [evE] <;> rfl
    · cases h
  | .fld o f, X, sc, ast, g, es, h => by
    unfold kE at h
    split at h
    · simp only [Bool.and_eq_true, decide_eq_true_eq] at h
      exact (EOk.plain (m_fld g.meth (by rw [g.fld]; exact h.2) (kE_ok o _ g es h.1.2).pe (base_ok h.1.1)) (fun _ => rfl) (notBool rfl)).cast fun fr st => by rw [evE]
    · cases h
  | .ix a b, X, sc, ast, g, es, h => by
    unfold kE at h
    split at h
    · simp only [Bool.and_eq_true] at h
      exact (EOk.plain (m_ix g.room (kE_ok a _ g es h.1.2).pe (kE_ok b _ g es h.2).pe (slice_ok h.1.1)) (fun _ => rfl) (notBool rfl)).cast fun fr st => by rw [evE]
    · cases h
  | .sl a lo hi, X, sc, ast, g, es, h => by
    unfold kE at h
    split at h
    · simp only [Bool.and_eq_true] at h
      exact (EOk.plain (m_sl (kE_ok a _ g es h.1.1).pe (kEo_ok lo _ g es h.1.2) (kEo_ok hi _ g es h.2)) (fun _ => rfl) (notBool rfl)).cast fun fr st => by rw [evE]
    · cases h
  | .bi b xs, X, sc, ast, g, es, h => by
    unfold kE at h
    split at h
    · simp only [Bool.and_eq_true, decide_eq_true_eq] at h
      obtain ⟨⟨⟨rfl, h2⟩, h3⟩, h4⟩ := h
      obtain ⟨ha, hs⟩ := kEs_ok xs _ g es h4
      exact (EOk.plain (bi_call g h3 es h2 ha hs) (fun _ => rfl) (notBool rfl)).cast fun fr st => by rw [evE]
    · cases h
  | .isi a t, X, sc, ast, g, es, h => by
    unfold kE at h
    split at h
    · rename_i x p y z p' pos
      simp only [Bool.and_eq_true, decide_eq_true_eq] at h
      obtain ⟨⟨⟨⟨⟨h1, h2⟩, h3⟩, h4⟩, h5⟩, h6⟩ := h
      obtain ⟨a1, a2, _, _⟩ := free_ok g es h2
      obtain ⟨b1, b2, b3, b4⟩ := free_ok g es h4
      have hT : ∃ T0, tyS t = some T0 ∧ bootBuiltins z = some (.type T0) := by
        cases t <;> simp only [tyN, Option.some.injEq, reduceCtorEq] at h3 <;> subst h3 <;> exact ⟨_, rfl, by decide +kernel⟩
      obtain ⟨T0, t1, t2⟩ := hT
      exact (EOk.plain (m_isi (P0 := P) t1 h1 a1 a2 t2 b1 b2 b4 b3 (kE_ok a _ g es h6).pe (star_cons h5)) (fun _ => rfl) (notBool rfl)).cast fun fr st => by rw [evE]
    · cases h
  | .bm m o xs, X, sc, ast, g, es, h => by
    unfold kE at h
    split at h
    · rename_i x nm ap as pos
      simp only [Bool.and_eq_true, decide_eq_true_eq] at h
      obtain ⟨⟨⟨⟨⟨⟨h0, rfl⟩, h1⟩, h2⟩, h3⟩, h5⟩, h6⟩ := h
      obtain ⟨ha, hs⟩ := kEs_ok xs as g es h3
      have ho := (kE_ok o _ g es h2).pe
      cases as with
      | nil =>
        have e0 : xs = .nil := by cases xs with | nil => rfl | cons => simp [kEs] at h3
        subst e0
        exact (EOk.plain (read_bm0 (ids := fun k => bmId k m) (fun k ⟨d, o, st, _, e⟩ => mt_ok g h0 ⟨d, o, [], st, e⟩) ho (base_ok h1) h5) (fun _ => rfl) (notBool rfl)).cast fun fr st => by rw [evE]; simp only [evEs] <;> rfl
      | cons e0 as =>
        refine (EOk.plain (read_bm (ids := fun k => bmId k m) (fun k e => mt_ok g h0 e) ho ha (base_ok h1) ?_ h5 (star_cons (hs _ List.mem_cons_self)) (star_any fun b hb => hs b (List.mem_cons_of_mem _ hb))) (fun _ => rfl) (notBool rfl)).cast fun fr st => by rw [evE] <;> rfl
        show ((backTo pos (starEach (e0 :: as) X.env)).all (fun x => !x.1) && true && decide ((e0 :: as).length + 0 + 0 < 30)) = true
        rw [star_all hs]
        simpa using h6
    · cases h
  | .lc tg it ifs elt own, X, sc, ast, g, es, h => by
    unfold kE at h
    split at h
    · rename_i x t i fs scope pos
      simp only [Bool.and_eq_true] at h
      obtain ⟨⟨⟨⟨⟨⟨h1, h2⟩, h3⟩, h4⟩, h5⟩, h6⟩, h7⟩ := h
      have bo := blkOk_by h3
      have key : ∀ (s : Shared) (H : Hp) (C : Addr) (cl : List (Str × Addr)) (fp : List Addr), GX T N P n sl (X.blk s H scope (compEnvC scope cl C X.env) fp) ∧ (X.blk s H scope (compEnvC scope cl C X.env) fp).env.scope = relS scope sc ∧ ∀ y ∈ cellsB scope, (X.blk s H scope (compEnvC scope cl C X.env) fp).fn y = true :=
        fun s H C cl fp => ⟨g.blk s H scope C cl fp bo.kind, by rw [← es]; rfl, fun y hy => cells_fn bo.uniq hy⟩
      have hl := m_lc (X := X) (N := N) (t := tg) (pos := pos) (own := ownL sl own) g.calm (by rw [g.nm]; exact g.nd) (kIt_ok it t i g es h1) (by rw [g.nm, es]; exact bo) (set_ok h2)
        (fun j hj => by rw [own_ix]; exact of_decide_eq_true (List.all_eq_true.mp h4 j hj))
        (fun s H C cl fp => let ⟨k1, k2, k3⟩ := key s H C cl fp; kTg_ok k1 k2 k3 tg t h5)
        (fun s H C cl fp => let ⟨k1, k2, k3⟩ := key s H C cl fp; kIfs_ok ifs fs k1 k2 h6)
        (fun s H C cl fp => let ⟨k1, k2, k3⟩ := key s H C cl fp; (kE_ok elt x k1 k2 h7).pe)
      rw [own_ix] at hl
      exact (EOk.plain hl (fun _ => rfl) (notBool rfl)).cast fun fr st => by rw [evE] <;> rfl
    · cases h
  | .kix kvs k, X, sc, ast, g, es, h => by
    unfold kE at h
    split at h
    · simp only [Bool.and_eq_true] at h
      obtain ⟨h1, h2, h3⟩ := h
      obtain ⟨a1, a2, a3⟩ := kds_ok g es h1
      exact (EOk.plain (m_kix a1 a2 a3 (kE_ok k _ g es h3).pe (slice_ok h2)) (fun _ => rfl) (notBool rfl)).cast fun fr st => by rw [evE] <;> rfl
    · cases h
  | .kget kvs k d, X, sc, ast, g, es, h => by
    unfold kE at h
    split at h
    · simp only [Bool.and_eq_true, decide_eq_true_eq] at h
      obtain ⟨h1, rfl, h3, h4, h5, h6, h7⟩ := h
      obtain ⟨a1, a2, a3⟩ := kds_ok g es h1
      refine (EOk.plain (m_kget a1 a2 a3 (kE_ok k _ g es h6).pe (kE_ok d _ g es h7).pe ⟨base_ok rfl, ?_, h3, ?_⟩) (fun _ => rfl) (notBool rfl)).cast fun fr st => by rw [evE] <;> rfl
      · rw [star_cons h4, star_cons h5]; rfl
      · rw [star_cons h4, star_cons h5]; rfl
    · cases h
  | .kmem kvs neg k, X, sc, ast, g, es, h => by
    unfold kE at h
    split at h
    · simp only [Bool.and_eq_true, Bool.not_eq_true'] at h
      obtain ⟨h1, rfl, h3, h4⟩ := h
      obtain ⟨a1, a2, a3⟩ := kds_ok g es h1
      exact (EOk.both (m_kmem (.inl ⟨rfl, rfl⟩) a1 a2 a3 (kE_ok k _ g es h4).pe h3) (mt_kmem (.inl ⟨rfl, rfl⟩) a1 a2 a3 (kE_ok k _ g es h4).pe h3) (notBool rfl)).cast fun fr st => by rw [evE] <;> rfl
    · simp only [Bool.and_eq_true, Bool.not_eq_true'] at h
      obtain ⟨h1, rfl, h3, h4⟩ := h
      obtain ⟨a1, a2, a3⟩ := kds_ok g es h1
      exact (EOk.both (m_kmem (.inr ⟨rfl, rfl⟩) a1 a2 a3 (kE_ok k _ g es h4).pe h3) (mt_kmem (.inr ⟨rfl, rfl⟩) a1 a2 a3 (kE_ok k _ g es h4).pe h3) (notBool rfl)).cast fun fr st => by rw [evE] <;> rfl
    · cases h
theorem kEs_ok : ∀ (xs : Es) {X : Cx} {sc : Scope} (as : List Expr), GX T N P n sl X → X.env.scope = sc → kEs T sl xs sc as = true → PA X as (tRs N X.K (evEs P (callF P n) (makeF P n) xs)) ∧ ∀ a ∈ as, starB a = true
  | .nil, X, sc, as, g, es, h => by
    unfold kEs at h
    split at h
    · exact ⟨castA m_nil fun fr st => by rw [evEs], fun a ha => by cases ha⟩
    · cases h
  | .cons e r, X, sc, as, g, es, h => by
    unfold kEs at h
    split at h
    · simp only [Bool.and_eq_true] at h
      obtain ⟨⟨h1, h2⟩, h3⟩ := h
      obtain ⟨hr, hs⟩ := kEs_ok r _ g es h3
      refine ⟨castA (m_cons (kE_ok e _ g es h2).pe hr (star_cons h1)) fun fr st => by rw [evEs], fun a ha => ?_⟩
      rcases List.mem_cons.mp ha with rfl | ha
      · exact h1
      · exact hs a ha
    · cases h
theorem kIfs_ok : ∀ (xs : Es) {X : Cx} {sc : Scope} (as : List Expr), GX T N P n sl X → X.env.scope = sc → kIfs T sl xs sc as = true → PTs X as (tRb N X.K (evIfs P (callF P n) (makeF P n) xs))
  | .nil, X, sc, as, g, es, h => by
    unfold kIfs at h
    split at h
    · refine ⟨fun pins s σ H Q I ⟨ρ, fr, st, b, st', R, F, e, Po⟩ => pts_nil.run pins s σ H Q I ?_⟩
      rw [evIfs] at e
      cases e
      exact Po ρ H Ext.refl R
    · cases h
  | .cons e r, X, sc, as, g, es, h => by
    unfold kIfs at h
    split at h
    · rename_i x
      rw [Bool.and_eq_true] at h
      have he := kE_ok e _ g es h.1
      have h2 := h.2
      cases r with
      | nil =>
        refine ⟨fun pins s σ H Q I ⟨ρ, fr, st, b, st', R, F, e1, Po⟩ => (pts_one he.pt).run pins s σ H Q I ⟨ρ, fr, st, b, st', R, F, ?_, Po⟩⟩
        rw [evIfs] at e1
        obtain ⟨p, e2, e1⟩ := MP.R.bind_eq e1
        simp only [tst, testF, e2, MP.R.bind_ok]
        split at e1
        · rename_i hk
          rw [evIfs] at e1
          cases e1
          rw [hk]; rfl
        · rename_i hk
          cases e1
          rw [hk]; rfl
        · cases e1
      | cons => cases h2
    · cases h
theorem kPs_ok : ∀ (xs : Es) {X : Cx} {sc : Scope} {pos : Pos} (ks : List (Option Expr)) (vs : List Expr), GX T N P n sl X → X.env.scope = sc → kPs T sl xs sc ks vs = true → PPs X pos ks vs (trsOf N X.K P (callF P n) (makeF P n) xs)
  | .nil, X, sc, pos, ks, vs, g, es, h => by
    unfold kPs at h
    split at h
    · exact pps_nil
    · cases h
  | .cons k .nil, X, sc, pos, ks, vs, g, es, h => by
    unfold kPs at h
    split at h <;> simp at h
  | .cons k (.cons v r), X, sc, pos, ks, vs, g, es, h => by
    unfold kPs at h
    split at h
    · simp only [Bool.and_eq_true] at h
      exact pps_cons (kE_ok k _ g es h.1).pe (kE_ok v _ g es h.2.1).pe (kPs_ok r _ _ g es h.2.2)
    · cases h
theorem kEo_ok : ∀ (o : Eo) {X : Cx} {sc : Scope} (a : Option Expr), GX T N P n sl X → X.env.scope = sc → kEo T sl o sc a = true → PO X a (tRb N X.K (evEo P (callF P n) (makeF P n) o))
  | .no, X, sc, a, g, es, h => by
    unfold kEo at h
    split at h
    · exact m_part (.inl ⟨rfl, by funext fr st; rw [evEo]⟩)
    · cases h
  | .so e, X, sc, a, g, es, h => by
    unfold kEo at h
    split at h
    · exact m_part (.inr ⟨_, _, rfl, (kE_ok e _ g es h).pe, by funext fr st; rw [evEo] <;> rfl⟩)
    · cases h
theorem kIt_ok : ∀ (it : It) {X : Cx} {sc : Scope} (tg a : Expr), GX T N P n sl X → X.env.scope = sc → kIt T sl it sc tg a = true → ItOk X N tg a (evIt P (callF P n) (makeF P n) it)
  | .any e, X, sc, tg, a, g, es, h => by
    rw [kIt] at h
    exact itok_any (kE_ok e _ g es h).pe
  | .range1 e, X, sc, tg, a, g, es, h => by
    unfold kIt at h
    split at h
    · simp only [Bool.and_eq_true, decide_eq_true_eq] at h
      obtain ⟨⟨⟨rfl, h2⟩, h3⟩, h4⟩ := h
      obtain ⟨f1, f2, _, _⟩ := free_ok g es h2
      have ha := m_cons (kE_ok e _ g es h4).pe m_nil (star_cons (es := []) h3)
      exact itok_range1 f1 f2 (castA ha fun fr st => by rw [evEs]; simp only [evEs]) (star_cons h3)
    · cases h
  | .range2 e f, X, sc, tg, a, g, es, h => by
    unfold kIt at h
    split at h
    · simp only [Bool.and_eq_true, decide_eq_true_eq] at h
      obtain ⟨⟨⟨⟨⟨rfl, h2⟩, h3⟩, h3'⟩, h4⟩, h5⟩ := h
      obtain ⟨f1, f2, _, _⟩ := free_ok g es h2
      have ha := m_cons (kE_ok e _ g es h4).pe (m_cons (kE_ok f _ g es h5).pe m_nil (star_cons (es := []) h3')) (star_cons h3)
      exact itok_range2 f1 f2 (castA ha fun fr st => by simp only [evEs]) (by rw [star_cons h3, star_cons h3']; rfl) (star_cons h3')
    · cases h
  | .enum e, X, sc, tg, a, g, es, h => by
    unfold kIt at h
    split at h
    · split at h
      · simp only [Bool.and_eq_true, decide_eq_true_eq] at h
        obtain ⟨⟨⟨rfl, h2⟩, h3⟩, h4⟩ := h
        obtain ⟨f1, f2, _, _⟩ := free_ok g es h2
        have ha := m_cons (kE_ok e _ g es h4).pe m_nil (star_cons (es := []) h3)
        exact itok_enum f1 f2 (castA ha fun fr st => by rw [evEs]; simp only [evEs]) (star_cons h3)
      · cases h
    · cases h
  | .zip e f, X, sc, tg, a, g, es, h => by
    unfold kIt at h
    split at h
    · split at h
      · simp only [Bool.and_eq_true, decide_eq_true_eq] at h
        obtain ⟨⟨⟨⟨⟨rfl, h2⟩, h3⟩, h3'⟩, h4⟩, h5⟩ := h
        obtain ⟨f1, f2, _, _⟩ := free_ok g es h2
        have ha := m_cons (kE_ok e _ g es h4).pe (m_cons (kE_ok f _ g es h5).pe m_nil (star_cons (es := []) h3')) (star_cons h3)
        exact itok_zip f1 f2 (castA ha fun fr st => by simp only [evEs]) (by rw [star_cons h3, star_cons h3']; rfl) (star_cons h3')
      · cases h
    · cases h
  | .items e, X, sc, tg, a, g, es, h => by
    unfold kIt at h
    split at h
    · split at h
      · simp only [Bool.and_eq_true, decide_eq_true_eq] at h
        obtain ⟨⟨⟨rfl, h2⟩, h3⟩, h4⟩ := h
        exact itok_items (kE_ok e _ g es h4).pe (base_ok h2) h3
      · cases h
    · cases h
  | .values e, X, sc, tg, a, g, es, h => by
    unfold kIt at h
    split at h
    · simp only [Bool.and_eq_true, decide_eq_true_eq] at h
      obtain ⟨⟨⟨rfl, h2⟩, h3⟩, h4⟩ := h
      exact itok_values (kE_ok e _ g es h4).pe (base_ok h2) h3
    · cases h
  | .rev e, X, sc, tg, a, g, es, h => by
    unfold kIt at h
    split at h
    · simp only [Bool.and_eq_true, decide_eq_true_eq] at h
      obtain ⟨⟨⟨rfl, h2⟩, h3⟩, h4⟩ := h
      obtain ⟨f1, f2, _, _⟩ := free_ok g es h2
      have ha := m_cons (kE_ok e _ g es h4).pe m_nil (star_cons (es := []) h3)
      exact itok_rev f1 f2 (castA ha fun fr st => by rw [evEs]; simp only [evEs]) (star_cons h3)
    · cases h
end
end
end MP

set_option Elab.async false
set_option linter.all false
set_option maxRecDepth 100000
set_option maxHeartbeats 4000000
/-! MPChk4: a name set to a comprehension; the test is sound for statements. -/
namespace MP
open PySem PySem.Spec PyProof.Rows L2

section
variable {X : Cx} {N : Nm}
/-- a comprehension read: over what iterator, locked or not -/
theorem lc_read {tg iter : Expr} {t : Tg} {own : List Nat} {fit : Fr → Sto → R (Wk × Sto × (Sto → Sto))} {fifs : Fr → Sto → R (Bool × Sto)} {felt : Fr → Sto → RD} (hi : ItOk X N tg iter fit) (hslots : ∀ i ∈ slotsT t, i ∈ own) {σ : L2.St} {H : Hp} {Q : VK}
    (h : tR N X.K (fun fr st => (fit fr st).bind fun w =>
      (lcF w.1.ok (fun d st => match tgF t d (wipeF fr own) with
        | some fr2 => (fifs fr2 st).bind fun p => if p.1 then (felt fr2 p.2).bind fun q => .ok (some q.1, q.2) else .ok (none, p.2)
        | none => .no) w.1.ds [] w.2.1).bind fun q => newF (w.2.2 q.2) (.lst q.1)) σ H Q) :
    ∃ wi, PI X tg iter wi ∧ (tLc wi (gT X.K t) (tRb N X.K fifs) (tR N X.K felt) own σ H Q ∨ tLockE (tLc wi (gT X.K t) (tRb N X.K fifs) (tR N X.K felt) own) σ H Q) := by
  obtain ⟨ρ, fr, st, d, st', R, F, e, P⟩ := h
  obtain ⟨⟨w, st1, u⟩, e1, e⟩ := MP.R.bind_eq e
  obtain ⟨⟨acc, st2⟩, e2, e⟩ := MP.R.bind_eq e
  have hturn : ∀ (ρa : List Addr) (sta : Sto) (Ha : Hp) (d : D) (x : V) (y : Option D) (stb : Sto) (K1 : VK) (K0 : Hp → Prop), Rl N X.K ρa sta Ha → Rf X.K ρa Ha (wipeF fr own) (L2.wipe σ own) → Rep X.K ρa Ha d x →
      (match tgF t d (wipeF fr own) with
        | some fr2 => (fifs fr2 sta).bind fun p => if p.1 then (felt fr2 p.2).bind fun q => .ok (some q.1, q.2) else .ok (none, p.2)
        | none => .no) = .ok (y, stb) →
      (∀ d', y = some d' → ∀ ρ' H' v, Ext ρa Ha ρ' H' → Rl N X.K ρ' stb H' → Rep X.K ρ' H' d' v → K1 v H') → (y = none → ∀ ρ' H', Ext ρa Ha ρ' H' → Rl N X.K ρ' stb H' → K0 H') →
      gT X.K t x (L2.wipe σ own) Ha fun σ2 H2 => L2.wipe σ2 own = L2.wipe σ own ∧ tRb N X.K fifs σ2 H2 fun b H3 => if b = true then tR N X.K felt σ2 H3 fun z H4 => K1 z H4 else K0 H3 := by
    intro ρa sta Ha d x y stb K1 K0 Ra Fa ra et k1 k0
    split at et
    · rename_i fr2 ht2
      refine read_tg t ra Fa ht2 fun σ' F' hw => ⟨by rw [hw _ hslots]; exact wipe_wipe _ _ _ fun _ h => h, ?_⟩
      obtain ⟨p, e3, et⟩ := MP.R.bind_eq et
      refine ⟨ρa, fr2, sta, p.1, p.2, Ra, F', e3, fun ρ2 H2 E2 R2 => ?_⟩
      by_cases hp : p.1 = true
      · rw [if_pos hp] at et
        obtain ⟨q, e4, et⟩ := MP.R.bind_eq et
        cases et
        rw [hp]
        exact iteT ⟨ρ2, fr2, p.2, q.1, q.2, R2, F'.ext E2, e4, fun ρ3 H3 v E3 R3 r3 => k1 _ rfl ρ3 H3 v (E2.trans E3) R3 r3⟩
      · rw [if_neg hp] at et
        cases et
        have hp' : p.1 = false := by simpa using hp
        rw [hp']
        exact iteF (k0 rfl ρ2 H2 E2 R2)
    · cases et
  rcases hi ρ fr st H σ w st1 u R F e1 with ⟨rfl, wi, pi, hwi⟩ | ⟨n, a, kvs, ws, ha, hst, hH, kv, rfl, rfl, wi, pi, hwi⟩
  · cases e
    refine ⟨wi, pi, .inl ?_⟩
    refine hwi _ fun ρ1 H1 J E1 R1 wk => ?_
    exact lc_walk wk R1 (F.ext E1) e2 hturn fun ρ2 H2 D0 _ E2 R2 hl => P _ _ _ (E1.trans E2) R2 (.ref (by
      show (ρ2 ++ [D0])[(id st2).length]? = some D0
      show (ρ2 ++ [D0])[st2.length]? = some D0
      rw [← hl, List.getElem?_append_right (Nat.le_refl _), Nat.sub_self]; rfl))
  · cases e
    refine ⟨wi, pi, .inr ?_⟩
    refine ⟨a, .dK ws, hH, trivial, fun od => ?_⟩
    have RL := R.lock ha hH kv od
    refine hwi od _ RL fun ρ1 H1 J E1 R1 wk => ?_
    have hcg : Chg H a := ⟨by simp [hH], by simp [hH], by simp [hH]⟩
    refine lc_walk (Q := fun v H' => H' a = some (HO.frz od (HO.dK ws)) ∧ Q v (upd H' a (HO.dK ws))) wk R1 ((F.chg hcg).ext E1) e2 hturn fun ρ2 H2 D0 E3 E2 R2 hl => ?_
    replace E3 := E1.trans E3
    replace E2 := E1.trans E2
    have hfz := E2.frzd a od ws upd_same
    refine ⟨hfz, ?_⟩
    have EU := Ext.unlock (List.mem_of_getElem? ha) hH E2
    have RU := R2.unlock (E2.ix ha) hfz kv EU
    have ln : n < st2.length := by
      rw [← hl]
      exact (List.getElem?_eq_some_iff.mp (E3.ix ha)).1
    rw [swap_set _ _ _ _ ln] at RU
    refine P _ _ _ EU RU (.ref ?_)
    show (ρ2 ++ [D0])[(st2.set n (.dct kvs)).length]? = some D0
    rw [List.length_set, ← hl, List.getElem?_append_right (Nat.le_refl _), Nat.sub_self]; rfl
theorem s_setLc {i : Nat} {y : Str} {py : Pos} {tg iter elt : Expr} {ifs : List Expr} {scope : Scope} {pos spos : Pos} {own : List (Str × Nat)} {t : Tg} {fit : Fr → Sto → R (Wk × Sto × (Sto → Sto))} {fifs : Fr → Sto → R (Bool × Sto)} {felt : Fr → Sto → RD}
    (hc : X.calm = true) (hN : X.N.Nodup) (hy : X.N[i]? = some y) (hyl : X.env.scope.names.lookup y = some .local)
    (hsw : swapsWith (.ListComp elt [⟨tg, iter, ifs, 0⟩] scope pos) (some (.Name y py)) spos.line X.env = pure true)
    (hi : ItOk X N tg iter fit) (ok : BlkOk X.N X.env.scope scope own) (hs : ∀ x, foldedSetIterable iter X.env x = pure x) (hslots : ∀ i ∈ slotsT t, i ∈ own.map (·.2))
    (hg : ∀ (s : Shared) (H : Hp) (C : Addr) (cl : List (Str × Addr)) (fp : List Addr), PG (X.blk s H scope (compEnvC scope cl C X.env) fp) tg (gT X.K t))
    (ht : ∀ (s : Shared) (H : Hp) (C : Addr) (cl : List (Str × Addr)) (fp : List Addr), PTs (X.blk s H scope (compEnvC scope cl C X.env) fp) ifs (tRb N X.K fifs))
    (he : ∀ (s : Shared) (H : Hp) (C : Addr) (cl : List (Str × Addr)) (fp : List Addr), PE (X.blk s H scope (compEnvC scope cl C X.env) fp) elt (tR N X.K felt)) :
    PS X (.Assign [.Name y py] (.ListComp elt [⟨tg, iter, ifs, 0⟩] scope pos) spos) (tS N X.K fun fr st => ((fit fr st).bind fun w =>
      (lcF w.1.ok (fun d st => match tgF t d (wipeF fr (own.map (·.2))) with
        | some fr2 => (fifs fr2 st).bind fun p => if p.1 then (felt fr2 p.2).bind fun q => .ok (some q.1, q.2) else .ok (none, p.2)
        | none => .no) w.1.ds [] w.2.1).bind fun q => newF (w.2.2 q.2) (.lst q.1)).stm fr fun p => match tgF (.v i) p.1 fr with
          | some fr => .nx fr p.2
          | none => .no) := by
  refine PS.by fun D σ H ⟨ρ, fr, st, R, F, P⟩ => ?_
  obtain ⟨p, e1, P⟩ := P.stm
  simp only [tgF] at P
  have hr := lc_read (X := X) (N := N) (σ := σ) (H := H) (Q := fun x H1 => D.nx (σ.set i (some x)) H1) hi hslots ⟨ρ, fr, st, p.1, p.2, R, F, e1, fun ρ1 H1 v E1 R1 r1 => P ρ1 H1 _ E1 R1 ((F.ext E1).set r1 i)⟩
  obtain ⟨wi, pi, hr | hr⟩ := hr
  · exact ⟨_, ps_setLc hc hN hy hyl hsw pi ok hg ht he hs, hr⟩
  · exact ⟨_, ps_lock (ps_setLc hc hN hy hyl hsw pi ok hg ht he hs), hr⟩
end

section
variable {T : Tab} {N : Nm} {P : Prog} {n : Nat} {sl : List Str} {X : Cx} {sc : Scope} {cl : List Str}
theorem castS {s : Stmt} {f f' : Fr → Sto → C} (h : PS X s (tS N X.K f)) (e : ∀ fr st, f' fr st = f fr st) : PS X s (tS N X.K f') := by
  have : f' = f := funext fun fr => funext fun st => e fr st
  rw [this]; exact h
theorem castSs {s : List Stmt} {f f' : Fr → Sto → C} (h : PSs X s (tS N X.K f)) (e : ∀ fr st, f' fr st = f fr st) : PSs X s (tS N X.K f') := by
  have : f' = f := funext fun fr => funext fun st => e fr st
  rw [this]; exact h
theorem swap_ok (g : GX T N P n sl X) {tg v : Expr} {l : Nat} (es : X.env.scope = sc) (h : swapB sc tg v l = true) : ∃ y py elt gs s p, tg = .Name y py ∧ v = .ListComp elt gs s p ∧ X.env.scope.names.lookup y = some .local ∧ swapsWith v (some tg) l X.env = pure true := by
  unfold swapB at h
  split at h
  · rename_i y py elt gs s p
    simp only [Bool.and_eq_true, Bool.not_eq_true'] at h
    obtain ⟨⟨h1, h2⟩, h3⟩ := h
    have hl : X.env.scope.names.lookup y = some .local := by
      rw [es]
      split at h2
      · assumption
      · cases h2
    exact ⟨y, py, elt, gs, s, p, rfl, rfl, hl, sw_true g.kd hl h1 h3⟩
  · cases h
mutual
theorem kS_ok (g : GX T N P n sl X) (hx : X.xe = fun _ _ => False) (es : X.env.scope = sc) (hf : ∀ y ∈ cl, X.fn y = true) : ∀ (s : S) (ast : Stmt), kS T sl s sc cl ast = true → PS X ast (tS N X.K (evS P (callF P n) (makeF P n) s))
  | .set t e, ast, h => by
    unfold kS at h
    split at h
    · rename_i tg v p
      simp only [Bool.and_eq_true] at h
      obtain ⟨⟨⟨h1, h2⟩, h3⟩, h4⟩ := h
      have he := kE_ok e _ g es h4
      have ht := kTg_ok g es hf t tg h3
      rw [Bool.or_eq_true] at h2
      rcases h2 with h2 | h2
      · exact castS (s_set he.pe ht (comp_ok h2) (seqT_ok h1) (assign1 h3)) fun fr st => by rw [evS] <;> rfl
      · obtain ⟨y, py, elt, gs, s, vp, rfl, rfl, hl, hsw⟩ := swap_ok g es h2
        cases e with
        | lc tg2 it ifs elt2 own =>
          unfold kE at h4
          split at h4
          · rename_i x t2 i fs scope pos heq
            cases heq
            simp only [Bool.and_eq_true] at h4
            obtain ⟨⟨⟨⟨⟨⟨a1, a2⟩, a3⟩, a4⟩, a5⟩, a6⟩, a7⟩ := h4
            have bo := blkOk_by a3
            have key : ∀ (s0 : Shared) (H : Hp) (C : Addr) (cl : List (Str × Addr)) (fp : List Addr), GX T N P n sl (X.blk s0 H s (compEnvC s cl C X.env) fp) ∧ (X.blk s0 H s (compEnvC s cl C X.env) fp).env.scope = relS s sc ∧ ∀ y ∈ cellsB s, (X.blk s0 H s (compEnvC s cl C X.env) fp).fn y = true :=
              fun s0 H C cl fp => ⟨g.blk s0 H s C cl fp bo.kind, by rw [← es]; rfl, fun y hy => cells_fn bo.uniq hy⟩
            cases t with
            | v j =>
              have hj : sl[j]? = some y := by
                simp only [kTg, Bool.and_eq_true, decide_eq_true_eq] at h3
                exact h3.1
              have hl2 := s_setLc (X := X) (N := N) (i := j) (t := tg2) (own := ownL sl own) g.calm (by rw [g.nm]; exact g.nd) (by rw [g.nm]; exact hj) hl hsw (kIt_ok it _ _ g es a1) (by rw [g.nm, es]; exact bo) (set_ok a2)
                (fun j hj => by rw [own_ix]; exact of_decide_eq_true (List.all_eq_true.mp a4 j hj))
                (fun s H C cl fp => let ⟨k1, k2, k3⟩ := key s H C cl fp; kTg_ok k1 k2 k3 tg2 _ a5)
                (fun s H C cl fp => let ⟨k1, k2, k3⟩ := key s H C cl fp; kIfs_ok ifs _ k1 k2 a6)
                (fun s H C cl fp => let ⟨k1, k2, k3⟩ := key s H C cl fp; (kE_ok elt2 _ k1 k2 a7).pe)
              rw [own_ix] at hl2
              exact castS hl2 fun fr st => by rw [evS, evE] <;> rfl
            | tup ts => simp [kTg] at h3
          · cases h4
        | v i => simp [kE] at h4
        | c d => simp [kE, conB] at h4
        | op o a b => simp [kE] at h4
        | neg a => simp [kE] at h4
        | not a => simp [kE] at h4
        | and a b => simp [kE] at h4
        | or a b => simp [kE] at h4
        | ife a b c => simp [kE] at h4
        | chain o o' a b c => simp [kE] at h4
        | isN a => simp [kE] at h4
        | notN a => simp [kE] at h4
        | isB a b c => simp [kE] at h4
        | tup a => simp [kE] at h4
        | lst a => simp [kE] at h4
        | dic a => simp [kE] at h4
        | call a b c => simp [kE] at h4
        | make a b c d => simp [kE] at h4
        | meth a b c => simp [kE] at h4
        | fld a b => simp [kE] at h4
        | ix a b => simp [kE] at h4
        | sl a b c => simp [kE] at h4
        | bi a b => simp [kE] at h4
        | isi a b => simp [kE] at h4
        | bm a b c => simp [kE] at h4
        | kix a b => simp [kE] at h4
        | kget a b c => simp [kE] at h4
        | kmem a b c => simp [kE] at h4
    · cases h
  | .setix o i e, ast, h => by
    unfold kS at h
    split at h
    · rename_i a b ap v p
      simp only [Bool.and_eq_true] at h
      obtain ⟨⟨⟨h1, h2⟩, h3⟩, h4⟩ := h
      refine castS (s_setix g.room (kE_ok o _ g es h2).pe (kE_ok i _ g es h3).pe (kE_ok e _ g es h4).pe ?_ ?_ ?_) fun fr st => by rw [evS] <;> rfl
      · cases v <;> rfl
      · exact seqT_ok rfl
      · intro v
        cases b <;> first | rfl | exact absurd h1 (by simp [sliceB])
    · cases h
  | .setfld o f e, ast, h => by
    unfold kS at h
    split at h
    · rename_i a nm ap v p
      simp only [Bool.and_eq_true, decide_eq_true_eq] at h
      obtain ⟨⟨h1, h2⟩, h3⟩ := h
      refine castS (s_setfld g.meth (by rw [g.fld]; exact h1) (kE_ok o _ g es h2).pe (kE_ok e _ g es h3).pe ?_) fun fr st => by rw [evS] <;> rfl
      cases v <;> rfl
    · cases h
  | .augfld o f e, ast, h => by
    unfold kS at h
    split at h
    · rename_i a nm ap v p
      simp only [Bool.and_eq_true, decide_eq_true_eq] at h
      obtain ⟨⟨h1, h2⟩, h3⟩ := h
      exact castS (s_augfld g.meth (by rw [g.fld]; exact h1) (kE_ok o _ g es h2).pe (kE_ok e _ g es h3).pe) fun fr st => by rw [evS] <;> rfl
    · cases h
  | .ex e, ast, h => by
    unfold kS at h
    split at h
    · rw [Bool.and_eq_true] at h
      exact castS (s_ex (kE_ok e _ g es h.2).pe (comp_ok h.1)) fun fr st => by rw [evS]
    · cases h
  | .ret e, ast, h => by
    unfold kS at h
    split at h
    · exact castS (s_ret (kE_ok e _ g es h).pe) fun fr st => by rw [evS]
    · cases h
  | .retn, ast, h => by
    unfold kS at h
    split at h
    · exact castS s_retn fun fr st => by rw [evS]
    · cases h
  | .ife c a b, ast, h => by
    unfold kS at h
    split at h
    · simp only [Bool.and_eq_true] at h
      exact castS (s_if (kE_ok c _ g es h.1.1).pt (kSs_ok g hx es hf a _ h.1.2) (kSs_ok g hx es hf b _ h.2)) fun fr st => by rw [evS]
    · cases h
  | .forr t it b, ast, h => by
    unfold kS at h
    split at h
    · simp only [Bool.and_eq_true] at h
      obtain ⟨⟨⟨h1, h2⟩, h3⟩, h4⟩ := h
      exact castS (s_for (by rw [hx]; exact PassesOwn.never) g.calm (kIt_ok it _ _ g es h1) (kTg_ok g es hf t _ h3) (kSs_ok g hx es hf b _ h4) (set_ok h2)) fun fr st => by rw [evS] <;> rfl
    · cases h
  | .whl c b, ast, h => by
    unfold kS at h
    split at h
    · rw [Bool.and_eq_true] at h
      exact castS (s_while (by rw [hx]; exact PassesOwn.never) (kE_ok c _ g es h.1).pt (kSs_ok g hx es hf b _ h.2)) fun fr st => by rw [evS]
    · cases h
  | .pass, ast, h => by
    unfold kS at h
    split at h
    · exact castS s_pass fun fr st => by rw [evS]
    · cases h
  | .raise c, ast, h => by simp [kS] at h
  | .nev, ast, h => castS s_nev fun fr st => by rw [evS]
theorem kSs_ok (g : GX T N P n sl X) (hx : X.xe = fun _ _ => False) (es : X.env.scope = sc) (hf : ∀ y ∈ cl, X.fn y = true) : ∀ (ss : Ss) (as : List Stmt), kSs T sl ss sc cl as = true → PSs X as (tS N X.K (evSs P (callF P n) (makeF P n) ss))
  | .nil, as, h => by
    unfold kSs at h
    split at h
    · exact castSs s_nil fun fr st => by rw [evSs]
    · cases h
  | .cons s r, as, h => by
    unfold kSs at h
    split at h
    · rw [Bool.and_eq_true] at h
      exact castSs (s_cons (kS_ok g hx es hf s _ h.1) (kSs_ok g hx es hf r _ h.2)) fun fr st => by rw [evSs]
    · cases h
end
end
end MP

set_option Elab.async false
set_option linter.all false
set_option maxRecDepth 100000
set_option maxHeartbeats 1000000
/-! MPFn: the defs keep the interpreter's promise at every floor; a law's table. -/
namespace MP
open PySem PySem.Spec PyProof.Rows L2

/-- a def: where it stands, its text, its slots, its parameters, its defaults -/
structure Dr where
  at_ : Str × Option Str
  name : Str
  qual : Str
  params : Arguments
  body : List Stmt
  scope : Scope
  sl : List Str
  ps : List Str
  dfl : List D
def dvOf : D → He.Dv
  | .non => .non
  | .bl b => .bl b
  | .int i => .int i
  | .str x => .str (toS x)
  | _ => .non
def flatD : D → Bool
  | .non => true
  | .bl _ => true
  | .int _ => true
  | .str _ => true
  | _ => false
theorem dv_rep {K : PySem.W.Frag} {ρ : List Addr} {H : Hp} : ∀ {d : D}, flatD d = true → Rep K ρ H d ((dvOf d).v K)
  | .non, _ => .non
  | .bl b, _ => .bl b
  | .int i, _ => .int i
  | .str x, _ => .str x
  | .tup _, h => by cases h
  | .kls _, h => by cases h
  | .ref _, h => by cases h
theorem dv_reps {K : PySem.W.Frag} {ρ : List Addr} {H : Hp} : ∀ {ds : List D}, ds.all flatD = true → Reps K ρ H ds ((ds.map dvOf).map (He.Dv.v K))
  | [], _ => .nil
  | d :: ds, h => by
    rw [List.all_cons, Bool.and_eq_true] at h
    exact .cons (dv_rep h.1) (dv_reps h.2)
def Dr.defD (d : Dr) : He.DefD := ⟨d.at_, d.name, d.qual, d.params, d.body, d.scope, d.dfl.map dvOf, []⟩
def scB (sl ps : List Str) (sc : Scope) : Bool :=
  (match sc.kind with | .function => true | _ => false) && !sc.isCoroutine && !sc.isGenerator && decide sl.Nodup && decide (sl.take ps.length = ps) && (ps.all fun x => match sc.names.lookup x with | some .local => true | some .cell => true | _ => false) && sc.names.all fun y => match y.2 with | .free => false | _ => true
theorem sc_ok {sl ps : List Str} {sc : Scope} (h : scB sl ps sc = true) : FnScope sl ps sc := by
  unfold scB at h
  simp only [Bool.and_eq_true, Bool.not_eq_true', decide_eq_true_eq, List.all_eq_true] at h
  obtain ⟨⟨⟨⟨⟨⟨h1, h2⟩, h3⟩, h4⟩, h5⟩, h6⟩, h7⟩ := h
  refine ⟨?_, h2, h3, h4, h5, fun x hx => ?_, fun y hy e => ?_⟩
  · split at h1
    · assumption
    · cases h1
  · have := h6 x hx
    split at this
    · rename_i q; exact .inl q
    · rename_i q; exact .inr q
    · cases this
  · have := h7 y hy
    rw [e] at this
    cases this
def Dr.okB (T : Tab) (d : Dr) (fd : FD) : Bool := scB d.sl d.ps d.scope && decide (d.ps.length = fd.np) && decide (d.sl.length = fd.nn) && d.dfl.all flatD && decide (d.dfl.length ≤ d.ps.length) && kSs T d.sl fd.body d.scope (cellsB d.scope) d.body
/-- how a def's arguments are bound -/
def BindOk (d : Dr) : Prop := match d.dfl with
  | [] => ∀ (kV doc pm : Value) (an : Option Addr) (cdv ct : Value) (us : List Value), us.length = d.ps.length → bindArgs (PySem.W.fnOf d.name d.qual d.params d.body d.scope .none kV doc pm an cdv ct) ⟨us, []⟩ = pure (d.ps.zip us)
  | dfl => ∀ j, j ≤ dfl.length → ∀ (T : Addr) (kV doc pm : Value) (an : Option Addr) (cdv ct : Value) (us its : List Value), us.length = d.ps.length - (dfl.length - j) → its.length = dfl.length →
      ∃ k, bindArgs (PySem.W.fnOf d.name d.qual d.params d.body d.scope (.ref T) kV doc pm an cdv ct) ⟨us, []⟩ = seqItems? (.ref T) >>= k ∧ k (some its.toArray) = pure (d.ps.zip (us ++ its.drop j))

section
variable {prog : Program} {w : World} {K : PySem.W.Frag} {mg : Str → Option Value} {base : Heap} {N : Nm} {T : Tab} {P : Prog}
/-- a def keeps the promise, with no context -/
structure FnB (prog : Program) (w : World) (K : PySem.W.Frag) (mg : Str → Option Value) (base : Heap) (N : Nm) (cf : Cf) (k : Nat) (id : Nat) (dfl : List D) (f : Addr) : Prop where
  ok : ∃ (fd : FuncData) (ps : List Str), FnOk prog w K mg base CX0 k f fd ps (spF N K cf id) ∧ ∀ j, j ≤ dfl.length → ∃ (ds : List Value) (dvs : List V), Vals dvs ds ∧ Binds K fd ps ds ∧ ∀ ρ H, Reps K ρ H (dfl.drop j) dvs
  kp : PySem.W.keepIn K (.ref f) = true
theorem FnB.at {X : Cx} {cf : Cf} {k id : Nat} {dfl : List D} {f : Addr} (h : FnB prog w K mg base N cf k id dfl f) (e1 : X.prog = prog) (e2 : X.w = w) (e3 : X.K = K) (e4 : X.mg = mg) (e5 : X.base = base) : FnG X N cf k id dfl f := by
  subst e1 e2 e3 e4 e5
  exact ⟨h.ok, h.kp⟩
/-- what the head tells -/
structure Say (K : PySem.W.Frag) (w : World) (mg : Str → Option Value) (N : Nm) (T : Tab) (P : Prog) (drs : List Dr) (ad : Nat → Addr) : Prop where
  fn : ∀ (i : Nat) (d : Dr), drs[i]? = some d → ∃ fd, FunD K d.name d.qual d.params d.body d.scope ((d.dfl.map dvOf).map (He.Dv.v K)) [] (ad i) fd
  ok : ∀ (i : Nat) (d : Dr), drs[i]? = some d → ∃ fd, P.fns[i]? = some fd ∧ d.okB T fd = true
  len : P.fns.length = drs.length
  bd : ∀ (i : Nat) (d : Dr), drs[i]? = some d → BindOk d
  fns : ∀ f q, T.fns[f]? = some q → ∃ d, drs[f]? = some d ∧ d.dfl = q.2 ∧ ∀ x ∈ q.1, mg x = some (.ref (ad f))
  cls : ∀ c x id dfl, T.cls[c]? = some (x, id, dfl) → ∃ C d, N.cls c = some C ∧ mg x = some (.ref C) ∧ drs[id]? = some d ∧ d.dfl = dfl ∧ Mk K C (ad id)
  con : ∀ x d, T.con.lookup x = some d → ∃ v u, mg x = some u ∧ RelV v u ∧ ∀ ρ H, Rep K ρ H d v
  kds : ∀ x kvs, T.kds.lookup x = some kvs → KdM K w mg x kvs
  free : ∀ x ∈ T.free, mg x = none
  cl : ∀ c C, N.cls c = some C → Cls K C
  no : ∀ c C, N.cls c = some C → ∀ (f : Nat) x, N.fld[f]? = some x → NoAttr K C x
  nd : N.fld.Nodup
  tot : ∀ c m fd, findM P c m = some fd → ∃ C, N.cls c = some C
  me : ∀ c C, N.cls c = some C → ∀ (m : Nat) x id dfl, T.mths[m]? = some x → findM P c m = some (id, dfl) → x ∉ N.fld ∧ ∃ d, drs[id]? = some d ∧ d.dfl = dfl ∧ Meth K C x (ad id)
  fld : N.fld = T.flds
variable {drs : List Dr} {ad : Nat → Addr}
theorem binds_of (S : Say K w mg N T P drs ad) {i : Nat} {d : Dr} (hi : drs[i]? = some d) {fd : FuncData} (F : FunD K d.name d.qual d.params d.body d.scope ((d.dfl.map dvOf).map (He.Dv.v K)) [] (ad i) fd) :
    ∀ j, j ≤ d.dfl.length → ∃ (ds : List Value) (dvs : List V), Vals dvs ds ∧ Binds K fd d.ps ds ∧ ∀ ρ H, Reps K ρ H (d.dfl.drop j) dvs := by
  obtain ⟨fd0, _, hok⟩ := S.ok i d hi
  unfold Dr.okB at hok
  simp only [Bool.and_eq_true, decide_eq_true_eq] at hok
  obtain ⟨⟨⟨⟨⟨h1, h2⟩, h3⟩, h4⟩, h5⟩, h6⟩ := hok
  have hb := S.bd i d hi
  intro j hj
  unfold BindOk at hb
  split at hb
  · rename_i e
    rw [e] at F hj ⊢
    exact ⟨[], [], .nil, F.bindsN hb, fun ρ H => by rw [List.drop_nil]; exact .nil⟩
  · rename_i dfl hne
    have hne2 : d.dfl ≠ [] := fun e => hne e
    have hl : ((d.dfl.map dvOf).map (He.Dv.v K)).length = d.dfl.length := by rw [List.length_map, List.length_map]
    obtain ⟨ds, hv, hbd⟩ := F.binds1 (ps := d.ps) (d.ps.length - (d.dfl.length - j)) j (by simpa using hne2) (by rw [hl]; omega)
      (fun T kV doc pm an cdv ct us its e1 e2 => hb j hj T kV doc pm an cdv ct us its e1 (by rw [e2, hl]))
    refine ⟨ds, _, hv, hbd, fun ρ H => ?_⟩
    rw [← List.map_drop, ← List.map_drop]
    exact dv_reps (List.all_eq_true.mpr fun x hx => List.all_eq_true.mp h4 x (List.mem_of_mem_drop hx))
theorem kp_of (S : Say K w mg N T P drs ad) {i : Nat} {d : Dr} (hi : drs[i]? = some d) : PySem.W.keepIn K (.ref (ad i)) = true := let ⟨_, F⟩ := S.fn i d hi; F.kp
theorem none_of (S : Say K w mg N T P drs ad) {i : Nat} {d : Dr} (hi : drs[i]? = some d) (k : Nat) : FnB prog w K mg base N noF k i d.dfl (ad i) := by
  obtain ⟨fd, F⟩ := S.fn i d hi
  refine ⟨⟨fd, d.ps, ⟨fun vs H Q E h => ?_, fun A outer s H args us vs Q E _ _ _ _ h => ?_⟩, binds_of S hi F⟩, F.kp⟩
  · obtain ⟨_, _, _, _, _, _, _, e, _⟩ := h
    cases e
  · obtain ⟨_, _, _, _, _, _, _, e, _⟩ := h
    cases e
theorem start_rf {ρ : List Addr} {H : Hp} {ds : List D} {vs : List V} {sl : List Str} {nn : Nat} (r : Reps K ρ H ds vs) (h : sl.length = nn) (hl : ds.length ≤ nn) : Rf K ρ H (startF nn ds) (L2.start sl vs) := by
  have e1 := r.len
  refine ⟨by simp [startF, L2.start, h, ← e1], fun i d hi => ?_⟩
  unfold startF at hi
  by_cases hlt : i < ds.length
  · rw [List.getElem?_append_left (by simpa using hlt), List.getElem?_map] at hi
    have : ds[i]? = some d := by
      cases q : ds[i]? with
      | none => rw [q] at hi; cases hi
      | some x => rw [q] at hi; cases hi; rfl
    obtain ⟨v, hv, rv⟩ := r.get this
    refine ⟨v, ?_, rv⟩
    unfold L2.start
    rw [List.getElem?_append_left (by simp; omega), List.getElem?_map, hv]
    rfl
  · rw [List.getElem?_append_right (by simpa using hlt), List.getElem?_replicate] at hi
    split at hi <;> cases hi
theorem body_ok (S : Say K w mg N T P drs ad) {n : Nat} (ih1 : ∀ (i : Nat) (d : Dr), drs[i]? = some d → FnB prog w K mg base N (callF P n) (n + 1) i d.dfl (ad i)) (ih2 : ∀ (i : Nat) (d : Dr), drs[i]? = some d → FnB prog w K mg base N (makeF P n) n i d.dfl (ad i))
    {i : Nat} {d : Dr} (hi : drs[i]? = some d) {fd : FuncData} (F : FunD K d.name d.qual d.params d.body d.scope ((d.dfl.map dvOf).map (He.Dv.v K)) [] (ad i) fd) : FnOk prog w K mg base CX0 (n + 2) (ad i) fd d.ps (spF N K (callF P (n + 1)) i) := by
    obtain ⟨fd0, hfd, hok⟩ := S.ok i d hi
    unfold Dr.okB at hok
    simp only [Bool.and_eq_true, decide_eq_true_eq] at hok
    obtain ⟨⟨⟨⟨⟨h1, h2⟩, h3⟩, h4⟩, h5⟩, h6⟩ := hok
    have S1 := sc_ok h1
    refine F.ok S1 (fun vs H Q E h => ?_) (fun cdv A outer s H vs Q E hr h => ⟨tS N K (evSs P (callF P n) (makeF P n) fd0.body), ?_, ?_⟩)
    · obtain ⟨ρ, st, ds, dd, st', R, r, e, _⟩ := h
      rw [callF_succ, runF, hfd] at e
      dsimp only at e
      split at e
      · rename_i hl
        rw [← r.len, hl, h2]
      · cases e
    · refine PSs.nox ?_
      refine kSs_ok (T := T) (sl := d.sl) (sc := d.scope) (cl := cellsB d.scope) ?_ rfl rfl (fun _ _ => rfl) fd0.body d.body h6
      refine ⟨rfl, S1.nd, rfl, S1.kind, hr, fun f q hq => ?_, fun c x id dfl hc => ?_, S.con, S.kds, S.free, ⟨S.cl, S.no, S.nd, S.tot, fun c C hC m x id dfl hm hf => ?_⟩, S.fld⟩
      · obtain ⟨d2, e1, e2, e3⟩ := S.fns f q hq
        exact ⟨ad f, by rw [← e2]; exact (ih1 f d2 e1).at rfl rfl rfl rfl rfl, e3⟩
      · obtain ⟨C, d2, e1, e2, e3, e4, e5⟩ := S.cls c x id dfl hc
        exact ⟨C, ad id, e1, e2, e5, by rw [← e4]; exact (ih2 id d2 e3).at rfl rfl rfl rfl rfl⟩
      · obtain ⟨a1, d2, a2, a3, a4⟩ := S.me c C hC m x id dfl hm hf
        exact ⟨a1, ad id, a4, by rw [← a3]; exact (ih1 id d2 a2).at rfl rfl rfl rfl rfl⟩
    · obtain ⟨ρ, st, ds, dd, st', R, r, e, Po⟩ := h
      rw [callF_succ, runF, hfd] at e
      dsimp only at e
      split at e
      · rename_i hl
        refine ⟨ρ, _, st, R, start_rf r h3 (by have := congrArg List.length S1.pre; rw [List.length_take] at this; omega), ?_⟩
        split at e
        · rename_i fr st2 he
          cases e
          rw [he]
          exact fun ρ' H' σ' E' R' F' => Po ρ' H' _ E' R' .non
        · rename_i d2 st2 he
          cases e
          rw [he]
          exact fun ρ' H' v E' R' r' => Po ρ' H' v E' R' r'
        · cases e
        · cases e
      · cases e
theorem floors (S : Say K w mg N T P drs ad) : ∀ n, (∀ (i : Nat) (d : Dr), drs[i]? = some d → FnB prog w K mg base N (callF P n) (n + 1) i d.dfl (ad i)) ∧ ∀ (i : Nat) (d : Dr), drs[i]? = some d → FnB prog w K mg base N (makeF P n) n i d.dfl (ad i)
  | 0 => ⟨fun i d hi => none_of S hi 1, fun i d hi => none_of S hi 0⟩
  | n + 1 => by
    obtain ⟨ih1, ih2⟩ := floors S n
    refine ⟨fun i d hi => ?_, fun i d hi => ih1 i d hi⟩
    obtain ⟨fd, F⟩ := S.fn i d hi
    exact ⟨⟨fd, d.ps, body_ok S ih1 ih2 hi F, binds_of S hi F⟩, F.kp⟩
end
end MP

set_option Elab.async false
set_option linter.all false
set_option maxRecDepth 100000
set_option maxHeartbeats 1000000
/-! MPHead: a law's table, what the head tells of it, the law's end. -/
namespace MP
open PySem PySem.Spec PyProof.Rows L2

/-- a law's table: defs, names, the interpreter's texts -/
structure LawTab where
  drs : List Dr
  T : Tab
  P : Prog

def conK (K : PySem.W.Frag) (x : Str) : D → Bool
  | .int i => (He.Fa.int x i).ok K
  | .str y => (He.Fa.str x (toS y)).ok K
  | .tup ds => (He.Fa.glo x).ok K && (He.tupB K x (ds.map dvOf) && ds.all flatD)
  | _ => false
def namesK (K : PySem.W.Frag) : List (List Str × List D) → List Dr → Bool
  | [], _ => true
  | q :: r, d :: ds => (q.1.all fun x => He.eqO (PySem.W.nsIn K mainGlobals x) (some (some (.ref (He.fAd K d.at_))))) && namesK K r ds
  | _ :: _, [] => false
def mthK (K : PySem.W.Frag) (L : LawTab) (x : Str) (ms : List (Nat × Nat × List D)) : Bool := ms.all fun p => match L.T.mths[p.1]? with
  | some m => (He.Fa.meth x m).ok K
  | none => true
def clsK (K : PySem.W.Frag) (L : LawTab) : List (Str × Nat × List D) → List (List (Nat × Nat × List D)) → Bool
  | [], _ => true
  | q :: r, ms => (He.Fa.glo q.1).ok K && ((He.Fa.cls q.1).ok K && ((He.Fa.mkr q.1).ok K && ((L.T.flds.all fun f => (He.Fa.noat q.1 f).ok K) && ((match ms with | m :: _ => mthK K L q.1 m | [] => true) && clsK K L r ms.tail))))
/-- a written dict's values -/
def prB : List DictEntry → List (List Char × D) → Bool
  | [], [] => true
  | e :: es, q :: r => (match q.2, e.val with | .int i, .int j _ => decide (i = j) | _, _ => false) && prB es r
  | _, _ => false
def kdV (K : PySem.W.Frag) (a : Addr) (kvs : List (List Char × D)) : Bool := match K.lookup a with
  | some ⟨_, _, .dict es _, _⟩ => prB es.toList kvs
  | _ => false
/-- what the head must tell besides the defs' objects -/
def LawTab.chk (L : LawTab) (K : PySem.W.Frag) : Bool := (L.T.con.all fun q => conK K q.1 q.2) && ((L.T.kds.all fun q => (He.Fa.glo q.1).ok K && kdV K (He.ga K q.1) q.2) && ((L.T.free.all fun x => (He.Fa.free x).ok K) && (namesK K L.T.fns L.drs && clsK K L L.T.cls L.P.mth)))
def okAll (T : Tab) : List Dr → List FD → Bool
  | [], [] => true
  | d :: ds, f :: fs => d.okB T f && okAll T ds fs
  | _, _ => false
def dflAll : List (List Str × List D) → List Dr → Bool
  | [], [] => true
  | q :: r, d :: ds => D.beqs d.dfl q.2 && dflAll r ds
  | _, _ => false
def atB (L : LawTab) (id : Nat) (x m : Str) (dfl : List D) : Bool := match L.drs[id]? with
  | some d => decide (d.at_ = (x, some m)) && D.beqs d.dfl dfl
  | none => false
def clsStat (L : LawTab) : List (Str × Nat × List D) → List (List (Nat × Nat × List D)) → Bool
  | [], [] => true
  | q :: r, [] => atB L q.2.1 q.1 "__init__" q.2.2 && clsStat L r []
  | q :: r, m :: ms => atB L q.2.1 q.1 "__init__" q.2.2 && (m.all fun p => match L.T.mths[p.1]? with
      | some n => atB L p.2.1 q.1 n p.2.2 && !decide (n ∈ L.T.flds)
      | none => true) && clsStat L r ms
  | [], _ :: _ => false
/-- what must be seen of the table alone -/
def LawTab.stat (L : LawTab) : Bool := okAll L.T L.drs L.P.fns && (dflAll L.T.fns L.drs && (decide L.T.flds.Nodup && clsStat L L.T.cls L.P.mth))

section
variable {K : PySem.W.Frag} {h : Heap} {mg : Str → Option Value} {L : LawTab}
theorem okAll_at {T : Tab} : ∀ {ds : List Dr} {fs : List FD}, okAll T ds fs = true → fs.length = ds.length ∧ ∀ (i : Nat) (d : Dr), ds[i]? = some d → ∃ fd, fs[i]? = some fd ∧ d.okB T fd = true
  | [], [], _ => ⟨rfl, fun i d h => by simp at h⟩
  | [], _ :: _, h => by cases h
  | _ :: _, [], h => by cases h
  | d :: ds, f :: fs, h => by
    rw [okAll, Bool.and_eq_true] at h
    obtain ⟨h1, h2⟩ := okAll_at h.2
    refine ⟨by rw [List.length_cons, List.length_cons, h1], fun i d' hi => ?_⟩
    cases i with
    | zero => cases hi; exact ⟨f, rfl, h.1⟩
    | succ i => exact h2 i d' hi
theorem dflAll_at : ∀ {qs : List (List Str × List D)} {ds : List Dr}, dflAll qs ds = true → ∀ (i : Nat) q, qs[i]? = some q → ∃ d, ds[i]? = some d ∧ d.dfl = q.2
  | [], [], _, i, q, h => by simp at h
  | [], _ :: _, h, _, _, _ => by cases h
  | _ :: _, [], h, _, _, _ => by cases h
  | p :: qs, d :: ds, h, i, q, hi => by
    rw [dflAll, Bool.and_eq_true] at h
    cases i with
    | zero => cases hi; exact ⟨d, rfl, D.beqs_eq h.1⟩
    | succ i => exact dflAll_at h.2 i q hi
theorem namesK_at (X : K.In h) (G : h.Ns mainGlobals mg) : ∀ {qs : List (List Str × List D)} {ds : List Dr}, namesK K qs ds = true → ∀ (i : Nat) q d, qs[i]? = some q → ds[i]? = some d → ∀ x ∈ q.1, mg x = some (.ref (He.fAd K d.at_))
  | [], _, _, i, q, d, h, _, _, _ => by simp at h
  | _ :: _, [], h, _, _, _, _, _, _, _ => by cases h
  | p :: qs, d0 :: ds, h, i, q, d, hi, hd, x, hx => by
    rw [namesK, Bool.and_eq_true] at h
    cases i with
    | zero =>
      cases hi
      cases hd
      exact PySem.W.mg_of X G (He.eqO_ok (List.all_eq_true.mp h.1 x hx))
    | succ i => exact namesK_at X G h.2 i q d hi hd x hx
structure ClsFacts (K : PySem.W.Frag) (mg : Str → Option Value) (L : LawTab) (x : Str) (ms : List (Nat × Nat × List D)) : Prop where
  glo : mg x = some (.ref (He.ga K x))
  cls : Cls K (He.ga K x)
  mkr : Mk K (He.ga K x) (He.ma K (He.ga K x) "__init__")
  no : ∀ f ∈ L.T.flds, NoAttr K (He.ga K x) f
  me : ∀ p ∈ ms, ∀ m, L.T.mths[p.1]? = some m → Meth K (He.ga K x) m (He.ma K (He.ga K x) m)
theorem clsK_at (X : K.In h) (G : h.Ns mainGlobals mg) : ∀ {qs : List (Str × Nat × List D)} {mss : List (List (Nat × Nat × List D))}, clsK K L qs mss = true → ∀ (c : Nat) q, qs[c]? = some q → ClsFacts K mg L q.1 ((mss[c]?).getD [])
  | [], _, _, c, q, h => by simp at h
  | q0 :: qs, mss, hk, c, q, hc => by
    unfold clsK at hk
    simp only [Bool.and_eq_true] at hk
    obtain ⟨h1, h2, h3, h4, h5, h6⟩ := hk
    cases c with
    | zero =>
      cases hc
      refine ⟨He.glo_ok X G h1, He.cls_ok h2, He.mkr_ok h3, fun f hf => He.noat_ok (List.all_eq_true.mp h4 f hf), fun p hp m hm => ?_⟩
      cases mss with
      | nil => cases hp
      | cons ms mss =>
        have := List.all_eq_true.mp h5 p hp
        rw [hm] at this
        exact He.meth_ok this
    | succ c =>
      have := clsK_at X G h6 c q hc
      cases mss with
      | nil => exact this
      | cons => exact this
theorem atB_ok {id : Nat} {x m : Str} {dfl : List D} (h : atB L id x m dfl = true) : ∃ d, L.drs[id]? = some d ∧ d.at_ = (x, some m) ∧ d.dfl = dfl := by
  unfold atB at h
  split at h
  · rename_i d hd
    rw [Bool.and_eq_true, decide_eq_true_eq] at h
    exact ⟨d, hd, h.1, D.beqs_eq h.2⟩
  · cases h
theorem clsStat_at : ∀ {qs : List (Str × Nat × List D)} {mss : List (List (Nat × Nat × List D))}, clsStat L qs mss = true → mss.length ≤ qs.length ∧ ∀ (c : Nat) q, qs[c]? = some q → atB L q.2.1 q.1 "__init__" q.2.2 = true ∧ ∀ p ∈ (mss[c]?).getD [], ∀ n, L.T.mths[p.1]? = some n → atB L p.2.1 q.1 n p.2.2 = true ∧ n ∉ L.T.flds
  | [], [], _ => ⟨Nat.le_refl _, fun c q h => by simp at h⟩
  | [], _ :: _, h => by cases h
  | q0 :: qs, [], h => by
    rw [clsStat, Bool.and_eq_true] at h
    obtain ⟨h1, h2⟩ := clsStat_at h.2
    refine ⟨Nat.zero_le _, fun c q hc => ?_⟩
    cases c with
    | zero => cases hc; exact ⟨h.1, fun p hp => by cases hp⟩
    | succ c => exact ⟨(h2 c q hc).1, fun p hp => by simp at hp⟩
  | q0 :: qs, m :: mss, h => by
    rw [clsStat, Bool.and_eq_true, Bool.and_eq_true] at h
    obtain ⟨⟨ha, hb⟩, hc⟩ := h
    obtain ⟨h1, h2⟩ := clsStat_at hc
    refine ⟨Nat.succ_le_succ h1, fun c q hq => ?_⟩
    cases c with
    | zero =>
      cases hq
      refine ⟨ha, fun p hp n hn => ?_⟩
      have := List.all_eq_true.mp hb p hp
      rw [hn] at this
      simp only [Bool.and_eq_true, Bool.not_eq_true', decide_eq_false_iff_not] at this
      exact this
    | succ c => exact h2 c q hq
theorem con_of (X : K.In h) (G : h.Ns mainGlobals mg) {x : Str} {d : D} (c : conK K x d = true) : ∃ v u, mg x = some u ∧ RelV v u ∧ ∀ ρ H, Rep K ρ H d v := by
  cases d with
  | int i =>
    obtain ⟨t, e⟩ := He.int_ok X G c
    exact ⟨.int i, _, e, ⟨_, rfl⟩, fun _ _ => .int i⟩
  | str y =>
    obtain ⟨t, e⟩ := He.str_ok X G c
    exact ⟨.str (toS y), _, e, ⟨_, rfl⟩, fun _ _ => .str y⟩
  | tup ds =>
    rw [conK, Bool.and_eq_true, Bool.and_eq_true] at c
    exact ⟨.ref (He.ga K x), _, He.glo_ok X G c.1, rfl, fun ρ H => .tup (He.tupB_ok c.2.1 H) (dv_reps c.2.2)⟩
  | _ => cases c

theorem pr_find {P : Params} : ∀ {l : List DictEntry} {kvs : List (List Char × D)}, l.map He.keyOf = He.keysIn P (kvs.map fun kv => toS kv.1) → prB l kvs = true → ∀ z : List Char,
    (l.any (·.refKey) = false) ∧ ((l.find? (·.key.isStr (toS z)) = none ∧ getKk kvs z = none) ∨ ∃ e i t, l.find? (·.key.isStr (toS z)) = some e ∧ e.val = .int i t ∧ getKk kvs z = some (.int i))
  | [], [], _, _, z => ⟨rfl, .inl ⟨rfl, rfl⟩⟩
  | [], _ :: _, _, h, _ => by cases h
  | _ :: _, [], _, h, _ => by cases h
  | e :: l, (x, d) :: kvs, h1, h2, z => by
    have h1' : He.keyOf e :: l.map He.keyOf = some (toS x, PyData.keyHash P (toS x)) :: He.keysIn P (kvs.map fun kv => toS kv.1) := h1
    injection h1' with h3 h4
    rw [prB, Bool.and_eq_true] at h2
    obtain ⟨g1, g2⟩ := pr_find h4 h2.2 z
    unfold He.keyOf at h3
    split at h3
    · rename_i y t q
      have h5 := Option.some.inj h3
      obtain ⟨h6, h7⟩ := Prod.mk.inj h5
      subst h6
      have hr : e.refKey = false := by unfold DictEntry.refKey; rw [q]
      refine ⟨by rw [List.any_cons, hr, g1]; rfl, ?_⟩
      have hk : e.key.isStr (toS z) = decide (x = z) := by
        rw [q]
        show (toS x == toS z) = decide (x = z)
        by_cases hx : x = z
        · subst hx; simp
        · rw [decide_eq_false hx]
          exact beq_eq_false_iff_ne.mpr fun w => hx (toS_inj w)
      have hg : getKk ((x, d) :: kvs) z = if x = z then some d else getKk kvs z := by
        unfold getKk
        rw [List.find?_cons]
        by_cases hx : x = z
        · rw [decide_eq_true hx, if_pos hx]; rfl
        · rw [decide_eq_false hx, if_neg hx]
      rw [List.find?_cons, hk, hg]
      by_cases hx : x = z
      · rw [decide_eq_true hx, if_pos hx]
        have h8 := h2.1
        split at h8
        · rename_i i j t2 d1 d2
          dsimp only at d1
          rw [decide_eq_true_eq] at h8
          subst h8
          exact .inr ⟨e, i, t2, rfl, d2, by rw [d1]⟩
        · cases h8
      · rw [decide_eq_false hx, if_neg hx]
        exact g2
    · cases h3
theorem kdm_of {w : World} {x : Str} {kvs : List (List Char × D)} (X : K.In h) (G : h.Ns mainGlobals mg) (c1 : (He.Fa.glo x).ok K = true) (c2 : kdV K (He.ga K x) kvs = true) (c3 : He.dicW K (He.ga K x) = some (He.keysIn w.params (kvs.map fun kv => toS kv.1))) : KdM K w mg x kvs := by
  obtain ⟨es, n, D⟩ := He.dicW_ok c3
  have hk : es.toList.map He.keyOf = He.keysIn w.params (kvs.map fun kv => toS kv.1) := by
    unfold He.dicW at c3
    rw [D.at_] at c3
    dsimp only at c3
    rw [D.low] at c3
    exact Option.some.inj c3
  have hp : prB es.toList kvs = true := by
    unfold kdV at c2
    rw [D.at_] at c2
    exact c2
  refine ⟨He.ga K x, es, n, He.glo_ok X G c1, D, fun z => ?_⟩
  obtain ⟨g1, g2⟩ := pr_find hk hp z
  unfold PySem.W.nsIn
  rw [D.at_]
  dsimp only
  rcases g2 with ⟨e1, e2⟩ | ⟨e, i, t, e1, e2, e3⟩
  · rw [e1, g1]
    exact ⟨none, rfl, fun _ => rfl, fun d hd => by rw [e2] at hd; cases hd⟩
  · rw [e1]
    refine ⟨some e.val, ?_, ?_, fun d hd => ?_⟩
    · rfl
    · intro hn
      rw [e3] at hn
      cases hn
    rw [e3] at hd
    cases hd
    exact ⟨.int i, e.val, rfl, by rw [e2]; exact ⟨t, rfl⟩, fun _ _ => .int i⟩
/-! ### the Hook -/
def LawTab.fn (L : LawTab) : List He.DefD := L.drs.map Dr.defD
def obsM (L : LawTab) (K : PySem.W.Frag) : He.AlT := (((L.chk K && L.fn.all fun d => d.ok K), L.fn.map fun d => He.fnW K d.at_), L.T.kds.map fun q => He.dicW K (He.ga K q.1))
def valM (L : LawTab) (w : World) : He.AlT := (He.valD L.fn, L.T.kds.map fun q => some (He.keysIn w.params (q.2.map fun kv => toS kv.1)))
def obsMG (n : Nat) (L : LawTab) (g : Addr → Option Obj) : He.AlT := obsM L (He.frG g (He.asD g n))
def hookM (n : Nat) (L : LawTab) : PySem.W.Hook where
  α := He.AlT
  obs := fun s => obsMG n L s.heap.get?
  val := fun w => valM L w
  says := fun w h => ∃ K : PySem.W.Frag, K.In h ∧ obsM L K = valM L w
  of := fun _ _ e => ⟨_, He.frG_in, e⟩
  keeps := fun _ _ _ ⟨K, hK, c⟩ k => ⟨K, PySem.W.Frag.In.keeps hK k, c⟩
theorem obsMG_eq {n : Nat} {g : Addr → Option Obj} {s : Shared} (h : ∀ a, g a = s.heap.get? a) : obsMG n L g = (hookM n L).obs s := by
  have e : g = s.heap.get? := funext h
  rw [e] <;> rfl
theorem lookup_mem {α : Type} {x : Str} {d : α} : ∀ {l : List (Str × α)}, l.lookup x = some d → (x, d) ∈ l
  | [], h => by simp at h
  | (y, e) :: l, h => by
    rw [List.lookup_cons] at h
    split at h
    · rename_i q
      cases h
      have : x = y := by simpa using q
      rw [this]; exact List.mem_cons_self
    · exact List.mem_cons_of_mem _ (lookup_mem h)
def nmOf (L : LawTab) (K : PySem.W.Frag) : Nm := ⟨L.T.flds, fun c => (L.T.cls[c]?).map fun q => He.ga K q.1⟩
def adOf (L : LawTab) (K : PySem.W.Frag) (i : Nat) : Addr := match L.drs[i]? with | some d => He.fAd K d.at_ | none => 0
theorem say_of (X : K.In h) (G : h.Ns mainGlobals mg) (hs : L.stat = true) (hb : ∀ (i : Nat) (d : Dr), L.drs[i]? = some d → BindOk d) {w : World} (c : obsM L K = valM L w) : Say K w mg (nmOf L K) L.T L.P L.drs (adOf L K) := by
  unfold LawTab.stat at hs
  simp only [Bool.and_eq_true, decide_eq_true_eq] at hs
  obtain ⟨s1, s2, s3, s4⟩ := hs
  have c1 : (L.chk K && L.fn.all fun d => d.ok K) = true := congrArg (fun z : He.AlT => z.1.1) c
  have c2 : L.fn.map (fun d => He.fnW K d.at_) = L.fn.map He.DefD.val := congrArg (fun z : He.AlT => z.1.2) c
  have c9 : L.T.kds.map (fun q => He.dicW K (He.ga K q.1)) = L.T.kds.map fun q => some (He.keysIn w.params (q.2.map fun kv => toS kv.1)) := congrArg (fun z : He.AlT => z.2) c
  rw [Bool.and_eq_true] at c1
  obtain ⟨c1, c3⟩ := c1
  unfold LawTab.chk at c1
  simp only [Bool.and_eq_true, List.all_eq_true] at c1
  obtain ⟨k1, k0, k2, k3, k4⟩ := c1
  obtain ⟨o1, o2⟩ := okAll_at s1
  obtain ⟨t1, t2⟩ := clsStat_at s4
  have hcl : ∀ (c : Nat) (C : Addr), (nmOf L K).cls c = some C → ∃ q, L.T.cls[c]? = some q ∧ C = He.ga K q.1 := by
    intro c C hC
    obtain ⟨q, hq, e⟩ := Option.map_eq_some_iff.mp (show (L.T.cls[c]?).map (fun q => He.ga K q.1) = some C from hC)
    exact ⟨q, hq, e.symm⟩
  have had : ∀ (i : Nat) (d : Dr), L.drs[i]? = some d → adOf L K i = He.fAd K d.at_ := by
    intro i d hd
    unfold adOf
    rw [hd]
  refine ⟨fun i d hi => ?_, o2, o1, hb, fun f q hq => ?_, fun c x id dfl hc => ?_, fun x d hx => con_of X G (k1 _ (lookup_mem hx)), fun x kvs hx => kdm_of X G (k0 _ (lookup_mem hx)).1 (k0 _ (lookup_mem hx)).2 (List.map_inj_left.mp c9 _ (lookup_mem hx)), fun x hx => He.free_ok X G (k2 x hx), fun c C hC => ?_, fun c C hC f x hx => ?_, s3, fun c m fd hf => ?_, fun c C hC m x id dfl hm hf => ?_, rfl⟩
  · have hi2 : L.fn[i]? = some d.defD := by unfold LawTab.fn; rw [List.getElem?_map, hi]; rfl
    have e2 : (L.fn.map fun d => He.fnW K d.at_)[i]? = (L.fn.map He.DefD.val)[i]? := by rw [c2]
    rw [List.getElem?_map, List.getElem?_map, hi2] at e2
    rw [had i d hi]
    exact He.DefD.funD (Option.some.inj e2) (List.all_eq_true.mp c3 _ (List.mem_of_getElem? hi2))
  · obtain ⟨d, e1, e2⟩ := dflAll_at s2 f q hq
    exact ⟨d, e1, e2, by rw [had f d e1]; exact namesK_at X G k3 f q d hq e1⟩
  · have F := clsK_at X G k4 c _ hc
    obtain ⟨d, e1, e2, e3⟩ := atB_ok (t2 c _ hc).1
    refine ⟨He.ga K x, d, by show (L.T.cls[c]?).map _ = _; rw [hc]; rfl, F.glo, e1, e3, ?_⟩
    rw [had id d e1, e2]
    exact F.mkr
  · obtain ⟨q, hq, rfl⟩ := hcl c C hC
    exact (clsK_at X G k4 c _ hq).cls
  · obtain ⟨q, hq, rfl⟩ := hcl c C hC
    exact (clsK_at X G k4 c _ hq).no x (List.mem_of_getElem? hx)
  · unfold findM at hf
    split at hf
    · rename_i ms hms
      have : c < L.T.cls.length := Nat.lt_of_lt_of_le (List.getElem?_eq_some_iff.mp hms).1 t1
      exact ⟨_, by show (L.T.cls[c]?).map _ = _; rw [List.getElem?_eq_getElem this]; rfl⟩
    · cases hf
  · obtain ⟨q, hq, rfl⟩ := hcl c C hC
    unfold findM at hf
    split at hf
    · rename_i ms hms
      obtain ⟨p, hp, e⟩ := Option.map_eq_some_iff.mp hf
      have hpm := List.mem_of_find?_eq_some hp
      have hpe : p.1 = m := by have := List.find?_some hp; simpa using this
      subst hpe
      obtain ⟨pa, pb, pc⟩ := p
      cases e
      have hin : (pa, id, dfl) ∈ (L.P.mth[c]?).getD [] := by rw [hms]; exact hpm
      obtain ⟨a1, a2⟩ := (t2 c _ hq).2 _ hin x hm
      obtain ⟨d, e1, e2, e3⟩ := atB_ok a1
      refine ⟨a2, d, e1, e3, ?_⟩
      rw [had id d e1, e2]
      exact (clsK_at X G k4 c _ hq).me _ hin x hm
    · cases hf
end
/-- the law's end: what is left is plain Lean about the interpreter -/
theorem law_end {l : PySem.W.OpenLaw} {q : Program} {loose : List Str} {d : DefRec} {n0 n lv id : Nat} {L : LawTab} {x : Str} {nms : List Str} {dl : Dr} (hn : l.most = some n) (hn2 : n ≤ sizeLine) (hdf : d.params.defaults = []) (hr : Room (lv + 2) callerA) (hdn : d.name = "law")
    (hs : L.stat = true) (hb : ∀ (i : Nat) (d : Dr), L.drs[i]? = some d → BindOk d) (hid : L.drs[id]? = some dl) (hq : L.T.fns[id]? = some (nms, [])) (hm : ("law" : Str) ∈ nms) (hps : dl.ps = [x])
    (pure : ∀ ns : List Int, ns.length ≤ n → ∃ st', callF L.P (lv + 1) id [.kls (ns.map .int)] [] = .ok (.bl true, st')) :
    PySem.W.WalkO q loose (PySem.W.XL q []) (hookM n0 L).says l.row.toRowW d [] (fun f vs => PySem.call f vs) := by
  refine L2.walk_ofE (l := l) (n := n) (k := lv + 2) (x := x) (CX := L2.CX0) hn hn2 hdf hr ?_ (fun _ _ _ _ z => z)
  intro w mg fa h Y G hmg0
  obtain ⟨K, KX, c⟩ := Y
  have hmg : mg ("law" : PySem.Str) = some (.ref fa) := by rw [← hdn]; exact hmg0
  have S := say_of KX G hs hb c
  obtain ⟨d2, e1, e2, e3⟩ := S.fns id _ hq
  have e4 := (e3 _ hm).symm.trans hmg
  have hfa : adOf L K id = fa := by injection e4 with e4; injection e4
  obtain ⟨fd, F⟩ := S.fn id dl hid
  obtain rfl : dl = d2 := Option.some.inj (hid.symm.trans e1)
  have hdl : dl.dfl = [] := e2
  refine ⟨K, fd, spF (nmOf L K) K (callF L.P (lv + 1)) id, KX, ?_, ?_, fun base hK hG => ?_⟩
  · have hbd := hb id dl hid
    unfold BindOk at hbd
    rw [hdl] at hbd F
    intro s u
    have := FunD.bindsA F (ps := dl.ps) hbd s [u] (by rw [hps]; rfl)
    rw [hps] at this
    exact this
  · intro H a ns hl hO hS
    obtain ⟨st', e⟩ := pure ns hl
    refine ⟨[], [], _, _, st', ⟨rfl, List.nodup_nil, fun n a o h => by simp at h⟩, .cons (.kls (vs := ns.map V.int) ?_ ?_) .nil, e, fun ρ' H' v _ _ r => by cases r; rfl⟩
    · rcases hS with (h | ⟨o, h⟩) | h
      · rcases hO a with h2 | ⟨o, xs, h2⟩ <;> rw [h] at h2 <;> cases h2
      · exact .inl ⟨o, h⟩
      · exact .inr (.inr h)
    · have : ∀ l : List Int, Reps K [] H (l.map D.int) (l.map V.int) := fun l => by
        induction l with
        | nil => exact .nil
        | cons x l ih => exact .cons (.int x) ih
      exact this ns
  · have f := floors (prog := l.prog) (w := w) (base := base) S lv
    have := body_ok (prog := l.prog) (w := w) (base := base) S f.1 f.2 hid F
    rw [hps, hfa] at this
    exact this
end MP
namespace MP
/-- every def of a list binds its arguments -/
def AllB : List Dr → Prop
  | [] => True
  | d :: ds => BindOk d ∧ AllB ds
theorem AllB.at : ∀ {ds : List Dr}, AllB ds → ∀ (i : Nat) (d : Dr), ds[i]? = some d → BindOk d
  | [], _, i, d, h => by simp at h
  | d0 :: ds, h, 0, d, hi => by cases hi; exact h.1
  | d0 :: ds, h, i + 1, d, hi => AllB.at h.2 i d (by simpa using hi)
end MP

set_option Elab.async false
set_option linter.all false
set_option maxRecDepth 100000
/-! MPWp: what an interpreter's text ends with: rules for proofs about the interpreter (no model in sight). -/
namespace MP

section
variable {α : Type} {p : α → Prop} {a b : α}
theorem z_ex1 : (∃ x, x = a ∧ p x) ↔ p a := exists_eq_left
theorem z_ex2 : (∃ x, a = x ∧ p x) ↔ p a := exists_eq_left'
theorem z_some : (some a = some b) = (a = b) := by simp
theorem z_int {i j : Int} : (D.int i = D.int j) = (i = j) := by simp
theorem z_bl {i j : Bool} : (D.bl i = D.bl j) = (i = j) := by simp
theorem z_str {i j : List Char} : (D.str i = D.str j) = (i = j) := by simp
theorem z_tup {i j : List D} : (D.tup i = D.tup j) = (i = j) := by simp
theorem z_tt {q : Prop} : (True ∧ q) ↔ q := by simp
theorem z_t2 {q : Prop} : (q ∧ True) ↔ q := by simp
theorem z_dec {q : Prop} [Decidable q] : (decide q = true) = q := decide_eq_true_eq
theorem z_ndec {q : Bool} : ((!q) = true) = (q = false) := by simp
theorem z_dec2 {q : Prop} [Decidable q] : (decide q = false) = ¬ q := by simp
theorem z_beq {i j : Int} : ((i == j) = true) = (i = j) := by simp
theorem z_bne {i j : Int} : ((i != j) = true) = (i ≠ j) := by simp
theorem z_tf : ((true : Bool) = false) = False := by simp
theorem z_ft : ((false : Bool) = true) = False := by simp
theorem z_t : ((true : Bool) = true) = True := by simp
theorem z_f : ((false : Bool) = false) = True := by simp
theorem z_nt : (!true) = false := rfl
theorem z_nf : (!false) = true := rfl
theorem z_l0 {l : List α} : (a :: l)[0]? = some a := rfl
theorem z_ls {l : List α} {n : Nat} : (a :: l)[n + 1]? = l[n]? := by simp
theorem z_s0 {l : List α} : (a :: l).set 0 b = b :: l := rfl
theorem z_ss {l : List α} {n : Nat} : (a :: l).set (n + 1) b = a :: l.set n b := rfl
theorem z_ap {l m : List α} : a :: l ++ m = a :: (l ++ m) := rfl
theorem z_an {m : List α} : [] ++ m = m := rfl
theorem z_na {m : List α} : m ++ [] = m := List.append_nil m
theorem z_ln : ([] : List α).length = 0 := rfl
theorem z_lc {l : List α} : (a :: l).length = l.length + 1 := rfl
end
def R.wp {α : Type} (x : R α) (Q : α → Prop) : Prop := ∃ a, x = .ok a ∧ Q a
def C.wp (c : C) (N : Fr → Sto → Prop) (T : D → Sto → Prop) : Prop := (∃ fr st, c = .nx fr st ∧ N fr st) ∨ ∃ d st, c = .rt d st ∧ T d st
section
variable {α β : Type} {Q : α → Prop}
@[simp] theorem wp_ok {a : α} : (R.ok a).wp Q ↔ Q a := ⟨fun h => (by obtain ⟨_, e, h⟩ := h; cases e; exact h), fun h => ⟨a, rfl, h⟩⟩
@[simp] theorem wp_no : (R.no : R α).wp Q ↔ False := ⟨fun h => (by obtain ⟨_, e, _⟩ := h; cases e), fun h => h.elim⟩
@[simp] theorem wp_ex {c : Nat} {st : Sto} : (R.ex c st : R α).wp Q ↔ False := ⟨fun h => (by obtain ⟨_, e, _⟩ := h; cases e), fun h => h.elim⟩
@[simp] theorem wp_bind {x : R β} {f : β → R α} : (x.bind f).wp Q ↔ x.wp fun b => (f b).wp Q := by
  constructor
  · rintro ⟨a, e, h⟩
    cases x with
    | ok b => exact ⟨b, rfl, a, e, h⟩
    | ex c st => cases e
    | no => cases e
  · rintro ⟨b, rfl, a, e, h⟩
    exact ⟨a, e, h⟩
@[simp] theorem wp_of {o : Option α} : (R.of o).wp Q ↔ ∃ a, o = some a ∧ Q a := by
  cases o with
  | none => simp
  | some a => simp
@[simp] theorem wp_ite {p : Prop} [Decidable p] {x y : R α} : (if p then x else y).wp Q ↔ if p then x.wp Q else y.wp Q := by split <;> rfl
theorem wp_mono {x : R α} {Q' : α → Prop} (h : x.wp Q) (i : ∀ a, Q a → Q' a) : x.wp Q' := let ⟨a, e, q⟩ := h; ⟨a, e, i a q⟩
@[simp] theorem wp_newF {st : Sto} {o : O} {Q : D × Sto → Prop} : (newF st o).wp Q ↔ Q (.ref st.length, st ++ [o]) := wp_ok
end
section
variable {N : Fr → Sto → Prop} {T : D → Sto → Prop}
@[simp] theorem cw_nx {fr : Fr} {st : Sto} : (C.nx fr st).wp N T ↔ N fr st := by
  constructor
  · rintro (⟨_, _, e, h⟩ | ⟨_, _, e, h⟩)
    · cases e; exact h
    · cases e
  · exact fun h => .inl ⟨_, _, rfl, h⟩
@[simp] theorem cw_rt {d : D} {st : Sto} : (C.rt d st).wp N T ↔ T d st := by
  constructor
  · rintro (⟨_, _, e, h⟩ | ⟨_, _, e, h⟩)
    · cases e
    · cases e; exact h
  · exact fun h => .inr ⟨_, _, rfl, h⟩
@[simp] theorem cw_no : C.no.wp N T ↔ False := by
  constructor
  · rintro (⟨_, _, e, h⟩ | ⟨_, _, e, h⟩) <;> cases e
  · exact fun h => h.elim
@[simp] theorem cw_ex {c : Nat} {fr : Fr} {st : Sto} : (C.ex c fr st).wp N T ↔ False := by
  constructor
  · rintro (⟨_, _, e, h⟩ | ⟨_, _, e, h⟩) <;> cases e
  · exact fun h => h.elim
@[simp] theorem cw_seq {c : C} {f : Fr → Sto → C} : (c.seq f).wp N T ↔ c.wp (fun fr st => (f fr st).wp N T) T := by cases c <;> simp [C.seq]
@[simp] theorem cw_stm {α : Type} {fr : Fr} {x : R α} {f : α → C} : (x.stm fr f).wp N T ↔ x.wp fun a => (f a).wp N T := by
  cases x with
  | ok a => exact (wp_ok (Q := fun a => (f a).wp N T)).symm
  | ex c st => exact cw_ex.trans (wp_ex (Q := fun a => (f a).wp N T)).symm
  | no => exact cw_no.trans (wp_no (Q := fun a => (f a).wp N T)).symm
@[simp] theorem cw_un {c : C} {u : Sto → Sto} : (c.un u).wp N T ↔ c.wp (fun fr st => N fr (u st)) (fun d st => T d (u st)) := by cases c <;> simp [C.un]
@[simp] theorem cw_ite {p : Prop} [Decidable p] {x y : C} : (if p then x else y).wp N T ↔ if p then x.wp N T else y.wp N T := by split <;> rfl
theorem cw_mono {c : C} {N' : Fr → Sto → Prop} {T' : D → Sto → Prop} (h : c.wp N T) (i : ∀ fr st, N fr st → N' fr st) (j : ∀ d st, T d st → T' d st) : c.wp N' T' := by
  rcases h with ⟨fr, st, e, h⟩ | ⟨d, st, e, h⟩
  · exact .inl ⟨fr, st, e, i _ _ h⟩
  · exact .inr ⟨d, st, e, j _ _ h⟩
end

section
variable {P : Prog} {cf mf : Cf} {fr : Fr} {st : Sto} {Q : D × Sto → Prop}
/-! ### expressions -/
@[simp] theorem w_v {i : Nat} : (evE P cf mf (.v i) fr st).wp Q ↔ ∃ d, fr[i]? = some (some d) ∧ Q (d, st) := by
  rw [evE]
  split
  · rename_i d h; simp [h]
  · rename_i h
    simp only [wp_no, false_iff]
    rintro ⟨d, e, _⟩
    exact h d e
@[simp] theorem w_c {d : D} : (evE P cf mf (.c d) fr st).wp Q ↔ Q (d, st) := by rw [evE]; exact wp_ok
@[simp] theorem w_op {o : Op} {a b : E} : (evE P cf mf (.op o a b) fr st).wp Q ↔ (evE P cf mf a fr st).wp fun p => (evE P cf mf b fr p.2).wp fun q => (opF o p.1 q.1 q.2).wp Q := by rw [evE]; simp
@[simp] theorem w_neg {a : E} : (evE P cf mf (.neg a) fr st).wp Q ↔ (evE P cf mf a fr st).wp fun p => ∃ i, p.1 = .int i ∧ Q (.int (-i), p.2) := by
  rw [evE]
  simp only [wp_bind]
  refine exists_congr fun p => and_congr_right fun _ => ?_
  dsimp only
  split
  · rename_i i h; simp [h]
  · rename_i h; simp only [wp_no, false_iff]; rintro ⟨i, e, _⟩; exact h i e
@[simp] theorem w_not {a : E} : (evE P cf mf (.not a) fr st).wp Q ↔ (evE P cf mf a fr st).wp fun p => ∃ b, truthF p.2 p.1 = some b ∧ Q (.bl (!b), p.2) := by
  rw [evE]
  simp only [wp_bind]
  refine exists_congr fun p => and_congr_right fun _ => ?_
  dsimp only
  split
  · rename_i i h; simp [h]
  · rename_i h; simp [h]
@[simp] theorem w_and {a b : E} : (evE P cf mf (.and a b) fr st).wp Q ↔ (evE P cf mf a fr st).wp fun p => ∃ k, truthF p.2 p.1 = some k ∧ if k = true then (evE P cf mf b fr p.2).wp Q else Q p := by
  rw [evE]
  simp only [wp_bind]
  refine exists_congr fun p => and_congr_right fun _ => ?_
  dsimp only
  split
  · rename_i h; simp [h]
  · rename_i h; simp [h]
  · rename_i h; simp [h]
@[simp] theorem w_or {a b : E} : (evE P cf mf (.or a b) fr st).wp Q ↔ (evE P cf mf a fr st).wp fun p => ∃ k, truthF p.2 p.1 = some k ∧ if k = true then Q p else (evE P cf mf b fr p.2).wp Q := by
  rw [evE]
  simp only [wp_bind]
  refine exists_congr fun p => and_congr_right fun _ => ?_
  dsimp only
  split
  · rename_i h; simp [h]
  · rename_i h; simp [h]
  · rename_i h; simp [h]
@[simp] theorem w_ife {c a b : E} : (evE P cf mf (.ife c a b) fr st).wp Q ↔ (evE P cf mf c fr st).wp fun p => ∃ k, truthF p.2 p.1 = some k ∧ if k = true then (evE P cf mf a fr p.2).wp Q else (evE P cf mf b fr p.2).wp Q := by
  rw [evE]
  simp only [wp_bind]
  refine exists_congr fun p => and_congr_right fun _ => ?_
  dsimp only
  split
  · rename_i h; simp [h]
  · rename_i h; simp [h]
  · rename_i h; simp [h]
@[simp] theorem w_chain {o o' : Op} {a b c : E} : (evE P cf mf (.chain o o' a b c) fr st).wp Q ↔ (evE P cf mf a fr st).wp fun p => (evE P cf mf b fr p.2).wp fun q => (opF o p.1 q.1 q.2).wp fun r => ∃ k, r.1 = .bl k ∧ if k = true then (evE P cf mf c fr r.2).wp fun s => (opF o' q.1 s.1 s.2).wp Q else Q (.bl false, r.2) := by
  rw [evE]
  simp only [wp_bind]
  refine exists_congr fun p => and_congr_right fun _ => exists_congr fun q => and_congr_right fun _ => exists_congr fun r => and_congr_right fun _ => ?_
  dsimp only
  obtain ⟨d, st'⟩ := r
  split
  · rename_i h
    dsimp only at h
    subst h
    simp
  · rename_i h
    dsimp only at h
    subst h
    simp
  · rename_i h1 h2
    simp only [wp_no, false_iff]
    rintro ⟨k, e, _⟩
    cases k with
    | true => exact h1 e
    | false => exact h2 e
@[simp] theorem w_isN {a : E} : (evE P cf mf (.isN a) fr st).wp Q ↔ (evE P cf mf a fr st).wp fun p => Q (.bl (match p.1 with | .non => true | _ => false), p.2) := by rw [evE]; first | (simp only [wp_bind, wp_ok]; done) | (simp only [wp_bind, wp_ok]; rfl)
@[simp] theorem w_notN {a : E} : (evE P cf mf (.notN a) fr st).wp Q ↔ (evE P cf mf a fr st).wp fun p => Q (.bl (match p.1 with | .non => false | _ => true), p.2) := by rw [evE]; first | (simp only [wp_bind, wp_ok]; done) | (simp only [wp_bind, wp_ok]; rfl)
@[simp] theorem w_isB {a : E} {neg b : Bool} : (evE P cf mf (.isB a neg b) fr st).wp Q ↔ (evE P cf mf a fr st).wp fun p => ∃ c, p.1 = .bl c ∧ Q (.bl (if neg = true then !(decide (c = b)) else decide (c = b)), p.2) := by
  rw [evE]
  simp only [wp_bind]
  refine exists_congr fun p => and_congr_right fun _ => ?_
  dsimp only
  split
  · rename_i c h; simp [h]
  · rename_i h; simp only [wp_no, false_iff]; rintro ⟨c, e, _⟩; exact h c e
@[simp] theorem w_tup {es : Es} : (evE P cf mf (.tup es) fr st).wp Q ↔ (evEs P cf mf es fr st).wp fun p => p.1.length ≤ SZ ∧ Q (.tup p.1, p.2) := by rw [evE]; simp
@[simp] theorem w_lst {es : Es} : (evE P cf mf (.lst es) fr st).wp Q ↔ (evEs P cf mf es fr st).wp fun p => p.1.length ≤ SZ ∧ Q (.ref p.2.length, p.2 ++ [.lst p.1]) := by rw [evE]; simp
@[simp] theorem w_dic {es : Es} : (evE P cf mf (.dic es) fr st).wp Q ↔ (evEs P cf mf es fr st).wp fun p => ∃ kvs, pairF p.1 = some kvs ∧ kvs.length ≤ 15 ∧ Q (.ref p.2.length, p.2 ++ [.dct (kvs.foldl (fun acc kv => putK acc kv.1 kv.2) [])]) := by
  rw [evE]
  simp only [wp_bind]
  refine exists_congr fun p => and_congr_right fun _ => ?_
  dsimp only
  split
  · rename_i h; simp [h]
  · rename_i h; simp [h]
@[simp] theorem w_call {f : Nat} {es : Es} {ds : List D} : (evE P cf mf (.call f es ds) fr st).wp Q ↔ (evEs P cf mf es fr st).wp fun p => (cf f (p.1 ++ ds) p.2).wp Q := by rw [evE]; simp
@[simp] theorem w_make {c f : Nat} {es : Es} {ds : List D} : (evE P cf mf (.make c f es ds) fr st).wp Q ↔ (evEs P cf mf es fr st).wp fun p => (mf f (.ref p.2.length :: (p.1 ++ ds)) (p.2 ++ [.ins c []])).wp fun q => q.1 = .non ∧ Q (.ref p.2.length, q.2) := by
  rw [evE]
  simp only [wp_bind]
  refine exists_congr fun p => and_congr_right fun _ => exists_congr fun q => and_congr_right fun _ => ?_
  dsimp only
  split
  · rename_i h; simp [h]
  · rename_i h; simp only [wp_no, false_iff]; rintro ⟨e, _⟩; exact h e
@[simp] theorem w_meth {m : Nat} {o : E} {es : Es} : (evE P cf mf (.meth m o es) fr st).wp Q ↔ (evE P cf mf o fr st).wp fun p => ∃ c, clsF p.2 p.1 = some c ∧ ∃ fd, findM P c m = some fd ∧ (evEs P cf mf es fr p.2).wp fun q => (cf fd.1 (p.1 :: (q.1 ++ dflF P fd.1 fd.2 (q.1.length + 1))) q.2).wp Q := by
  rw [evE]
  simp only [wp_bind]
  refine exists_congr fun p => and_congr_right fun _ => ?_
  dsimp only
  split
  · rename_i c h
    split
    · rename_i fd h2
      simp only [wp_bind]
      constructor
      · intro z; exact ⟨c, h, fd, h2, z⟩
      · rintro ⟨c', e1, fd', e2, z⟩; rw [h] at e1; cases e1; rw [h2] at e2; cases e2; exact z
    · rename_i h2; simp [h, h2]
  · rename_i h; simp [h]
@[simp] theorem w_fld {o : E} {f : Nat} : (evE P cf mf (.fld o f) fr st).wp Q ↔ (evE P cf mf o fr st).wp fun p => ∃ d, fldF p.2 p.1 f = some d ∧ Q (d, p.2) := by rw [evE]; simp
@[simp] theorem w_ix {a b : E} : (evE P cf mf (.ix a b) fr st).wp Q ↔ (evE P cf mf a fr st).wp fun p => (evE P cf mf b fr p.2).wp fun q => ∃ d, ixF q.2 p.1 q.1 = some d ∧ Q (d, q.2) := by rw [evE]; simp
@[simp] theorem w_sl {a : E} {lo hi : Eo} : (evE P cf mf (.sl a lo hi) fr st).wp Q ↔ (evE P cf mf a fr st).wp fun p => (evEo P cf mf lo fr p.2).wp fun q => (evEo P cf mf hi fr q.2).wp fun r => (slF r.2 p.1 q.1 r.1).wp Q := by rw [evE]; simp
@[simp] theorem w_bi {b : Bi} {es : Es} : (evE P cf mf (.bi b es) fr st).wp Q ↔ (evEs P cf mf es fr st).wp fun p => (biF b p.1 p.2).wp Q := by rw [evE]; simp
@[simp] theorem w_isi {a : E} {t : Ty} : (evE P cf mf (.isi a t) fr st).wp Q ↔ (evE P cf mf a fr st).wp fun p => ∃ b, isiF P p.2 p.1 t = some b ∧ Q (.bl b, p.2) := by rw [evE]; simp
@[simp] theorem w_bm {m : Bm} {o : E} {es : Es} : (evE P cf mf (.bm m o es) fr st).wp Q ↔ (evE P cf mf o fr st).wp fun p => ∃ k, kindF p.2 p.1 = some k ∧ (evEs P cf mf es fr p.2).wp fun q => (bmF k m p.1 q.1 q.2).wp Q := by
  rw [evE]
  simp only [wp_bind]
  refine exists_congr fun p => and_congr_right fun _ => ?_
  dsimp only
  split
  · rename_i h; simp [h]
  · rename_i h; simp [h]
@[simp] theorem w_nil {Q : List D × Sto → Prop} : (evEs P cf mf .nil fr st).wp Q ↔ Q ([], st) := by rw [evEs]; exact wp_ok
@[simp] theorem w_cons {e : E} {r : Es} {Q : List D × Sto → Prop} : (evEs P cf mf (.cons e r) fr st).wp Q ↔ (evE P cf mf e fr st).wp fun p => (evEs P cf mf r fr p.2).wp fun q => Q (p.1 :: q.1, q.2) := by rw [evEs]; simp
@[simp] theorem w_ono {Q : Option Int × Sto → Prop} : (evEo P cf mf .no fr st).wp Q ↔ Q (none, st) := by rw [evEo]; exact wp_ok
@[simp] theorem w_oso {e : E} {Q : Option Int × Sto → Prop} : (evEo P cf mf (.so e) fr st).wp Q ↔ (evE P cf mf e fr st).wp fun p => ∃ i, p.1 = .int i ∧ Q (some i, p.2) := by
  rw [evEo]
  simp only [wp_bind]
  refine exists_congr fun p => and_congr_right fun _ => ?_
  dsimp only
  split
  · rename_i i h; simp [h]
  · rename_i h; simp only [wp_no, false_iff]; rintro ⟨i, e, _⟩; exact h i e
@[simp] theorem w_ifs0 {Q : Bool × Sto → Prop} : (evIfs P cf mf .nil fr st).wp Q ↔ Q (true, st) := by rw [evIfs]; exact wp_ok
@[simp] theorem w_ifs1 {e : E} {r : Es} {Q : Bool × Sto → Prop} : (evIfs P cf mf (.cons e r) fr st).wp Q ↔ (evE P cf mf e fr st).wp fun p => ∃ k, truthF p.2 p.1 = some k ∧ if k = true then (evIfs P cf mf r fr p.2).wp Q else Q (false, p.2) := by
  rw [evIfs]
  simp only [wp_bind]
  refine exists_congr fun p => and_congr_right fun _ => ?_
  dsimp only
  split
  · rename_i h; simp [h]
  · rename_i h; simp [h]
  · rename_i h; simp [h]

/-! ### what is walked -/
section
variable {Q : Wk × Sto × (Sto → Sto) → Prop}
/-- what is walked by itself -/
def walkF (e : E) (d : D) (st : Sto) : R (Wk × Sto × (Sto → Sto)) := match d with
    | .tup ds => .ok (⟨ds, fun _ => true⟩, st, id)
    | .kls ds => .ok (⟨ds, fun _ => true⟩, st, id)
    | .str x => .ok (⟨signsF x, fun _ => true⟩, st, id)
    | .ref n => match st[n]? with
      | some (.lst ds) => .ok (⟨ds, stands n ds⟩, st, id)
      | some (.dct kvs) => if pathE e then .ok (⟨kvs.map fun kv => keyD kv.1, fun _ => true⟩, st.set n (.fdc kvs), fun st => st.set n (.dct kvs)) else .no
      | _ => .no
    | _ => .no
@[simp] theorem w_any {e : E} : (evIt P cf mf (.any e) fr st).wp Q ↔ (evE P cf mf e fr st).wp fun p => (walkF e p.1 p.2).wp Q := by rw [evIt]; first | (simp only [wp_bind]; done) | (simp only [wp_bind]; rfl)
@[simp] theorem w_range1 {e : E} : (evIt P cf mf (.range1 e) fr st).wp Q ↔ (evE P cf mf e fr st).wp fun p => ∃ j : Int, p.1 = .int j ∧ -(2 ^ 62) ≤ j ∧ j < 2 ^ 62 ∧ Q (⟨rangeF 0 j.toNat, fun _ => true⟩, p.2, id) := by
  rw [evIt]
  simp only [wp_bind]
  refine exists_congr fun p => and_congr_right fun _ => ?_
  dsimp only
  split
  · rename_i j h
    simp only [wp_ite, wp_ok, wp_no, h]
    constructor
    · intro h; split at h
      · rename_i q; exact ⟨j, rfl, q.1, q.2, h⟩
      · exact h.elim
    · rintro ⟨j', e, h1, h2, h3⟩
      cases e
      rw [if_pos ⟨h1, h2⟩]; exact h3
  · rename_i h; simp only [wp_no, false_iff]; rintro ⟨i, e, _⟩; exact h i e
@[simp] theorem w_range2 {a b : E} : (evIt P cf mf (.range2 a b) fr st).wp Q ↔ (evE P cf mf a fr st).wp fun p => (evE P cf mf b fr p.2).wp fun q => ∃ i : Int, p.1 = .int i ∧ ∃ j : Int, q.1 = .int j ∧ -(2 ^ 62) ≤ i ∧ i < 2 ^ 62 ∧ -(2 ^ 62) ≤ j ∧ j < 2 ^ 62 ∧ Q (⟨rangeF i (j - i).toNat, fun _ => true⟩, q.2, id) := by
  rw [evIt]
  simp only [wp_bind]
  refine exists_congr fun p => and_congr_right fun _ => exists_congr fun q => and_congr_right fun _ => ?_
  dsimp only
  split
  · rename_i i j h h'
    simp only [wp_ite, wp_ok, wp_no, h, h']
    constructor
    · intro h; split at h
      · rename_i q; exact ⟨i, rfl, j, rfl, q.1, q.2.1, q.2.2.1, q.2.2.2, h⟩
      · exact h.elim
    · rintro ⟨i', e, j', e', h1, h2, h3, h4, h5⟩
      cases e
      cases e'
      rw [if_pos ⟨h1, h2, h3, h4⟩]; exact h5
  · rename_i h; simp only [wp_no, false_iff]; rintro ⟨i, e, j, e', _⟩; exact h i j e e'
end

/-! ### statements -/
section
variable {N : Fr → Sto → Prop} {T : D → Sto → Prop}
@[simp] theorem s_set_w {t : Tg} {e : E} : (evS P cf mf (.set t e) fr st).wp N T ↔ (evE P cf mf e fr st).wp fun p => ∃ fr2, tgF t p.1 fr = some fr2 ∧ N fr2 p.2 := by
  rw [evS]
  simp only [cw_stm]
  refine exists_congr fun p => and_congr_right fun _ => ?_
  dsimp only
  split
  · rename_i h; simp [h]
  · rename_i h; simp [h]
@[simp] theorem s_setix_w {o i e : E} : (evS P cf mf (.setix o i e) fr st).wp N T ↔ (evE P cf mf e fr st).wp fun p => (evE P cf mf o fr p.2).wp fun q => (evE P cf mf i fr q.2).wp fun r => ∃ st2, setIxF r.2 q.1 r.1 p.1 = some st2 ∧ N fr st2 := by
  rw [evS]
  simp only [cw_stm]
  refine exists_congr fun p => and_congr_right fun _ => exists_congr fun q => and_congr_right fun _ => exists_congr fun r => and_congr_right fun _ => ?_
  dsimp only
  split
  · rename_i h; simp [h]
  · rename_i h; simp [h]
@[simp] theorem s_setfld_w {o e : E} {f : Nat} : (evS P cf mf (.setfld o f e) fr st).wp N T ↔ (evE P cf mf e fr st).wp fun p => (evE P cf mf o fr p.2).wp fun q => ∃ st2, setFldF q.2 q.1 f p.1 = some st2 ∧ N fr st2 := by
  rw [evS]
  simp only [cw_stm]
  refine exists_congr fun p => and_congr_right fun _ => exists_congr fun q => and_congr_right fun _ => ?_
  dsimp only
  split
  · rename_i h; simp [h]
  · rename_i h; simp [h]
@[simp] theorem s_ex_w {e : E} : (evS P cf mf (.ex e) fr st).wp N T ↔ (evE P cf mf e fr st).wp fun p => N fr p.2 := by rw [evS]; simp
@[simp] theorem s_ret_w {e : E} : (evS P cf mf (.ret e) fr st).wp N T ↔ (evE P cf mf e fr st).wp fun p => T p.1 p.2 := by rw [evS]; simp
@[simp] theorem s_retn_w : (evS P cf mf .retn fr st).wp N T ↔ T .non st := by rw [evS]; simp
@[simp] theorem s_pass_w : (evS P cf mf .pass fr st).wp N T ↔ N fr st := by rw [evS]; simp
@[simp] theorem s_nev_w : (evS P cf mf .nev fr st).wp N T ↔ False := by rw [evS]; simp
@[simp] theorem s_ife_w {c : E} {a b : Ss} : (evS P cf mf (.ife c a b) fr st).wp N T ↔ (evE P cf mf c fr st).wp fun p => ∃ k, truthF p.2 p.1 = some k ∧ if k = true then (evSs P cf mf a fr p.2).wp N T else (evSs P cf mf b fr p.2).wp N T := by
  rw [evS]
  simp only [cw_stm, testF, wp_bind, wp_of, wp_ok, cw_ite]
@[simp] theorem s_nil_w : (evSs P cf mf .nil fr st).wp N T ↔ N fr st := by rw [evSs]; simp
@[simp] theorem s_cons_w {s : S} {r : Ss} : (evSs P cf mf (.cons s r) fr st).wp N T ↔ (evS P cf mf s fr st).wp (fun fr st => (evSs P cf mf r fr st).wp N T) T := by rw [evSs]; simp
@[simp] theorem s_for_w {t : Tg} {it : It} {b : Ss} : (evS P cf mf (.forr t it b) fr st).wp N T ↔ (evIt P cf mf it fr st).wp fun w => (forF w.1.ok (fun d fr st => match tgF t d fr with
      | some fr => evSs P cf mf b fr st
      | none => .no) w.1.ds fr w.2.1).wp (fun fr st => N fr (w.2.2 st)) (fun d st => T d (w.2.2 st)) := by
  rw [evS]
  first | (simp only [cw_stm, cw_un]; done) | (simp only [cw_stm, cw_un]; rfl)
/-- a walk by an invariant over what is left -/
theorem for_wp {ok : Sto → Bool} {turn : D → Fr → Sto → C} (I : List D → Fr → Sto → Prop) (hok : ∀ ds fr st, I ds fr st → ok st = true) (hs : ∀ d ds fr st, I (d :: ds) fr st → (turn d fr st).wp (fun fr st => I ds fr st) T) (he : ∀ fr st, I [] fr st → N fr st) :
    ∀ (ds : List D) (fr : Fr) (st : Sto), I ds fr st → (forF ok turn ds fr st).wp N T
  | [], fr, st, h => by
    rw [forF, if_pos (hok _ _ _ h)]
    exact cw_nx.mpr (he fr st h)
  | d :: ds, fr, st, h => by
    rw [forF, if_pos (hok _ _ _ h), cw_seq]
    exact cw_mono (hs d ds fr st h) (fun fr st h => for_wp I hok hs he ds fr st h) fun _ _ h => h
theorem whl_wp {test : Fr → Sto → R (Bool × Sto)} {turn : Fr → Sto → C} (I : Nat → Fr → Sto → Prop) (hs : ∀ n fr st, I n fr st → (test fr st).wp fun p => if p.1 = true then ∃ m, n = m + 1 ∧ (turn fr p.2).wp (fun fr st => I m fr st) T else N fr p.2) :
    ∀ (f n : Nat) (fr : Fr) (st : Sto), n < f → I n fr st → (whlF test turn f fr st).wp N T
  | 0, n, fr, st, hf, h => by omega
  | f + 1, n, fr, st, hf, h => by
    rw [whlF, cw_stm]
    refine wp_mono (hs n fr st h) fun p hp => ?_
    split
    · rename_i hk
      rw [if_pos hk] at hp
      obtain ⟨m, rfl, hp⟩ := hp
      rw [cw_seq]
      exact cw_mono hp (fun fr st h => whl_wp I hs f m fr st (by omega) h) fun _ _ h => h
    · rename_i hk
      rw [if_neg hk] at hp
      exact cw_nx.mpr hp
end
theorem start0 {nn : Nat} : startF nn [] = List.replicate nn none := by simp [startF]
theorem start_cons {nn : Nat} {d : D} {ds : List D} : startF (nn + 1) (d :: ds) = some d :: startF nn ds := by simp [startF]
theorem rep0 : List.replicate 0 (none : Option D) = [] := rfl
theorem repS {n : Nat} : List.replicate (n + 1) (none : Option D) = none :: List.replicate n none := rfl
/-- a def's call -/
theorem call_wp {n i : Nat} {fd : FD} {ds : List D} (h : P.fns[i]? = some fd) (hl : ds.length = fd.np) (hb : (evSs P (callF P n) (makeF P n) fd.body (startF fd.nn ds) st).wp (fun _ st => Q (.non, st)) (fun d st => Q (d, st))) : (callF P (n + 1) i ds st).wp Q := by
  rw [callF_succ, runF, h]
  dsimp only
  rw [if_pos hl]
  rcases hb with ⟨fr, st, e, h⟩ | ⟨d, st, e, h⟩
  · rw [e]; exact ⟨_, rfl, h⟩
  · rw [e]; exact ⟨_, rfl, h⟩
/-- turns of a comprehension by an invariant -/
theorem lc_wp {ok : Sto → Bool} {turn : D → Sto → R (Option D × Sto)} {Q : List D × Sto → Prop} (I : List D → List D → Sto → Prop) (hok : ∀ ds acc st, I ds acc st → ok st = true)
    (hs : ∀ d ds acc st, I (d :: ds) acc st → (turn d st).wp fun p => match p.1 with | some y => acc.length < SZ ∧ I ds (acc ++ [y]) p.2 | none => I ds acc p.2) (he : ∀ acc st, I [] acc st → Q (acc, st)) :
    ∀ (ds acc : List D) (st : Sto), I ds acc st → (lcF ok turn ds acc st).wp Q
  | [], acc, st, h => by
    rw [lcF, if_pos (hok _ _ _ h)]
    exact wp_ok.mpr (he _ _ h)
  | d :: ds, acc, st, h => by
    rw [lcF, if_pos (hok _ _ _ h), wp_bind]
    refine wp_mono (hs d ds acc st h) fun p hp => ?_
    split at hp
    · rename_i y hy
      try simp only [hy]
      rw [if_pos hp.1]
      exact lc_wp I hok hs he ds _ _ hp.2
    · rename_i hy
      try simp only [hy]
      exact lc_wp I hok hs he ds _ _ hp
@[simp] theorem w_lc {tg : Tg} {it : It} {ifs : Es} {elt : E} {own : List Nat} : (evE P cf mf (.lc tg it ifs elt own) fr st).wp Q ↔ (evIt P cf mf it fr st).wp fun w => (lcF w.1.ok (fun d st => match tgF tg d (wipeF fr own) with
        | some fr2 => (evIfs P cf mf ifs fr2 st).bind fun p => if p.1 then (evE P cf mf elt fr2 p.2).bind fun q => .ok (some q.1, q.2) else .ok (none, p.2)
        | none => .no) w.1.ds [] w.2.1).wp fun q => Q (.ref (w.2.2 q.2).length, w.2.2 q.2 ++ [.lst q.1]) := by rw [evE]; first | (simp; done) | (simp; rfl)
end
end MP
namespace MP
section
variable {P : Prog} {cf mf : Cf} {fr : Fr} {st : Sto} {Q : D × Sto → Prop}
theorem w_kix {kvs : List (List Char × D)} {k : E} : (evE P cf mf (.kix kvs k) fr st).wp Q ↔ (evE P cf mf k fr st).wp fun p => ∃ x, p.1 = .str x ∧ ∃ d, getKk kvs x = some d ∧ Q (d, p.2) := by
  rw [evE]
  simp only [wp_bind]
  refine exists_congr fun p => and_congr_right fun _ => ?_
  dsimp only
  split
  · rename_i x h; simp [h]
  · rename_i h; simp only [wp_no, false_iff]; rintro ⟨x, e, _⟩; exact h x e
theorem w_kget {kvs : List (List Char × D)} {k d : E} : (evE P cf mf (.kget kvs k d) fr st).wp Q ↔ (evE P cf mf k fr st).wp fun p => (evE P cf mf d fr p.2).wp fun q => ∃ x, p.1 = .str x ∧ Q ((getKk kvs x).getD q.1, q.2) := by
  rw [evE]
  simp only [wp_bind]
  refine exists_congr fun p => and_congr_right fun _ => exists_congr fun q => and_congr_right fun _ => ?_
  dsimp only
  split
  · rename_i x h; simp [h]
  · rename_i h; simp only [wp_no, false_iff]; rintro ⟨x, e, _⟩; exact h x e
theorem w_kmem {kvs : List (List Char × D)} {neg : Bool} {k : E} : (evE P cf mf (.kmem kvs neg k) fr st).wp Q ↔ (evE P cf mf k fr st).wp fun p => ∃ x, p.1 = .str x ∧ Q (.bl (if neg = true then !(getKk kvs x).isSome else (getKk kvs x).isSome), p.2) := by
  rw [evE]
  simp only [wp_bind]
  refine exists_congr fun p => and_congr_right fun _ => ?_
  dsimp only
  split
  · rename_i x h; simp [h]
  · rename_i h; simp only [wp_no, false_iff]; rintro ⟨x, e, _⟩; exact h x e
end
end MP

set_option Elab.async false
set_option linter.all false
set_option maxRecDepth 100000
/-! MPLaw1: values' rules for simp; what the laws' own helpers do (cell, box, take, text, number). -/
namespace MP

/-- a list so many times -/
def repF {α : Type} (k : Nat) (a : List α) : List α := (List.replicate k a).flatten
theorem repF_one {α : Type} (x : α) : ∀ k, repF k [x] = List.replicate k x
  | 0 => rfl
  | k + 1 => by have := repF_one x k; unfold repF at this ⊢; rw [List.replicate_succ, List.flatten_cons, this, List.replicate_succ]; rfl
theorem sz_eq : SZ = 1000000 := rfl
def mulG (i j : Int) : Prop := i.natAbs.log2 + j.natAbs.log2 < 1000000
def divG (j : Int) : Prop := j.natAbs.log2 < 9000
def powG (i : Int) : Prop := i.natAbs < 2 ^ 64
section
variable {P : Prog} {cf mf : Cf} {fr : Fr} {st : Sto} {Q : D × Sto → Prop}
/-! ### values -/
theorem wp_guard {α : Type} {p : Prop} [Decidable p] {a : α} {Q : α → Prop} : (if p then R.ok a else R.no).wp Q ↔ (p ∧ Q a) := by
  split
  · rename_i h; simp [h]
  · rename_i h; simp [h]
@[simp] theorem op_add_i {i j : Int} : opF .add (.int i) (.int j) st = .ok (.int (i + j), st) := rfl
@[simp] theorem op_sub_i {i j : Int} : opF .sub (.int i) (.int j) st = .ok (.int (i - j), st) := rfl
@[simp] theorem op_mul_i {i j : Int} : (opF .mul (.int i) (.int j) st).wp Q ↔ (mulG i j ∧ Q (.int (i * j), st)) := by
  simp only [opF, wp_guard, and_assoc, mulG]
@[simp] theorem op_mod_i {i j : Int} : (opF .mod (.int i) (.int j) st).wp Q ↔ (0 < j ∧ Q (.int (i % j), st)) := by
  simp only [opF, wp_guard, and_assoc]
@[simp] theorem op_fdiv_i {i j : Int} : (opF .fdiv (.int i) (.int j) st).wp Q ↔ (0 < j ∧ divG j ∧ Q (.int (i / j), st)) := by
  simp only [opF, wp_guard, and_assoc, divG]
@[simp] theorem op_modN_i {i j : Int} : (opF .modN (.int i) (.int j) st).wp Q ↔ (j ≠ 0 ∧ Q (.int (i.fmod j), st)) := by
  simp only [opF]; exact wp_guard
@[simp] theorem op_fdivN_i {i j : Int} : (opF .fdivN (.int i) (.int j) st).wp Q ↔ ((j ≠ 0 ∧ divG j) ∧ Q (.int (i.fdiv j), st)) := by
  simp only [opF]; exact wp_guard
@[simp] theorem op_pow_i {i j : Int} : (opF .pow (.int i) (.int j) st).wp Q ↔ (0 ≤ j ∧ j ≤ 1000000 ∧ powG i ∧ Q (.int (i ^ j.toNat), st)) := by
  simp only [opF, wp_guard, and_assoc, powG]
@[simp] theorem op_add_s {a b : List Char} : (opF .add (.str a) (.str b) st).wp Q ↔ (a.length + b.length ≤ SZ ∧ Q (.str (a ++ b), st)) := by
  simp only [opF, wp_guard, and_assoc]
@[simp] theorem op_add_t {a b : List D} : (opF .add (.tup a) (.tup b) st).wp Q ↔ (a.length + b.length ≤ SZ ∧ Q (.tup (a ++ b), st)) := by
  simp only [opF, wp_guard, and_assoc]
@[simp] theorem op_mul_s {a : List Char} {j : Int} : (opF .mul (.str a) (.int j) st).wp Q ↔ (0 ≤ j ∧ j ≤ 100000 ∧ a.length * j.toNat ≤ SZ ∧ Q (.str (repF j.toNat a), st)) := by
  simp only [opF, wp_guard, and_assoc, repF]
@[simp] theorem op_mul_t {a : List D} {j : Int} : (opF .mul (.tup a) (.int j) st).wp Q ↔ (a ≠ [] ∧ 2 ≤ j ∧ j ≤ 1000 ∧ a.length ≤ 1000 ∧ Q (.tup (repF j.toNat a), st)) := by
  simp only [opF, wp_guard, and_assoc, repF]
@[simp] theorem op_eq {x y : D} : (opF .eq x y st).wp Q ↔ ∃ b, eqF st x y = some b ∧ Q (.bl b, st) := by simp [opF]
@[simp] theorem op_ne {x y : D} : (opF .ne x y st).wp Q ↔ ∃ b, eqF st x y = some b ∧ Q (.bl (!b), st) := by simp [opF]
@[simp] theorem op_mem {x y : D} : (opF .mem x y st).wp Q ↔ ∃ b, memF st x y = some b ∧ Q (.bl b, st) := by simp [opF]
@[simp] theorem op_nmem {x y : D} : (opF .nmem x y st).wp Q ↔ ∃ b, memF st x y = some b ∧ Q (.bl (!b), st) := by simp [opF]
@[simp] theorem op_lt_i {i j : Int} : opF .lt (.int i) (.int j) st = .ok (.bl (decide (i < j)), st) := rfl
@[simp] theorem op_le_i {i j : Int} : opF .le (.int i) (.int j) st = .ok (.bl (decide (i ≤ j)), st) := rfl
@[simp] theorem op_gt_i {i j : Int} : opF .gt (.int i) (.int j) st = .ok (.bl (decide (j < i)), st) := rfl
@[simp] theorem op_ge_i {i j : Int} : opF .ge (.int i) (.int j) st = .ok (.bl (decide (j ≤ i)), st) := rfl
@[simp] theorem op_le_s {a b : List Char} : opF .le (.str a) (.str b) st = .ok (.bl (!cmpS b a), st) := rfl
@[simp] theorem eq_ii {i j : Int} : eqF st (.int i) (.int j) = some (i == j) := by simp [eqF, eqT, treeF, T.eqv]
@[simp] theorem eq_bb {i j : Bool} : eqF st (.bl i) (.bl j) = some (i == j) := by simp [eqF, eqT, treeF, T.eqv]
@[simp] theorem eq_ss {i j : List Char} : eqF st (.str i) (.str j) = some (i == j) := by simp [eqF, eqT, treeF, T.eqv]
@[simp] theorem tr_bl {b : Bool} : truthF st (.bl b) = some b := rfl
@[simp] theorem tr_int {i : Int} : truthF st (.int i) = some (i != 0) := rfl
@[simp] theorem tr_non : truthF st .non = some false := rfl
@[simp] theorem tr_tup {xs : List D} : truthF st (.tup xs) = some (!xs.isEmpty) := rfl
@[simp] theorem ix_ref {n : Nat} {xs : List D} {i : Int} (h : st[n]? = some (.lst xs)) : ixF st (.ref n) (.int i) = atF xs i := by simp [ixF, h]
@[simp] theorem ix_tup {xs : List D} {i : Int} : ixF st (.tup xs) (.int i) = atF xs i := rfl
@[simp] theorem ix_kls {xs : List D} {i : Int} : ixF st (.kls xs) (.int i) = atF xs i := rfl
@[simp] theorem len_str {a : List Char} : (biF .len [.str a] st).wp Q ↔ (a.length ≤ SZ ∧ Q (.int a.length, st)) := by
  simp only [biF, wp_guard, and_assoc]
@[simp] theorem len_tup {a : List D} : biF .len [.tup a] st = .ok (.int a.length, st) := rfl
@[simp] theorem len_kls {a : List D} : biF .len [.kls a] st = .ok (.int a.length, st) := rfl
@[simp] theorem len_ref {n : Nat} {xs : List D} (h : st[n]? = some (.lst xs)) : biF .len [.ref n] st = .ok (.int xs.length, st) := by simp [biF, h]
@[simp] theorem min2_i {i j : Int} : biF .min2 [.int i, .int j] st = .ok (.int (if j < i then j else i), st) := rfl
@[simp] theorem max2_i {i j : Int} : biF .max2 [.int i, .int j] st = .ok (.int (if j > i then j else i), st) := rfl
@[simp] theorem ord_s {c : Char} : biF .ord [.str [c]] st = .ok (.int c.toNat, st) := rfl
theorem at_nat {α : Type} {xs : List α} {i : Int} {x : α} (h0 : 0 ≤ i) (h : xs[i.toNat]? = some x) : atF xs i = some x := by
  have hl : i.toNat < xs.length := (List.getElem?_eq_some_iff.mp h).1
  unfold atF idxF
  rw [if_pos h0, if_pos (by omega)]
  exact h
@[simp] theorem at_0 {α : Type} {x : α} {xs : List α} : atF (x :: xs) 0 = some x := at_nat (by decide) rfl
@[simp] theorem at_1 {α : Type} {x y : α} {xs : List α} : atF (x :: y :: xs) 1 = some y := at_nat (by decide) rfl
@[simp] theorem at_2 {α : Type} {x y z : α} {xs : List α} : atF (x :: y :: z :: xs) 2 = some z := at_nat (by decide) rfl
@[simp] theorem ap_ref {n : Nat} {xs : List D} {x : D} (h : st[n]? = some (.lst xs)) : (bmF .l .append (.ref n) [x] st).wp Q ↔ (xs.length < SZ ∧ Q (.non, st.set n (.lst (xs ++ [x])))) := by
  simp only [bmF, lstF, h, lmF, wp_guard]
@[simp] theorem kd_ref {n : Nat} {xs : List D} (h : st[n]? = some (.lst xs)) : kindF st (.ref n) = some .l := by simp [kindF, h]
@[simp] theorem tuple_ref {n : Nat} {xs : List D} (h : st[n]? = some (.lst xs)) : biF .tuple [.ref n] st = .ok (.tup xs, st) := by simp [biF, seqF, h]
theorem mul_ref {a : Nat} {xs : List D} {j : Int} (ha : st[a]? = some (.lst xs)) : (opF .mul (.ref a) (.int j) st).wp Q ↔ (0 ≤ j ∧ j ≤ 100000 ∧ xs.length * j.toNat ≤ SZ ∧ Q (.ref st.length, st ++ [.lst (repF j.toNat xs)])) := by
  simp only [opF, ha, newF, wp_guard, repF, and_assoc]
theorem add_ref {a c : Nat} {xs ys : List D} (ha : st[a]? = some (.lst xs)) (hc : st[c]? = some (.lst ys)) : (opF .add (.ref a) (.ref c) st).wp Q ↔ (xs.length + ys.length ≤ SZ ∧ Q (.ref st.length, st ++ [.lst (xs ++ ys)])) := by
  simp only [opF, ha, hc, newF, wp_guard]
theorem at_some {α : Type} {xs : List α} {j : Int} (h0 : 0 ≤ j) (h1 : j < xs.length) : ∃ x ∈ xs, atF xs j = some x :=
  ⟨xs[j.toNat]'(by omega), List.getElem_mem _, at_nat h0 (List.getElem?_eq_getElem (by omega))⟩
mutual
theorem D.beq_refl : ∀ d : D, D.beq d d = true
  | .non => rfl
  | .bl b => by simp [D.beq]
  | .int b => by simp [D.beq]
  | .str b => by simp [D.beq]
  | .tup xs => by rw [D.beq]; exact D.beqs_refl xs
  | .kls xs => by rw [D.beq]; exact D.beqs_refl xs
  | .ref n => by simp [D.beq]
theorem D.beqs_refl : ∀ ds : List D, D.beqs ds ds = true
  | [] => rfl
  | d :: ds => by rw [D.beqs, D.beq_refl d, D.beqs_refl ds]; rfl
end
theorem stands_at {n : Nat} {xs : List D} (h : st[n]? = some (.lst xs)) : stands n xs st = true := by rw [stands, h]; exact D.beqs_refl xs
theorem wk_ref {e : E} {n : Nat} {xs : List D} (h : st[n]? = some (.lst xs)) : walkF e (.ref n) st = .ok (⟨xs, stands n xs⟩, st, id) := by simp only [walkF, h]
theorem wk_tup {e : E} {xs : List D} : walkF e (.tup xs) st = .ok (⟨xs, fun _ => true⟩, st, id) := rfl
theorem wk_kls {e : E} {xs : List D} : walkF e (.kls xs) st = .ok (⟨xs, fun _ => true⟩, st, id) := rfl
theorem wk_str {e : E} {xs : List Char} : walkF e (.str xs) st = .ok (⟨signsF xs, fun _ => true⟩, st, id) := rfl
theorem tg_tup {ts : Tgs} {ds : List D} : tgF (.tup ts) (.tup ds) fr = tgsF ts ds fr := rfl
theorem tgs_nil : tgsF .nil [] fr = some fr := rfl
theorem tgs_cons {i : Nat} {ts : Tgs} {d : D} {ds : List D} : tgsF (.cons (.v i) ts) (d :: ds) fr = tgsF ts ds (fr.set i (some d)) := rfl
theorem sl_tup {xs : List D} {lo hi : Option Int} : slF st (.tup xs) lo hi = .ok (.tup (cutF xs lo hi), st) := rfl
theorem sl_kls {xs : List D} {lo hi : Option Int} : slF st (.kls xs) lo hi = .ok (.ref st.length, st ++ [.lst (cutF xs lo hi)]) := rfl
theorem cut_mem {α : Type} {xs : List α} {lo hi : Option Int} {x : α} (h : x ∈ cutF xs lo hi) : x ∈ xs := List.mem_of_mem_drop (List.mem_of_mem_take h)
theorem cut_len {α : Type} {xs : List α} {lo hi : Option Int} : (cutF xs lo hi).length ≤ xs.length := by unfold cutF; rw [List.length_take, List.length_drop]; omega
@[simp] theorem tg_v {i : Nat} {d : D} : tgF (.v i) d fr = some (fr.set i (some d)) := rfl
@[simp] theorem sto_top {o : O} : (st ++ [o])[st.length]? = some o := by simp
theorem sto_old {o o' : O} {n : Nat} (h : st[n]? = some o) : (st ++ [o'])[n]? = some o := by
  rw [List.getElem?_append_left (List.getElem?_eq_some_iff.mp h).1]; exact h
theorem sto_set {o o' : O} {n : Nat} (h : st[n]? = some o) : (st.set n o')[n]? = some o' := List.getElem?_set_self (List.getElem?_eq_some_iff.mp h).1
theorem setix_ref {n : Nat} {xs : List D} {i : Int} {d : D} (h : st[n]? = some (.lst xs)) (h0 : 0 ≤ i) (h1 : i < xs.length) : setIxF st (.ref n) (.int i) d = some (st.set n (.lst (xs.set i.toNat d))) := by
  simp only [setIxF, h]
  unfold idxF
  rw [if_pos h0, if_pos h1]
  rfl
theorem log_ok {i : Int} (h : -(2 ^ 250) < i ∧ i < 2 ^ 250) : i.natAbs.log2 < 250 := by
  by_cases h0 : i.natAbs = 0
  · rw [h0]; decide
  · exact (Nat.log2_lt h0).mpr (by omega)
theorem mul_ok {i j : Int} (hi : -(2 ^ 250) < i ∧ i < 2 ^ 250) (hj : -(2 ^ 250) < j ∧ j < 2 ^ 250) : mulG i j := by
  have h1 := log_ok hi
  have h2 := log_ok hj
  unfold mulG
  omega
theorem div_ok {j : Int} (hj : -(2 ^ 250) < j ∧ j < 2 ^ 250) : divG j := by
  have h1 := log_ok hj
  unfold divG
  omega
theorem pow_ok {i : Int} (h : -(2 ^ 64) < i ∧ i < 2 ^ 64) : powG i := by unfold powG; omega
theorem pow_10 : powG 10 = True := eq_true (pow_ok (by decide))
theorem mul_lit : mulG 2 1000000000000000000000000000000000000000000000000000000000000 = True := eq_true (mul_ok (by decide) (by decide))

/-! ### the store around a call -/
/-- all but b stands as it was -/
def Keep (b : Nat) (st st' : Sto) : Prop := st.length ≤ st'.length ∧ ∀ n, n < st.length → n ≠ b → st'[n]? = st[n]?
theorem Keep.refl {b : Nat} : Keep b st st := ⟨Nat.le_refl _, fun _ _ _ => rfl⟩
theorem Keep.trans {b : Nat} {st1 st2 st3 : Sto} (h : Keep b st1 st2) (h' : Keep b st2 st3) : Keep b st1 st3 :=
  ⟨Nat.le_trans h.1 h'.1, fun n hn hb => (h'.2 n (Nat.lt_of_lt_of_le hn h.1) hb).trans (h.2 n hn hb)⟩
theorem Keep.at {b n : Nat} {st' : Sto} {o : O} (h : Keep b st st') (hn : st[n]? = some o) (hb : n ≠ b) : st'[n]? = some o := by rw [h.2 n (List.getElem?_eq_some_iff.mp hn).1 hb]; exact hn
theorem Keep.set {b : Nat} {o : O} : Keep b st (st.set b o) := ⟨by rw [List.length_set]; exact Nat.le_refl _, fun n _ hb => List.getElem?_set_ne (Ne.symm hb)⟩
theorem Keep.push {b : Nat} {o : O} : Keep b st (st ++ [o]) := ⟨by simp, fun n hn _ => List.getElem?_append_left hn⟩
/-- a law's box of digits -/
def Box (st : Sto) (b : Nat) : Prop := ∃ x m y : Int, st[b]? = some (.lst [.int x, .int m, .int y]) ∧ ((m = 0 ∧ 0 ≤ y ∧ y < 2147483647) ∨ (m = 1 ∧ 0 ≤ x ∧ x < 2147483647))
theorem Box.lt {b : Nat} (h : Box st b) : b < st.length := let ⟨_, _, _, h, _⟩ := h; (List.getElem?_eq_some_iff.mp h).1
theorem Box.keep {b c : Nat} {st' : Sto} (h : Box st b) (k : Keep c st st') (hn : b ≠ c) : Box st' b := let ⟨x, m, y, h, r⟩ := h; ⟨x, m, y, k.at h hn, r⟩
end

/-! ### the helpers -/
def fdCell : FD := ⟨2, 2,
    (.cons (.ife (.op .lt (.v 1) (.bi .len (.cons (.v 0) .nil)))
    (.cons (.ret (.ix (.v 0) (.v 1)))
    .nil)
    .nil)
    (.cons (.ret (.op .add (.op .mul (.c (.int 7919)) (.v 1)) (.c (.int 11))))
    .nil))⟩
def fdBox (c : Nat) : FD := ⟨2, 5,
    (.cons (.set (.v 2) (.call c (.cons (.v 0) (.cons (.v 1) .nil)) []))
    (.cons (.set (.v 3) (.op .mod (.op .mul (.op .add (.op .mod (.v 2) (.c (.int 2147483629))) (.c (.int 11))) (.c (.int 69621))) (.c (.int 2147483629))))
    (.cons (.set (.v 4) (.op .mod (.op .add (.op .mul (.v 3) (.op .add (.op .mod (.v 3) (.c (.int 104729))) (.c (.int 1)))) (.op .mul (.c (.int 7919)) (.v 1))) (.c (.int 2147483587))))
    (.cons (.ife (.op .eq (.op .mod (.call c (.cons (.v 0) (.cons (.c (.int 0)) .nil)) []) (.c (.int 2))) (.c (.int 0)))
    (.cons (.ret (.lst (.cons (.v 2) (.cons (.c (.int 0)) (.cons (.v 4) .nil)))))
    .nil)
    .nil)
    (.cons (.ret (.lst (.cons (.v 4) (.cons (.c (.int 1)) (.cons (.c (.int 0)) .nil)))))
    .nil)))))⟩
def fdTake : FD := ⟨2, 3,
    (.cons (.ife (.and (.op .eq (.ix (.v 0) (.c (.int 1))) (.c (.int 0))) (.op .mem (.ix (.v 0) (.c (.int 0))) (.tup (.cons (.c (.int 0)) (.cons (.neg (.c (.int 1))) .nil)))))
    (.cons (.setix (.v 0) (.c (.int 0)) (.ix (.v 0) (.c (.int 2))))
    (.cons (.setix (.v 0) (.c (.int 1)) (.c (.int 1)))
    .nil))
    .nil)
    (.cons (.ife (.op .eq (.ix (.v 0) (.c (.int 1))) (.c (.int 0)))
    (.cons (.set (.v 2) (.op .mod (.ix (.v 0) (.c (.int 0))) (.v 1)))
    (.cons (.setix (.v 0) (.c (.int 0)) (.op .fdiv (.ix (.v 0) (.c (.int 0))) (.v 1)))
    (.cons (.ret (.v 2))
    .nil)))
    .nil)
    (.cons (.setix (.v 0) (.c (.int 0)) (.op .mod (.op .add (.op .mul (.ix (.v 0) (.c (.int 0))) (.c (.int 69621))) (.c (.int 104729))) (.c (.int 2147483587))))
    (.cons (.set (.v 2) (.op .mod (.op .mul (.ix (.v 0) (.c (.int 0))) (.op .add (.op .mod (.ix (.v 0) (.c (.int 0))) (.c (.int 16807))) (.c (.int 1)))) (.c (.int 2147483579))))
    (.cons (.ife (.op .gt (.v 1) (.op .pow (.c (.int 10)) (.c (.int 9))))
    (.cons (.set (.v 2) (.op .add (.op .pow (.v 2) (.c (.int 7))) (.v 2)))
    .nil)
    .nil)
    (.cons (.ret (.op .mod (.v 2) (.v 1)))
    .nil))))))⟩
section
variable {P : Prog} {st : Sto} {Q : D × Sto → Prop} {n i : Nat}
theorem kls_at {ns : List Int} {k : Int} (h0 : 0 ≤ k) (h : k < ns.length) : ∃ v : Int, atF (ns.map D.int) k = some (.int v) := by
  have hl : k.toNat < ns.length := by omega
  exact ⟨ns[k.toNat], at_nat h0 (by rw [List.getElem?_map, List.getElem?_eq_getElem hl]; rfl)⟩
def _root_.MP.sv0 :=
  And.intro @z_ex1 (
  And.intro @z_ex2 (
  And.intro @z_some (
  And.intro @z_int (
  And.intro @z_bl (
  And.intro @z_str (
  And.intro @z_tup (
  And.intro @z_tt (
  And.intro @z_t2 (
  And.intro @z_dec (
  And.intro @z_ndec (
  And.intro @z_dec2 (
  And.intro @z_beq (
  And.intro @z_bne (
  And.intro @z_tf (
  And.intro @z_ft (
  And.intro @z_t (
  And.intro @z_f (
  And.intro @z_nt (
  And.intro @z_nf (
  And.intro @z_l0 (
  And.intro @z_ls (
  And.intro @z_s0 (
  And.intro @z_ss (
  And.intro @z_ap (
  And.intro @z_an (
  And.intro @z_na (
  And.intro @z_ln (
  And.intro @z_lc (
  And.intro @wp_ok (
  And.intro @wp_no (
  And.intro @wp_ex (
  And.intro @wp_bind (
  And.intro @wp_of (
  And.intro @wp_ite (
  And.intro @wp_newF (
  And.intro @cw_nx (
  And.intro @cw_rt (
  And.intro @cw_no (
  And.intro @cw_ex (
  And.intro @cw_seq (
  And.intro @cw_stm (
  And.intro @cw_un (
  And.intro @cw_ite (
  And.intro @w_v (
  And.intro @w_c (
  And.intro @w_op (
  And.intro @w_neg (
  And.intro @w_not (
  And.intro @w_and (
  And.intro @w_or (
  And.intro @w_ife (
  And.intro @w_chain (
  And.intro @w_isN (
  And.intro @w_notN (
  And.intro @w_isB (
  And.intro @w_tup (
  And.intro @w_lst (
  And.intro @w_dic (
  And.intro @w_call (
  And.intro @w_make (
  And.intro @w_meth (
  And.intro @w_fld (
  And.intro @w_ix (
  And.intro @w_sl (
  And.intro @w_bi (
  And.intro @w_isi (
  And.intro @w_bm (
  And.intro @w_nil (
  And.intro @w_cons (
  And.intro @w_ono (
  And.intro @w_oso (
  And.intro @w_ifs0 (
  And.intro @w_ifs1 (
  And.intro @w_any (
  And.intro @w_range1 (
  And.intro @w_range2 (
  And.intro @s_set_w (
  And.intro @s_setix_w (
  And.intro @s_setfld_w (
  And.intro @s_ex_w (
  And.intro @s_ret_w (
  And.intro @s_retn_w (
  And.intro @s_pass_w (
  And.intro @s_nev_w (
  And.intro @s_ife_w (
  And.intro @s_nil_w (
  And.intro @s_cons_w (
  And.intro @s_for_w (
  And.intro @start0 (
  And.intro @start_cons (
  And.intro @rep0 (
  And.intro @repS (
  And.intro @w_lc (
  And.intro @w_kix (
  And.intro @w_kget (
  And.intro @w_kmem (
  And.intro @sz_eq (
  And.intro @op_add_i (
  And.intro @op_sub_i (
  And.intro @op_mul_i (
  And.intro @op_mod_i (
  And.intro @op_fdiv_i (
  And.intro @op_modN_i (
  And.intro @op_fdivN_i (
  And.intro @op_pow_i (
  And.intro @op_add_s (
  And.intro @op_add_t (
  And.intro @op_mul_s (
  And.intro @op_mul_t (
  And.intro @op_eq (
  And.intro @op_ne (
  And.intro @op_mem (
  And.intro @op_nmem (
  And.intro @op_lt_i (
  And.intro @op_le_i (
  And.intro @op_gt_i (
  And.intro @op_ge_i (
  And.intro @op_le_s (
  And.intro @eq_ii (
  And.intro @eq_bb (
  And.intro @eq_ss (
  And.intro @tr_bl (
  And.intro @tr_int (
  And.intro @tr_non (
  And.intro @tr_tup (
  And.intro @ix_ref (
  And.intro @ix_tup (
  And.intro @ix_kls (
  And.intro @len_str (
  And.intro @len_tup (
  And.intro @len_kls (
  And.intro @len_ref (
  And.intro @min2_i (
  And.intro @max2_i (
  And.intro @ord_s (
  And.intro @at_0 (
  And.intro @at_1 (
  And.intro @at_2 (
  And.intro @ap_ref (
  And.intro @kd_ref (
  And.intro @tuple_ref (
  And.intro @wk_tup (
  And.intro @wk_kls (
  And.intro @wk_str (
  And.intro @tg_tup (
  And.intro @tgs_nil (
  And.intro @tgs_cons (
  And.intro @sl_tup (
  And.intro @sl_kls (
  And.intro @tg_v (
  And.intro @sto_top (
  And.intro @pow_10 (
  @mul_lit)))))))))))))))))))))))))))))))))))))))))))))))))))))))))))))))))))))))))))))))))))))))))))))))))))))))))))))))))))))))))))))))))))))))))))))))))))))))))
theorem cell_spec (h : P.fns[i]? = some fdCell) {ns : List Int} {k : Int} (h0 : 0 ≤ k) (h1 : k < 2 ^ 100) (q : ∀ v : Int, Q (.int v, st)) : (callF P (n + 1) i [.kls (ns.map .int), .int k] st).wp Q := by
  refine call_wp h rfl ?_
  simp only [fdCell, seval, MP.sv0, List.length_map]
  split
  · rename_i hk
    obtain ⟨v, hv⟩ := kls_at h0 hk
    simp only [hv, seval, MP.sv0]
    exact q v
  · exact ⟨mul_ok (by decide) (by omega), q _⟩
theorem box_spec {c : Nat} (h : P.fns[i]? = some (fdBox c)) (hc : P.fns[c]? = some fdCell) {ns : List Int} {k : Int} (h0 : 0 ≤ k) (h1 : k < 2 ^ 100) (q : ∀ st', Box st' st.length → Keep st.length st st' → st'.length = st.length + 1 → Q (.ref st.length, st')) : (callF P (n + 2) i [.kls (ns.map .int), .int k] st).wp Q := by
  refine call_wp h rfl ?_
  simp only [fdBox, seval, MP.sv0]
  refine cell_spec hc h0 h1 fun v => ?_
  simp only [seval, MP.sv0]
  refine ⟨mul_ok (by omega) (by decide), mul_ok (by omega) (by omega), mul_ok (by decide) (by omega), ?_⟩
  refine cell_spec hc (by decide) (by decide) fun v2 => ?_
  simp only [seval, MP.sv0]
  have hsz : 3 ≤ SZ := by decide
  generalize (v % 2147483629 + 11) * 69621 % 2147483629 * ((v % 2147483629 + 11) * 69621 % 2147483629 % 104729 + 1) + 7919 * k = z
  split
  · exact q _ ⟨v, 0, _, sto_top, .inl ⟨rfl, by omega, by omega⟩⟩ Keep.push (by simp)
  · exact q _ ⟨_, 1, 0, sto_top, .inr ⟨rfl, by omega, by omega⟩⟩ Keep.push (by simp)
theorem mem_i {a : Int} : memF st (.int a) (.tup [.int 0, .int (-1)]) = some ((0 == a) || (-1 == a)) := by simp [memF, memF.memL, flatF, eqS]
theorem set_0 {m : Nat} {x d : D} {xs : List D} (h : st[m]? = some (.lst (x :: xs))) : setIxF st (.ref m) (.int 0) d = some (st.set m (.lst (d :: xs))) := setix_ref h (by decide) (by simp only [List.length_cons]; omega)
theorem set_1 {m : Nat} {x y d : D} {xs : List D} (h : st[m]? = some (.lst (x :: y :: xs))) : setIxF st (.ref m) (.int 1) d = some (st.set m (.lst (x :: d :: xs))) := setix_ref h (by decide) (by simp only [List.length_cons]; omega)
/-- how digits are drawn when they are mixed -/
theorem take_tail {b : Nat} {w x y : Int} {st0 : Sto} (hb : st0[b]? = some (.lst [.int x, .int 1, .int y])) (h0 : 0 < w) (hx : 0 ≤ x ∧ x < 2147483647) (hk : Keep b st st0) (hl : st0.length = st.length)
    (q : ∀ (v : Int) st', 0 ≤ v → v < w → Box st' b → Keep b st st' → st'.length = st.length → Q (.int v, st')) : mulG x 69621 ∧ (let z := (x * 69621 + 104729) % 2147483587
      mulG z (z % 16807 + 1) ∧ if 1000000000 < w then powG (z * (z % 16807 + 1) % 2147483579) ∧ 0 < w ∧ Q (.int (((z * (z % 16807 + 1) % 2147483579) ^ 7 + z * (z % 16807 + 1) % 2147483579) % w), st0.set b (.lst [.int z, .int 1, .int y])) else 0 < w ∧ Q (.int (z * (z % 16807 + 1) % 2147483579 % w), st0.set b (.lst [.int z, .int 1, .int y]))) := by
  refine ⟨mul_ok (by omega) (by decide), ?_⟩
  intro z
  have hz : 0 ≤ z ∧ z < 2147483587 := by omega
  have bx : Box (st0.set b (.lst [.int z, .int 1, .int y])) b := ⟨z, 1, y, sto_set hb, .inr ⟨rfl, by omega, by omega⟩⟩
  refine ⟨mul_ok (by omega) (by omega), ?_⟩
  have hu : 0 ≤ z * (z % 16807 + 1) % 2147483579 ∧ z * (z % 16807 + 1) % 2147483579 < 2147483579 := by omega
  generalize z * (z % 16807 + 1) % 2147483579 = u at hu ⊢
  split
  · exact ⟨pow_ok (by omega), h0, q _ _ (Int.emod_nonneg _ (by omega)) (Int.emod_lt_of_pos _ h0) bx (hk.trans Keep.set) (by rw [List.length_set, hl])⟩
  · exact ⟨h0, q _ _ (Int.emod_nonneg _ (by omega)) (Int.emod_lt_of_pos _ h0) bx (hk.trans Keep.set) (by rw [List.length_set, hl])⟩
def _root_.MP.sv1 :=

  @mem_i
theorem take_spec (h : P.fns[i]? = some fdTake) {b : Nat} {w : Int} (hb : Box st b) (h0 : 0 < w) (h1 : w < 2 ^ 240) (q : ∀ (v : Int) st', 0 ≤ v → v < w → Box st' b → Keep b st st' → st'.length = st.length → Q (.int v, st')) : (callF P (n + 1) i [.ref b, .int w] st).wp Q := by
  refine call_wp h rfl ?_
  obtain ⟨x, m, y, hb, hm⟩ := hb
  have gs : ∀ o, (st.set b o)[b]? = some o := fun o => sto_set hb
  have hsz : 2 ≤ SZ := by decide
  rcases hm with ⟨rfl, hy⟩ | ⟨rfl, hx⟩
  · simp only [fdTake, seval, MP.sv0, MP.sv1, ix_ref hb]
    by_cases hc : ((0 == x) || (-1 == x)) = true
    · simp only [hc, seval, MP.sv0, MP.sv1, set_0 hb, set_1 (gs _), ix_ref (sto_set (gs _)), set_0 (sto_set (gs _)), ix_ref (sto_set (sto_set (gs _)))]
      exact take_tail (st0 := (st.set b (.lst [.int y, .int 0, .int y])).set b (.lst [.int y, .int 1, .int y])) (sto_set (gs _)) h0 hy (Keep.set.trans Keep.set) (by rw [List.length_set, List.length_set]) q
    · have hc2 : ((0 == x) || (-1 == x)) = false := by simpa using hc
      simp only [hc2, seval, MP.sv0, MP.sv1, set_0 hb]
      exact ⟨h0, h0, div_ok (by omega), q _ _ (Int.emod_nonneg _ (by omega)) (Int.emod_lt_of_pos _ h0) ⟨_, 0, y, gs _, .inl ⟨rfl, hy⟩⟩ Keep.set (by rw [List.length_set])⟩
  · simp only [fdTake, seval, MP.sv0, MP.sv1, ix_ref hb, set_0 hb, ix_ref (gs _)]
    exact take_tail hb h0 hx Keep.refl rfl q

/-- the signs of a worth's text -/
def signC (c : Char) : Bool := decide (32 ≤ c.toNat) && decide (c.toNat ≤ 126) && !decide (c.toNat = 34) && !decide (c.toNat = 37)
def signsA : List Char := [' ', '!', '#', '$', '&', '\'', '(', ')', '*', '+', ',', '-', '.', '/', '0', '1', '2', '3', '4', '5', '6', '7', '8', '9', ':', ';', '<', '=', '>', '?', '@', 'A', 'B', 'C', 'D', 'E', 'F', 'G', 'H', 'I', 'J', 'K', 'L', 'M', 'N', 'O', 'P', 'Q', 'R', 'S', 'T', 'U', 'V', 'W', 'X', 'Y', 'Z']
def signsB : List Char := ['[', '\\', ']', '^', '_', '`', 'a', 'b', 'c', 'd', 'e', 'f', 'g', 'h', 'i', 'j', 'k', 'l', 'm', 'n', 'o', 'p', 'q', 'r', 's', 't', 'u', 'v', 'w', 'x', 'y', 'z', '{', '|', '}', '~']
def fdText (t : Nat) : FD := ⟨2, 5,
    (.cons (.set (.v 2) (.c (.str signsA)))
    (.cons (.set (.v 2) (.op .add (.v 2) (.c (.str signsB))))
    (.cons (.set (.v 3) (.c (.str [])))
    (.cons (.forr (.v 4) (.range1 (.call t (.cons (.v 0) (.cons (.op .add (.v 1) (.c (.int 1))) .nil)) []))
    (.cons (.set (.v 3) (.op .add (.v 3) (.ix (.v 2) (.call t (.cons (.v 0) (.cons (.bi .len (.cons (.v 2) .nil)) .nil)) []))))
    .nil))
    (.cons (.ret (.v 3))
    .nil)))))⟩
theorem signs_ok : (signsA ++ signsB).all signC = true := by decide +kernel
theorem signs_len : (signsA ++ signsB).length = 93 := by decide +kernel
theorem range_len (lo : Int) (k : Nat) : (rangeF lo k).length = k := by simp [rangeF]
theorem ix_str {a : List Char} {c : Char} {j : Int} (hl : a.length ≤ SZ) (h0 : 0 ≤ j) (h : a[j.toNat]? = some c) : ixF st (.str a) (.int j) = some (.str [c]) := by
  simp only [ixF, if_pos hl, at_nat h0 h, Option.map_some]
theorem text_spec {t : Nat} (h : P.fns[i]? = some (fdText t)) (ht : P.fns[t]? = some fdTake) {b : Nat} {w : Int} (hb : Box st b) (h0 : 0 ≤ w) (h1 : w < 100000) (q : ∀ (x : List Char) st', (x.length : Int) ≤ w → x.all signC = true → Box st' b → Keep b st st' → st'.length = st.length → Q (.str x, st')) : (callF P (n + 2) i [.ref b, .int w] st).wp Q := by
  refine call_wp h rfl ?_
  have hsz : SZ = 1000000 := rfl
  simp only [fdText, seval, MP.sv0, MP.sv1]
  refine ⟨by decide, ?_⟩
  refine take_spec ht hb (by omega) (by omega) fun k st1 hk0 hk1 hb1 kp1 hl1 => ?_
  simp only [seval, MP.sv0, MP.sv1]
  refine ⟨by omega, by omega, ?_⟩
  refine for_wp (I := fun ds fr st2 => ∃ x : List Char, ∃ e : Option D, fr = [some (.ref b), some (.int w), some (.str (signsA ++ signsB)), some (.str x), e] ∧ x.length + ds.length = k.toNat ∧ x.all signC = true ∧ Box st2 b ∧ Keep b st st2 ∧ st2.length = st.length) (fun _ _ _ _ => rfl) ?_ ?_ _ _ _ ?_
  · rintro d ds fr st2 ⟨x, e, rfl, hx, hs, hb2, kp2, hl2⟩
    simp only [seval, MP.sv0, MP.sv1]
    rw [List.length_cons] at hx
    refine ⟨by rw [signs_len]; omega, ?_⟩
    refine take_spec ht hb2 (by rw [signs_len]; decide) (by rw [signs_len]; decide) fun j st3 hj0 hj1 hb3 kp3 hl3 => ?_
    rw [signs_len] at hj1
    have hjl : j.toNat < (signsA ++ signsB).length := by rw [signs_len]; omega
    simp only [ix_str (by rw [signs_len]; omega) hj0 (List.getElem?_eq_getElem hjl), seval, MP.sv0, MP.sv1]
    refine ⟨by omega, _, _, rfl, by simp only [List.length_append, List.length_cons, List.length_nil]; omega, ?_, hb3, kp2.trans kp3, by omega⟩
    rw [List.all_append, hs, Bool.true_and, List.all_cons, List.all_nil, Bool.and_true]
    exact List.all_eq_true.mp signs_ok _ (List.getElem_mem hjl)
  · rintro fr st2 ⟨x, e, rfl, hx, hs, hb2, kp2, hl2⟩
    rw [List.length_nil] at hx
    exact ⟨_, rfl, q x st2 (by omega) hs hb2 kp2 hl2⟩
  · exact ⟨[], none, rfl, by rw [range_len]; simp, rfl, hb1, kp1, hl1⟩
def fdNumber (t : Nat) : FD := ⟨1, 2,
    (.cons (.set (.v 1) (.call t (.cons (.v 0) (.cons (.c (.int 4)) .nil)) []))
    (.cons (.ife (.op .eq (.v 1) (.c (.int 0)))
    (.cons (.ret (.op .add (.op .sub (.call t (.cons (.v 0) (.cons (.op .sub (.op .mul (.c (.int 2)) (.op .pow (.c (.int 10)) (.c (.int 60)))) (.c (.int 1))) .nil)) []) (.op .pow (.c (.int 10)) (.c (.int 60)))) (.c (.int 1))))
    .nil)
    .nil)
    (.cons (.ife (.op .eq (.v 1) (.c (.int 1)))
    (.cons (.ret (.ix (.lst (.cons (.op .sub (.op .pow (.c (.int 10)) (.c (.int 60))) (.c (.int 1))) (.cons (.op .sub (.c (.int 1)) (.op .pow (.c (.int 10)) (.c (.int 60)))) (.cons (.c (.int 0)) (.cons (.neg (.c (.int 1))) .nil))))) (.call t (.cons (.v 0) (.cons (.c (.int 4)) .nil)) [])))
    .nil)
    .nil)
    (.cons (.ret (.op .sub (.call t (.cons (.v 0) (.cons (.c (.int 12)) .nil)) []) (.c (.int 3))))
    .nil))))⟩
theorem number_spec {t : Nat} (h : P.fns[i]? = some (fdNumber t)) (ht : P.fns[t]? = some fdTake) {b : Nat} (hb : Box st b) (q : ∀ (x : Int) st', -(10 ^ 60) < x → x < 10 ^ 60 → Box st' b → Keep b st st' → Q (.int x, st')) : (callF P (n + 2) i [.ref b] st).wp Q := by
  refine call_wp h rfl ?_
  simp only [fdNumber, seval, MP.sv0, MP.sv1]
  refine take_spec ht hb (by omega) (by omega) fun k st1 hk0 hk1 hb1 kp1 hl1 => ?_
  simp only [seval, MP.sv0, MP.sv1]
  split
  · refine take_spec ht hb1 (by decide) (by decide) fun v st2 hv0 hv1 hb2 kp2 hl2 => ?_
    simp only [seval, MP.sv0, MP.sv1]
    refine q _ _ ?_ ?_ hb2 (kp1.trans kp2)
    · omega
    · omega
  · split
    · have hbn : b ≠ st1.length := by have := hb1.lt; omega
      refine take_spec ht (hb1.keep (c := st1.length) Keep.push hbn) (by decide) (by decide) fun v st2 hv0 hv1 hb2 kp2 hl2 => ?_
      have hr := kp2.at sto_top (Ne.symm hbn)
      simp only [ix_ref hr]
      have hv : v = 0 ∨ v = 1 ∨ v = 2 ∨ v = 3 := by omega
      have kp3 := kp1.trans (Keep.push.trans kp2)
      rcases hv with rfl | rfl | rfl | rfl
      · exact ⟨_, at_0, q _ _ (by decide) (by decide) hb2 kp3⟩
      · exact ⟨_, at_1, q _ _ (by decide) (by decide) hb2 kp3⟩
      · exact ⟨_, at_2, q _ _ (by decide) (by decide) hb2 kp3⟩
      · exact ⟨_, at_nat (by decide) rfl, q _ _ (by decide) (by decide) hb2 kp3⟩
    · refine take_spec ht hb1 (by decide) (by decide) fun v st2 hv0 hv1 hb2 kp2 hl2 => ?_
      simp only [seval, MP.sv0, MP.sv1]
      exact q _ _ (by omega) (by omega) hb2 (kp1.trans kp2)
end
end MP

set_option Elab.async false
set_option linter.all false
set_option maxRecDepth 100000
/-! MPLaw2: worths: is_number, is_sign, is_text, measured, is_worth; a law's drawn worths. -/
namespace MP

/-- a number of a worth -/
def numI (i : Int) : Bool := decide (-(10 ^ 60) < i) && decide (i < 10 ^ 60)
def txtOk (x : List Char) : Bool := decide (x.length ≤ 400) && x.all signC
mutual
/-- size and depth of a worth, or none -/
def mS : D → Option (Int × Int)
  | .int i => if numI i then some (1, 0) else none
  | .str x => if txtOk x then some (1 + x.length, 0) else none
  | .tup xs => if xs.length ≤ 60 then mSs xs 1 0 else none
  | _ => none
def mSs : List D → Int → Int → Option (Int × Int)
  | [], m, d => some (m, d + 1)
  | x :: xs, m, d => match mS x with
    | some p => mSs xs (m + p.1) (if p.2 > d then p.2 else d)
    | none => none
end
mutual
def depD : D → Nat
  | .tup xs => depDs xs + 1
  | _ => 0
def depDs : List D → Nat
  | [] => 0
  | x :: xs => max (depD x) (depDs xs)
end
mutual
/-- what isinstance may ask -/
def Saf (st : Sto) : D → Prop
  | .ref n => (∃ xs, st[n]? = some (.lst xs)) ∨ ∃ kvs, st[n]? = some (.dct kvs)
  | .tup xs => Safs st xs
  | .str x => x.length ≤ SZ
  | _ => True
def Safs (st : Sto) : List D → Prop
  | [] => True
  | x :: xs => Saf st x ∧ Safs st xs
end
def isW (d : D) : Bool := match mS d with
  | some p => decide (p.1 ≤ 1000) && decide (p.2 ≤ 12)
  | none => false
def encM : Option (Int × Int) → D
  | some p => .tup [.int p.1, .int p.2]
  | none => .non
def fdIsNumber : FD := ⟨1, 1,
    (.cons (.ret (.and (.isi (.v 0) .int) (.and (.not (.isi (.v 0) .bool)) (.chain .lt .lt (.neg (.c (.int 1000000000000000000000000000000000000000000000000000000000000))) (.v 0) (.c (.int 1000000000000000000000000000000000000000000000000000000000000))))))
    .nil)⟩
def fdIsSign : FD := ⟨1, 1,
    (.cons (.ret (.and (.chain .le .le (.c (.str [' '])) (.v 0) (.c (.str ['~']))) (.and (.op .ne (.v 0) (.c (.str ['"']))) (.op .ne (.bi .ord (.cons (.v 0) .nil)) (.c (.int 37))))))
    .nil)⟩
def fdIsText (s : Nat) : FD := ⟨1, 2,
    (.cons (.ife (.or (.not (.isi (.v 0) .str)) (.op .gt (.bi .len (.cons (.v 0) .nil)) (.c (.int 400))))
    (.cons (.ret (.c (.bl false)))
    .nil)
    .nil)
    (.cons (.forr (.v 1) (.any (.v 0))
    (.cons (.ife (.not (.call s (.cons (.v 1) .nil) []))
    (.cons (.ret (.c (.bl false)))
    .nil)
    .nil)
    .nil))
    (.cons (.ret (.c (.bl true)))
    .nil)))⟩
def fdMeasured (num txt self : Nat) : FD := ⟨1, 5,
    (.cons (.ife (.call num (.cons (.v 0) .nil) [])
    (.cons (.ret (.tup (.cons (.c (.int 1)) (.cons (.c (.int 0)) .nil))))
    .nil)
    .nil)
    (.cons (.ife (.call txt (.cons (.v 0) .nil) [])
    (.cons (.ret (.tup (.cons (.op .add (.c (.int 1)) (.bi .len (.cons (.v 0) .nil))) (.cons (.c (.int 0)) .nil))))
    .nil)
    .nil)
    (.cons (.ife (.or (.not (.isi (.v 0) .tuple)) (.op .gt (.bi .len (.cons (.v 0) .nil)) (.c (.int 60))))
    (.cons (.ret (.c .non))
    .nil)
    .nil)
    (.cons (.set (.v 1) (.c (.int 1)))
    (.cons (.set (.v 2) (.c (.int 0)))
    (.cons (.forr (.v 3) (.any (.v 0))
    (.cons (.set (.v 4) (.call self (.cons (.v 3) .nil) []))
    (.cons (.ife (.isN (.v 4))
    (.cons (.ret (.c .non))
    .nil)
    .nil)
    (.cons (.set (.v 1) (.op .add (.v 1) (.ix (.v 4) (.c (.int 0)))))
    (.cons (.set (.v 2) (.bi .max2 (.cons (.v 2) (.cons (.ix (.v 4) (.c (.int 1))) .nil))))
    .nil)))))
    (.cons (.ret (.tup (.cons (.v 1) (.cons (.op .add (.v 2) (.c (.int 1))) .nil))))
    .nil)))))))⟩
def fdIsWorth (m : Nat) : FD := ⟨1, 2,
    (.cons (.set (.v 1) (.call m (.cons (.v 0) .nil) []))
    (.cons (.ret (.and (.notN (.v 1)) (.and (.op .le (.ix (.v 1) (.c (.int 0))) (.c (.int 1000))) (.op .le (.ix (.v 1) (.c (.int 1))) (.c (.int 12))))))
    .nil))⟩
section
variable {P : Prog} {st : Sto} {Q : D × Sto → Prop} {n i : Nat}
theorem z_if {α : Type} {a b : α} : (if (true : Bool) = true then a else b) = a := rfl
def isInt : D → Bool | .int _ => true | .bl _ => true | _ => false
def isBool : D → Bool | .bl _ => true | _ => false
def isStr : D → Bool | .str _ => true | _ => false
def isTup : D → Bool | .tup _ => true | _ => false
theorem isi_int {d : D} (h : Saf st d) : isiF P st d .int = some (isInt d) := by
  cases d <;> first | rfl | (simp only [Saf] at h; rcases h with ⟨xs, h⟩ | ⟨xs, h⟩ <;> simp only [isiF, h, isInt])
theorem isi_bool {d : D} (h : Saf st d) : isiF P st d .bool = some (isBool d) := by
  cases d <;> first | rfl | (simp only [Saf] at h; rcases h with ⟨xs, h⟩ | ⟨xs, h⟩ <;> simp only [isiF, h, isBool])
theorem isi_str {d : D} (h : Saf st d) : isiF P st d .str = some (isStr d) := by
  cases d <;> first | rfl | (simp only [Saf] at h; rcases h with ⟨xs, h⟩ | ⟨xs, h⟩ <;> simp only [isiF, h, isStr])
theorem isi_tup {d : D} (h : Saf st d) : isiF P st d .tuple = some (isTup d) := by
  cases d <;> first | rfl | (simp only [Saf] at h; rcases h with ⟨xs, h⟩ | ⟨xs, h⟩ <;> simp only [isiF, h, isTup])
def numD : D → Bool | .int i => numI i | _ => false
def _root_.MP.sv2 :=

  @z_if
theorem isNumber_spec (h : P.fns[i]? = some fdIsNumber) {d : D} (hs : Saf st d) (q : Q (.bl (numD d), st)) : (callF P (n + 1) i [d] st).wp Q := by
  refine call_wp h rfl ?_
  simp only [fdIsNumber, seval, MP.sv0, MP.sv1, MP.sv2, isi_int hs, isi_bool hs]
  cases d <;> simp only [isInt, isBool, seval, MP.sv0, MP.sv1, MP.sv2] <;> try exact q
  rename_i k
  simp only [numD, numI] at q
  split
  · rename_i hk
    rw [decide_eq_true (by simpa using hk), Bool.true_and] at q
    exact q
  · rename_i hk
    rw [decide_eq_false (by simpa using hk), Bool.false_and] at q
    exact q
theorem cmp1 (a b : Char) : cmpS [a] [b] = decide (a.toNat < b.toNat) := by
  simp only [cmpS]
  by_cases h : a.toNat < b.toNat
  · simp [h]
  · simp [h]
theorem beq1 (a b : Char) : ([a] == [b]) = decide (a.toNat = b.toNat) := by
  by_cases h : a = b
  · subst h; simp
  · have h2 : a.toNat ≠ b.toNat := fun e => h (Char.toNat_inj.mp e)
    rw [decide_eq_false h2]
    simpa using h
theorem isSign_spec (h : P.fns[i]? = some fdIsSign) {c : Char} (q : Q (.bl (signC c), st)) : (callF P (n + 1) i [.str [c]] st).wp Q := by
  refine call_wp h rfl ?_
  simp only [fdIsSign, seval, MP.sv0, MP.sv1, MP.sv2, cmp1, beq1]
  have e : signC c = (decide (32 ≤ c.toNat) && decide (c.toNat ≤ 126) && !decide (c.toNat = 34) && !decide (c.toNat = 37)) := rfl
  rw [e] at q
  by_cases h1 : c.toNat < 32
  · rw [if_neg (by omega)]
    rw [decide_eq_false (by omega : ¬ 32 ≤ c.toNat)] at q
    exact q
  · rw [if_pos (by omega)]
    rw [decide_eq_true (by omega : 32 ≤ c.toNat)] at q
    by_cases h2 : 126 < c.toNat
    · rw [if_neg (by omega), decide_eq_true h2]
      rw [decide_eq_false (by omega : ¬ c.toNat ≤ 126)] at q
      exact q
    · rw [if_pos (by omega)]
      rw [decide_eq_true (by omega : c.toNat ≤ 126)] at q
      by_cases h3 : c.toNat = 34
      · rw [if_neg (by omega), decide_eq_true h3]
        rw [decide_eq_true h3] at q
        exact q
      · rw [if_pos (by omega)]
        rw [decide_eq_false h3] at q
        have e4 : ((c.toNat : Int) == 37) = decide (c.toNat = 37) := by
          by_cases h4 : c.toNat = 37
          · simp [h4]
          · rw [decide_eq_false h4]; simp; omega
        rw [e4]
        exact q
def txtD : D → Bool | .str x => txtOk x | _ => false
theorem isText_spec {s : Nat} (h : P.fns[i]? = some (fdIsText s)) (hc : P.fns[s]? = some fdIsSign) {d : D} (hs : Saf st d) (q : Q (.bl (txtD d), st)) : (callF P (n + 2) i [d] st).wp Q := by
  refine call_wp h rfl ?_
  simp only [fdIsText, seval, MP.sv0, MP.sv1, MP.sv2, isi_str hs]
  cases d <;> simp only [isStr, seval, MP.sv0, MP.sv1, MP.sv2] <;> try exact q
  rename_i x
  refine ⟨hs, ?_⟩
  simp only [txtD, txtOk] at q
  by_cases hl : x.length ≤ 400
  · rw [if_neg (by omega)]
    rw [decide_eq_true hl, Bool.true_and] at q
    refine for_wp (I := fun ds fr st2 => ∃ (y : List Char) (e : Option D), fr = [some (.str x), e] ∧ ds = signsF y ∧ st2 = st ∧ (Q (.bl (y.all signC), st))) (fun _ _ _ _ => rfl) ?_ ?_ _ _ _ ⟨x, none, rfl, rfl, rfl, q⟩
    · rintro d ds fr st2 ⟨y, e, rfl, hd, rfl, hq⟩
      cases y with
      | nil => cases hd
      | cons c y =>
        obtain ⟨rfl, rfl⟩ : d = .str [c] ∧ ds = signsF y := by
          simp only [signsF, List.map_cons, List.cons.injEq] at hd
          exact hd
        simp only [seval, MP.sv0, MP.sv1, MP.sv2]
        refine isSign_spec hc ?_
        simp only [seval, MP.sv0, MP.sv1, MP.sv2]
        rw [List.all_cons] at hq
        split
        · rename_i hf
          rw [hf] at hq
          exact hq
        · rename_i hf
          have ht : signC c = true := by simpa using hf
          rw [ht, Bool.true_and] at hq
          exact ⟨y, _, rfl, rfl, hq⟩
    · rintro fr st2 ⟨y, e, rfl, hd, rfl, hq⟩
      cases y with
      | nil => simp only [seval, MP.sv0, MP.sv1, MP.sv2, id]; exact hq
      | cons c y => cases hd
  · rw [if_pos (by omega)]
    rw [decide_eq_false hl, Bool.false_and] at q
    exact q
theorem depDs_mem {d : D} : ∀ {xs : List D}, d ∈ xs → depD d ≤ depDs xs
  | [], h => by cases h
  | x :: xs, h => by
    rw [depDs]
    rcases List.mem_cons.mp h with rfl | h
    · omega
    · have := depDs_mem h; omega
theorem safs_mem {d : D} : ∀ {xs : List D}, Safs st xs → d ∈ xs → Saf st d
  | [], _, h => by cases h
  | x :: xs, hs, h => by
    rw [Safs] at hs
    rcases List.mem_cons.mp h with rfl | h
    · exact hs.1
    · exact safs_mem hs.2 h
theorem safs_of : ∀ {xs : List D}, (∀ x ∈ xs, Saf st x) → Safs st xs
  | [], _ => trivial
  | x :: xs, h => ⟨h x List.mem_cons_self, safs_of fun y hy => h y (List.mem_cons_of_mem _ hy)⟩
theorem depDs_le {k : Nat} : ∀ {xs : List D}, (∀ x ∈ xs, depD x ≤ k) → depDs xs ≤ k
  | [], _ => Nat.zero_le _
  | x :: xs, h => by
    rw [depDs]
    have h1 := h x List.mem_cons_self
    have h2 := depDs_le (xs := xs) fun y hy => h y (List.mem_cons_of_mem _ hy)
    omega
theorem mSs_some : ∀ {xs : List D} {a b : Int} {q : Int × Int}, mSs xs a b = some q → ∀ x ∈ xs, ∃ p, mS x = some p
  | [], _, _, _, _, x, hx => by cases hx
  | y :: ys, a, b, q, h, x, hx => by
    rw [mSs] at h
    split at h
    · rename_i p hp
      rcases List.mem_cons.mp hx with rfl | hx
      · exact ⟨p, hp⟩
      · exact mSs_some h x hx
    · cases h
theorem measured_spec {num txt sg : Nat} (h : P.fns[i]? = some (fdMeasured num txt i)) (h1 : P.fns[num]? = some fdIsNumber) (h2 : P.fns[txt]? = some (fdIsText sg)) (h3 : P.fns[sg]? = some fdIsSign) :
    ∀ (n : Nat) (d : D) (Q : D × Sto → Prop), Saf st d → depD d + 3 ≤ n → Q (encM (mS d), st) → (callF P n i [d] st).wp Q := by
  intro n
  induction n with
  | zero => intro d Q hs hn q; omega
  | succ n ih =>
    intro d Q hs hn q
    obtain ⟨m, rfl⟩ : ∃ m, n = m + 2 := ⟨n - 2, by omega⟩
    refine call_wp h rfl ?_
    simp only [fdMeasured, seval, MP.sv0, MP.sv1, MP.sv2]
    refine isNumber_spec h1 hs ?_
    simp only [seval, MP.sv0, MP.sv1, MP.sv2]
    split
    · rename_i hk
      cases d <;> simp only [numD, Bool.false_eq_true] at hk
      simp only [mS, hk, if_true, encM] at q
      exact q
    · rename_i hk
      refine isText_spec h2 h3 hs ?_
      simp only [seval, MP.sv0, MP.sv1, MP.sv2]
      split
      · rename_i hk2
        cases d <;> simp only [txtD, Bool.false_eq_true] at hk2
        simp only [mS, hk2, if_true, encM] at q
        simp only [seval, MP.sv0, MP.sv1, MP.sv2]
        first | exact ⟨hs, q⟩ | exact q
      · rename_i hk2
        simp only [isi_tup hs, seval, MP.sv0, MP.sv1, MP.sv2]
        cases d <;> simp only [isTup, seval, MP.sv0, MP.sv1, MP.sv2]
        case tup xs =>
          simp only [mS] at q
          by_cases hl : xs.length ≤ 60
          · rw [if_pos hl] at q
            rw [if_neg (by omega)]
            refine for_wp (I := fun ds fr st2 => ∃ (ys : List D) (a b : Int) (e e2 : Option D), fr = [some (.tup xs), some (.int a), some (.int b), e, e2] ∧ ds = ys ∧ st2 = st ∧ (∀ y ∈ ys, y ∈ xs) ∧ Q (encM (mSs ys a b), st)) (fun _ _ _ _ => rfl) ?_ ?_ _ _ _ ⟨xs, 1, 0, none, none, rfl, rfl, rfl, fun _ h => h, q⟩
            · rintro d ds fr st2 ⟨ys, a, b, e, e2, rfl, rfl, rfl, hm, hq⟩
              simp only [seval, MP.sv0, MP.sv1, MP.sv2]
              have hd := hm d List.mem_cons_self
              have hdp := depDs_mem hd
              rw [depD] at hn
              refine ih d _ (safs_mem hs hd) (by omega) ?_
              simp only [seval, MP.sv0, MP.sv1, MP.sv2]
              rw [mSs] at hq
              cases hms : mS d with
              | none =>
                rw [hms] at hq
                simp only [encM, seval, MP.sv0, MP.sv1, MP.sv2]
                exact hq
              | some p =>
                rw [hms] at hq
                simp only [encM, seval, MP.sv0, MP.sv1, MP.sv2]
                exact ⟨ds, _, _, _, _, rfl, rfl, fun y hy => hm y (List.mem_cons_of_mem _ hy), hq⟩
            · rintro fr st2 ⟨ys, a, b, e, e2, rfl, rfl, rfl, hm, hq⟩
              simp only [seval, MP.sv0, MP.sv1, MP.sv2, id]
              exact hq
          · rw [if_neg hl] at q
            rw [if_pos (by omega)]
            exact q
        case int k =>
          simp only [mS] at q
          rw [if_neg (by simpa [numD] using hk)] at q
          exact q
        case str x =>
          simp only [mS] at q
          rw [if_neg (by simpa [txtD] using hk2)] at q
          exact q
        all_goals exact q
theorem isWorth_spec {ms num txt sg : Nat} (h : P.fns[i]? = some (fdIsWorth ms)) (hm : P.fns[ms]? = some (fdMeasured num txt ms)) (h1 : P.fns[num]? = some fdIsNumber) (h2 : P.fns[txt]? = some (fdIsText sg)) (h3 : P.fns[sg]? = some fdIsSign)
    {d : D} (hs : Saf st d) (hn : depD d + 4 ≤ n) (q : Q (.bl (isW d), st)) : (callF P n i [d] st).wp Q := by
  obtain ⟨m, rfl⟩ : ∃ m, n = m + 1 := ⟨n - 1, by omega⟩
  refine call_wp h rfl ?_
  simp only [fdIsWorth, seval, MP.sv0, MP.sv1, MP.sv2]
  refine measured_spec hm h1 h2 h3 m d _ hs (by omega) ?_
  simp only [isW] at q
  cases hms : mS d with
  | none =>
    rw [hms] at q
    simp only [encM, seval, MP.sv0, MP.sv1, MP.sv2]
    exact q
  | some p =>
    rw [hms] at q
    replace q : Q (.bl (decide (p.1 ≤ 1000) && decide (p.2 ≤ 12)), st) := q
    simp only [encM, seval, MP.sv0, MP.sv1, MP.sv2]
    split
    · rename_i hk
      rw [decide_eq_true (by simpa using hk), Bool.true_and] at q
      exact q
    · rename_i hk
      have e : decide (p.1 ≤ 1000) = false := decide_eq_false hk
      rw [e, Bool.false_and] at q
      rw [e]
      exact q
end
end MP

set_option Elab.async false
set_option linter.all false
set_option maxRecDepth 100000
/-! MPLaw3: a walk over a range; drawn worths. -/
namespace MP

section
variable {N : Fr → Sto → Prop} {T : D → Sto → Prop}
theorem for_range {turn : D → Fr → Sto → C} {lo : Int} {n : Nat} (I : Nat → Fr → Sto → Prop) (hs : ∀ k fr st, k < n → I k fr st → (turn (.int (lo + k)) fr st).wp (fun fr st => I (k + 1) fr st) T) (he : ∀ fr st, I n fr st → N fr st) {fr : Fr} {st : Sto} (h : I 0 fr st) :
    (forF (fun _ => true) turn (rangeF lo n) fr st).wp N T := by
  refine for_wp (I := fun ds fr st => ∃ k, k ≤ n ∧ ds = (rangeF lo n).drop k ∧ I k fr st) (fun _ _ _ _ => rfl) ?_ ?_ _ _ _ ⟨0, Nat.zero_le _, rfl, h⟩
  · rintro d ds fr st ⟨k, hk, hd, hi⟩
    have hl : (rangeF lo n).length = n := range_len lo n
    have hlt : k < n := by
      by_cases e : k < n
      · exact e
      · rw [List.drop_eq_nil_of_le (by omega)] at hd; cases hd
    rw [List.drop_eq_getElem_cons (by omega)] at hd
    injection hd with h1 h2
    have hd1 : d = .int (lo + k) := by rw [h1]; simp [rangeF]
    rw [hd1]
    exact cw_mono (hs k fr st hlt hi) (fun fr st h => ⟨k + 1, hlt, h2, h⟩) fun _ _ h => h
  · rintro fr st ⟨k, hk, hd, hi⟩
    have hl : (rangeF lo n).length = n := range_len lo n
    have : k = n := by
      by_cases e : k < n
      · rw [List.drop_eq_getElem_cons (by omega)] at hd; cases hd
      · omega
    rw [this] at hi
    exact he fr st hi
end

theorem Keep.new {b f : Nat} {st st' : Sto} {o : O} (h : Keep b st st') (hf : st.length ≤ f) : Keep b st (st'.set f o) := ⟨by rw [List.length_set]; exact h.1, fun n hn hb => by rw [List.getElem?_set_ne (by omega)]; exact h.2 n hn hb⟩
/-- a drawn worth: of so many parts, so deep -/
structure Wd (room deep : Int) (d : D) : Prop where
  saf : ∀ st, Saf st d
  dep : (depD d : Int) ≤ deep
  ms : ∃ s p, mS d = some (s, p) ∧ s ≤ 16 * room ∧ p ≤ deep
theorem Wd.int {room deep i : Int} (hr : 1 ≤ room) (hd : 0 ≤ deep) (h : -(10 ^ 60) < i ∧ i < 10 ^ 60) : Wd room deep (.int i) :=
  ⟨fun _ => trivial, by simp only [depD]; exact hd, 1, 0, by rw [mS, if_pos (by simp only [numI, Bool.and_eq_true, decide_eq_true_eq]; exact h)], by omega, hd⟩
theorem Wd.str {room deep : Int} {x : List Char} (hr : 1 ≤ room) (hd : 0 ≤ deep) (h : (x.length : Int) ≤ 15) (hs : x.all signC = true) : Wd room deep (.str x) :=
  ⟨fun _ => by show x.length ≤ SZ; have : SZ = 1000000 := rfl; omega, by simp only [depD]; exact hd, 1 + x.length, 0, by rw [mS, if_pos (by rw [txtOk, hs, decide_eq_true (by omega : x.length ≤ 400)]; rfl)], by omega, hd⟩
theorem mSs_app (x : D) : ∀ (xs : List D) (a b : Int), mSs (xs ++ [x]) a b = match mSs xs a b with
    | some p => (match mS x with | some q => some (p.1 + q.1, (if q.2 > p.2 - 1 then q.2 else p.2 - 1) + 1) | none => none)
    | none => none
  | [], a, b => by
    rw [List.nil_append, mSs, mSs]
    cases mS x with
    | none => rfl
    | some q => simp only [mSs]; rw [show b + 1 - 1 = b by omega]
  | y :: ys, a, b => by
    rw [List.cons_append, mSs, mSs]
    cases mS y with
    | none => rfl
    | some q => exact mSs_app x ys _ _
theorem depDs_app (x : D) : ∀ xs : List D, depDs (xs ++ [x]) = max (depDs xs) (depD x)
  | [] => by simp [depDs]
  | y :: ys => by rw [List.cons_append, depDs, depDs, depDs_app x ys]; omega
theorem safs_app {st : Sto} {x : D} : ∀ {xs : List D}, Safs st xs → Saf st x → Safs st (xs ++ [x])
  | [], _, h => ⟨h, trivial⟩
  | y :: ys, hs, h => by rw [Safs] at hs; exact ⟨hs.1, safs_app hs.2 h⟩
/-- drawn worths in a row: S parts in all -/
structure Wds (S deep : Int) (xs : List D) : Prop where
  saf : ∀ st, Safs st xs
  dep : (depDs xs : Int) ≤ deep - 1
  ms : ∃ s p, mSs xs 1 0 = some (s, p) ∧ s ≤ 1 + 16 * S ∧ p ≤ deep
theorem Wds.nil {deep : Int} (h : 1 ≤ deep) : Wds 0 deep [] := ⟨fun _ => trivial, by rw [depDs]; omega, 1, 1, rfl, by omega, h⟩
theorem Wds.app {S deep r : Int} {xs : List D} {x : D} (h : Wds S deep xs) (hx : Wd r (deep - 1) x) : Wds (S + r) deep (xs ++ [x]) := by
  obtain ⟨s, p, e1, h1, h2⟩ := h.ms
  obtain ⟨s', p', e2, h3, h4⟩ := hx.ms
  refine ⟨fun st => safs_app (h.saf st) (hx.saf st), by have := h.dep; have := hx.dep; rw [depDs_app]; omega, s + s', _, by rw [mSs_app, e1, e2], by omega, ?_⟩
  split <;> omega
theorem Wds.tup {S deep room : Int} {xs : List D} (h : Wds S deep xs) (hl : xs.length ≤ 60) (hS : S ≤ room - 1) : Wd room deep (.tup xs) := by
  obtain ⟨s, p, e1, h1, h2⟩ := h.ms
  exact ⟨fun st => h.saf st, by rw [depD]; have := h.dep; omega, s, p, by rw [mS, if_pos hl, e1], by omega, h2⟩
def fdWorth (take num txt self : Nat) : FD := ⟨3, 9,
    (.cons (.set (.v 3) (.call take (.cons (.v 0) (.cons (.c (.int 3)) .nil)) []))
    (.cons (.ife (.or (.op .eq (.v 3) (.c (.int 0))) (.and (.op .eq (.v 3) (.c (.int 2))) (.op .lt (.v 2) (.c (.int 1)))))
    (.cons (.ret (.call num (.cons (.v 0) .nil) []))
    .nil)
    .nil)
    (.cons (.ife (.op .eq (.v 3) (.c (.int 1)))
    (.cons (.ret (.call txt (.cons (.v 0) (.cons (.c (.int 15)) .nil)) []))
    .nil)
    .nil)
    (.cons (.set (.v 4) (.call take (.cons (.v 0) (.cons (.bi .min2 (.cons (.v 1) (.cons (.c (.int 61)) .nil))) .nil)) []))
    (.cons (.set (.v 5) (.op .sub (.v 1) (.c (.int 1))))
    (.cons (.set (.v 6) (.lst .nil))
    (.cons (.forr (.v 7) (.range1 (.v 4))
    (.cons (.set (.v 8) (.op .add (.c (.int 1)) (.call take (.cons (.v 0) (.cons (.op .sub (.v 5) (.op .sub (.op .sub (.v 4) (.c (.int 1))) (.v 7))) .nil)) [])))
    (.cons (.ex (.bm .append (.v 6) (.cons (.call self (.cons (.v 0) (.cons (.v 8) (.cons (.op .sub (.v 2) (.c (.int 1))) .nil))) []) .nil)))
    (.cons (.set (.v 5) (.op .sub (.v 5) (.v 8)))
    .nil))))
    (.cons (.ret (.bi .tuple (.cons (.v 6) .nil)))
    .nil))))))))⟩
section
variable {P : Prog} {i : Nat}
theorem worth_spec {take num txt : Nat} (h : P.fns[i]? = some (fdWorth take num txt i)) (ht : P.fns[take]? = some fdTake) (hn : P.fns[num]? = some (fdNumber take)) (hx : P.fns[txt]? = some (fdText take)) :
    ∀ (n : Nat) (st : Sto) (Q : D × Sto → Prop) (b : Nat) (room deep : Int), Box st b → 1 ≤ room → room < 2 ^ 100 → 0 ≤ deep → deep + 3 ≤ n → (∀ d st', Wd room deep d → Box st' b → Keep b st st' → Q (d, st')) → (callF P n i [.ref b, .int room, .int deep] st).wp Q := by
  intro n
  induction n with
  | zero => intro st Q b room deep hb h1 h2 h3 h4 q; omega
  | succ n ih =>
    intro st Q b room deep hb h1 h2 h3 h4 q
    obtain ⟨m, rfl⟩ : ∃ m, n = m + 2 := ⟨n - 2, by omega⟩
    have hsz : SZ = 1000000 := rfl
    refine call_wp h rfl ?_
    simp only [fdWorth, seval, MP.sv0, MP.sv1, MP.sv2]
    refine take_spec ht hb (by omega) (by omega) fun k st1 hk0 hk1 hb1 kp1 hl1 => ?_
    simp only [seval, MP.sv0, MP.sv1, MP.sv2]
    have numc : (callF P (m + 2) num [.ref b] st1).wp Q := number_spec hn ht hb1 fun x st2 hx1 hx2 hb2 kp2 => q _ _ (Wd.int h1 h3 ⟨hx1, hx2⟩) hb2 (kp1.trans kp2)
    have hk : k = 0 ∨ k = 1 ∨ k = 2 := by omega
    rcases hk with rfl | rfl | rfl
    · simp only [seval, MP.sv0, MP.sv1, MP.sv2]
      exact numc
    · simp only [seval, MP.sv0, MP.sv1, MP.sv2]
      exact text_spec hx ht hb1 (by decide) (by decide) fun x st2 hx1 hx2 hb2 kp2 hl2 => q _ _ (Wd.str h1 h3 hx1 hx2) hb2 (kp1.trans kp2)
    · by_cases hd : deep < 1
      · simp only [seval, MP.sv0, MP.sv1, MP.sv2, hd]
        exact numc
      · simp only [seval, MP.sv0, MP.sv1, MP.sv2, hd]
        refine take_spec ht hb1 (by split <;> omega) (by split <;> omega) fun wide st2 hw0 hw1 hb2 kp2 hl2 => ?_
        have hw61 : wide < 61 := by split at hw1 <;> omega
        have hwr : wide < room := by split at hw1 <;> omega
        simp only [seval, MP.sv0, MP.sv1, MP.sv2]
        refine ⟨by omega, by omega, ?_⟩
        have hbn : b < st2.length := hb2.lt
        have kp3 : Keep b st (st2 ++ [.lst []]) := (kp1.trans kp2).trans Keep.push
        have hbs : Box (st2 ++ [.lst []]) b := hb2.keep (c := st2.length) Keep.push (by omega)
        refine for_range (I := fun j fr st3 => ∃ (left : Int) (items : List D) (e7 e8 : Option D), fr = [some (.ref b), some (.int room), some (.int deep), some (.int 2), some (.int wide), some (.int left), some (.ref st2.length), e7, e8] ∧
          st3[st2.length]? = some (.lst items) ∧ items.length = j ∧ wide - j ≤ left ∧ left ≤ room - 1 ∧ Wds (room - 1 - left) deep items ∧ Box st3 b ∧ Keep b st st3) ?_ ?_ ⟨room - 1, [], none, none, rfl, sto_top, rfl, by omega, by omega, by rw [show room - 1 - (room - 1) = 0 by omega]; exact Wds.nil (by omega), hbs, kp3⟩
        · rintro j fr st3 hj ⟨left, items, e7, e8, rfl, hf, hl, hle, hle2, hW, hb3, kp4⟩
          simp only [seval, MP.sv0, MP.sv1, MP.sv2]
          refine take_spec ht hb3 (by omega) (by omega) fun v st4 hv0 hv1 hb4 kp5 hl4 => ?_
          have hf4 := kp5.at hf (by omega)
          simp only [seval, MP.sv0, MP.sv1, MP.sv2, kd_ref hf4]
          refine ih st4 _ b (1 + v) (deep - 1) hb4 (by omega) (by omega) (by omega) (by omega) fun d st5 hd hb5 kp6 => ?_
          have hf5 := kp6.at hf4 (by omega)
          simp only [ap_ref hf5, seval, MP.sv0, MP.sv1, MP.sv2]
          refine ⟨by omega, left - (1 + v), items ++ [d], _, _, rfl, sto_set hf5, by rw [List.length_append, hl]; rfl, by omega, by omega, ?_, hb5.keep (c := st2.length) Keep.set (by omega), ?_⟩
          · have := hW.app hd
            rw [show room - 1 - left + (1 + v) = room - 1 - (left - (1 + v)) by omega] at this
            exact this
          · exact ((kp4.trans kp5).trans kp6).new (by have := kp1.1; have := kp2.1; omega)
        · rintro fr st3 ⟨left, items, e7, e8, rfl, hf, hl, hle, hle2, hW, hb3, kp4⟩
          simp only [seval, MP.sv0, MP.sv1, MP.sv2, id, tuple_ref hf]
          exact q _ _ (hW.tup (by omega) (by omega)) hb3 kp4
end
end MP

set_option Elab.async false
set_option linter.all false
set_option maxRecDepth 100000
/-! MPLaw4: stores that grow; comprehensions; texts. -/
namespace MP

/-- what stood stands as it was, new things behind -/
def Grow (st st' : Sto) : Prop := ∃ r, st' = st ++ r
section
variable {st st' st2 : Sto}
theorem Grow.refl : Grow st st := ⟨[], by simp⟩
theorem Grow.trans (h : Grow st st') (h' : Grow st' st2) : Grow st st2 := by
  obtain ⟨r, rfl⟩ := h
  obtain ⟨r', rfl⟩ := h'
  exact ⟨r ++ r', by simp⟩
theorem Grow.push {o : O} : Grow st (st ++ [o]) := ⟨[o], rfl⟩
theorem Grow.at (h : Grow st st') {n : Nat} {o : O} (e : st[n]? = some o) : st'[n]? = some o := by
  obtain ⟨r, rfl⟩ := h
  rw [List.getElem?_append_left (List.getElem?_eq_some_iff.mp e).1]
  exact e
theorem Grow.keep (h : Grow st st') (b : Nat) : Keep b st st' := by
  obtain ⟨r, rfl⟩ := h
  exact ⟨by simp, fun n hn _ => List.getElem?_append_left hn⟩
theorem Grow.len (h : Grow st st') : st.length ≤ st'.length := by
  obtain ⟨r, rfl⟩ := h
  simp
theorem Grow.box (h : Grow st st') {b : Nat} (hb : Box st b) : Box st' b := let ⟨x, m, y, e, r⟩ := hb; ⟨x, m, y, h.at e, r⟩
mutual
theorem Grow.saf (h : Grow st st') : ∀ {d : D}, Saf st d → Saf st' d
  | .non, _ => trivial
  | .bl _, _ => trivial
  | .int _, _ => trivial
  | .kls _, _ => trivial
  | .str _, h => h
  | .tup xs, hs => Grow.safs h (xs := xs) hs
  | .ref n, hs => by
    rcases hs with ⟨xs, e⟩ | ⟨xs, e⟩
    · exact .inl ⟨xs, h.at e⟩
    · exact .inr ⟨xs, h.at e⟩
theorem Grow.safs (h : Grow st st') : ∀ {xs : List D}, Safs st xs → Safs st' xs
  | [], _ => trivial
  | x :: xs, hs => ⟨Grow.saf h hs.1, Grow.safs h hs.2⟩
end
end
mutual
/-- what isinstance may ask stands through a call that keeps all but a box -/
theorem saf_keep {b : Nat} {st st' : Sto} (k : Keep b st st') (hb : Box st' b) : ∀ {d : D}, Saf st d → Saf st' d
  | .non, _ => trivial
  | .bl _, _ => trivial
  | .int _, _ => trivial
  | .kls _, _ => trivial
  | .str _, h => h
  | .tup xs, hs => safs_keep k hb (xs := xs) hs
  | .ref n, hs => by
    by_cases e : n = b
    · subst e
      obtain ⟨x, m, y, h, _⟩ := hb
      exact .inl ⟨_, h⟩
    · rcases hs with ⟨xs, h⟩ | ⟨xs, h⟩
      · exact .inl ⟨xs, k.at h e⟩
      · exact .inr ⟨xs, k.at h e⟩
theorem safs_keep {b : Nat} {st st' : Sto} (k : Keep b st st') (hb : Box st' b) : ∀ {xs : List D}, Safs st xs → Safs st' xs
  | [], _ => trivial
  | x :: xs, hs => ⟨saf_keep k hb hs.1, safs_keep k hb hs.2⟩
end
section
variable {P : Prog} {cf mf : Cf} {fr : Fr} {st : Sto} {Q : D × Sto → Prop}
/-- a comprehension whose turns tell nothing but their value -/
theorem lc_map {turn : D → Sto → R (Option D × Sto)} {Q : List D × Sto → Prop} (f : D → D) : ∀ (ds acc : List D), (∀ d ∈ ds, (turn d st).wp fun p => p = (some (f d), st)) → acc.length + ds.length ≤ SZ → Q (acc ++ ds.map f, st) → (lcF (fun _ => true) turn ds acc st).wp Q
  | [], acc, _, _, q => by
    rw [lcF]
    simpa using q
  | d :: ds, acc, h, hl, q => by
    rw [lcF]
    simp only [if_true, wp_bind]
    rw [List.length_cons] at hl
    refine wp_mono (h d List.mem_cons_self) fun p hp => ?_
    subst hp
    dsimp only
    rw [if_pos (by omega)]
    exact lc_map f ds (acc ++ [f d]) (fun x hx => h x (List.mem_cons_of_mem _ hx)) (by rw [List.length_append]; simp only [List.length_cons, List.length_nil]; omega) (by simpa using q)
/-- a comprehension over a range -/
theorem lc_range {turn : D → Sto → R (Option D × Sto)} {lo : Int} {n : Nat} {Q : List D × Sto → Prop} (I : Nat → List D → Sto → Prop) (hn : n ≤ SZ)
    (hs : ∀ k acc st, k < n → acc.length ≤ k → I k acc st → (turn (.int (lo + k)) st).wp fun p => match p.1 with | some y => I (k + 1) (acc ++ [y]) p.2 | none => I (k + 1) acc p.2) (he : ∀ acc st, I n acc st → Q (acc, st)) (h : I 0 [] st) : (lcF (fun _ => true) turn (rangeF lo n) [] st).wp Q := by
  refine lc_wp (I := fun ds acc st => ∃ k, k ≤ n ∧ ds = (rangeF lo n).drop k ∧ acc.length ≤ k ∧ I k acc st) (fun _ _ _ _ => rfl) ?_ ?_ _ _ _ ⟨0, Nat.zero_le _, rfl, Nat.le_refl _, h⟩
  · rintro d ds acc st ⟨k, hk, hd, ha, hi⟩
    have hl : (rangeF lo n).length = n := range_len lo n
    have hlt : k < n := by
      by_cases e : k < n
      · exact e
      · rw [List.drop_eq_nil_of_le (by omega)] at hd; cases hd
    rw [List.drop_eq_getElem_cons (by omega)] at hd
    injection hd with h1 h2
    have hd1 : d = .int (lo + k) := by rw [h1]; simp [rangeF]
    rw [hd1]
    refine wp_mono (hs k acc st hlt ha hi) fun p hp => ?_
    obtain ⟨p1, p2⟩ := p
    cases p1 with
    | some y => exact ⟨by omega, k + 1, hlt, h2, by rw [List.length_append]; simp only [List.length_cons, List.length_nil]; omega, hp⟩
    | none => exact ⟨k + 1, hlt, h2, by omega, hp⟩
  · rintro acc st ⟨k, hk, hd, ha, hi⟩
    have hl : (rangeF lo n).length = n := range_len lo n
    have : k = n := by
      by_cases e : k < n
      · rw [List.drop_eq_getElem_cons (by omega)] at hd; cases hd
      · omega
    rw [this] at hi
    exact he acc st hi
/-- one of a list just made is drawn -/
theorem pick_fact {b t n : Nat} (ht : P.fns[t]? = some fdTake) (hb : Box st b) (xs : List D) {m : Int} (hm : (xs.length : Int) = m) (h1 : 1 ≤ m) (h2 : m < 1000000) :
    (callF P (n + 1) t [.ref b, .int m] (st ++ [.lst xs])).wp fun q => ∃ d ∈ xs, ixF q.2 (.ref st.length) q.1 = some d ∧ Box q.2 b ∧ Keep b st q.2 := by
  have hbl := hb.lt
  refine take_spec ht (Grow.push.box hb) (by omega) (by omega) fun v st1 hv hv' hb1 kp1 hl1 => ?_
  have hr := kp1.at sto_top (by omega)
  obtain ⟨d, hd, he⟩ := at_some (xs := xs) hv (by omega)
  exact ⟨d, hd, by rw [ix_ref hr]; exact he, hb1, Keep.push.trans kp1⟩
/-! ### texts -/
theorem z_nT : (¬ True) = False := by simp
theorem z_nF : (¬ False) = True := by simp
theorem z_btt : (true == true) = true := rfl
theorem z_bff : (false == false) = true := rfl
theorem z_btf : (true == false) = false := rfl
theorem z_bft : (false == true) = false := rfl
theorem z_bb {b : Bool} : (b == b) = true := by simp
theorem z_sss {x : List Char} : (x == x) = true := by simp
theorem kd_str {x : List Char} : kindF st (.str x) = some .s := rfl
theorem mem_s {c : Char} {b : List Char} : memF st (.str [c]) (.str b) = some (decide (c ∈ b)) := rfl
theorem bls_map : ∀ bs : List Bool, blsF (bs.map D.bl) = some bs
  | [] => rfl
  | b :: bs => by rw [List.map_cons, blsF, bls_map bs]; rfl
theorem strs_map : ∀ bs : List (List Char), strsF (bs.map D.str) = some bs
  | [] => rfl
  | b :: bs => by rw [List.map_cons, strsF, strs_map bs]; rfl
theorem ints_map : ∀ bs : List Int, intsF (bs.map D.int) = some bs
  | [] => rfl
  | b :: bs => by rw [List.map_cons, intsF, ints_map bs]; rfl
theorem all_ref {n : Nat} {bs : List Bool} (h : st[n]? = some (.lst (bs.map D.bl))) : biF .all [.ref n] st = .ok (.bl (bs.all id), st) := by
  simp only [biF, listF, h, Option.bind_some, bls_map]
theorem any_ref {n : Nat} {bs : List Bool} (h : st[n]? = some (.lst (bs.map D.bl))) : biF .any [.ref n] st = .ok (.bl (bs.any id), st) := by
  simp only [biF, listF, h, Option.bind_some, bls_map]
theorem sum_ref {n : Nat} {bs : List Int} (h : st[n]? = some (.lst (bs.map D.int))) : biF .sum [.ref n] st = .ok (.int bs.sum, st) := by
  simp only [biF, listF, h, Option.bind_some, ints_map]
theorem join_ref {a : List Char} {n : Nat} {ys : List (List Char)} (h : st[n]? = some (.lst (ys.map D.str))) : (bmF .s .join (.str a) [.ref n] st).wp Q ↔ ((ys.map (·.length)).sum + ys.length * a.length ≤ SZ ∧ Q (.str (joinF a ys), st)) := by
  simp only [bmF, smF, seqF, h, Option.bind_some, strs_map, wp_guard]
theorem part_s {a : List Char} {c : Char} : (bmF .s .partition (.str a) [.str [c]] st).wp Q ↔ (a.length ≤ SZ ∧ Q ((match partF c a with | some p => .tup [.str p.1, .str [c], .str p.2] | none => .tup [.str a, .str [], .str []]), st)) := by
  simp only [bmF, smF]
  split
  · rename_i h
    cases partF c a <;> simp [h]
  · rename_i h
    simp [h]
theorem split_s {a : List Char} {c : Char} : (bmF .s .split (.str a) [.str [c]] st).wp Q ↔ ((a.length + 2 ≤ SZ ∧ c.toNat < 256) ∧ Q (.ref st.length, st ++ [.lst ((splitF c a).map .str)])) := by
  simp only [bmF, smF, newF, wp_guard]
theorem sl_str {a : List Char} {lo hi : Option Int} : (slF st (.str a) lo hi).wp Q ↔ (a.length ≤ SZ ∧ Q (.str (cutF a lo hi), st)) := by
  simp only [slF, wp_guard]
theorem str_str {a : List Char} : biF .str [.str a] st = .ok (.str a, st) := rfl
theorem starts_s {a : List Char} {c : Char} : bmF .s .startswith (.str a) [.str [c]] st = .ok (.bl (headIs c a), st) := rfl
theorem find_s {a : List Char} {c : Char} : (bmF .s .find (.str a) [.str [c]] st).wp Q ↔ (a.length ≤ SZ ∧ Q (.int (findF c 0 a), st)) := by
  simp only [bmF, smF]; exact wp_guard
theorem find_s2 {a : List Char} {c : Char} {i : Int} : (bmF .s .find (.str a) [.str [c], .int i] st).wp Q ↔ ((a.length ≤ SZ ∧ 0 ≤ i) ∧ Q (.int (findF c i.toNat (a.drop i.toNat)), st)) := by
  simp only [bmF, smF]; exact wp_guard
theorem remove_ref {n : Nat} {ss : List (List Char)} {x : List Char} (h : st[n]? = some (.lst (ss.map D.str))) (hx : x ∈ ss) : (bmF .l .remove (.ref n) [.str x] st).wp Q ↔ Q (.non, st.set n (.lst ((ss.erase x).map D.str))) := by
  simp only [bmF, lstF, h, lmF, strs_map, if_pos hx, wp_ok]
theorem join0 : ∀ ys : List (List Char), joinF [] ys = ys.flatten
  | [] => rfl
  | [x] => by simp [joinF]
  | x :: y :: r => by rw [joinF, join0 (y :: r)]; simp
end
end MP

set_option Elab.async false
set_option linter.all false
set_option maxRecDepth 100000
/-! MPLaw5: raw worths; a law's own size, depth, fits; the same told of the same. -/
namespace MP

section
variable {st : Sto} {Q : D × Sto → Prop}
/-- a comprehension whose turns tell their value and let the store grow -/
theorem lc_grow {turn : D → Sto → R (Option D × Sto)} {Q : List D × Sto → Prop} (f : D → D) {st0 : Sto} : ∀ (ds acc : List D) (st : Sto), Grow st0 st → (∀ d ∈ ds, ∀ st, Grow st0 st → (turn d st).wp fun p => p.1 = some (f d) ∧ Grow st p.2) → acc.length + ds.length ≤ SZ → (∀ st', Grow st0 st' → Q (acc ++ ds.map f, st')) → (lcF (fun _ => true) turn ds acc st).wp Q
  | [], acc, st, g, _, _, q => by
    rw [lcF]
    simpa using q st g
  | d :: ds, acc, st, g, h, hl, q => by
    rw [lcF]
    simp only [if_true, wp_bind]
    rw [List.length_cons] at hl
    refine wp_mono (h d List.mem_cons_self st g) fun p hp => ?_
    obtain ⟨p1, p2⟩ := p
    obtain ⟨rfl, hg⟩ := hp
    dsimp only
    rw [if_pos (by omega)]
    exact lc_grow f ds (acc ++ [f d]) p2 (g.trans hg) (fun x hx => h x (List.mem_cons_of_mem _ hx)) (by rw [List.length_append]; simp only [List.length_cons, List.length_nil]; omega) (by simpa using q)
theorem int_bl {b : Bool} : biF .int [.bl b] st = .ok (.int (if b then 1 else 0), st) := rfl
theorem abs_i {i : Int} : biF .abs [.int i] st = .ok (.int (if i < 0 then -i else i), st) := rfl
theorem maxl_ref {n : Nat} {m : Int} {bs : List Int} (h : st[n]? = some (.lst (bs.map D.int))) (hm : maxI bs = some m) : biF .maxl [.ref n] st = .ok (.int m, st) := by
  simp only [biF, listF, h, Option.bind_some, ints_map, hm]
end

mutual
/-- numbers, texts of worths' signs, tuples of them -/
def rawD : D → Bool
  | .int _ => true
  | .str x => x.all signC && decide (x.length ≤ 2000)
  | .tup xs => decide (xs.length ≤ 2000) && rawDs xs
  | _ => false
def rawDs : List D → Bool
  | [] => true
  | x :: xs => rawD x && rawDs xs
end
mutual
def sizD : D → Nat
  | .str x => 1 + x.length
  | .tup xs => 1 + sizDs xs
  | _ => 1
def sizDs : List D → Nat
  | [] => 0
  | x :: xs => sizD x + sizDs xs
end
mutual
def fitD : D → Bool
  | .int i => decide ((if i < 0 then -i else i) < 10 ^ 60)
  | .str x => decide (x.length ≤ 400)
  | .tup xs => decide (xs.length ≤ 60) && fitDs xs
  | _ => false
def fitDs : List D → Bool
  | [] => true
  | x :: xs => fitD x && fitDs xs
end
theorem rawDs_mem {d : D} : ∀ {xs : List D}, rawDs xs = true → d ∈ xs → rawD d = true
  | [], _, h => by cases h
  | x :: xs, hs, h => by
    rw [rawDs, Bool.and_eq_true] at hs
    rcases List.mem_cons.mp h with rfl | h
    · exact hs.1
    · exact rawDs_mem hs.2 h
theorem rawDs_of : ∀ {xs : List D}, (∀ d ∈ xs, rawD d = true) → rawDs xs = true
  | [], _ => rfl
  | x :: xs, h => by rw [rawDs, h x List.mem_cons_self, rawDs_of fun y hy => h y (List.mem_cons_of_mem _ hy)]; rfl
mutual
theorem raw_saf (st : Sto) : ∀ d : D, rawD d = true → Saf st d
  | .int _, _ => trivial
  | .str x, h => by
    rw [rawD, Bool.and_eq_true, decide_eq_true_eq] at h
    show x.length ≤ 1000000
    omega
  | .tup xs, h => by
    rw [rawD, Bool.and_eq_true] at h
    exact raws_saf st xs h.2
  | .non, h => by cases h
  | .bl _, h => by cases h
  | .kls _, h => by cases h
  | .ref _, h => by cases h
theorem raws_saf (st : Sto) : ∀ ds : List D, rawDs ds = true → Safs st ds
  | [], _ => trivial
  | x :: xs, h => by
    rw [rawDs, Bool.and_eq_true] at h
    exact ⟨raw_saf st x h.1, raws_saf st xs h.2⟩
end
theorem ite_cond {α : Type} {b : Bool} {x y : α} : (if b = true then x else y) = cond b x y := by cases b <;> rfl
mutual
theorem raw_ms : ∀ d : D, rawD d = true → mS d = cond (fitD d) (some ((sizD d : Int), (depD d : Int))) none
  | .int i, _ => by
    have e : numI i = fitD (.int i) := by
      simp only [numI, fitD]
      rw [Bool.eq_iff_iff]
      simp only [Bool.and_eq_true, decide_eq_true_eq]
      split <;> omega
    simp only [mS, ite_cond]
    rw [e]
    rfl
  | .str x, h => by
    rw [rawD, Bool.and_eq_true] at h
    have e : txtOk x = fitD (.str x) := by simp only [txtOk, fitD, h.1, Bool.and_true]
    have e2 : ((sizD (.str x) : Nat) : Int) = 1 + (x.length : Int) := by simp only [sizD]; omega
    simp only [mS, ite_cond]
    rw [e, e2]
    rfl
  | .tup xs, h => by
    rw [rawD, Bool.and_eq_true] at h
    have e : fitD (.tup xs) = (decide (xs.length ≤ 60) && fitDs xs) := by simp only [fitD]
    rw [e]
    simp only [mS]
    by_cases hl : xs.length ≤ 60
    · rw [if_pos hl, decide_eq_true hl, Bool.true_and, raws_ms xs h.2 1 0 (by decide), sizD, depD]
      rw [show max (depDs xs : Int) 0 = depDs xs by omega, show (1 + (sizDs xs : Int)) = ((1 + sizDs xs : Nat) : Int) by omega, show ((depDs xs : Int) + 1) = ((depDs xs + 1 : Nat) : Int) by omega]
    · rw [if_neg hl, decide_eq_false hl, Bool.false_and]
      rfl
  | .non, h => by cases h
  | .bl _, h => by cases h
  | .kls _, h => by cases h
  | .ref _, h => by cases h
theorem raws_ms : ∀ ds : List D, rawDs ds = true → ∀ (a b : Int), 0 ≤ b → mSs ds a b = cond (fitDs ds) (some (a + sizDs ds, max (depDs ds : Int) b + 1)) none
  | [], _, a, b, hb => by
    simp only [mSs, fitDs, sizDs, depDs, cond_true]
    rw [show max ((0 : Nat) : Int) b = b by omega]
    simp
  | x :: xs, h, a, b, hb => by
    rw [rawDs, Bool.and_eq_true] at h
    rw [mSs, raw_ms x h.1, fitDs]
    cases hf : fitD x with
    | true =>
      rw [cond_true, Bool.true_and]
      dsimp only
      rw [raws_ms xs h.2 _ _ (by split <;> omega), sizDs, depDs]
      have e1 : a + (sizD x : Int) + (sizDs xs : Int) = a + ((sizD x + sizDs xs : Nat) : Int) := by omega
      have e2 : max (depDs xs : Int) (if (depD x : Int) > b then (depD x : Int) else b) = max ((max (depD x) (depDs xs) : Nat) : Int) b := by
        split <;> omega
      rw [e1, e2]
    | false => rfl
end
theorem raw_isW {d : D} (h : rawD d = true) : isW d = (fitD d && (decide ((sizD d : Int) ≤ 1000) && decide ((depD d : Int) ≤ 12))) := by
  unfold isW
  rw [raw_ms d h]
  cases fitD d <;> simp
def fdSize (self : Nat) : FD := ⟨1, 2,
    (.cons (.ife (.isi (.v 0) .str)
    (.cons (.ret (.op .add (.c (.int 1)) (.bi .len (.cons (.v 0) .nil))))
    .nil)
    .nil)
    (.cons (.ife (.isi (.v 0) .tuple)
    (.cons (.ret (.op .add (.c (.int 1)) (.bi .sum (.cons (.lc (.v 1) (.any (.v 0)) .nil (.call self (.cons (.v 1) .nil) []) [1]) .nil))))
    .nil)
    .nil)
    (.cons (.ret (.c (.int 1)))
    .nil)))⟩
def fdDepth (self : Nat) : FD := ⟨1, 2,
    (.cons (.ife (.isi (.v 0) .tuple)
    (.cons (.ret (.op .add (.c (.int 1)) (.bi .maxl (.cons (.op .add (.lst (.cons (.c (.int 0)) .nil)) (.lc (.v 1) (.any (.v 0)) .nil (.call self (.cons (.v 1) .nil) []) [1])) .nil))))
    .nil)
    .nil)
    (.cons (.ret (.c (.int 0)))
    .nil))⟩
def fdFits (self : Nat) : FD := ⟨1, 2,
    (.cons (.ife (.isi (.v 0) .str)
    (.cons (.ret (.op .le (.bi .len (.cons (.v 0) .nil)) (.c (.int 400))))
    .nil)
    .nil)
    (.cons (.ife (.isi (.v 0) .tuple)
    (.cons (.ret (.and (.op .le (.bi .len (.cons (.v 0) .nil)) (.c (.int 60))) (.bi .all (.cons (.lc (.v 1) (.any (.v 0)) .nil (.call self (.cons (.v 1) .nil) []) [1]) .nil))))
    .nil)
    .nil)
    (.cons (.ret (.op .lt (.bi .abs (.cons (.v 0) .nil)) (.op .pow (.c (.int 10)) (.c (.int 60)))))
    .nil)))⟩
section
variable {P : Prog} {st : Sto} {i : Nat}
theorem sizDs_sum : ∀ xs : List D, (xs.map fun d => (sizD d : Int)).sum = sizDs xs
  | [] => rfl
  | x :: xs => by rw [List.map_cons, List.sum_cons, sizDs_sum xs, sizDs]; omega
def _root_.MP.sv3 :=
  And.intro @z_nT (
  And.intro @z_nF (
  And.intro @z_btt (
  And.intro @z_bff (
  And.intro @z_btf (
  And.intro @z_bft (
  And.intro @z_bb (
  And.intro @z_sss (
  And.intro @kd_str (
  And.intro @mem_s (
  And.intro @part_s (
  And.intro @split_s (
  And.intro @sl_str (
  And.intro @str_str (
  And.intro @starts_s (
  And.intro @find_s (
  And.intro @find_s2 (
  And.intro @int_bl (
  @abs_i))))))))))))))))))
theorem size_spec (h : P.fns[i]? = some (fdSize i)) : ∀ (n : Nat) (st : Sto) (Q : D × Sto → Prop) (d : D), rawD d = true → depD d + 1 ≤ n → (∀ st', Grow st st' → Q (.int (sizD d), st')) → (callF P n i [d] st).wp Q := by
  intro n
  induction n with
  | zero => intro st Q d hr hn q; omega
  | succ n ih =>
    intro st Q d hr hn q
    refine call_wp h rfl ?_
    simp only [fdSize, seval, MP.sv0, MP.sv1, MP.sv2, MP.sv3, isi_str (raw_saf st d hr), isi_tup (raw_saf st d hr)]
    cases d <;> simp only [isStr, isTup, seval, MP.sv0, MP.sv1, MP.sv2, MP.sv3] <;> try (exact q st Grow.refl)
    case str x =>
      rw [rawD, Bool.and_eq_true, decide_eq_true_eq] at hr
      refine ⟨by omega, ?_⟩
      have := q st Grow.refl
      simp only [sizD] at this
      rw [show ((1 + x.length : Nat) : Int) = 1 + (x.length : Int) by omega] at this
      exact this
    case tup xs =>
      rw [rawD, Bool.and_eq_true, decide_eq_true_eq] at hr
      rw [depD] at hn
      refine lc_grow (fun d => .int (sizD d)) _ _ _ Grow.refl ?_ (by have : SZ = 1000000 := rfl; simp only [List.length_nil]; omega) ?_
      · intro d hd st2 g
        simp only [seval, MP.sv0, MP.sv1, MP.sv2, MP.sv3, wipeF]
        have := depDs_mem hd
        refine ih st2 _ d (rawDs_mem hr.2 hd) (by omega) fun st3 g3 => ?_
        simp only [seval, MP.sv0, MP.sv1, MP.sv2, MP.sv3]
        exact g3
      · intro st2 g
        simp only [seval, MP.sv0, MP.sv1, MP.sv2, MP.sv3, id]
        have e : (st2 ++ [O.lst (xs.map fun d => D.int (sizD d))])[st2.length]? = some (.lst ((xs.map fun d => (sizD d : Int)).map .int)) := by rw [sto_top, List.map_map]; rfl
        rw [sum_ref e, wp_ok, sizDs_sum]
        simp only [seval, MP.sv0, MP.sv1, MP.sv2, MP.sv3]
        have := q (st2 ++ [O.lst (xs.map fun d => D.int (sizD d))]) (g.trans Grow.push)
        rw [sizD, show ((1 + sizDs xs : Nat) : Int) = 1 + (sizDs xs : Int) by omega] at this
        exact this
theorem max_dep : ∀ (xs : List D) (a : Int), 0 ≤ a → (xs.map fun d => (depD d : Int)).foldl (fun a b => if b > a then b else a) a = max a (depDs xs)
  | [], a, ha => by
    simp only [List.map_nil, List.foldl_nil, depDs]
    omega
  | x :: xs, a, ha => by
    rw [List.map_cons, List.foldl_cons, max_dep xs _ (by split <;> omega), depDs]
    split <;> omega
theorem depth_spec (h : P.fns[i]? = some (fdDepth i)) : ∀ (n : Nat) (st : Sto) (Q : D × Sto → Prop) (d : D), rawD d = true → depD d + 1 ≤ n → (∀ st', Grow st st' → Q (.int (depD d), st')) → (callF P n i [d] st).wp Q := by
  intro n
  induction n with
  | zero => intro st Q d hr hn q; omega
  | succ n ih =>
    intro st Q d hr hn q
    refine call_wp h rfl ?_
    simp only [fdDepth, seval, MP.sv0, MP.sv1, MP.sv2, MP.sv3, isi_tup (raw_saf st d hr)]
    cases d <;> simp only [isTup, seval, MP.sv0, MP.sv1, MP.sv2, MP.sv3] <;> try (exact q st Grow.refl)
    case tup xs =>
      rw [rawD, Bool.and_eq_true, decide_eq_true_eq] at hr
      rw [depD] at hn
      have g0 : Grow st (st ++ [O.lst [.int 0]]) := Grow.push
      refine lc_grow (fun d => .int (depD d)) _ _ _ Grow.refl ?_ (by have : SZ = 1000000 := rfl; simp only [List.length_nil]; omega) ?_
      · intro d hd st2 g
        simp only [seval, MP.sv0, MP.sv1, MP.sv2, MP.sv3, wipeF]
        have := depDs_mem hd
        refine ih st2 _ d (rawDs_mem hr.2 hd) (by omega) fun st3 g3 => ?_
        simp only [seval, MP.sv0, MP.sv1, MP.sv2, MP.sv3]
        exact g3
      · intro st2 g
        simp only [seval, MP.sv0, MP.sv1, MP.sv2, MP.sv3, id]
        have e0 : st2[st.length]? = some (.lst [.int 0]) := g.at sto_top
        rw [add_ref (sto_old e0) sto_top]
        refine ⟨by simp only [List.length_map, List.length_cons, List.length_nil]; have : SZ = 1000000 := rfl; omega, ?_⟩
        have e : (st2 ++ [O.lst (xs.map fun d => D.int (depD d))] ++ [O.lst ([D.int 0] ++ xs.map fun d => D.int (depD d))])[(st2 ++ [O.lst (xs.map fun d => D.int (depD d))]).length]? = some (.lst (((0 : Int) :: xs.map fun d => (depD d : Int)).map .int)) := by
          rw [sto_top, List.map_cons, List.map_map]
          rfl
        rw [maxl_ref e (m := max 0 (depDs xs)) (by show some _ = _; rw [max_dep xs 0 (by omega)]), wp_ok]
        simp only [seval, MP.sv0, MP.sv1, MP.sv2, MP.sv3]
        have := q (st2 ++ [O.lst (xs.map fun d => D.int (depD d))] ++ [O.lst ([D.int 0] ++ xs.map fun d => D.int (depD d))]) (((g0.trans g).trans Grow.push).trans Grow.push)
        rw [depD, show ((depDs xs + 1 : Nat) : Int) = 1 + max 0 (depDs xs : Int) by omega] at this
        exact this
theorem fits_spec (h : P.fns[i]? = some (fdFits i)) : ∀ (n : Nat) (st : Sto) (Q : D × Sto → Prop) (d : D), rawD d = true → depD d + 1 ≤ n → (∀ st', Grow st st' → Q (.bl (fitD d), st')) → (callF P n i [d] st).wp Q := by
  intro n
  induction n with
  | zero => intro st Q d hr hn q; omega
  | succ n ih =>
    intro st Q d hr hn q
    refine call_wp h rfl ?_
    simp only [fdFits, seval, MP.sv0, MP.sv1, MP.sv2, MP.sv3, isi_str (raw_saf st d hr), isi_tup (raw_saf st d hr)]
    cases d <;> simp only [isStr, isTup, seval, MP.sv0, MP.sv1, MP.sv2, MP.sv3] <;> try (exact absurd hr Bool.false_ne_true)
    case int k => exact q st Grow.refl
    case str x =>
      rw [rawD, Bool.and_eq_true, decide_eq_true_eq] at hr
      refine ⟨by omega, ?_⟩
      have := q st Grow.refl
      simp only [fitD] at this
      rw [show decide (x.length ≤ 400) = decide ((x.length : Int) ≤ 400) by rw [Bool.eq_iff_iff]; simp only [decide_eq_true_eq]; omega] at this
      exact this
    case tup xs =>
      rw [rawD, Bool.and_eq_true, decide_eq_true_eq] at hr
      rw [depD] at hn
      have e9 : fitD (.tup xs) = (decide (xs.length ≤ 60) && fitDs xs) := by simp only [fitD]
      rw [e9] at q
      split
      · rename_i hk
        rw [decide_eq_true (show xs.length ≤ 60 by omega), Bool.true_and] at q
        refine lc_grow (fun d => .bl (fitD d)) _ _ _ Grow.refl ?_ (by have : SZ = 1000000 := rfl; simp only [List.length_nil]; omega) ?_
        · intro d hd st2 g
          simp only [seval, MP.sv0, MP.sv1, MP.sv2, MP.sv3, wipeF]
          have := depDs_mem hd
          refine ih st2 _ d (rawDs_mem hr.2 hd) (by omega) fun st3 g3 => ?_
          simp only [seval, MP.sv0, MP.sv1, MP.sv2, MP.sv3]
          exact g3
        · intro st2 g
          simp only [seval, MP.sv0, MP.sv1, MP.sv2, MP.sv3, id]
          have e : (st2 ++ [O.lst (xs.map fun d => D.bl (fitD d))])[st2.length]? = some (.lst ((xs.map fun d => fitD d).map .bl)) := by rw [sto_top, List.map_map]; rfl
          rw [all_ref e, wp_ok]
          have e3 : ∀ ys : List D, (ys.map fun d => fitD d).all id = fitDs ys := fun ys => by
            induction ys with
            | nil => rfl
            | cons y ys ih => rw [List.map_cons, List.all_cons, ih, fitDs]; rfl
          rw [e3]
          exact q _ (g.trans Grow.push)
      · rename_i hk
        have e4 : decide (xs.length ≤ 60) = false := decide_eq_false (by omega)
        rw [e4, Bool.false_and] at q
        have e5 : decide ((xs.length : Int) ≤ 60) = false := decide_eq_false hk
        rw [e5]
        exact q st Grow.refl
def fdMadeL (fit siz dep : Nat) : FD := ⟨1, 1,
    (.cons (.ife (.and (.call fit (.cons (.v 0) .nil) []) (.and (.op .le (.call siz (.cons (.v 0) .nil) []) (.c (.int 1000))) (.op .le (.call dep (.cons (.v 0) .nil) []) (.c (.int 12)))))
    (.cons (.ret (.tup (.cons (.c (.str ['m', 'a', 'd', 'e'])) (.cons (.v 0) .nil))))
    .nil)
    .nil)
    (.cons (.ret (.tup (.cons (.c (.str ['w', 'r', 'o', 'n', 'g'])) (.cons (.c (.str ['g', 'r', 'e', 'a', 't'])) (.cons (.c (.str [])) .nil)))))
    .nil))⟩
def fdMade (w : Nat) : FD := ⟨1, 1,
    (.cons (.ife (.call w (.cons (.v 0) .nil) [])
    (.cons (.ret (.tup (.cons (.c (.str ['m', 'a', 'd', 'e'])) (.cons (.v 0) .nil))))
    .nil)
    .nil)
    (.cons (.ret (.c (.tup [(.str ['w', 'r', 'o', 'n', 'g']), (.str ['g', 'r', 'e', 'a', 't']), (.str [])])))
    .nil))⟩
def madeD (d : D) : D := if isW d = true then .tup [.str ['m', 'a', 'd', 'e'], d] else .tup [.str ['w', 'r', 'o', 'n', 'g'], .str ['g', 'r', 'e', 'a', 't'], .str []]
theorem made_spec {w ms num txt sg n : Nat} {Q : D × Sto → Prop} (h0 : P.fns[i]? = some (fdMade w)) (h : P.fns[w]? = some (fdIsWorth ms)) (hm : P.fns[ms]? = some (fdMeasured num txt ms)) (h1 : P.fns[num]? = some fdIsNumber) (h2 : P.fns[txt]? = some (fdIsText sg)) (h3 : P.fns[sg]? = some fdIsSign)
    {d : D} (hs : Saf st d) (hn : depD d + 5 ≤ n) (q : Q (madeD d, st)) : (callF P n i [d] st).wp Q := by
  obtain ⟨m, rfl⟩ : ∃ m, n = m + 1 := ⟨n - 1, by omega⟩
  refine call_wp h0 rfl ?_
  simp only [fdMade, seval, MP.sv0, MP.sv1, MP.sv2, MP.sv3]
  refine isWorth_spec h hm h1 h2 h3 hs (by omega) ?_
  simp only [seval, MP.sv0, MP.sv1, MP.sv2, MP.sv3]
  unfold madeD at q
  split
  · rename_i hk
    rw [if_pos hk] at q
    exact q
  · rename_i hk
    rw [if_neg hk] at q
    exact q
theorem madeL_spec {fit siz dep n : Nat} {Q : D × Sto → Prop} (h0 : P.fns[i]? = some (fdMadeL fit siz dep)) (h1 : P.fns[fit]? = some (fdFits fit)) (h2 : P.fns[siz]? = some (fdSize siz)) (h3 : P.fns[dep]? = some (fdDepth dep))
    {d : D} (hr : rawD d = true) (hn : depD d + 2 ≤ n) (q : ∀ st', Grow st st' → Q (madeD d, st')) : (callF P n i [d] st).wp Q := by
  obtain ⟨m, rfl⟩ : ∃ m, n = m + 1 := ⟨n - 1, by omega⟩
  refine call_wp h0 rfl ?_
  simp only [fdMadeL, seval, MP.sv0, MP.sv1, MP.sv2, MP.sv3]
  unfold madeD at q
  rw [raw_isW hr] at q
  refine fits_spec h1 m _ _ d hr (by omega) fun st1 g1 => ?_
  simp only [seval, MP.sv0, MP.sv1, MP.sv2, MP.sv3]
  split
  · rename_i hf
    rw [hf, Bool.true_and] at q
    refine size_spec h2 m _ _ d hr (by omega) fun st2 g2 => ?_
    simp only [seval, MP.sv0, MP.sv1, MP.sv2, MP.sv3]
    split
    · rename_i hs
      rw [decide_eq_true hs, Bool.true_and] at q
      refine depth_spec h3 m _ _ d hr (by omega) fun st3 g3 => ?_
      simp only [seval, MP.sv0, MP.sv1, MP.sv2, MP.sv3]
      have q := q st3 ((g1.trans g2).trans g3)
      split
      · rename_i hd
        rw [if_pos (decide_eq_true hd)] at q
        exact q
      · rename_i hd
        rw [if_neg (by rw [decide_eq_false hd]; decide)] at q
        exact q
    · rename_i hs
      have q := q st2 (g1.trans g2)
      rw [decide_eq_false hs, Bool.false_and, if_neg (by decide)] at q
      exact q
  · rename_i hf
    have hf : fitD d = false := by simpa using hf
    have q := q st1 g1
    rw [hf, Bool.false_and, if_neg (by decide)] at q
    exact q
def fdSame (self : Nat) : FD := ⟨2, 3,
    (.cons (.ife (.or (.isi (.v 0) .bool) (.isi (.v 1) .bool))
    (.cons (.ret (.and (.isi (.v 0) .bool) (.and (.isi (.v 1) .bool) (.op .eq (.v 0) (.v 1)))))
    .nil)
    .nil)
    (.cons (.ife (.or (.isi (.v 1) .tuple) (.isi (.v 1) .list))
    (.cons (.ife (.and (.not (.isi (.v 0) .tuple)) (.not (.isi (.v 0) .list)))
    (.cons (.ret (.c (.bl false)))
    .nil)
    .nil)
    (.cons (.ife (.or (.op .ne (.isi (.v 0) .list) (.isi (.v 1) .list)) (.op .ne (.bi .len (.cons (.v 0) .nil)) (.bi .len (.cons (.v 1) .nil))))
    (.cons (.ret (.c (.bl false)))
    .nil)
    .nil)
    (.cons (.ret (.bi .all (.cons (.lc (.v 2) (.range1 (.bi .len (.cons (.v 1) .nil))) .nil (.call self (.cons (.ix (.v 0) (.v 2)) (.cons (.ix (.v 1) (.v 2)) .nil)) []) [2]) .nil)))
    .nil)))
    .nil)
    (.cons (.ife (.isi (.v 1) .str)
    (.cons (.ret (.and (.isi (.v 0) .str) (.op .eq (.v 0) (.v 1))))
    .nil)
    .nil)
    (.cons (.ife (.isi (.v 1) .int)
    (.cons (.ret (.and (.isi (.v 0) .int) (.op .eq (.v 0) (.v 1))))
    .nil)
    .nil)
    (.cons (.ret (.and (.isN (.v 0)) (.isN (.v 1))))
    .nil)))))⟩
def isLst : D → Bool | .kls _ => true | _ => false
theorem isi_list {d : D} (h : rawD d = true) : isiF P st d .list = some (isLst d) := by
  cases d <;> first | rfl | (exact absurd h Bool.false_ne_true)
theorem all_true : ∀ k, (List.replicate k true).all id = true
  | 0 => rfl
  | k + 1 => by rw [List.replicate_succ, List.all_cons, all_true k]; rfl
theorem same_spec (h : P.fns[i]? = some (fdSame i)) : ∀ (n : Nat) (st : Sto) (Q : D × Sto → Prop) (d : D), rawD d = true → depD d + 1 ≤ n → (∀ st', Grow st st' → Q (.bl true, st')) → (callF P n i [d, d] st).wp Q := by
  intro n
  induction n with
  | zero => intro st Q d hr hn q; omega
  | succ n ih =>
    intro st Q d hr hn q
    refine call_wp h rfl ?_
    have hs := raw_saf st d hr
    simp only [fdSame, seval, MP.sv0, MP.sv1, MP.sv2, MP.sv3, isi_str hs, isi_tup hs, isi_bool hs, isi_int hs, isi_list hr]
    cases d <;> simp only [isStr, isTup, isBool, isInt, isLst, seval, MP.sv0, MP.sv1, MP.sv2, MP.sv3] <;> try (exact absurd hr Bool.false_ne_true)
    case int k =>
      have e : (k == k) = true := by simp
      rw [e]
      exact q st Grow.refl
    case str x => exact q st Grow.refl
    case tup xs =>
      rw [rawD, Bool.and_eq_true, decide_eq_true_eq] at hr
      rw [depD] at hn
      have e0 : ¬ (((xs.length : Int) == (xs.length : Int)) = false) := by simp
      rw [if_neg e0]
      have hz : SZ = 1000000 := rfl
      refine ⟨by omega, by omega, ?_⟩
      refine lc_range (I := fun k acc st2 => acc = List.replicate k (.bl true) ∧ Grow st st2) (by omega) ?_ ?_ ⟨rfl, Grow.refl⟩
      · rintro k acc st2 hk ha ⟨rfl, g⟩
        have hkl : k < xs.length := by omega
        have e : atF xs (0 + (k : Int)) = some xs[k] := at_nat (by omega) (by rw [show (0 + (k : Int)).toNat = k by omega]; exact List.getElem?_eq_getElem hkl)
        simp only [seval, MP.sv0, MP.sv1, MP.sv2, MP.sv3, wipeF, e]
        have hm := List.getElem_mem hkl
        have := depDs_mem hm
        refine ih st2 _ _ (rawDs_mem hr.2 hm) (by omega) fun st3 g3 => ?_
        simp only [seval, MP.sv0, MP.sv1, MP.sv2, MP.sv3]
        exact ⟨List.replicate_succ'.symm, g.trans g3⟩
      · rintro acc st2 ⟨rfl, g⟩
        simp only [seval, MP.sv0, MP.sv1, MP.sv2, MP.sv3, id]
        have e : (st2 ++ [O.lst (List.replicate (xs.length : Int).toNat (D.bl true))])[st2.length]? = some (.lst ((List.replicate (xs.length : Int).toNat true).map .bl)) := by rw [sto_top, List.map_replicate]
        rw [all_ref e, wp_ok, all_true]
        exact q _ (g.trans Grow.push)
mutual
theorem ms_raw : ∀ (d : D) (p : Int × Int), mS d = some p → rawD d = true
  | .int _, _, _ => rfl
  | .str x, p, h => by
    simp only [mS] at h
    split at h
    · rename_i hk
      rw [txtOk, Bool.and_eq_true, decide_eq_true_eq] at hk
      rw [rawD, hk.2, decide_eq_true (by omega)]
      rfl
    · cases h
  | .tup xs, p, h => by
    simp only [mS] at h
    split at h
    · rw [rawD, decide_eq_true (by omega), mss_raw xs _ _ p h]
      rfl
    · cases h
  | .non, p, h => by simp [mS] at h
  | .bl b, p, h => by simp [mS] at h
  | .kls b, p, h => by simp [mS] at h
  | .ref b, p, h => by simp [mS] at h
theorem mss_raw : ∀ (xs : List D) (a b : Int) (p : Int × Int), mSs xs a b = some p → rawDs xs = true
  | [], _, _, _, _ => rfl
  | x :: xs, a, b, p, h => by
    rw [mSs] at h
    split at h
    · rename_i q hq
      rw [rawDs, ms_raw x q hq, mss_raw xs _ _ p h]
      rfl
    · cases h
end
theorem Wd.raw {room deep : Int} {d : D} (h : Wd room deep d) : rawD d = true := by
  obtain ⟨s, p, e, _⟩ := h.ms
  exact ms_raw d _ e
/-! ### while -/
section
variable {cf mf : Cf} {fr : Fr} {N : Fr → Sto → Prop} {T : D → Sto → Prop}
theorem w_test {x : RD} {Q : Bool × Sto → Prop} : (testF x).wp Q ↔ x.wp fun p => ∃ b, truthF p.2 p.1 = some b ∧ Q (b, p.2) := by
  simp only [testF, wp_bind, wp_of, wp_ok]
theorem s_whl_w {c : E} {b : Ss} : (evS P cf mf (.whl c b) fr st).wp N T ↔ (whlF (fun fr st => testF (evE P cf mf c fr st)) (fun fr st => evSs P cf mf b fr st) WF fr st).wp N T := by rw [evS]
end
end
end MP

set_option Elab.async false
set_option linter.all false
set_option maxRecDepth 100000
/-! MPLaw6: plain data (no object within): == , alikeness; an int's figures. -/
namespace MP

mutual
/-- None, truths, numbers, texts, tuples of them -/
def purD : D → Bool
  | .str x => decide (x.length ≤ 100000)
  | .tup xs => decide (xs.length ≤ 100000) && purDs xs
  | .kls _ => false
  | .ref _ => false
  | _ => true
def purDs : List D → Bool
  | [] => true
  | x :: xs => purD x && purDs xs
end
theorem purDs_mem {d : D} : ∀ {xs : List D}, purDs xs = true → d ∈ xs → purD d = true
  | [], _, h => by cases h
  | x :: xs, hs, h => by
    rw [purDs, Bool.and_eq_true] at hs
    rcases List.mem_cons.mp h with rfl | h
    · exact hs.1
    · exact purDs_mem hs.2 h
theorem purDs_of : ∀ {xs : List D}, (∀ d ∈ xs, purD d = true) → purDs xs = true
  | [], _ => rfl
  | x :: xs, h => by rw [purDs, h x List.mem_cons_self, purDs_of fun y hy => h y (List.mem_cons_of_mem _ hy)]; rfl
mutual
theorem pur_saf (st : Sto) : ∀ d : D, purD d = true → Saf st d
  | .int _, _ => trivial
  | .non, _ => trivial
  | .bl _, _ => trivial
  | .str x, h => by
    rw [purD, decide_eq_true_eq] at h
    show x.length ≤ 1000000
    omega
  | .tup xs, h => by
    rw [purD, Bool.and_eq_true] at h
    exact purs_saf st xs h.2
  | .kls _, h => by cases h
  | .ref _, h => by cases h
theorem purs_saf (st : Sto) : ∀ ds : List D, purDs ds = true → Safs st ds
  | [], _ => trivial
  | x :: xs, h => by
    rw [purDs, Bool.and_eq_true] at h
    exact ⟨pur_saf st x h.1, purs_saf st xs h.2⟩
end
mutual
theorem raw_pur : ∀ d : D, rawD d = true → purD d = true
  | .int _, _ => rfl
  | .str x, h => by
    rw [rawD, Bool.and_eq_true, decide_eq_true_eq] at h
    rw [purD, decide_eq_true (by omega)]
  | .tup xs, h => by
    rw [rawD, Bool.and_eq_true, decide_eq_true_eq] at h
    rw [purD, decide_eq_true (by omega), raws_pur xs h.2]
    rfl
  | .non, h => by cases h
  | .bl _, h => by cases h
  | .kls _, h => by cases h
  | .ref _, h => by cases h
theorem raws_pur : ∀ ds : List D, rawDs ds = true → purDs ds = true
  | [], _ => rfl
  | x :: xs, h => by
    rw [rawDs, Bool.and_eq_true] at h
    rw [purDs, raw_pur x h.1, raws_pur xs h.2]
    rfl
end
mutual
/-- no truth within, nor None: then == is alikeness -/
def numD' : D → Bool
  | .int _ => true
  | .str _ => true
  | .tup xs => numDs' xs
  | _ => false
def numDs' : List D → Bool
  | [] => true
  | x :: xs => numD' x && numDs' xs
end
mutual
def toT : D → T
  | .non => .non
  | .bl b => .bl b
  | .int i => .int i
  | .str x => .str x
  | .tup xs => .tup (toTs xs)
  | .kls _ => .non
  | .ref _ => .non
def toTs : List D → List T
  | [] => []
  | x :: xs => toT x :: toTs xs
end
mutual
theorem tree_pur (st : Sto) : ∀ (d : D) (n : Nat), purD d = true → depD d ≤ n → treeF st n d = some (toT d)
  | .non, n, _, _ => by cases n <;> simp [treeF, toT]
  | .bl b, n, _, _ => by cases n <;> simp [treeF, toT]
  | .int i, n, _, _ => by cases n <;> simp [treeF, toT]
  | .str x, n, _, _ => by cases n <;> simp [treeF, toT]
  | .tup xs, n, h, hn => by
    rw [purD, Bool.and_eq_true] at h
    rw [depD] at hn
    obtain ⟨m, rfl⟩ : ∃ m, n = m + 1 := ⟨n - 1, by omega⟩
    rw [treeF, trees_pur st xs m h.2 (by omega)]
    rfl
  | .kls _, n, h, _ => by cases h
  | .ref _, n, h, _ => by cases h
theorem trees_pur (st : Sto) : ∀ (ds : List D) (n : Nat), purDs ds = true → depDs ds ≤ n → treesF st n ds = some (toTs ds)
  | [], n, _, _ => by simp [treesF, toTs]
  | x :: xs, n, h, hn => by
    rw [purDs, Bool.and_eq_true] at h
    rw [depDs] at hn
    rw [treesF, tree_pur st x n h.1 (by omega), trees_pur st xs n h.2 (by omega)]
    rfl
end
mutual
theorem eqv_num : ∀ (a b : D), numD' a = true → numD' b = true → T.eqv (toT a) (toT b) = D.beq a b
  | .int i, b, _, hb => by
    cases b <;> first | (exact absurd hb Bool.false_ne_true) | rfl
  | .str x, b, _, hb => by
    cases b <;> first | (exact absurd hb Bool.false_ne_true) | rfl
  | .tup xs, b, ha, hb => by
    cases b with
    | tup ys =>
      rw [numD'] at ha hb
      rw [toT, toT, T.eqv, D.beq]
      exact eqvs_num xs ys ha hb
    | _ => first | (exact absurd hb Bool.false_ne_true) | rfl
  | .non, _, h, _ => by cases h
  | .bl _, _, h, _ => by cases h
  | .kls _, _, h, _ => by cases h
  | .ref _, _, h, _ => by cases h
theorem eqvs_num : ∀ (as bs : List D), numDs' as = true → numDs' bs = true → T.eqvs (toTs as) (toTs bs) = D.beqs as bs
  | [], [], _, _ => rfl
  | [], _ :: _, _, _ => rfl
  | _ :: _, [], _, _ => rfl
  | a :: as, b :: bs, ha, hb => by
    rw [numDs', Bool.and_eq_true] at ha hb
    rw [toTs, toTs, T.eqvs, D.beqs, eqv_num a b ha.1 hb.1, eqvs_num as bs ha.2 hb.2]
end
theorem eq_num {st : Sto} {a b : D} (ha : purD a = true) (hb : purD b = true) (na : numD' a = true) (nb : numD' b = true) (da : depD a ≤ 60) (db : depD b ≤ 60) : eqF st a b = some (D.beq a b) := by
  rw [eqF, eqT, tree_pur st a 60 ha da, tree_pur st b 60 hb db]
  simp only [eqv_num a b na nb]
mutual
theorem raw_num : ∀ d : D, rawD d = true → numD' d = true
  | .int _, _ => rfl
  | .str x, h => rfl
  | .tup xs, h => by
    rw [rawD, Bool.and_eq_true] at h
    rw [numD', raws_num xs h.2]
  | .non, h => by cases h
  | .bl _, h => by cases h
  | .kls _, h => by cases h
  | .ref _, h => by cases h
theorem raws_num : ∀ ds : List D, rawDs ds = true → numDs' ds = true
  | [], _ => rfl
  | x :: xs, h => by
    rw [rawDs, Bool.and_eq_true] at h
    rw [numDs', raw_num x h.1, raws_num xs h.2]
    rfl
end
theorem numDs_mem {d : D} : ∀ {xs : List D}, numDs' xs = true → d ∈ xs → numD' d = true
  | [], _, h => by cases h
  | x :: xs, hs, h => by
    rw [numDs', Bool.and_eq_true] at hs
    rcases List.mem_cons.mp h with rfl | h
    · exact hs.1
    · exact numDs_mem hs.2 h
theorem numDs_of : ∀ {xs : List D}, (∀ d ∈ xs, numD' d = true) → numDs' xs = true
  | [], _ => rfl
  | x :: xs, h => by rw [numDs', h x List.mem_cons_self, numDs_of fun y hy => h y (List.mem_cons_of_mem _ hy)]; rfl
mutual
theorem beq_comm : ∀ a b : D, D.beq a b = D.beq b a
  | .non, b => by cases b <;> rfl
  | .bl x, b => by cases b <;> first | rfl | (simp only [D.beq]; exact BEq.comm)
  | .int x, b => by cases b <;> first | rfl | (simp only [D.beq]; exact BEq.comm)
  | .str x, b => by cases b <;> first | rfl | (simp only [D.beq]; exact BEq.comm)
  | .tup xs, b => by cases b <;> first | rfl | (simp only [D.beq]; exact beqs_comm xs _)
  | .kls xs, b => by cases b <;> first | rfl | (simp only [D.beq]; exact beqs_comm xs _)
  | .ref x, b => by cases b <;> first | rfl | (simp only [D.beq]; exact BEq.comm)
theorem beqs_comm : ∀ as bs : List D, D.beqs as bs = D.beqs bs as
  | [], [] => rfl
  | [], _ :: _ => rfl
  | _ :: _, [] => rfl
  | a :: as, b :: bs => by rw [D.beqs, D.beqs, beq_comm a b, beqs_comm as bs]
end
theorem beqs_len : ∀ {as bs : List D}, D.beqs as bs = true → as.length = bs.length
  | [], [], _ => rfl
  | [], _ :: _, h => by cases h
  | _ :: _, [], h => by cases h
  | a :: as, b :: bs, h => by
    rw [D.beqs, Bool.and_eq_true] at h
    rw [List.length_cons, List.length_cons, beqs_len h.2]
/-- alike item by item -/
theorem beqs_range : ∀ (as bs : List D), as.length = bs.length → D.beqs as bs = (List.range bs.length).all fun k => D.beq (as[k]?.getD .non) (bs[k]?.getD .non)
  | [], [], _ => rfl
  | [], _ :: _, h => by cases h
  | _ :: _, [], h => by cases h
  | a :: as, b :: bs, h => by
    rw [D.beqs, List.length_cons, List.range_succ_eq_map, List.all_cons, List.all_map, beqs_range as bs (by simpa using h)]
    rfl
/-- an int's figures: how many -/
theorem digC_len : ∀ (f k n : Nat) (acc : List Char), n < 10 ^ (k + 1) → (Nat.toDigitsCore 10 f n acc).length ≤ acc.length + k + 1
  | 0, k, n, acc, _ => by rw [Nat.toDigitsCore]; omega
  | f + 1, k, n, acc, h => by
    rw [Nat.toDigitsCore]
    split
    · simp only [List.length_cons]; omega
    · cases k with
      | zero =>
        rename_i hne
        exact absurd (Nat.div_eq_of_lt (by simpa using h)) hne
      | succ k =>
        have := digC_len f k (n / 10) (Nat.digitChar (n % 10) :: acc) (by rw [Nat.div_lt_iff_lt_mul (by decide)]; rw [Nat.pow_succ] at h; exact h)
        rw [List.length_cons] at this
        omega
theorem showI_len {i : Int} {k : Nat} (h : i.natAbs < 10 ^ (k + 1)) : (showI i).length ≤ k + 2 := by
  cases i with
  | ofNat n =>
    have := digC_len (n + 1) k n [] h
    show (Nat.toDigits 10 n).length ≤ _
    unfold Nat.toDigits
    simp only [List.length_nil] at this
    omega
  | negSucc n =>
    have := digC_len (n + 1 + 1) k (n + 1) [] h
    show ('-' :: Nat.toDigits 10 (n + 1)).length ≤ _
    unfold Nat.toDigits
    simp only [List.length_nil, List.length_cons] at this ⊢
    omega
end MP

set_option Elab.async false
set_option linter.all false
set_option maxRecDepth 100000
/-! MPLaw7: zips, comprehensions over lists of the store, instances. -/
namespace MP

section
variable {P : Prog} {cf mf : Cf} {fr : Fr} {st : Sto}
def zipD (x y : D) (st : Sto) : R (Wk × Sto × (Sto → Sto)) := match listF st x, listF st y with
    | some xs, some ys => .ok (⟨zipF xs ys, fun s => standsD x xs s && standsD y ys s⟩, st, id)
    | _, _ => match x, y with
      | .tup xs, .tup ys => .ok (⟨zipF xs ys, fun _ => true⟩, st, id)
      | _, _ => .no
theorem w_zip {a b : E} {Q : Wk × Sto × (Sto → Sto) → Prop} : (evIt P cf mf (.zip a b) fr st).wp Q ↔ (evE P cf mf a fr st).wp fun p => (evE P cf mf b fr p.2).wp fun q => (zipD p.1 q.1 q.2).wp Q := by
  rw [evIt]; first | (simp only [wp_bind]; done) | (simp only [wp_bind]; rfl)
theorem zip_tup {xs ys : List D} : zipD (.tup xs) (.tup ys) st = .ok (⟨zipF xs ys, fun _ => true⟩, st, id) := rfl
/-- a comprehension over what stands while the store grows -/
theorem lc_growk {ok : Sto → Bool} {turn : D → Sto → R (Option D × Sto)} {Q : List D × Sto → Prop} (f : D → D) {st0 : Sto} (hok : ∀ st, Grow st0 st → ok st = true) : ∀ (ds acc : List D) (st : Sto), Grow st0 st → (∀ d ∈ ds, ∀ st, Grow st0 st → (turn d st).wp fun p => p.1 = some (f d) ∧ Grow st p.2) → acc.length + ds.length ≤ SZ → (∀ st', Grow st0 st' → Q (acc ++ ds.map f, st')) → (lcF ok turn ds acc st).wp Q
  | [], acc, st, g, _, _, q => by
    rw [lcF, if_pos (hok st g)]
    simpa using q st g
  | d :: ds, acc, st, g, h, hl, q => by
    rw [lcF, if_pos (hok st g)]
    simp only [wp_bind]
    rw [List.length_cons] at hl
    refine wp_mono (h d List.mem_cons_self st g) fun p hp => ?_
    obtain ⟨p1, p2⟩ := p
    obtain ⟨rfl, hg⟩ := hp
    dsimp only
    rw [if_pos (by omega)]
    exact lc_growk f hok ds (acc ++ [f d]) p2 (g.trans hg) (fun x hx => h x (List.mem_cons_of_mem _ hx)) (by rw [List.length_append]; simp only [List.length_cons, List.length_nil]; omega) (by simpa using q)
/-! ### plain data, alike -/
/-- plain, so deep -/
structure Pu (k : Nat) (d : D) : Prop where
  pur : purD d = true
  dep : depD d ≤ k
theorem Pu.mem {k : Nat} {xs : List D} (h : Pu (k + 1) (.tup xs)) {d : D} (hd : d ∈ xs) : Pu k d := by
  have h1 := h.pur
  have h3 := h.dep
  rw [purD, Bool.and_eq_true] at h1
  rw [depD] at h3
  have := depDs_mem hd
  exact ⟨purDs_mem h1.2 hd, by omega⟩
theorem Pu.mono {k l : Nat} {d : D} (h : Pu k d) (hl : k ≤ l) : Pu l d := ⟨h.pur, Nat.le_trans h.dep hl⟩
theorem Pu.len {k : Nat} {xs : List D} (h : Pu k (.tup xs)) : xs.length ≤ 100000 := by
  have := h.pur
  rw [purD, Bool.and_eq_true, decide_eq_true_eq] at this
  exact this.1
theorem pu_tup {k : Nat} {xs : List D} (hl : xs.length ≤ 100000) (h : ∀ d ∈ xs, Pu k d) : Pu (k + 1) (.tup xs) := by
  refine ⟨by rw [purD, decide_eq_true hl, purDs_of fun d hd => (h d hd).pur]; rfl, ?_⟩
  rw [depD]
  have := depDs_le fun d hd => (h d hd).dep
  omega
theorem Pu.saf {k : Nat} {d : D} (h : Pu k d) (st : Sto) : Saf st d := pur_saf st d h.pur
theorem zip_len : ∀ (xs ys : List D), (zipF xs ys).length ≤ xs.length
  | [], _ => by simp [zipF]
  | _ :: _, [] => by simp [zipF]
  | x :: xs, y :: ys => by have := zip_len xs ys; simp only [zipF, List.length_cons]; omega
theorem zip_mem : ∀ (xs ys : List D) (d : D), d ∈ zipF xs ys → ∃ x y, d = .tup [x, y] ∧ x ∈ xs ∧ y ∈ ys
  | [], _, d, h => by simp [zipF] at h
  | _ :: _, [], d, h => by simp [zipF] at h
  | x :: xs, y :: ys, d, h => by
    rw [zipF] at h
    rcases List.mem_cons.mp h with rfl | h
    · exact ⟨x, y, rfl, List.mem_cons_self, List.mem_cons_self⟩
    · obtain ⟨a, b, e, h1, h2⟩ := zip_mem xs ys d h
      exact ⟨a, b, e, List.mem_cons_of_mem _ h1, List.mem_cons_of_mem _ h2⟩
def pairB : D → Bool | .tup [x, y] => D.beq x y | _ => false
theorem zip_all : ∀ (xs ys : List D), xs.length = ys.length → ((zipF xs ys).map pairB).all id = D.beqs xs ys
  | [], [], _ => rfl
  | [], _ :: _, h => by cases h
  | _ :: _, [], h => by cases h
  | x :: xs, y :: ys, h => by
    rw [zipF, List.map_cons, List.all_cons, D.beqs, zip_all xs ys (by simpa using h)]
    rfl
theorem isi_lst {k : Nat} {d : D} (h : Pu k d) : isiF P st d .list = some false := by
  have := h.pur
  cases d <;> first | rfl | (exact absurd this Bool.false_ne_true)
/-! ### instances -/
theorem fld_ins {s c f : Nat} {fs : List (Nat × D)} {d : D} (h : st[s]? = some (.ins c fs)) (hf : fldN fs f = some d) : fldF st (.ref s) f = some d := by simp only [fldF, h, hf]
theorem cls_ins {s c : Nat} {fs : List (Nat × D)} (h : st[s]? = some (.ins c fs)) : clsF st (.ref s) = some c := by simp only [clsF, h]
theorem setfld_ins {s c f : Nat} {fs : List (Nat × D)} {d : D} (h : st[s]? = some (.ins c fs)) (hl : fs.length < 500) : setFldF st (.ref s) f d = some (st.set s (.ins c (putN f d fs))) := by simp only [setFldF, h, if_pos hl]
theorem list_ref {n : Nat} {xs : List D} (h : st[n]? = some (.lst xs)) : biF .list [.ref n] st = .ok (.ref st.length, st ++ [.lst xs]) := by simp only [biF, seqF, h, newF]
theorem clear_ref {n : Nat} {xs : List D} {Q : D × Sto → Prop} (h : st[n]? = some (.lst xs)) : (bmF .l .clear (.ref n) [] st).wp Q ↔ Q (.non, st.set n (.lst [])) := by
  simp only [bmF, lstF, h, lmF, wp_ok]
end
end MP

set_option Elab.async false
set_option linter.all false
set_option maxRecDepth 100000
set_option maxHeartbeats 4000000
/-! MPLaw8: what words reckon; two worths alike. -/
namespace MP
theorem z_sbeq {i j : List Char} : ((i == j) = true) = (i = j) := by simp
theorem str_i {st : Sto} {i : Int} {Q : D × Sto → Prop} : (biF .str [.int i] st).wp Q ↔ (i.natAbs.log2 < 1900 ∧ Q (.str (showI i), st)) := by
  simp only [biF]; exact wp_guard
/-! ### reckoned -/
def wrD (x : List Char) : D := .tup [.str ['w', 'r', 'o', 'n', 'g'], .str x, .str []]
def kindD : D := wrD ['k', 'i', 'n', 'd']
def greatD : D := wrD ['g', 'r', 'e', 'a', 't']
def noughtD : D := wrD ['n', 'o', 'u', 'g', 'h', 't']
def placeD : D := wrD ['p', 'l', 'a', 'c', 'e']
def okD (d : D) : D := .tup [.str ['m', 'a', 'd', 'e'], d]
abbrev sList : List Char := ['l', 'i', 's', 't']
abbrev sCount : List Char := ['c', 'o', 'u', 'n', 't']
abbrev sFigures : List Char := ['f', 'i', 'g', 'u', 'r', 'e', 's']
abbrev sSame : List Char := ['s', 'a', 'm', 'e']
abbrev sJoin : List Char := ['j', 'o', 'i', 'n']
abbrev sItem : List Char := ['i', 't', 'e', 'm']
abbrev sLess : List Char := ['l', 'e', 's', 's']
def numW (w : List Char) : D → D → D
  | .int i, .int j => if w = ['/'] ∧ j = 0 then noughtD else if w = ['+'] then madeD (.int (i + j)) else if w = ['-'] then madeD (.int (i - j)) else if w = ['*'] then madeD (.int (i * j)) else if w = ['/'] then madeD (.int (i.fdiv j)) else madeD (.int (if i < j then 1 else 0))
  | _, _ => kindD
def joinD : D → D → D
  | .str x, .str y => madeD (.str (x ++ y))
  | .tup xs, .tup ys => madeD (.tup (xs ++ ys))
  | _, _ => kindD
def itemD : D → D → D
  | .tup xs, .int i => if 0 ≤ i ∧ i < xs.length then madeD ((atF xs i).getD .non) else placeD
  | _, _ => kindD
def countD : D → D
  | .str x => madeD (.int x.length)
  | .tup xs => madeD (.int xs.length)
  | _ => kindD
def figD : D → D
  | .int i => madeD (.str (showI i))
  | _ => kindD
def rekD (w : List Char) (ws : List D) : D :=
  if w = sList then madeD (.tup ws) else if w = sCount then countD (ws.headD .non) else if w = sFigures then figD (ws.headD .non)
  else if w = sSame then madeD (.int (if D.beq (ws.headD .non) (ws.tail.headD .non) = true then 1 else 0)) else if w = sJoin then joinD (ws.headD .non) (ws.tail.headD .non)
  else if w = sItem then itemD (ws.headD .non) (ws.tail.headD .non) else numW w (ws.headD .non) (ws.tail.headD .non)
def fdSameP : FD := ⟨2, 2,
    (.cons (.ret (.op .eq (.v 0) (.v 1)))
    .nil)⟩
def fdSum (m : Nat) : FD := ⟨3, 3,
    (.cons (.ife (.or (.not (.isi (.v 1) .int)) (.not (.isi (.v 2) .int)))
    (.cons (.ret (.c (.tup [(.str ['w', 'r', 'o', 'n', 'g']), (.str ['k', 'i', 'n', 'd']), (.str [])])))
    .nil)
    .nil)
    (.cons (.ife (.and (.op .eq (.v 0) (.c (.str ['/']))) (.op .eq (.v 2) (.c (.int 0))))
    (.cons (.ret (.c (.tup [(.str ['w', 'r', 'o', 'n', 'g']), (.str ['n', 'o', 'u', 'g', 'h', 't']), (.str [])])))
    .nil)
    .nil)
    (.cons (.ife (.op .eq (.v 0) (.c (.str ['+'])))
    (.cons (.ret (.call m (.cons (.op .add (.v 1) (.v 2)) .nil) []))
    .nil)
    .nil)
    (.cons (.ife (.op .eq (.v 0) (.c (.str ['-'])))
    (.cons (.ret (.call m (.cons (.op .sub (.v 1) (.v 2)) .nil) []))
    .nil)
    .nil)
    (.cons (.ife (.op .eq (.v 0) (.c (.str ['*'])))
    (.cons (.ret (.call m (.cons (.op .mul (.v 1) (.v 2)) .nil) []))
    .nil)
    .nil)
    (.cons (.ife (.op .eq (.v 0) (.c (.str ['/'])))
    (.cons (.ret (.call m (.cons (.op .fdivN (.v 1) (.v 2)) .nil) []))
    .nil)
    .nil)
    (.cons (.ret (.call m (.cons (.bi .int (.cons (.op .lt (.v 1) (.v 2)) .nil)) .nil) []))
    .nil)))))))⟩
def fdJoined (m : Nat) : FD := ⟨2, 2,
    (.cons (.ife (.and (.isi (.v 0) .str) (.isi (.v 1) .str))
    (.cons (.ret (.call m (.cons (.op .add (.v 0) (.v 1)) .nil) []))
    .nil)
    .nil)
    (.cons (.ife (.and (.isi (.v 0) .tuple) (.isi (.v 1) .tuple))
    (.cons (.ret (.call m (.cons (.op .add (.v 0) (.v 1)) .nil) []))
    .nil)
    .nil)
    (.cons (.ret (.c (.tup [(.str ['w', 'r', 'o', 'n', 'g']), (.str ['k', 'i', 'n', 'd']), (.str [])])))
    .nil)))⟩
def fdItem (m : Nat) : FD := ⟨2, 2,
    (.cons (.ife (.or (.not (.isi (.v 0) .tuple)) (.not (.isi (.v 1) .int)))
    (.cons (.ret (.c (.tup [(.str ['w', 'r', 'o', 'n', 'g']), (.str ['k', 'i', 'n', 'd']), (.str [])])))
    .nil)
    .nil)
    (.cons (.ife (.not (.chain .le .lt (.c (.int 0)) (.v 1) (.bi .len (.cons (.v 0) .nil))))
    (.cons (.ret (.c (.tup [(.str ['w', 'r', 'o', 'n', 'g']), (.str ['p', 'l', 'a', 'c', 'e']), (.str [])])))
    .nil)
    .nil)
    (.cons (.ret (.call m (.cons (.ix (.v 0) (.v 1)) .nil) []))
    .nil)))⟩
def fdReck (m sm su jo it : Nat) : FD := ⟨2, 3,
    (.cons (.ife (.op .eq (.v 0) (.c (.str ['l', 'i', 's', 't'])))
    (.cons (.ret (.call m (.cons (.bi .tuple (.cons (.v 1) .nil)) .nil) []))
    .nil)
    .nil)
    (.cons (.set (.v 2) (.ix (.v 1) (.c (.int 0))))
    (.cons (.ife (.op .eq (.v 0) (.c (.str ['c', 'o', 'u', 'n', 't'])))
    (.cons (.ife (.isi (.v 2) .int)
    (.cons (.ret (.c (.tup [(.str ['w', 'r', 'o', 'n', 'g']), (.str ['k', 'i', 'n', 'd']), (.str [])])))
    .nil)
    .nil)
    (.cons (.ret (.call m (.cons (.bi .len (.cons (.v 2) .nil)) .nil) []))
    .nil))
    .nil)
    (.cons (.ife (.op .eq (.v 0) (.c (.str ['f', 'i', 'g', 'u', 'r', 'e', 's'])))
    (.cons (.ife (.not (.isi (.v 2) .int))
    (.cons (.ret (.c (.tup [(.str ['w', 'r', 'o', 'n', 'g']), (.str ['k', 'i', 'n', 'd']), (.str [])])))
    .nil)
    .nil)
    (.cons (.ret (.call m (.cons (.bi .str (.cons (.v 2) .nil)) .nil) []))
    .nil))
    .nil)
    (.cons (.ife (.op .eq (.v 0) (.c (.str ['s', 'a', 'm', 'e'])))
    (.cons (.ret (.call m (.cons (.bi .int (.cons (.call sm (.cons (.v 2) (.cons (.ix (.v 1) (.c (.int 1))) .nil)) []) .nil)) .nil) []))
    .nil)
    .nil)
    (.cons (.ife (.op .eq (.v 0) (.c (.str ['j', 'o', 'i', 'n'])))
    (.cons (.ret (.call jo (.cons (.v 2) (.cons (.ix (.v 1) (.c (.int 1))) .nil)) []))
    .nil)
    .nil)
    (.cons (.ife (.op .eq (.v 0) (.c (.str ['i', 't', 'e', 'm'])))
    (.cons (.ret (.call it (.cons (.v 2) (.cons (.ix (.v 1) (.c (.int 1))) .nil)) []))
    .nil)
    .nil)
    (.cons (.ret (.call su (.cons (.v 0) (.cons (.v 2) (.cons (.ix (.v 1) (.c (.int 1))) .nil))) []))
    .nil))))))))⟩
theorem isW_num {i : Int} (h : isW (.int i) = true) : -(10 ^ 60) < i ∧ i < 10 ^ 60 := by
  unfold isW at h
  rw [mS] at h
  split at h
  · rename_i p hp
    split at hp
    · rename_i hn
      unfold numI at hn
      rw [Bool.and_eq_true, decide_eq_true_eq, decide_eq_true_eq] at hn
      exact hn
    · cases hp
  · cases h
theorem isW_raw {d : D} (h : isW d = true) : rawD d = true := by
  unfold isW at h
  split at h
  · rename_i p hp; exact ms_raw d p hp
  · cases h
theorem isW_dep {d : D} (h : isW d = true) : depD d ≤ 12 := by
  have := raw_isW (isW_raw h)
  rw [h] at this
  simp only [Bool.true_eq, Bool.and_eq_true, decide_eq_true_eq] at this
  omega
theorem isW_len {xs : List D} (h : isW (.tup xs) = true) : xs.length ≤ 60 := by
  have := raw_isW (isW_raw h)
  rw [h] at this
  simp only [fitD, Bool.true_eq, Bool.and_eq_true, decide_eq_true_eq] at this
  omega
theorem isW_text {x : List Char} (h : isW (.str x) = true) : x.length ≤ 400 := by
  have := raw_isW (isW_raw h)
  rw [h] at this
  simp only [fitD, Bool.true_eq, Bool.and_eq_true, decide_eq_true_eq] at this
  omega
theorem sizDs_mem {d : D} : ∀ {xs : List D}, d ∈ xs → sizD d ≤ sizDs xs
  | [], h => by cases h
  | x :: xs, h => by
    rw [sizDs]
    rcases List.mem_cons.mp h with rfl | h
    · omega
    · have := sizDs_mem h; omega
theorem fitDs_mem {d : D} : ∀ {xs : List D}, fitDs xs = true → d ∈ xs → fitD d = true
  | [], _, h => by cases h
  | x :: xs, hs, h => by
    rw [fitDs, Bool.and_eq_true] at hs
    rcases List.mem_cons.mp h with rfl | h
    · exact hs.1
    · exact fitDs_mem hs.2 h
theorem fitDs_of : ∀ {xs : List D}, (∀ d ∈ xs, fitD d = true) → fitDs xs = true
  | [], _ => rfl
  | x :: xs, h => by rw [fitDs, h x List.mem_cons_self, fitDs_of fun y hy => h y (List.mem_cons_of_mem _ hy)]; rfl
theorem isW_mem {xs : List D} {d : D} (h : isW (.tup xs) = true) (hd : d ∈ xs) : isW d = true := by
  have hr := isW_raw h
  have e := raw_isW hr
  rw [h] at e
  simp only [fitD, sizD, depD, Bool.true_eq, Bool.and_eq_true, decide_eq_true_eq] at e
  rw [rawD, Bool.and_eq_true] at hr
  obtain ⟨⟨_, e0⟩, e1, e2⟩ := e
  rw [raw_isW (rawDs_mem hr.2 hd), fitDs_mem e0 hd]
  have := sizDs_mem hd
  have := depDs_mem hd
  simp only [Bool.true_and, Bool.and_eq_true, decide_eq_true_eq]
  have e1 := of_decide_eq_true e1
  have e2 := of_decide_eq_true e2
  constructor <;> omega
section
variable {P : Prog} {st : Sto} {Q : D × Sto → Prop} {n i : Nat}
/-- made, and what it needs, by number -/
structure MadeAt (P : Prog) (m : Nat) : Prop where
  ex : ∃ w ms num txt sg, P.fns[m]? = some (fdMade w) ∧ P.fns[w]? = some (fdIsWorth ms) ∧ P.fns[ms]? = some (fdMeasured num txt ms) ∧ P.fns[num]? = some fdIsNumber ∧ P.fns[txt]? = some (fdIsText sg) ∧ P.fns[sg]? = some fdIsSign
theorem MadeAt.spec {m : Nat} (h : MadeAt P m) {d : D} (hs : Saf st d) (hn : depD d + 5 ≤ n) (q : Q (madeD d, st)) : (callF P n m [d] st).wp Q := by
  obtain ⟨w, ms, num, txt, sg, a1, a2, a3, a4, a5, a6⟩ := h.ex
  exact made_spec a1 a2 a3 a4 a5 a6 hs hn q
def _root_.MP.sv4 :=
  And.intro @w_test (
  And.intro @s_whl_w (
  And.intro @w_zip (
  And.intro @zip_tup (
  And.intro @z_sbeq (
  @str_i)))))
theorem sum_spec {m : Nat} (hm : MadeAt P m) (h : P.fns[i]? = some (fdSum m)) {w : List Char} {a b : D} (ha : isW a = true) (hb : isW b = true) (hn : 20 ≤ n) (q : Q (numW w a b, st)) : (callF P n i [.str w, a, b] st).wp Q := by
  obtain ⟨k, rfl⟩ : ∃ k, n = k + 1 := ⟨n - 1, by omega⟩
  refine call_wp h rfl ?_
  have ra := isW_raw ha
  have rb := isW_raw hb
  have sa := raw_saf st a ra
  have sb := raw_saf st b rb
  simp only [fdSum, seval, MP.sv0, MP.sv1, MP.sv2, MP.sv3, MP.sv4, isi_int sa, isi_int sb]
  cases a <;> simp only [isInt, seval, MP.sv0, MP.sv1, MP.sv2, MP.sv3, MP.sv4] <;> try exact q
  case bl => exact absurd ra Bool.false_ne_true
  rename_i i1
  cases b <;> simp only [isInt, seval, MP.sv0, MP.sv1, MP.sv2, MP.sv3, MP.sv4] <;> try exact q
  case bl => exact absurd rb Bool.false_ne_true
  rename_i i2
  have b1 := isW_num ha
  have b2 := isW_num hb
  simp only [numW] at q
  have m1 : ∀ j, Q (madeD (.int j), st) → (callF P k m [.int j] st).wp Q := fun j q => hm.spec trivial (by simp only [depD]; omega) q
  by_cases e1 : w = ['/']
  · subst e1
    by_cases e2 : i2 = 0
    · subst e2
      simp only [seval, MP.sv0, MP.sv1, MP.sv2, MP.sv3, MP.sv4]
      exact q
    · rw [if_neg (by simp [e2]), if_neg (by decide), if_neg (by decide), if_neg (by decide), if_pos rfl] at q
      rw [if_pos rfl, if_neg e2, if_neg (by decide), if_neg (by decide), if_neg (by decide), if_pos rfl]
      exact ⟨⟨e2, div_ok (by omega)⟩, m1 _ q⟩
  · have e0 : ¬ (w = ['/'] ∧ i2 = 0) := fun h => e1 h.1
    by_cases e2 : w = ['+']
    · simp only [if_neg e1, if_neg e0, if_pos e2] at q ⊢
      exact m1 _ q
    · by_cases e3 : w = ['-']
      · simp only [if_neg e1, if_neg e0, if_neg e2, if_pos e3] at q ⊢
        exact m1 _ q
      · by_cases e4 : w = ['*']
        · simp only [if_neg e1, if_neg e0, if_neg e2, if_neg e3, if_pos e4] at q ⊢
          exact ⟨mul_ok (by omega) (by omega), m1 _ q⟩
        · simp only [if_neg e1, if_neg e0, if_neg e2, if_neg e3, if_neg e4, int_bl, wp_ok, decide_eq_true_eq] at q ⊢
          exact m1 _ q
theorem raw_tup_app {xs ys : List D} (hx : isW (.tup xs) = true) (hy : isW (.tup ys) = true) : rawD (.tup (xs ++ ys)) = true ∧ depD (.tup (xs ++ ys)) ≤ 13 := by
  have l1 := isW_len hx
  have l2 := isW_len hy
  have hz : ∀ d ∈ xs ++ ys, isW d = true := fun d hd => by
    rcases List.mem_append.mp hd with hd | hd
    · exact isW_mem hx hd
    · exact isW_mem hy hd
  refine ⟨by rw [rawD, decide_eq_true (by rw [List.length_append]; omega), rawDs_of fun d hd => isW_raw (hz d hd)]; rfl, ?_⟩
  rw [depD]
  have := depDs_le fun d hd => isW_dep (hz d hd)
  omega
theorem joined_spec {m : Nat} (hm : MadeAt P m) (h : P.fns[i]? = some (fdJoined m)) {a b : D} (ha : isW a = true) (hb : isW b = true) (hn : 20 ≤ n) (q : Q (joinD a b, st)) : (callF P n i [a, b] st).wp Q := by
  obtain ⟨k, rfl⟩ : ∃ k, n = k + 1 := ⟨n - 1, by omega⟩
  refine call_wp h rfl ?_
  have ra := isW_raw ha
  have rb := isW_raw hb
  have sa := raw_saf st a ra
  have sb := raw_saf st b rb
  simp only [fdJoined, seval, MP.sv0, MP.sv1, MP.sv2, MP.sv3, MP.sv4, isi_str sa, isi_str sb, isi_tup sa, isi_tup sb]
  cases a <;> simp only [isStr, isTup, seval, MP.sv0, MP.sv1, MP.sv2, MP.sv3, MP.sv4] <;> try exact q
  case str x =>
    cases b <;> simp only [isStr, isTup, seval, MP.sv0, MP.sv1, MP.sv2, MP.sv3, MP.sv4] <;> try exact q
    rename_i y
    have l1 := isW_text ha
    have l2 := isW_text hb
    exact ⟨by omega, hm.spec (by show (x ++ y).length ≤ 1000000; rw [List.length_append]; omega) (by simp only [depD]; omega) q⟩
  case tup xs =>
    cases b <;> simp only [isStr, isTup, seval, MP.sv0, MP.sv1, MP.sv2, MP.sv3, MP.sv4] <;> try exact q
    rename_i ys
    have l1 := isW_len ha
    have l2 := isW_len hb
    obtain ⟨r, d⟩ := raw_tup_app ha hb
    exact ⟨by omega, hm.spec (raw_saf _ _ r) (by omega) q⟩
theorem item_spec {m : Nat} (hm : MadeAt P m) (h : P.fns[i]? = some (fdItem m)) {a b : D} (ha : isW a = true) (hb : isW b = true) (hn : 20 ≤ n) (q : Q (itemD a b, st)) : (callF P n i [a, b] st).wp Q := by
  obtain ⟨k, rfl⟩ : ∃ k, n = k + 1 := ⟨n - 1, by omega⟩
  refine call_wp h rfl ?_
  have ra := isW_raw ha
  have rb := isW_raw hb
  have sa := raw_saf st a ra
  have sb := raw_saf st b rb
  simp only [fdItem, seval, MP.sv0, MP.sv1, MP.sv2, MP.sv3, MP.sv4, isi_int sb, isi_tup sa]
  cases a <;> simp only [isInt, isTup, seval, MP.sv0, MP.sv1, MP.sv2, MP.sv3, MP.sv4] <;> try exact q
  rename_i xs
  cases b <;> simp only [isInt, isTup, seval, MP.sv0, MP.sv1, MP.sv2, MP.sv3, MP.sv4] <;> try exact q
  case bl => exact absurd rb Bool.false_ne_true
  rename_i j
  simp only [itemD] at q
  by_cases h1 : 0 ≤ j
  · rw [if_pos h1]
    by_cases h2 : j < xs.length
    · rw [if_neg (fun z => z h2)]
      rw [if_pos ⟨h1, h2⟩] at q
      obtain ⟨d, hd, e⟩ := at_some (xs := xs) h1 h2
      rw [e] at q ⊢
      have hw := isW_mem ha hd
      have := isW_dep hw
      exact ⟨d, rfl, hm.spec (raw_saf _ _ (isW_raw hw)) (by omega) q⟩
    · rw [if_pos h2]
      rw [if_neg (fun z => h2 z.2)] at q
      exact q
  · rw [if_neg h1]
    rw [if_neg (fun z => h1 z.1)] at q
    exact q
theorem log_lt {m : Nat} {k : Nat} (h : m < 2 ^ k) (hk : 0 < k) : m.log2 < k := by
  by_cases e : m = 0
  · subst e; simpa using hk
  · exact (Nat.log2_lt e).mpr h
/-- what a word asks of its parts -/
structure Arg (w : List Char) (ws : List D) : Prop where
  wor : ∀ d ∈ ws, isW d = true
  len : ws.length ≤ 60
  one : w ≠ sList → 1 ≤ ws.length
  two : w ≠ sList → w ≠ sCount → w ≠ sFigures → 2 ≤ ws.length
structure ReckAt (P : Prog) (i : Nat) : Prop where
  ex : ∃ m sm su jo it, MadeAt P m ∧ P.fns[i]? = some (fdReck m sm su jo it) ∧ P.fns[sm]? = some fdSameP ∧ P.fns[su]? = some (fdSum m) ∧ P.fns[jo]? = some (fdJoined m) ∧ P.fns[it]? = some (fdItem m)
theorem reck_spec (h : ReckAt P i) {r : Nat} {w : List Char} {ws : List D} (hr : st[r]? = some (.lst ws)) (ha : Arg w ws) (hn : 30 ≤ n) (q : Q (rekD w ws, st)) : (callF P n i [.str w, .ref r] st).wp Q := by
  obtain ⟨k, rfl⟩ : ∃ k, n = k + 1 := ⟨n - 1, by omega⟩
  obtain ⟨m, sm, su, jo, it, hm, h, h1, h2, h3, h4⟩ := h.ex
  refine call_wp h rfl ?_
  simp only [fdReck, seval, MP.sv0, MP.sv1, MP.sv2, MP.sv3, MP.sv4]
  unfold rekD at q
  have m1 : ∀ d, rawD d = true → depD d ≤ 13 → Q (madeD d, st) → (callF P k m [d] st).wp Q := fun d hd h2 q => hm.spec (raw_saf _ _ hd) (by omega) q
  by_cases e1 : w = ['l', 'i', 's', 't']
  · rw [if_pos e1] at q
    rw [if_pos e1]
    simp only [tuple_ref hr, seval, MP.sv0, MP.sv1, MP.sv2, MP.sv3, MP.sv4]
    refine m1 _ ?_ ?_ q
    · have := ha.len
      rw [rawD, decide_eq_true (by omega), rawDs_of fun d hd => isW_raw (ha.wor d hd)]; rfl
    · rw [depD]
      have := depDs_le fun d hd => isW_dep (ha.wor d hd)
      omega
  · have l1 := ha.one e1
    obtain ⟨a, ws', rfl⟩ : ∃ a ws', ws = a :: ws' := by
      cases ws with
      | nil => simp at l1
      | cons a ws' => exact ⟨a, ws', rfl⟩
    have wa := ha.wor a List.mem_cons_self
    have ra := isW_raw wa
    have sa := raw_saf st a ra
    rw [if_neg e1] at q
    rw [if_neg e1]
    simp only [ix_ref hr, seval, MP.sv0, MP.sv1, MP.sv2, MP.sv3, MP.sv4]
    simp only [List.headD_cons, List.tail_cons] at q
    by_cases e2 : w = ['c', 'o', 'u', 'n', 't']
    · rw [if_pos e2] at q
      rw [if_pos e2]
      simp only [isi_int sa]
      cases a <;> simp only [isInt, seval, MP.sv0, MP.sv1, MP.sv2, MP.sv3, MP.sv4] <;> try (first | exact q | exact absurd ra Bool.false_ne_true)
      · rename_i x
        have := isW_text wa
        exact ⟨by omega, m1 _ rfl (Nat.zero_le _) q⟩
      · rename_i xs
        exact m1 _ rfl (Nat.zero_le _) q
    · rw [if_neg e2] at q
      rw [if_neg e2]
      by_cases e3 : w = ['f', 'i', 'g', 'u', 'r', 'e', 's']
      · rw [if_pos e3] at q
        rw [if_pos e3]
        simp only [isi_int sa]
        cases a <;> simp only [isInt, seval, MP.sv0, MP.sv1, MP.sv2, MP.sv3, MP.sv4] <;> try (first | exact q | exact absurd ra Bool.false_ne_true)
        rename_i j
        have b1 := isW_num wa
        have hl := showI_len (i := j) (k := 60) (by omega)
        refine ⟨Nat.lt_of_lt_of_le (log_lt (k := 250) (by omega) (by decide)) (by decide), hm.spec (by show (showI j).length ≤ 1000000; omega) (by simp only [depD]; omega) q⟩
      · have l2 := ha.two e1 e2 e3
        obtain ⟨b, ws', rfl⟩ : ∃ b ws2, ws' = b :: ws2 := by
          cases ws' with
          | nil => simp at l2
          | cons a ws' => exact ⟨a, ws', rfl⟩
        have wb := ha.wor b (List.mem_cons_of_mem _ List.mem_cons_self)
        have rb := isW_raw wb
        simp only [List.headD_cons] at q
        rw [if_neg e3] at q
        rw [if_neg e3]
        by_cases e4 : w = ['s', 'a', 'm', 'e']
        · rw [if_pos e4] at q
          rw [if_pos e4]
          simp only [seval, MP.sv0, MP.sv1, MP.sv2, MP.sv3, MP.sv4]
          have da := isW_dep wa
          have db := isW_dep wb
          refine wp_mono (Q := fun p => p = (D.bl (D.beq a b), st)) ?_ fun p hp => ?_
          · obtain ⟨k2, rfl⟩ : ∃ k2, k = k2 + 1 := ⟨k - 1, by omega⟩
            refine call_wp h1 rfl ?_
            simp only [fdSameP, seval, MP.sv0, MP.sv1, MP.sv2, MP.sv3, MP.sv4, eq_num (st := st) (raw_pur a ra) (raw_pur b rb) (raw_num a ra) (raw_num b rb) (by omega) (by omega)]
          · subst hp
            simp only [seval, MP.sv0, MP.sv1, MP.sv2, MP.sv3, MP.sv4]
            exact m1 _ rfl (Nat.zero_le _) q
        · rw [if_neg e4] at q
          rw [if_neg e4]
          by_cases e5 : w = ['j', 'o', 'i', 'n']
          · rw [if_pos e5] at q
            rw [if_pos e5]
            simp only [seval, MP.sv0, MP.sv1, MP.sv2, MP.sv3, MP.sv4]
            exact joined_spec hm h3 wa wb (by omega) q
          · rw [if_neg e5] at q
            rw [if_neg e5]
            by_cases e6 : w = ['i', 't', 'e', 'm']
            · rw [if_pos e6] at q
              rw [if_pos e6]
              simp only [seval, MP.sv0, MP.sv1, MP.sv2, MP.sv3, MP.sv4]
              exact item_spec hm h4 wa wb (by omega) q
            · rw [if_neg e6] at q
              rw [if_neg e6]
              simp only [seval, MP.sv0, MP.sv1, MP.sv2, MP.sv3, MP.sv4]
              exact sum_spec hm h2 wa wb (by omega) q
/-- two worths looked at, kind by kind -/
theorem same2_spec (h : P.fns[i]? = some (fdSame i)) : ∀ (n : Nat) (st : Sto) (Q : D × Sto → Prop) (a b : D), rawD a = true → rawD b = true → depD a + 1 ≤ n → (∀ st', Grow st st' → Q (.bl (D.beq a b), st')) → (callF P n i [a, b] st).wp Q := by
  intro n
  induction n with
  | zero => intro st Q a b hr hr2 hn q; omega
  | succ n ih =>
    intro st Q a b hr hr2 hn q
    refine call_wp h rfl ?_
    have hs := raw_saf st a hr
    have hs2 := raw_saf st b hr2
    simp only [fdSame, seval, MP.sv0, MP.sv1, MP.sv2, MP.sv3, MP.sv4, isi_str hs, isi_tup hs, isi_bool hs, isi_int hs, isi_list hr, isi_str hs2, isi_tup hs2, isi_bool hs2, isi_int hs2, isi_list hr2]
    cases a <;> simp only [isStr, isTup, isBool, isInt, isLst, seval, MP.sv0, MP.sv1, MP.sv2, MP.sv3, MP.sv4] <;> try (exact absurd hr Bool.false_ne_true)
    case int k => cases b <;> simp only [isStr, isTup, isBool, isInt, isLst, seval, MP.sv0, MP.sv1, MP.sv2, MP.sv3, MP.sv4] <;> first | (exact absurd hr2 Bool.false_ne_true) | exact q st Grow.refl
    case str x => cases b <;> simp only [isStr, isTup, isBool, isInt, isLst, seval, MP.sv0, MP.sv1, MP.sv2, MP.sv3, MP.sv4] <;> first | (exact absurd hr2 Bool.false_ne_true) | exact q st Grow.refl
    case tup xs =>
      cases b <;> simp only [isStr, isTup, isBool, isInt, isLst, seval, MP.sv0, MP.sv1, MP.sv2, MP.sv3, MP.sv4] <;> try (first | (exact absurd hr2 Bool.false_ne_true) | exact q st Grow.refl)
      rename_i ys
      have e0 : D.beq (.tup xs) (.tup ys) = D.beqs xs ys := by rw [D.beq]
      rw [e0] at q
      rw [rawD, Bool.and_eq_true, decide_eq_true_eq] at hr hr2
      rw [depD] at hn
      split
      · rename_i hne
        have : D.beqs xs ys = false := by
          cases hh : D.beqs xs ys with
          | true =>
            have := beqs_len hh
            rw [this] at hne
            simp at hne
          | false => rfl
        rw [this] at q
        exact q st Grow.refl
      · rename_i heq
        have heq : xs.length = ys.length := by
          have : ((xs.length : Int) == (ys.length : Int)) = true := by simpa using heq
          have : (xs.length : Int) = ys.length := by simpa using this
          omega
        have hz : SZ = 1000000 := rfl
        refine ⟨by omega, by omega, ?_⟩
        refine lc_range (I := fun k acc st2 => acc = ((List.range k).map fun j => D.beq (xs[j]?.getD .non) (ys[j]?.getD .non)).map .bl ∧ Grow st st2) (by omega) ?_ ?_ ⟨rfl, Grow.refl⟩
        · rintro k acc st2 hk ha ⟨rfl, g⟩
          have hkl : k < xs.length := by omega
          have hkl2 : k < ys.length := by omega
          have e : atF xs (0 + (k : Int)) = some xs[k] := at_nat (by omega) (by rw [show (0 + (k : Int)).toNat = k by omega]; exact List.getElem?_eq_getElem hkl)
          have e2 : atF ys (0 + (k : Int)) = some ys[k] := at_nat (by omega) (by rw [show (0 + (k : Int)).toNat = k by omega]; exact List.getElem?_eq_getElem hkl2)
          simp only [seval, MP.sv0, MP.sv1, MP.sv2, MP.sv3, MP.sv4, wipeF, e, e2]
          have hm := List.getElem_mem hkl
          have hm2 := List.getElem_mem hkl2
          have := depDs_mem hm
          refine ih st2 _ _ _ (rawDs_mem hr.2 hm) (rawDs_mem hr2.2 hm2) (by omega) fun st3 g3 => ?_
          simp only [seval, MP.sv0, MP.sv1, MP.sv2, MP.sv3, MP.sv4]
          refine ⟨?_, g.trans g3⟩
          rw [List.range_succ, List.map_append, List.map_append]
          show _ = _ ++ [D.bl ((xs[k]?.getD .non).beq (ys[k]?.getD .non))]
          rw [List.getElem?_eq_getElem hkl, List.getElem?_eq_getElem hkl2]
          rfl
        · rintro acc st2 ⟨rfl, g⟩
          simp only [seval, MP.sv0, MP.sv1, MP.sv2, MP.sv3, MP.sv4, id]
          rw [all_ref sto_top, wp_ok, List.all_map]
          rw [beqs_range xs ys heq] at q
          exact q _ (g.trans Grow.push)
end
end MP

set_option Elab.async false
set_option linter.all false
set_option maxRecDepth 100000
set_option maxHeartbeats 4000000
/-! MPLaw9: a def's statements one by one. -/
namespace MP
section
variable {P : Prog} {cf mf : Cf} {fr : Fr} {st : Sto} {N : Fr → Sto → Prop} {T : D → Sto → Prop}
theorem skip_ife {c : E} {a b r : Ss} (h : (evE P cf mf c fr st).wp fun p => truthF p.2 p.1 = some false ∧ p.2 = st) (k : (evSs P cf mf b fr st).wp (fun fr st => (evSs P cf mf r fr st).wp N T) T) : (evSs P cf mf (.cons (.ife c a b) r) fr st).wp N T := by
  rw [s_cons_w, s_ife_w]
  refine wp_mono h fun p hp => ?_
  obtain ⟨d, st'⟩ := p
  obtain ⟨h1, rfl⟩ := hp
  exact ⟨false, h1, by simpa using k⟩
theorem skip_if {c : E} {a r : Ss} (h : (evE P cf mf c fr st).wp fun p => truthF p.2 p.1 = some false ∧ p.2 = st) (k : (evSs P cf mf r fr st).wp N T) : (evSs P cf mf (.cons (.ife c a .nil) r) fr st).wp N T :=
  skip_ife h (s_nil_w.mpr k)
theorem take_if {c : E} {a b r : Ss} (h : (evE P cf mf c fr st).wp fun p => truthF p.2 p.1 = some true ∧ p.2 = st) (k : (evSs P cf mf a fr st).wp (fun fr st => (evSs P cf mf r fr st).wp N T) T) : (evSs P cf mf (.cons (.ife c a b) r) fr st).wp N T := by
  rw [s_cons_w, s_ife_w]
  refine wp_mono h fun p hp => ?_
  obtain ⟨d, st'⟩ := p
  obtain ⟨h1, rfl⟩ := hp
  exact ⟨true, h1, by simpa using k⟩
/-- a test told by its value -/
theorem if_step {c : E} {a b r : Ss} (k : Bool) (st' : Sto) (h : (evE P cf mf c fr st).wp fun p => truthF p.2 p.1 = some k ∧ p.2 = st') (h1 : k = true → (evSs P cf mf a fr st').wp (fun fr st => (evSs P cf mf r fr st).wp N T) T) (h2 : k = false → (evSs P cf mf b fr st').wp (fun fr st => (evSs P cf mf r fr st).wp N T) T) : (evSs P cf mf (.cons (.ife c a b) r) fr st).wp N T := by
  rw [s_cons_w, s_ife_w]
  refine wp_mono h fun p hp => ?_
  obtain ⟨d, st2⟩ := p
  obtain ⟨e, rfl⟩ := hp
  refine ⟨k, e, ?_⟩
  cases k with
  | true => exact h1 rfl
  | false => exact h2 rfl
theorem set_step {i : Nat} {e : E} {r : Ss} (h : (evE P cf mf e fr st).wp fun p => (evSs P cf mf r (fr.set i (some p.1)) p.2).wp N T) : (evSs P cf mf (.cons (.set (.v i) e) r) fr st).wp N T := by
  rw [s_cons_w, s_set_w]
  exact wp_mono h fun p hp => ⟨_, tg_v, hp⟩
theorem set_to {i : Nat} {e : E} {r : Ss} (d : D) (h : (evE P cf mf e fr st).wp fun p => p = (d, st)) (k : (evSs P cf mf r (fr.set i (some d)) st).wp N T) : (evSs P cf mf (.cons (.set (.v i) e) r) fr st).wp N T :=
  set_step (wp_mono h fun p hp => by rw [hp]; exact k)
theorem ret_step {e : E} {r : Ss} (h : (evE P cf mf e fr st).wp fun p => T p.1 p.2) : (evSs P cf mf (.cons (.ret e) r) fr st).wp N T := by
  rw [s_cons_w, s_ret_w]; exact h
theorem ret_one {e : E} (h : (evE P cf mf e fr st).wp fun p => T p.1 p.2) : (evSs P cf mf (.cons (.ret e) .nil) fr st).wp N T := ret_step h
theorem seq_wp {s : S} {r : Ss} (M : Fr → Sto → Prop) (h1 : (evS P cf mf s fr st).wp M T) (h2 : ∀ fr st, M fr st → (evSs P cf mf r fr st).wp N T) : (evSs P cf mf (.cons s r) fr st).wp N T := by
  rw [s_cons_w]
  exact cw_mono h1 h2 fun _ _ h => h
/-- a statement by itself, what follows it put by -/
theorem stm_k {s : S} {r : Ss} (h : ∀ K : Fr → Sto → Prop, (∀ fr st, (evSs P cf mf r fr st).wp N T → K fr st) → (evS P cf mf s fr st).wp K T) : (evSs P cf mf (.cons s r) fr st).wp N T := by
  rw [s_cons_w]
  exact h _ fun _ _ z => z
end
end MP

set_option Elab.async false
set_option linter.all false
set_option maxRecDepth 100000
set_option maxHeartbeats 4000000
/-! MPLaw10: rules: forms, parts, what is a rule. -/
namespace MP
def fdIsVariable : FD := ⟨1, 2,
    (.cons (.ife (.or (.not (.isi (.v 0) .str)) (.not (.chain .le .le (.c (.int 1)) (.bi .len (.cons (.v 0) .nil)) (.c (.int 8)))))
    (.cons (.ret (.c (.bl false)))
    .nil)
    .nil)
    (.cons (.forr (.v 1) (.any (.v 0))
    (.cons (.ife (.op .nmem (.v 1) (.c (.str ['a', 'b', 'c', 'd', 'e', 'f', 'g', 'h', 'i', 'j', 'k', 'l', 'm', 'n', 'o', 'p', 'q', 'r', 's', 't', 'u', 'v', 'w', 'x', 'y', 'z'])))
    (.cons (.ret (.c (.bl false)))
    .nil)
    .nil)
    .nil))
    (.cons (.ret (.c (.bl true)))
    .nil)))⟩
def fdIsForm (c_is_worth c_is_variable c_bound_by : Nat) : FD := ⟨1, 4,
    (.cons (.ife (.or (.not (.isi (.v 0) .tuple)) (.or (.op .eq (.bi .len (.cons (.v 0) .nil)) (.c (.int 0))) (.not (.isi (.ix (.v 0) (.c (.int 0))) .str))))
    (.cons (.ret (.c (.bl false)))
    .nil)
    .nil)
    (.cons (.set (.v 1) (.ix (.v 0) (.c (.int 0))))
    (.cons (.ife (.op .eq (.v 1) (.c (.str ['l', 'i', 't'])))
    (.cons (.ret (.and (.op .eq (.bi .len (.cons (.v 0) .nil)) (.c (.int 2))) (.call c_is_worth (.cons (.ix (.v 0) (.c (.int 1))) .nil) [])))
    .nil)
    .nil)
    (.cons (.ife (.op .eq (.v 1) (.c (.str ['v', 'a', 'r'])))
    (.cons (.ret (.and (.op .eq (.bi .len (.cons (.v 0) .nil)) (.c (.int 2))) (.call c_is_variable (.cons (.ix (.v 0) (.c (.int 1))) .nil) [])))
    .nil)
    .nil)
    (.cons (.ife (.op .eq (.v 1) (.c (.str ['l', 'i', 's', 't'])))
    (.cons (.ret (.op .le (.bi .len (.cons (.v 0) .nil)) (.op .add (.c (.int 1)) (.c (.int 8)))))
    .nil)
    .nil)
    (.cons (.ife (.or (.kmem [(['i', 'f'], .int 3), (['+'], .int 2), (['-'], .int 2), (['*'], .int 2), (['/'], .int 2), (['s', 'a', 'm', 'e'], .int 2), (['l', 'e', 's', 's'], .int 2), (['j', 'o', 'i', 'n'], .int 2), (['i', 't', 'e', 'm'], .int 2), (['c', 'o', 'u', 'n', 't'], .int 1), (['f', 'i', 'g', 'u', 'r', 'e', 's'], .int 1), (['l', 'o', 'o', 'k'], .int 1), (['e', 'l', 's', 'e'], .int 2), (['c', 'r', 'y'], .int 1), (['l', 'e', 't'], .int 2), (['e', 'a', 'c', 'h'], .int 2), (['o', 'v', 'e', 'r'], .int 3)] true (.v 1)) (.op .ne (.bi .len (.cons (.v 0) .nil)) (.op .add (.op .add (.c (.int 1)) (.kget [(['l', 'e', 't'], .int 1), (['e', 'a', 'c', 'h'], .int 1), (['o', 'v', 'e', 'r'], .int 2)] (.v 1) (.c (.int 0)))) (.kix [(['i', 'f'], .int 3), (['+'], .int 2), (['-'], .int 2), (['*'], .int 2), (['/'], .int 2), (['s', 'a', 'm', 'e'], .int 2), (['l', 'e', 's', 's'], .int 2), (['j', 'o', 'i', 'n'], .int 2), (['i', 't', 'e', 'm'], .int 2), (['c', 'o', 'u', 'n', 't'], .int 1), (['f', 'i', 'g', 'u', 'r', 'e', 's'], .int 1), (['l', 'o', 'o', 'k'], .int 1), (['e', 'l', 's', 'e'], .int 2), (['c', 'r', 'y'], .int 1), (['l', 'e', 't'], .int 2), (['e', 'a', 'c', 'h'], .int 2), (['o', 'v', 'e', 'r'], .int 3)] (.v 1)))))
    (.cons (.ret (.c (.bl false)))
    .nil)
    .nil)
    (.cons (.set (.v 2) (.call c_bound_by (.cons (.v 0) .nil) []))
    (.cons (.forr (.v 3) (.any (.v 2))
    (.cons (.ife (.not (.call c_is_variable (.cons (.v 3) .nil) []))
    (.cons (.ret (.c (.bl false)))
    .nil)
    .nil)
    .nil))
    (.cons (.ret (.or (.op .lt (.bi .len (.cons (.v 2) .nil)) (.c (.int 2))) (.op .ne (.ix (.v 2) (.c (.int 0))) (.ix (.v 2) (.c (.int 1))))))
    .nil)))))))))⟩
def fdBoundBy : FD := ⟨1, 1,
    (.cons (.ret (.sl (.v 0) (.so (.c (.int 1))) (.so (.op .add (.c (.int 1)) (.kget [(['l', 'e', 't'], .int 1), (['e', 'a', 'c', 'h'], .int 1), (['o', 'v', 'e', 'r'], .int 2)] (.ix (.v 0) (.c (.int 0))) (.c (.int 0)))))))
    .nil)⟩
def fdPartsOf : FD := ⟨1, 1,
    (.cons (.ife (.op .mem (.ix (.v 0) (.c (.int 0))) (.tup (.cons (.c (.str ['l', 'i', 't'])) (.cons (.c (.str ['v', 'a', 'r'])) .nil))))
    (.cons (.ret (.lst .nil))
    .nil)
    .nil)
    (.cons (.ret (.bi .list (.cons (.sl (.v 0) (.so (.op .add (.c (.int 1)) (.kget [(['l', 'e', 't'], .int 1), (['e', 'a', 'c', 'h'], .int 1), (['o', 'v', 'e', 'r'], .int 2)] (.ix (.v 0) (.c (.int 0))) (.c (.int 0))))) .no) .nil)))
    .nil))⟩
def fdWithin (c_parts_of c_bound_by : Nat) : FD := ⟨4, 11,
    (.cons (.set (.v 4) (.lst .nil))
    (.cons (.set (.v 5) (.call c_parts_of (.cons (.v 0) .nil) []))
    (.cons (.forr (.tup (.cons (.v 6) (.cons (.v 7) .nil))) (.enum (.v 5))
    (.cons (.set (.v 8) (.op .eq (.op .add (.v 6) (.c (.int 1))) (.bi .len (.cons (.v 5) .nil))))
    (.cons (.set (.v 9) (.v 1))
    (.cons (.set (.v 10) (.v 3))
    (.cons (.ife (.v 8)
    (.cons (.set (.v 9) (.op .add (.v 1) (.call c_bound_by (.cons (.v 0) .nil) [])))
    .nil)
    .nil)
    (.cons (.ife (.and (.v 8) (.op .mem (.ix (.v 0) (.c (.int 0))) (.tup (.cons (.c (.str ['e', 'a', 'c', 'h'])) (.cons (.c (.str ['o', 'v', 'e', 'r'])) .nil)))))
    (.cons (.set (.v 10) (.op .add (.v 3) (.c (.int 1))))
    .nil)
    .nil)
    (.cons (.ex (.bm .append (.v 4) (.cons (.tup (.cons (.v 7) (.cons (.v 9) (.cons (.op .add (.v 2) (.c (.int 1))) (.cons (.v 10) .nil))))) .nil)))
    .nil)))))))
    (.cons (.ret (.v 4))
    .nil))))⟩
def fdIsRule (c_is_form c_within : Nat) : FD := ⟨1, 7,
    (.cons (.set (.v 1) (.lst (.cons (.tup (.cons (.v 0) (.cons (.tup .nil) (.cons (.c (.int 0)) (.cons (.c (.int 0)) .nil))))) .nil)))
    (.cons (.set (.v 2) (.c (.int 0)))
    (.cons (.whl (.op .ne (.v 1) (.lst .nil))
    (.cons (.set (.tup (.cons (.v 3) (.cons (.v 4) (.cons (.v 5) (.cons (.v 6) .nil))))) (.bm .pop (.v 1) .nil))
    (.cons (.set (.v 2) (.op .add (.v 2) (.c (.int 1))))
    (.cons (.ife (.or (.op .gt (.v 2) (.c (.int 60))) (.or (.op .gt (.v 5) (.c (.int 12))) (.or (.op .gt (.v 6) (.c (.int 2))) (.not (.call c_is_form (.cons (.v 3) .nil) [])))))
    (.cons (.ret (.c (.bl false)))
    .nil)
    .nil)
    (.cons (.ife (.and (.op .eq (.ix (.v 3) (.c (.int 0))) (.c (.str ['v', 'a', 'r']))) (.op .nmem (.ix (.v 3) (.c (.int 1))) (.v 4)))
    (.cons (.ret (.c (.bl false)))
    .nil)
    .nil)
    (.cons (.ex (.bm .extend (.v 1) (.cons (.call c_within (.cons (.v 3) (.cons (.v 4) (.cons (.v 5) (.cons (.v 6) .nil)))) []) .nil)))
    .nil))))))
    (.cons (.ret (.c (.bl true)))
    .nil))))⟩
def kBound : List (List Char × D) := [(['l', 'e', 't'], .int 1), (['e', 'a', 'c', 'h'], .int 1), (['o', 'v', 'e', 'r'], .int 2)]
def kParts : List (List Char × D) := [(['i', 'f'], .int 3), (['+'], .int 2), (['-'], .int 2), (['*'], .int 2), (['/'], .int 2), (['s', 'a', 'm', 'e'], .int 2), (['l', 'e', 's', 's'], .int 2), (['j', 'o', 'i', 'n'], .int 2), (['i', 't', 'e', 'm'], .int 2), (['c', 'o', 'u', 'n', 't'], .int 1), (['f', 'i', 'g', 'u', 'r', 'e', 's'], .int 1), (['l', 'o', 'o', 'k'], .int 1), (['e', 'l', 's', 'e'], .int 2), (['c', 'r', 'y'], .int 1), (['l', 'e', 't'], .int 2), (['e', 'a', 'c', 'h'], .int 2), (['o', 'v', 'e', 'r'], .int 3)]
abbrev sLit : List Char := ['l', 'i', 't']
abbrev sVar : List Char := ['v', 'a', 'r']
abbrev sLet : List Char := ['l', 'e', 't']
abbrev sEach : List Char := ['e', 'a', 'c', 'h']
abbrev sOver : List Char := ['o', 'v', 'e', 'r']
/-- how many names a word binds -/
def boundN (w : List Char) : Nat := if w = sLet then 1 else if w = sEach then 1 else if w = sOver then 2 else 0
theorem kget_bound (w : List Char) : (getKk kBound w).getD (.int 0) = .int (boundN w) := by
  unfold getKk kBound boundN
  by_cases e1 : w = sLet
  · subst e1; rfl
  · by_cases e2 : w = sEach
    · subst e2; rfl
    · by_cases e3 : w = sOver
      · subst e3; rfl
      · rw [if_neg e1, if_neg e2, if_neg e3]
        rw [List.find?_cons_of_neg (by simpa using fun h => e1 h.symm), List.find?_cons_of_neg (by simpa using fun h => e2 h.symm), List.find?_cons_of_neg (by simpa using fun h => e3 h.symm)]
        rfl
abbrev lettersC : List Char := ['a', 'b', 'c', 'd', 'e', 'f', 'g', 'h', 'i', 'j', 'k', 'l', 'm', 'n', 'o', 'p', 'q', 'r', 's', 't', 'u', 'v', 'w', 'x', 'y', 'z']
def varS (x : List Char) : Bool := decide (1 ≤ x.length) && (decide (x.length ≤ 8) && x.all fun c => decide (c ∈ lettersC))
def varD : D → Bool
  | .str x => varS x
  | _ => false
/-- the form of an expression's head -/
def formB : D → Bool
  | .tup (.str w :: r) =>
    if w = sLit then decide (r.length = 1) && isW (r.headD .non) else
    if w = sVar then decide (r.length = 1) && varD (r.headD .non) else
    if w = sList then decide (r.length ≤ 8) else
    match getKk kParts w with
    | some (.int k) => decide ((r.length : Int) = boundN w + k) && ((r.take (boundN w)).all varD && (decide (boundN w < 2) || !(D.beq (r.headD .non) (r.tail.headD .non))))
    | _ => false
  | _ => false
def partsD : D → List D
  | .tup (.str w :: r) => if w = sLit ∨ w = sVar then [] else r.drop (boundN w)
  | _ => []
def bndD : D → List D
  | .tup (.str w :: r) => r.take (boundN w)
  | _ => []
def repW : D → Bool
  | .tup (.str w :: _) => decide (w = sEach ∨ w = sOver)
  | _ => false
section
variable {P : Prog} {st : Sto} {Q : D × Sto → Prop} {n i : Nat}
theorem variable_spec (h : P.fns[i]? = some fdIsVariable) {d : D} (hs : Saf st d) (q : Q (.bl (varD d), st)) : (callF P (n + 1) i [d] st).wp Q := by
  refine call_wp h rfl ?_
  simp only [fdIsVariable, start_cons, start0, repS, rep0]
  cases d
  case str x =>
    have hl : x.length ≤ 1000000 := hs
    have q : Q (.bl (varS x), st) := q
    by_cases h1 : 1 ≤ x.length ∧ x.length ≤ 8
    · refine skip_if ?_ ?_
      · simp only [seval, MP.sv0, MP.sv1, MP.sv2, MP.sv3, MP.sv4, isiF]
        refine ⟨hl, ?_⟩
        rw [if_pos (by omega)]
        rw [decide_eq_true (by omega : (x.length : Int) ≤ 8)]
        rfl
      · refine stm_k fun K hK => ?_
        simp only [seval, MP.sv0, MP.sv1, MP.sv2, MP.sv3, MP.sv4]
        refine for_wp (I := fun ds fr st' => st' = st ∧ ∃ cs : List Char, ds = signsF cs ∧ (∃ e, fr = [some (.str x), e]) ∧ (cs.all fun c => decide (c ∈ lettersC)) = (x.all fun c => decide (c ∈ lettersC))) (fun _ _ _ _ => rfl) ?_ ?_ _ _ _ ⟨rfl, x, rfl, ⟨none, rfl⟩, rfl⟩
        · rintro d ds fr st' ⟨rfl, cs, e, ⟨e2, rfl⟩, ha⟩
          cases cs with
          | nil => cases e
          | cons c cs =>
            injection e with e3 e4
            subst e3 e4
            simp only [seval, MP.sv0, MP.sv1, MP.sv2, MP.sv3, MP.sv4]
            rw [List.all_cons] at ha
            by_cases hc : c ∈ lettersC
            · rw [decide_eq_true hc, Bool.true_and] at ha
              rw [if_neg (fun h => h hc)]
              exact ⟨cs, rfl, ⟨_, rfl⟩, ha⟩
            · rw [decide_eq_false hc, Bool.false_and] at ha
              rw [if_pos hc]
              have : varS x = false := by unfold varS; rw [← ha]; simp
              rw [this] at q
              exact q
        · rintro fr st' ⟨rfl, cs, e, ⟨e2, rfl⟩, ha⟩
          have hcs : cs = [] := by cases cs with | nil => rfl | cons c cs => cases e
          subst hcs
          simp only [id]
          refine hK _ _ ?_
          refine ret_one ?_
          simp only [seval, MP.sv0, MP.sv1, MP.sv2, MP.sv3, MP.sv4]
          have : varS x = true := by
            unfold varS
            rw [← ha, decide_eq_true h1.1, decide_eq_true h1.2]
            rfl
          rw [this] at q
          exact q
    · have hv : varS x = false := by
        unfold varS
        by_cases h2 : 1 ≤ x.length
        · rw [decide_eq_false (by omega : ¬ x.length ≤ 8)]; simp
        · rw [decide_eq_false h2]; rfl
      rw [hv] at q
      refine take_if ?_ ?_
      · simp only [seval, MP.sv0, MP.sv1, MP.sv2, MP.sv3, MP.sv4, isiF]
        refine ⟨hl, ?_⟩
        by_cases h2 : 1 ≤ x.length
        · rw [if_pos (by omega)]
          omega
        · rw [if_neg (by omega)]
          simp only [seval, MP.sv0, MP.sv1, MP.sv2, MP.sv3, MP.sv4]
      · refine ret_one ?_
        simp only [seval, MP.sv0, MP.sv1, MP.sv2, MP.sv3, MP.sv4]
        exact q
  all_goals
    refine take_if ?_ ?_
    · simp only [seval, MP.sv0, MP.sv1, MP.sv2, MP.sv3, MP.sv4, isi_str hs, isStr]
    · refine ret_one ?_
      simp only [seval, MP.sv0, MP.sv1, MP.sv2, MP.sv3, MP.sv4]
      exact q
end
end MP

set_option Elab.async false
set_option linter.all false
set_option maxRecDepth 100000
set_option maxHeartbeats 4000000
/-! MPLaw11: what is a rule: forms, parts, what is bound. -/
namespace MP
theorem cut_bnd {α : Type} (x : α) (xs : List α) (k : Nat) : cutF (x :: xs) (some 1) (some (1 + (k : Int))) = xs.take k := by
  have e1 : slIx (x :: xs).length 0 (some 1) = 1 := by simp only [slIx, List.length_cons]; rw [if_neg (by decide)]; simp
  have e2 : slIx (x :: xs).length (x :: xs).length (some (1 + (k : Int))) - 1 = min k xs.length := by
    simp only [slIx, List.length_cons]; rw [if_neg (by omega)]; omega
  rw [cutF, e1, e2, List.drop_one, List.tail_cons]
  by_cases h : k ≤ xs.length
  · rw [Nat.min_eq_left h]
  · rw [Nat.min_eq_right (by omega), List.take_of_length_le (Nat.le_refl _), List.take_of_length_le (by omega)]
theorem cut_prt {α : Type} (x : α) (xs : List α) (k : Nat) : cutF (x :: xs) (some (1 + (k : Int))) none = xs.drop k := by
  have e1 : slIx (x :: xs).length 0 (some (1 + (k : Int))) = min (1 + k) (xs.length + 1) := by
    simp only [slIx, List.length_cons]; rw [if_neg (by omega)]; omega
  rw [cutF, e1]
  simp only [slIx, List.length_cons]
  by_cases h : k ≤ xs.length
  · rw [show min (1 + k) (xs.length + 1) = k + 1 by omega, List.drop_succ_cons, List.take_of_length_le (by rw [List.length_drop]; omega)]
  · rw [show min (1 + k) (xs.length + 1) = xs.length + 1 by omega, List.drop_succ_cons, List.drop_eq_nil_of_le (Nat.le_refl _), List.drop_eq_nil_of_le (by omega), List.take_nil]
theorem bound_le (w : List Char) : boundN w ≤ 2 := by unfold boundN; split <;> (try split) <;> (try split) <;> omega
section
variable {P : Prog} {st : Sto} {Q : D × Sto → Prop} {n i : Nat}
theorem bound_spec (h : P.fns[i]? = some fdBoundBy) {w : List Char} {r : List D} (q : Q (.tup (r.take (boundN w)), st)) : (callF P (n + 1) i [.tup (.str w :: r)] st).wp Q := by
  refine call_wp h rfl ?_
  simp only [fdBoundBy, start_cons, start0, repS, rep0]
  refine ret_one ?_
  simp only [seval, MP.sv0, MP.sv1, MP.sv2, MP.sv3, MP.sv4]
  have e := kget_bound w
  unfold kBound at e
  rw [e]
  simp only [seval, MP.sv0, MP.sv1, MP.sv2, MP.sv3, MP.sv4, cut_bnd]
  exact q
theorem mem2_s {w a b : List Char} : memF st (.str w) (.tup [.str a, .str b]) = some ((a == w) || (b == w)) := by simp [memF, memF.memL, flatF, eqS]
theorem parts_spec (h : P.fns[i]? = some fdPartsOf) {w : List Char} {r : List D} (q : Q (.ref st.length, st ++ [.lst (partsD (.tup (.str w :: r)))])) : (callF P (n + 1) i [.tup (.str w :: r)] st).wp Q := by
  refine call_wp h rfl ?_
  simp only [fdPartsOf, start_cons, start0, repS, rep0]
  by_cases hw : w = sLit ∨ w = sVar
  · refine take_if ?_ ?_
    · simp only [seval, MP.sv0, MP.sv1, MP.sv2, MP.sv3, MP.sv4, mem2_s]
      rcases hw with rfl | rfl <;> rfl
    · refine ret_one ?_
      simp only [seval, MP.sv0, MP.sv1, MP.sv2, MP.sv3, MP.sv4]
      rw [partsD, if_pos hw] at q
      exact q
  · refine skip_if ?_ ?_
    · simp only [seval, MP.sv0, MP.sv1, MP.sv2, MP.sv3, MP.sv4, mem2_s]
      have h1 : ¬ sLit = w := fun h => hw (.inl h.symm)
      have h2 : ¬ sVar = w := fun h => hw (.inr h.symm)
      rw [beq_eq_false_iff_ne.mpr h1, beq_eq_false_iff_ne.mpr h2]
      rfl
    · refine ret_one ?_
      simp only [seval, MP.sv0, MP.sv1, MP.sv2, MP.sv3, MP.sv4]
      have e := kget_bound w
      unfold kBound at e
      rw [e]
      simp only [seval, MP.sv0, MP.sv1, MP.sv2, MP.sv3, MP.sv4, cut_prt]
      rw [partsD, if_neg hw] at q
      simp only [biF, seqF, newF, seval, MP.sv0, MP.sv1, MP.sv2, MP.sv3, MP.sv4]
      exact q
theorem formB_def (w : List Char) (r : List D) : formB (.tup (.str w :: r)) = if w = sLit then decide (r.length = 1) && isW (r.headD .non) else
    if w = sVar then decide (r.length = 1) && varD (r.headD .non) else
    if w = sList then decide (r.length ≤ 8) else
    match getKk kParts w with
    | some (.int k) => decide ((r.length : Int) = boundN w + k) && ((r.take (boundN w)).all varD && (decide (boundN w < 2) || !(D.beq (r.headD .non) (r.tail.headD .non))))
    | _ => false := rfl
theorem kparts_int {w : List Char} {d : D} (h : getKk kParts w = some d) : ∃ k : Int, 0 ≤ k ∧ k ≤ 3 ∧ d = .int k := by
  unfold getKk at h
  cases hf : kParts.find? (fun kv => decide (kv.1 = w)) with
  | none => rw [hf] at h; cases h
  | some p =>
    rw [hf] at h
    have hm := List.mem_of_find?_eq_some hf
    injection h with h
    replace h : p.2 = d := h
    have : kParts.all (fun kv => match kv.2 with | .int k => decide (0 ≤ k ∧ k ≤ 3) | _ => false) = true := by rfl
    have := List.all_eq_true.mp this p hm
    rw [h] at this
    cases d <;> first | exact ⟨_, (of_decide_eq_true this).1, (of_decide_eq_true this).2, rfl⟩ | cases this
theorem eq_vs {a b : List Char} : eqF st (.str a) (.str b) = some (D.beq (.str a) (.str b)) := by rw [eq_ss]; rfl
theorem form_spec {iw ms num txt sg vr bd : Nat} (h : P.fns[i]? = some (fdIsForm iw vr bd)) (h0 : P.fns[iw]? = some (fdIsWorth ms)) (hm : P.fns[ms]? = some (fdMeasured num txt ms)) (h1 : P.fns[num]? = some fdIsNumber) (h2 : P.fns[txt]? = some (fdIsText sg)) (h3 : P.fns[sg]? = some fdIsSign)
    (hv : P.fns[vr]? = some fdIsVariable) (hb : P.fns[bd]? = some fdBoundBy) {d : D} (hs : Saf st d) (hn : depD d + 6 ≤ n) (q : Q (.bl (formB d), st)) : (callF P n i [d] st).wp Q := by
  obtain ⟨m, rfl⟩ : ∃ m, n = m + 2 := ⟨n - 2, by omega⟩
  refine call_wp h rfl ?_
  simp only [fdIsForm, start_cons, start0, repS, rep0]
  have hls : lettersC.length ≤ SZ := by decide
  have hT : ∀ {d : D}, Q (.bl (formB d), st) → formB d = false → Q (.bl false, st) := fun q e => by rw [e] at q; exact q
  cases d
  case tup xs =>
    cases xs with
    | nil =>
      refine take_if ?_ ?_
      · simp only [seval, MP.sv0, MP.sv1, MP.sv2, MP.sv3, MP.sv4, isi_tup hs, isTup]
      · refine ret_one ?_
        simp only [seval, MP.sv0, MP.sv1, MP.sv2, MP.sv3, MP.sv4]
        exact q
    | cons a r =>
      have hsa : Saf st a := hs.1
      have hsr : Safs st r := hs.2
      by_cases ha : isStr a = true
      · cases a <;> try (exact absurd ha Bool.false_ne_true)
        case str w =>
        rw [formB_def] at q
        have hd : ∀ x ∈ r, depD x + 5 ≤ m + 1 := by
          intro x hx
          have := depDs_mem hx
          rw [depD, depDs] at hn
          omega
        refine skip_if ?_ ?_
        · simp only [seval, MP.sv0, MP.sv1, MP.sv2, MP.sv3, MP.sv4, isi_tup hs, isTup, isi_str hsa, isStr]
          have : (((r.length + 1 : Nat) : Int) == 0) = false := beq_eq_false_iff_ne.mpr (by omega)
          simp only [this, seval, MP.sv0, MP.sv1, MP.sv2, MP.sv3, MP.sv4]
          split <;> trivial
        refine stm_k fun K hK => ?_
        simp only [seval, MP.sv0, MP.sv1, MP.sv2, MP.sv3, MP.sv4]
        refine hK _ _ ?_
        clear hK K
        by_cases w1 : w = sLit
        · rw [if_pos w1] at q
          refine take_if ?_ ?_
          · simp only [seval, MP.sv0, MP.sv1, MP.sv2, MP.sv3, MP.sv4, w1]
          refine ret_one ?_
          simp only [seval, MP.sv0, MP.sv1, MP.sv2, MP.sv3, MP.sv4]
          by_cases hl : r.length = 1
          · have e : (((r.length + 1 : Nat) : Int) == 2) = true := by rw [beq_iff_eq]; omega
            obtain ⟨x, rfl⟩ : ∃ x, r = [x] := List.length_eq_one_iff.mp hl
            simp only [seval, MP.sv0, MP.sv1, MP.sv2, MP.sv3, MP.sv4]
            refine isWorth_spec h0 hm h1 h2 h3 (hsr.1) (by have := hd x (by simp); omega) ?_
            simp only [seval, MP.sv0, MP.sv1, MP.sv2, MP.sv3, MP.sv4]
            exact q
          · skip
            have e : ¬ ((r.length + 1 : Nat) : Int) = 2 := by omega
            rw [if_neg e, beq_eq_false_iff_ne.mpr e]
            rw [decide_eq_false hl, Bool.false_and] at q
            exact q
        rw [if_neg w1] at q
        refine skip_if ?_ ?_
        · simp only [seval, MP.sv0, MP.sv1, MP.sv2, MP.sv3, MP.sv4]
          exact beq_eq_false_iff_ne.mpr w1
        by_cases w2 : w = sVar
        · rw [if_pos w2] at q
          refine take_if ?_ ?_
          · simp only [seval, MP.sv0, MP.sv1, MP.sv2, MP.sv3, MP.sv4, w2]
          refine ret_one ?_
          simp only [seval, MP.sv0, MP.sv1, MP.sv2, MP.sv3, MP.sv4]
          by_cases hl : r.length = 1
          · have e : (((r.length + 1 : Nat) : Int) == 2) = true := by rw [beq_iff_eq]; omega
            obtain ⟨x, rfl⟩ : ∃ x, r = [x] := List.length_eq_one_iff.mp hl
            simp only [seval, MP.sv0, MP.sv1, MP.sv2, MP.sv3, MP.sv4]
            refine variable_spec hv hsr.1 ?_
            simp only [seval, MP.sv0, MP.sv1, MP.sv2, MP.sv3, MP.sv4]
            exact q
          · skip
            have e : ¬ ((r.length + 1 : Nat) : Int) = 2 := by omega
            rw [if_neg e, beq_eq_false_iff_ne.mpr e]
            rw [decide_eq_false hl, Bool.false_and] at q
            exact q
        rw [if_neg w2] at q
        refine skip_if ?_ ?_
        · simp only [seval, MP.sv0, MP.sv1, MP.sv2, MP.sv3, MP.sv4]
          exact beq_eq_false_iff_ne.mpr w2
        by_cases w3 : w = sList
        · rw [if_pos w3] at q
          refine take_if ?_ ?_
          · simp only [seval, MP.sv0, MP.sv1, MP.sv2, MP.sv3, MP.sv4, w3]
          refine ret_one ?_
          simp only [seval, MP.sv0, MP.sv1, MP.sv2, MP.sv3, MP.sv4]
          rw [decide_eq_decide.mpr (show r.length ≤ 8 ↔ ((r.length + 1 : Nat) : Int) ≤ 1 + 8 by omega)] at q
          exact q
        rw [if_neg w3] at q
        refine skip_if ?_ ?_
        · simp only [seval, MP.sv0, MP.sv1, MP.sv2, MP.sv3, MP.sv4]
          exact beq_eq_false_iff_ne.mpr w3
        have ek := kget_bound w
        unfold kBound at ek
        have hbl := bound_le w
        cases hp : getKk kParts w with
        | none =>
          rw [hp] at q
          refine take_if ?_ ?_
          · unfold kParts at hp
            simp only [seval, MP.sv0, MP.sv1, MP.sv2, MP.sv3, MP.sv4, hp]
            rfl
          refine ret_one ?_
          simp only [seval, MP.sv0, MP.sv1, MP.sv2, MP.sv3, MP.sv4]
          exact q
        | some dk =>
          obtain ⟨k, hk0, hk3, rfl⟩ := kparts_int hp
          rw [hp] at q
          replace q : Q (.bl (decide ((r.length : Int) = boundN w + k) && ((r.take (boundN w)).all varD && (decide (boundN w < 2) || !(D.beq (r.headD .non) (r.tail.headD .non))))), st) := q
          by_cases hl : (r.length : Int) = boundN w + k
          · refine skip_if ?_ ?_
            · unfold kParts at hp
              simp only [seval, MP.sv0, MP.sv1, MP.sv2, MP.sv3, MP.sv4, hp, ek, Option.isSome]
              have e : ((((r.length + 1 : Nat) : Int)) == 1 + (boundN w : Int) + k) = true := by rw [beq_iff_eq]; omega
              rw [e]
              rfl
            rw [decide_eq_true hl, Bool.true_and] at q
            refine stm_k fun K hK => ?_
            simp only [seval, MP.sv0, MP.sv1, MP.sv2, MP.sv3, MP.sv4]
            refine bound_spec hb ?_
            simp only [seval, MP.sv0, MP.sv1, MP.sv2, MP.sv3, MP.sv4]
            refine hK _ _ ?_
            clear hK K
            have hbs : ∀ x ∈ r.take (boundN w), Saf st x := fun x hx => safs_mem hsr (List.mem_of_mem_take hx)
            have hlen : (r.take (boundN w)).length = boundN w := by rw [List.length_take]; omega
            refine stm_k fun K hK => ?_
            simp only [seval, MP.sv0, MP.sv1, MP.sv2, MP.sv3, MP.sv4]
            refine for_wp (I := fun ds fr st' => st' = st ∧ (∃ e, fr = [some (.tup (.str w :: r)), some (.str w), some (.tup (r.take (boundN w))), e]) ∧ (∀ x ∈ ds, Saf st x) ∧ ds.all varD = (r.take (boundN w)).all varD) (fun _ _ _ _ => rfl) ?_ ?_ _ _ _ ⟨rfl, ⟨none, rfl⟩, hbs, rfl⟩
            · rintro x ds fr st' ⟨rfl, ⟨e, rfl⟩, hx, ha⟩
              simp only [seval, MP.sv0, MP.sv1, MP.sv2, MP.sv3, MP.sv4]
              refine variable_spec hv (hx x List.mem_cons_self) ?_
              simp only [seval, MP.sv0, MP.sv1, MP.sv2, MP.sv3, MP.sv4]
              rw [List.all_cons] at ha
              split
              · rename_i hf
                rw [hf, Bool.false_and] at ha
                rw [← ha, Bool.false_and] at q
                exact q
              · rename_i hf
                have hf : varD x = true := by simpa using hf
                rw [hf, Bool.true_and] at ha
                exact ⟨⟨_, rfl⟩, fun y hy => hx y (List.mem_cons_of_mem _ hy), ha⟩
            · rintro fr st' ⟨rfl, ⟨e, rfl⟩, hx, ha⟩
              simp only [id]
              refine hK _ _ ?_
              clear hK K
              have ha : (r.take (boundN w)).all varD = true := ha.symm
              rw [ha, Bool.true_and] at q
              refine ret_one ?_
              simp only [seval, MP.sv0, MP.sv1, MP.sv2, MP.sv3, MP.sv4, hlen]
              by_cases h2 : boundN w < 2
              · have : ((boundN w : Nat) : Int) < 2 := by omega
                simp only [this, seval, MP.sv0, MP.sv1, MP.sv2, MP.sv3, MP.sv4]
                rw [decide_eq_true h2, Bool.true_or] at q
                exact q
              · have : ¬ ((boundN w : Nat) : Int) < 2 := by omega
                have h3 : boundN w = 2 := by omega
                rw [decide_eq_false h2, Bool.false_or] at q
                obtain ⟨a, b, r, rfl⟩ : ∃ a b r', r = a :: b :: r' := by
                  match r with
                  | [] => rw [List.length_nil] at hl; omega
                  | [a] => rw [List.length_cons, List.length_nil] at hl; omega
                  | a :: b :: r' => exact ⟨a, b, r', rfl⟩
                rw [h3] at ha ⊢
                simp only [List.take_succ_cons, List.take_zero, List.all_cons, List.all_nil, Bool.and_eq_true] at ha
                obtain ⟨ha1, ha2, _⟩ := ha
                cases a <;> try (exact absurd ha1 Bool.false_ne_true)
                cases b <;> try (exact absurd ha2 Bool.false_ne_true)
                simp only [this, List.take_succ_cons, List.take_zero, seval, MP.sv0, MP.sv1, MP.sv2, MP.sv3, MP.sv4, eq_vs]
                exact q
          · refine take_if ?_ ?_
            · unfold kParts at hp
              simp only [seval, MP.sv0, MP.sv1, MP.sv2, MP.sv3, MP.sv4, hp, ek, Option.isSome]
              rw [beq_eq_false_iff_ne]; omega
            refine ret_one ?_
            simp only [seval, MP.sv0, MP.sv1, MP.sv2, MP.sv3, MP.sv4]
            rw [decide_eq_false hl, Bool.false_and] at q
            exact q
      · refine take_if ?_ ?_
        · have : (((r.length + 1 : Nat) : Int) == 0) = false := beq_eq_false_iff_ne.mpr (by omega)
          have ha : isStr a = false := by simpa using ha
          simp only [seval, MP.sv0, MP.sv1, MP.sv2, MP.sv3, MP.sv4, isi_tup hs, isTup, isi_str hsa, ha, this]
        · refine ret_one ?_
          simp only [seval, MP.sv0, MP.sv1, MP.sv2, MP.sv3, MP.sv4]
          refine hT q ?_
          cases a <;> first | rfl | exact absurd rfl ha
  all_goals
    refine take_if ?_ ?_
    · simp only [seval, MP.sv0, MP.sv1, MP.sv2, MP.sv3, MP.sv4, isi_tup hs, isTup]
    · refine ret_one ?_
      simp only [seval, MP.sv0, MP.sv1, MP.sv2, MP.sv3, MP.sv4]
      exact q
/-! ### what stands within -/
def enumD (x : D) (st : Sto) : R (Wk × Sto × (Sto → Sto)) := match x with
    | .kls ds => .ok (⟨enumF 0 ds, fun _ => true⟩, st, id)
    | .ref n => match st[n]? with
      | some (.lst ds) => .ok (⟨enumF 0 ds, stands n ds⟩, st, id)
      | _ => .no
    | _ => .no
end
section
variable {P : Prog} {cf mf : Cf} {fr : Fr} {st : Sto}
theorem w_enum {a : E} {Q : Wk × Sto × (Sto → Sto) → Prop} : (evIt P cf mf (.enum a) fr st).wp Q ↔ (evE P cf mf a fr st).wp fun p => (enumD p.1 p.2).wp Q := by
  rw [evIt]; first | (simp only [wp_bind]; done) | (simp only [wp_bind]; rfl)
theorem enum_ref {n : Nat} {ds : List D} (h : st[n]? = some (.lst ds)) : enumD (.ref n) st = .ok (⟨enumF 0 ds, stands n ds⟩, st, id) := by simp only [enumD, h]
theorem Grow.new {st st' : Sto} (g : Grow st st') {f : Nat} (h : st.length ≤ f) {o : O} : Grow st (st'.set f o) := by
  obtain ⟨r, rfl⟩ := g
  exact ⟨r.set (f - st.length) o, by rw [List.set_append_right _ _ h]⟩
end
/-- a place of a rule: the thing there, the names bound there, how deep, within how many rounds -/
structure RI where
  d : D
  bs : List D
  deep : Int
  rep : Int
def RI.enc (x : RI) : D := .tup [x.d, .tup x.bs, .int x.deep, .int x.rep]
def wiF (bn : List D) (rw : Bool) (bs : List D) (deep rep : Int) : List D → List RI
  | [] => []
  | [p] => [⟨p, bs ++ bn, deep + 1, if rw = true then rep + 1 else rep⟩]
  | p :: q :: r => ⟨p, bs, deep + 1, rep⟩ :: wiF bn rw bs deep rep (q :: r)
def withinI (x : RI) : List RI := wiF (bndD x.d) (repW x.d) x.bs x.deep x.rep (partsD x.d)
theorem mem_wiF {bn : List D} {rw : Bool} {bs : List D} {deep rep : Int} {y : RI} : ∀ {ps : List D}, y ∈ wiF bn rw bs deep rep ps → y.d ∈ ps ∧ (y.bs = bs ∨ y.bs = bs ++ bn) ∧ y.deep = deep + 1
  | [], h => by cases h
  | [p], h => by
    rw [wiF, List.mem_singleton] at h
    subst h
    exact ⟨List.mem_cons_self, .inr rfl, rfl⟩
  | p :: q :: r, h => by
    rw [wiF] at h
    rcases List.mem_cons.mp h with rfl | h
    · exact ⟨List.mem_cons_self, .inl rfl, rfl⟩
    · obtain ⟨h1, h2⟩ := mem_wiF h
      exact ⟨List.mem_cons_of_mem _ h1, h2⟩
theorem wiF_len {bn : List D} {rw : Bool} {bs : List D} {deep rep : Int} : ∀ {ps : List D}, (wiF bn rw bs deep rep ps).length = ps.length
  | [] => rfl
  | [p] => rfl
  | p :: q :: r => by rw [wiF, List.length_cons, wiF_len]; rfl
section
variable {P : Prog} {st : Sto} {Q : D × Sto → Prop} {n i : Nat}
def _root_.MP.sv5 :=

  @w_enum
theorem within_spec {pt bd : Nat} (h : P.fns[i]? = some (fdWithin pt bd)) (hp : P.fns[pt]? = some fdPartsOf) (hb : P.fns[bd]? = some fdBoundBy) {x : RI} {w : List Char} {r : List D} (hd : x.d = .tup (.str w :: r)) (hr : r.length ≤ 1000) (hbs : x.bs.length ≤ 1000)
    (q : ∀ st', Grow st st' → st'[st.length]? = some (.lst ((withinI x).map RI.enc)) → Q (.ref st.length, st')) : (callF P (n + 2) i [x.d, .tup x.bs, .int x.deep, .int x.rep] st).wp Q := by
  obtain ⟨d, bs, deep, rep⟩ := x
  dsimp only at hd hbs ⊢
  subst hd
  have hsz : SZ = 1000000 := rfl
  refine call_wp h rfl ?_
  simp only [fdWithin, start_cons, start0, repS, rep0]
  refine stm_k fun K hK => ?_
  simp only [seval, MP.sv0, MP.sv1, MP.sv2, MP.sv3, MP.sv4, MP.sv5]
  refine hK _ _ ?_
  clear hK K
  refine stm_k fun K hK => ?_
  simp only [seval, MP.sv0, MP.sv1, MP.sv2, MP.sv3, MP.sv4, MP.sv5]
  refine parts_spec hp ?_
  simp only [seval, MP.sv0, MP.sv1, MP.sv2, MP.sv3, MP.sv4, MP.sv5]
  refine hK _ _ ?_
  clear hK K
  have hpl : (partsD (.tup (.str w :: r))).length ≤ 1000 := by
    rw [partsD]; split
    · exact Nat.zero_le _
    · rw [List.length_drop]; omega
  have hbl := bound_le w
  generalize hps : partsD (.tup (.str w :: r)) = ps at hpl
  have eI : withinI ⟨.tup (.str w :: r), bs, deep, rep⟩ = wiF (r.take (boundN w)) (decide (w = sEach ∨ w = sOver)) bs deep rep ps := by rw [← hps]; rfl
  refine stm_k fun K hK => ?_
  simp only [seval, MP.sv0, MP.sv1, MP.sv2, MP.sv3, MP.sv4, MP.sv5]
  have hL : (st ++ [O.lst []] ++ [O.lst ps])[(st ++ [O.lst []]).length]? = some (.lst ps) := sto_top
  have hF : (st ++ [O.lst []] ++ [O.lst ps])[st.length]? = some (.lst []) := sto_old sto_top
  have hne : st.length ≠ (st ++ [O.lst []]).length := by simp
  rw [enum_ref hL]
  simp only [seval, MP.sv0, MP.sv1, MP.sv2, MP.sv3, MP.sv4, MP.sv5]
  refine for_wp (I := fun ds fr st' => ∃ (k : Nat) (qs : List D) (acc : List RI), ds = enumF k qs ∧ k + qs.length = ps.length ∧ acc.length + qs.length = ps.length ∧ acc ++ wiF (r.take (boundN w)) (decide (w = sEach ∨ w = sOver)) bs deep rep qs = wiF (r.take (boundN w)) (decide (w = sEach ∨ w = sOver)) bs deep rep ps ∧ Grow st st' ∧ st'[st.length]? = some (.lst (acc.map RI.enc)) ∧ st'[(st ++ [O.lst []]).length]? = some (.lst ps) ∧
    ∃ e6 e7 e8 e9 e10, fr = [some (.tup (.str w :: r)), some (.tup bs), some (.int deep), some (.int rep), some (.ref st.length), some (.ref (st ++ [O.lst []]).length), e6, e7, e8, e9, e10]) ?_ ?_ ?_ _ _ _ ⟨0, ps, [], rfl, by omega, by simp, by simp, Grow.push.trans Grow.push, hF, hL, none, none, none, none, none, rfl⟩
  · rintro ds fr st' ⟨k, qs, acc, -, -, -, -, -, -, hl, -⟩
    exact stands_at hl
  · rintro d ds fr st' ⟨k, qs, acc, e, hk, hacc, hw, g, hf, hl, e6, e7, e8, e9, e10, rfl⟩
    cases qs with
    | nil => cases e
    | cons p qs =>
      rw [enumF] at e
      injection e with e1 e2
      subst e1 e2
      simp only [seval, MP.sv0, MP.sv1, MP.sv2, MP.sv3, MP.sv4, MP.sv5, len_ref hl]
      have hfl : st.length < st'.length := (List.getElem?_eq_some_iff.mp hf).1
      rw [List.length_cons] at hk hacc
      cases qs with
      | nil =>
        have he : ((k : Int) + 1 = (ps.length : Int)) = True := by rw [List.length_nil] at hk; apply eq_true; omega
        have he2 : ((k : Int) + 1 == (ps.length : Int)) = true := by rw [beq_iff_eq]; exact of_eq_true he
        simp only [he, he2, if_true, seval, MP.sv0, MP.sv1, MP.sv2, MP.sv3, MP.sv4, MP.sv5]
        refine bound_spec hb ?_
        simp only [seval, MP.sv0, MP.sv1, MP.sv2, MP.sv3, MP.sv4, MP.sv5, mem2_s]
        refine ⟨by rw [List.length_take]; omega, ?_⟩
        by_cases hwr : w = sEach ∨ w = sOver
        · have : ((sEach == w) || (sOver == w)) = true := by rcases hwr with rfl | rfl <;> rfl
          simp only [this, seval, MP.sv0, MP.sv1, MP.sv2, MP.sv3, MP.sv4, MP.sv5, kd_ref hf, ap_ref hf]
          refine ⟨by rw [List.length_map]; omega, k + 1, [], acc ++ [⟨p, bs ++ r.take (boundN w), deep + 1, rep + 1⟩], rfl, by omega, by simp; omega, ?_, g.new (Nat.le_refl _), ?_, ?_, _, _, _, _, _, rfl⟩
          · rw [← hw, wiF, wiF, List.append_nil, decide_eq_true hwr]; rfl
          · rw [sto_set hf]; simp [RI.enc]
          · rw [List.getElem?_set_ne hne]; exact hl
        · have : ((sEach == w) || (sOver == w)) = false := by
            rw [beq_eq_false_iff_ne.mpr (fun h => hwr (.inl h.symm)), beq_eq_false_iff_ne.mpr (fun h => hwr (.inr h.symm))]; rfl
          simp only [this, seval, MP.sv0, MP.sv1, MP.sv2, MP.sv3, MP.sv4, MP.sv5, kd_ref hf, ap_ref hf]
          refine ⟨by rw [List.length_map]; omega, k + 1, [], acc ++ [⟨p, bs ++ r.take (boundN w), deep + 1, rep⟩], rfl, by omega, by simp; omega, ?_, g.new (Nat.le_refl _), ?_, ?_, _, _, _, _, _, rfl⟩
          · rw [← hw, wiF, wiF, List.append_nil, decide_eq_false hwr]; rfl
          · rw [sto_set hf]; simp [RI.enc]
          · rw [List.getElem?_set_ne hne]; exact hl
      | cons p2 qs =>
        have he : ((k : Int) + 1 = (ps.length : Int)) = False := by rw [List.length_cons] at hk; apply eq_false; omega
        have he2 : ((k : Int) + 1 == (ps.length : Int)) = false := by rw [beq_eq_false_iff_ne]; exact of_eq_false he
        simp only [he, he2, if_false, seval, MP.sv0, MP.sv1, MP.sv2, MP.sv3, MP.sv4, MP.sv5, kd_ref hf, ap_ref hf]
        refine ⟨by rw [List.length_map]; omega, k + 1, p2 :: qs, acc ++ [⟨p, bs, deep + 1, rep⟩], rfl, by omega, by simp only [List.length_append, List.length_cons, List.length_nil] at hacc ⊢; omega, ?_, g.new (Nat.le_refl _), ?_, ?_, _, _, _, _, _, rfl⟩
        · rw [← hw, wiF, List.append_assoc]; rfl
        · rw [sto_set hf]; simp [RI.enc]
        · rw [List.getElem?_set_ne hne]; exact hl
  · rintro fr st' ⟨k, qs, acc, e, hk, hacc, hw, g, hf, hl, e6, e7, e8, e9, e10, rfl⟩
    have hqs : qs = [] := by cases qs with | nil => rfl | cons p qs => cases e
    subst hqs
    simp only [id]
    refine hK _ _ ?_
    clear hK K
    refine ret_one ?_
    simp only [seval, MP.sv0, MP.sv1, MP.sv2, MP.sv3, MP.sv4, MP.sv5]
    refine q _ g ?_
    rw [hf, eI, ← hw, wiF, List.append_nil]
theorem form_inv {d : D} (h : formB d = true) : ∃ w r, d = .tup (.str w :: r) ∧ r.length ≤ 8 ∧ ∀ x ∈ bndD d, varD x = true := by
  cases d <;> try (exact absurd h Bool.false_ne_true)
  case tup xs =>
    cases xs with
    | nil => exact absurd h Bool.false_ne_true
    | cons a r =>
      cases a <;> try (exact absurd h Bool.false_ne_true)
      case str w =>
        rw [formB_def] at h
        refine ⟨w, r, rfl, ?_⟩
        by_cases w1 : w = sLit
        · rw [if_pos w1, Bool.and_eq_true, decide_eq_true_eq] at h
          subst w1
          exact ⟨by omega, fun x hx => absurd hx (by simp [bndD, boundN])⟩
        rw [if_neg w1] at h
        by_cases w2 : w = sVar
        · rw [if_pos w2, Bool.and_eq_true, decide_eq_true_eq] at h
          subst w2
          exact ⟨by omega, fun x hx => absurd hx (by simp [bndD, boundN])⟩
        rw [if_neg w2] at h
        by_cases w3 : w = sList
        · rw [if_pos w3, decide_eq_true_eq] at h
          subst w3
          exact ⟨by omega, fun x hx => absurd hx (by simp [bndD, boundN])⟩
        rw [if_neg w3] at h
        cases hp : getKk kParts w with
        | none => rw [hp] at h; cases h
        | some dk =>
          obtain ⟨k, hk0, hk3, rfl⟩ := kparts_int hp
          rw [hp] at h
          have hb := bound_le w
          replace h : (decide ((r.length : Int) = boundN w + k) && ((r.take (boundN w)).all varD && (decide (boundN w < 2) || !(D.beq (r.headD .non) (r.tail.headD .non))))) = true := h
          rw [Bool.and_eq_true, decide_eq_true_eq, Bool.and_eq_true] at h
          exact ⟨by omega, fun x hx => List.all_eq_true.mp h.2.1 x hx⟩
/-- a variable that stands there is bound there -/
def varOk (x : RI) : Bool := match x.d with
  | .tup (.str w :: r) => !decide (w = sVar) || x.bs.any fun z => eqS z (r.headD .non)
  | _ => true
def ruleGo : Nat → List RI → Bool
  | _, [] => true
  | 0, _ :: _ => false
  | k + 1, x :: s => decide (x.deep ≤ 12) && (decide (x.rep ≤ 2) && (formB x.d && (varOk x && ruleGo k ((withinI x).reverse ++ s))))
def ruleB (d : D) : Bool := ruleGo 60 [⟨d, [], 0, 0⟩]
structure RIok (k : Nat) (x : RI) : Prop where
  pur : purD x.d = true
  dep : depD x.d ≤ k
  bs : ∀ b ∈ x.bs, ∃ s, b = .str s ∧ s.length ≤ 8
  len : (x.bs.length : Int) ≤ 2 * x.deep
  dp : x.deep ≤ 13
theorem RIok.enc {k : Nat} {x : RI} (h : RIok k x) (hk : 1 ≤ k) : purD x.enc = true ∧ depD x.enc ≤ k + 1 := by
  have hl := h.len
  have hd := h.dp
  have h1 : purDs x.bs = true := purDs_of fun b hb => by
    obtain ⟨s, rfl, hs⟩ := h.bs b hb
    rw [purD, decide_eq_true (by omega)]
  have h2 : depDs x.bs ≤ 0 := depDs_le fun b hb => by
    obtain ⟨s, rfl, hs⟩ := h.bs b hb
    simp [depD]
  have hdp := h.dep
  constructor
  · rw [RI.enc, purD, purDs, h.pur, purDs, purD, h1, decide_eq_true (by omega : x.bs.length ≤ 100000)]
    rfl
  · simp only [RI.enc, depD, depDs]
    omega
theorem ne_nil {st : Sto} {t f : Nat} {xs : List D} (ht : st[t]? = some (.lst xs)) (hf : st[f]? = some (.lst [])) (hp : purDs xs = true) (hd : depDs xs ≤ 59) : eqF st (.ref t) (.ref f) = some xs.isEmpty := by
  have h1 : treeF st 60 (.ref t) = some (.lst (toTs xs)) := by
    rw [treeF, ht]
    simp only [trees_pur st xs 59 hp hd, Option.map_some]
  have h2 : treeF st 60 (.ref f) = some (.lst []) := by
    rw [treeF, hf]
    simp only [treesF, Option.map_some]
  rw [eqF, eqT, h1, h2]
  cases xs with
  | nil => rfl
  | cons x xs => simp [toTs, T.eqv, T.eqvs]
theorem pop_ref {t : Nat} {xs : List D} {x : D} (h : st[t]? = some (.lst (xs ++ [x]))) : bmF .l .pop (.ref t) [] st = .ok (x, st.set t (.lst xs)) := by
  simp only [bmF, lstF, h, lmF]
  have : (xs ++ [x])[(xs ++ [x]).length - 1]? = some x := by simp
  rw [this]
  simp
theorem ext_ref {t k : Nat} {xs ys : List D} {Q : D × Sto → Prop} (h : st[t]? = some (.lst xs)) (hk : st[k]? = some (.lst ys)) : (bmF .l .extend (.ref t) [.ref k] st).wp Q ↔ (xs.length + ys.length ≤ SZ ∧ Q (.non, st.set t (.lst (xs ++ ys)))) := by
  simp only [bmF, lstF, h, lmF, hk, wp_guard]
theorem bnd_str {d x : D} (h : ∀ y ∈ bndD d, varD y = true) (hx : x ∈ bndD d) : ∃ s, x = .str s ∧ s.length ≤ 8 := by
  have := h x hx
  cases x <;> try (exact absurd this Bool.false_ne_true)
  case str s =>
    replace this : varS s = true := this
    rw [varS, Bool.and_eq_true, Bool.and_eq_true, decide_eq_true_eq, decide_eq_true_eq] at this
    exact ⟨s, rfl, this.2.1⟩
theorem within_ok {k : Nat} {x y : RI} (h : RIok k x) (hf : formB x.d = true) (h12 : x.deep ≤ 12) (hy : y ∈ withinI x) : RIok k y := by
  obtain ⟨w, r, hd, hr, hb⟩ := form_inv hf
  obtain ⟨h1, h2, h3⟩ := mem_wiF hy
  have hm : y.d ∈ r := by
    rw [hd, partsD] at h1
    split at h1
    · cases h1
    · exact List.mem_of_mem_drop h1
  have hp := h.pur
  have hdp := h.dep
  rw [hd] at hp hdp
  rw [purD, Bool.and_eq_true, purDs, Bool.and_eq_true] at hp
  have := depDs_mem hm
  rw [depD, depDs] at hdp
  have hbl : (bndD x.d).length ≤ 2 := by
    rw [hd, bndD, List.length_take]
    have := bound_le w
    omega
  have hl := h.len
  refine ⟨purDs_mem hp.2.2 hm, by omega, ?_, ?_, by omega⟩
  · intro b hbm
    rcases h2 with e | e
    · rw [e] at hbm; exact h.bs b hbm
    · rw [e] at hbm
      rcases List.mem_append.mp hbm with hbm | hbm
      · exact h.bs b hbm
      · exact bnd_str hb hbm
  · rcases h2 with e | e
    · rw [e, h3]; omega
    · rw [e, h3, List.length_append]; omega
structure RuleAt (P : Prog) (i : Nat) : Prop where
  ex : ∃ fm wi iw ms num txt sg vr bd pt, P.fns[i]? = some (fdIsRule fm wi) ∧ P.fns[fm]? = some (fdIsForm iw vr bd) ∧ P.fns[iw]? = some (fdIsWorth ms) ∧ P.fns[ms]? = some (fdMeasured num txt ms) ∧ P.fns[num]? = some fdIsNumber ∧ P.fns[txt]? = some (fdIsText sg) ∧ P.fns[sg]? = some fdIsSign ∧ P.fns[vr]? = some fdIsVariable ∧ P.fns[bd]? = some fdBoundBy ∧ P.fns[wi]? = some (fdWithin pt bd) ∧ P.fns[pt]? = some fdPartsOf
theorem all_flat {bs : List D} (h : ∀ b ∈ bs, ∃ s, b = .str s ∧ s.length ≤ 8) : bs.all flatF = true := by
  rw [List.all_eq_true]
  intro b hb
  obtain ⟨s, rfl, _⟩ := h b hb
  rfl
theorem mem_names {bs : List D} {x : List Char} (h : ∀ b ∈ bs, ∃ s, b = .str s ∧ s.length ≤ 8) : memF st (.str x) (.tup bs) = some (bs.any fun z => eqS z (.str x)) := by
  simp only [memF, memF.memL, flatF, all_flat h, Bool.and_self, if_true]
theorem formVar {w : List Char} {r : List D} (h : formB (.tup (.str w :: r)) = true) (hw : w = sVar) : ∃ x, r = [.str x] := by
  subst hw
  rw [formB_def, if_neg (by decide), if_pos rfl, Bool.and_eq_true, decide_eq_true_eq] at h
  obtain ⟨a, rfl⟩ := List.length_eq_one_iff.mp h.1
  have := h.2
  cases a <;> try (exact absurd this Bool.false_ne_true)
  exact ⟨_, rfl⟩
theorem isRule_spec (h : RuleAt P i) {d : D} (hp : purD d = true) (hd : depD d ≤ 55) (hn : depD d + 12 ≤ n) (q : ∀ st', Grow st st' → Q (.bl (ruleB d), st')) : (callF P n i [d] st).wp Q := by
  obtain ⟨fm, wi, iw, ms, num, txt, sg, vr, bd, pt, h0, hfm, hiw, hms, hnum, htxt, hsg, hvr, hbd, hwi, hpt⟩ := h
  obtain ⟨m, rfl⟩ : ∃ m, n = m + 3 := ⟨n - 3, by omega⟩
  have hsz : SZ = 1000000 := rfl
  refine call_wp h0 rfl ?_
  simp only [fdIsRule, start_cons, start0, repS, rep0]
  refine stm_k fun K hK => ?_
  simp only [seval, MP.sv0, MP.sv1, MP.sv2, MP.sv3, MP.sv4, MP.sv5]
  refine hK _ _ ?_
  clear hK K
  refine stm_k fun K hK => ?_
  simp only [seval, MP.sv0, MP.sv1, MP.sv2, MP.sv3, MP.sv4, MP.sv5]
  refine hK _ _ ?_
  clear hK K
  refine stm_k fun K hK => ?_
  rw [s_whl_w]
  have hT : (st ++ [O.lst [.tup [d, .tup [], .int 0, .int 0]]])[st.length]? = some (.lst [.tup [d, .tup [], .int 0, .int 0]]) := sto_top
  refine whl_wp (I := fun k fr st' => ∃ (lf : Nat) (c : Int) (s : List RI) (e3 e4 e5 e6 : Option D), k = lf + 1 ∧ c = 60 - lf ∧ lf ≤ 60 ∧ fr = [some d, some (.ref st.length), some (.int c), e3, e4, e5, e6] ∧ st'[st.length]? = some (.lst (s.map RI.enc).reverse) ∧ Grow st st' ∧ (∀ x ∈ s, RIok (depD d) x) ∧ s.length ≤ 10 * (60 - lf) + 1 ∧ ruleGo lf s = ruleB d) ?_ WF 61 _ _ (by decide) ⟨60, 0, [⟨d, [], 0, 0⟩], none, none, none, none, rfl, by omega, Nat.le_refl _, rfl, hT, Grow.push, ?_, by simp, rfl⟩
  · rintro k fr st1 ⟨lf, c, s, e3, e4, e5, e6, rfl, hcl, hlf, rfl, hst, g, hok, hsl, hgo⟩
    have hpu : ∀ x ∈ (s.map RI.enc).reverse, purD x = true ∧ depD x ≤ 57 := by
      intro x hx
      rw [List.mem_reverse, List.mem_map] at hx
      obtain ⟨y, hy, rfl⟩ := hx
      have := hok y hy
      have := (RIok.enc ⟨this.pur, Nat.le_trans this.dep (Nat.le_max_left (depD d) 1), this.bs, this.len, this.dp⟩ (Nat.le_max_right _ _))
      exact ⟨this.1, by omega⟩
    have hst2 : (st1 ++ [O.lst []])[st.length]? = some (.lst (s.map RI.enc).reverse) := sto_old hst
    have hne := ne_nil hst2 sto_top (purDs_of fun x hx => (hpu x hx).1) (Nat.le_trans (depDs_le fun x hx => (hpu x hx).2) (by decide))
    refine wp_mono (?_ : R.wp _ fun p => p = (!(s.map RI.enc).reverse.isEmpty, st1 ++ [O.lst []])) ?_
    · simp only [seval, MP.sv0, MP.sv1, MP.sv2, MP.sv3, MP.sv4, MP.sv5, hne]
    rintro p rfl
    have g2 := g.trans (Grow.push (o := O.lst []))
    generalize st1 ++ [O.lst []] = st2 at hst2 g2
    cases s with
    | nil =>
      simp only [List.map_nil, List.reverse_nil, List.isEmpty_nil, Bool.not_true, if_false, Bool.false_eq_true]
      refine hK _ _ ?_
      refine ret_one ?_
      simp only [seval, MP.sv0, MP.sv1, MP.sv2, MP.sv3, MP.sv4, MP.sv5]
      have : ruleB d = true := by rw [← hgo]; cases lf <;> rfl
      rw [this] at q
      exact q _ g2
    | cons x s =>
      have hne : (((x :: s).map RI.enc).reverse).isEmpty = false := by simp
      simp only [hne, Bool.not_false, if_true]
      refine ⟨lf, rfl, ?_⟩
      clear hK K
      have hx := hok x List.mem_cons_self
      have hst2 : st2[st.length]? = some (.lst ((s.map RI.enc).reverse ++ [x.enc])) := by rw [hst2, List.map_cons, List.reverse_cons]
      refine stm_k fun K hK => ?_
      simp only [seval, MP.sv0, MP.sv1, MP.sv2, MP.sv3, MP.sv4, MP.sv5, kd_ref hst2, pop_ref hst2]
      obtain ⟨xd, bs, deep, rep⟩ := x
      have hsl1 : st.length < st2.length := (List.getElem?_eq_some_iff.mp hst2).1
      have hst3 := sto_set (o' := O.lst (s.map RI.enc).reverse) hst2
      have g3 := g2.new (f := st.length) (o := O.lst (s.map RI.enc).reverse) (Nat.le_refl _)
      generalize st2.set st.length (O.lst (s.map RI.enc).reverse) = st3 at hst3 g3
      simp only [RI.enc, seval, MP.sv0, MP.sv1, MP.sv2, MP.sv3, MP.sv4, MP.sv5]
      refine hK _ _ ?_
      clear hK K
      refine stm_k fun K hK => ?_
      simp only [seval, MP.sv0, MP.sv1, MP.sv2, MP.sv3, MP.sv4, MP.sv5]
      refine hK _ _ ?_
      clear hK K
      have hdd := hx.dep
      have hxs : Saf st3 xd := pur_saf st3 xd hx.pur
      dsimp only at hdd
      have hstep : ruleGo lf (⟨xd, bs, deep, rep⟩ :: s) = match lf with
        | 0 => false
        | k + 1 => decide (deep ≤ 12) && (decide (rep ≤ 2) && (formB xd && (varOk ⟨xd, bs, deep, rep⟩ && ruleGo k ((withinI ⟨xd, bs, deep, rep⟩).reverse ++ s)))) := by cases lf <;> rfl
      have hF : ∀ b : Bool, ruleB d = b → Q (.bl b, st3) := fun b e => by have := q _ g3; rw [e] at this; exact this
      cases lf with
      | zero =>
        refine take_if ?_ ?_
        · have : (60 < c + 1) = True := eq_true (by omega)
          simp only [seval, MP.sv0, MP.sv1, MP.sv2, MP.sv3, MP.sv4, MP.sv5, this, decide_true, if_true]
        refine ret_one ?_
        simp only [seval, MP.sv0, MP.sv1, MP.sv2, MP.sv3, MP.sv4, MP.sv5]
        exact hF _ (by rw [← hgo]; exact hstep)
      | succ lf =>
      replace hstep : ruleB d = (decide (deep ≤ 12) && (decide (rep ≤ 2) && (formB xd && (varOk ⟨xd, bs, deep, rep⟩ && ruleGo lf ((withinI ⟨xd, bs, deep, rep⟩).reverse ++ s))))) := hgo.symm.trans hstep
      have hc' : (60 < c + 1) = False := eq_false (by omega)
      by_cases h1 : deep ≤ 12
      rotate_left
      · refine take_if ?_ ?_
        · have : (12 < deep) = True := eq_true (by omega)
          simp only [seval, MP.sv0, MP.sv1, MP.sv2, MP.sv3, MP.sv4, MP.sv5, hc', this, decide_true, decide_false, if_true, if_false]
        refine ret_one ?_
        simp only [seval, MP.sv0, MP.sv1, MP.sv2, MP.sv3, MP.sv4, MP.sv5]
        exact hF _ (by rw [hstep, decide_eq_false h1]; rfl)
      rw [decide_eq_true h1, Bool.true_and] at hstep
      have h1' : (12 < deep) = False := eq_false (by omega)
      by_cases h2 : rep ≤ 2
      rotate_left
      · refine take_if ?_ ?_
        · have : (2 < rep) = True := eq_true (by omega)
          simp only [seval, MP.sv0, MP.sv1, MP.sv2, MP.sv3, MP.sv4, MP.sv5, hc', h1', this, decide_true, decide_false, if_true, if_false]
        refine ret_one ?_
        simp only [seval, MP.sv0, MP.sv1, MP.sv2, MP.sv3, MP.sv4, MP.sv5]
        exact hF _ (by rw [hstep, decide_eq_false h2]; rfl)
      rw [decide_eq_true h2, Bool.true_and] at hstep
      have h2' : (2 < rep) = False := eq_false (by omega)
      refine if_step (!formB xd) st3 ?_ ?_ ?_
      · simp only [seval, MP.sv0, MP.sv1, MP.sv2, MP.sv3, MP.sv4, MP.sv5, hc', h1', h2', decide_false, if_false]
        refine form_spec hfm hiw hms hnum htxt hsg hvr hbd hxs (by omega) ?_
        simp only [seval, MP.sv0, MP.sv1, MP.sv2, MP.sv3, MP.sv4, MP.sv5]
      · intro hf
        have hf : formB xd = false := by simpa using hf
        refine ret_one ?_
        simp only [seval, MP.sv0, MP.sv1, MP.sv2, MP.sv3, MP.sv4, MP.sv5]
        exact hF _ (by rw [hstep, hf]; rfl)
      intro hf
      have hf : formB xd = true := by simpa using hf
      rw [hf, Bool.true_and] at hstep
      rw [s_nil_w]
      obtain ⟨w, r, rfl, hr, hb⟩ := form_inv hf
      have hbs := hx.bs
      dsimp only at hbs
      refine if_step (!varOk ⟨.tup (.str w :: r), bs, deep, rep⟩) st3 ?_ ?_ ?_
      · simp only [seval, MP.sv0, MP.sv1, MP.sv2, MP.sv3, MP.sv4, MP.sv5]
        by_cases hw : w = sVar
        · obtain ⟨x, rfl⟩ := formVar hf hw
          subst hw
          have e : varOk ⟨.tup [.str sVar, .str x], bs, deep, rep⟩ = bs.any fun z => eqS z (.str x) := by
            unfold varOk
            simp
          rw [e]
          simp only [seval, MP.sv0, MP.sv1, MP.sv2, MP.sv3, MP.sv4, MP.sv5, mem_names hbs]
        · have e : varOk ⟨.tup (.str w :: r), bs, deep, rep⟩ = true := by
            unfold varOk
            simp [hw]
          rw [e]
          have : (w == sVar) = false := beq_eq_false_iff_ne.mpr hw
          have hw' : (w = ['v', 'a', 'r']) = False := eq_false hw
          simp only [hw', this, if_false, seval, MP.sv0, MP.sv1, MP.sv2, MP.sv3, MP.sv4, MP.sv5]
      · intro hv
        have hv : varOk ⟨.tup (.str w :: r), bs, deep, rep⟩ = false := by simpa using hv
        refine ret_one ?_
        simp only [seval, MP.sv0, MP.sv1, MP.sv2, MP.sv3, MP.sv4, MP.sv5]
        exact hF _ (by rw [hstep, hv]; rfl)
      intro hv
      have hv : varOk ⟨.tup (.str w :: r), bs, deep, rep⟩ = true := by simpa using hv
      rw [hv, Bool.true_and] at hstep
      rw [s_nil_w]
      simp only [seval, MP.sv0, MP.sv1, MP.sv2, MP.sv3, MP.sv4, MP.sv5]
      have hbl := hx.len
      dsimp only at hbl
      have hwo := fun y (hy : y ∈ withinI ⟨.tup (.str w :: r), bs, deep, rep⟩) => within_ok hx hf h1 hy
      have hwl : (withinI ⟨.tup (.str w :: r), bs, deep, rep⟩).length ≤ 8 := by
        rw [withinI, wiF_len, partsD]
        split
        · exact Nat.zero_le _
        · rw [List.length_drop]; omega
      rw [kd_ref hst3]
      simp only [seval, MP.sv0, MP.sv1, MP.sv2, MP.sv3, MP.sv4, MP.sv5]
      refine within_spec (x := ⟨.tup (.str w :: r), bs, deep, rep⟩) hwi hpt hbd rfl (by omega) (by dsimp only; omega) fun st4 g4 hst4 => ?_
      have hst5 := g4.at hst3
      simp only [seval, MP.sv0, MP.sv1, MP.sv2, MP.sv3, MP.sv4, MP.sv5, ext_ref hst5 hst4]
      have hsl5 := (List.getElem?_eq_some_iff.mp hst5).1
      rw [List.length_cons] at hsl
      refine ⟨by simp only [List.length_reverse, List.length_map]; omega, lf, c + 1, (withinI ⟨.tup (.str w :: r), bs, deep, rep⟩).reverse ++ s, _, _, _, _, rfl, by omega, by omega, rfl, ?_, (g3.trans g4).new (Nat.le_refl _), ?_, ?_, hstep.symm⟩
      · rw [sto_set hst5, List.map_append, List.reverse_append, List.map_reverse, List.reverse_reverse]
      · intro y hy
        rcases List.mem_append.mp hy with hy | hy
        · exact hwo y (List.mem_reverse.mp hy)
        · exact hok y (List.mem_cons_of_mem _ hy)
      · rw [List.length_append, List.length_reverse]; omega
  · intro x hx
    rw [List.mem_singleton] at hx
    subst hx
    exact ⟨hp, Nat.le_refl _, (fun b hb => by cases hb), Int.le_refl _, (by decide : (0 : Int) ≤ 13)⟩
end
end MP

set_option Elab.async false
set_option linter.all false
set_option maxRecDepth 100000
set_option maxHeartbeats 4000000
/-! MPLaw12: names: words, names, rooms; drawn names. -/
namespace MP
def fdIsWord : FD := ⟨1, 2,
    (.cons (.ife (.not (.chain .le .le (.c (.int 1)) (.bi .len (.cons (.v 0) .nil)) (.c (.int 12))))
    (.cons (.ret (.c (.bl false)))
    .nil)
    .nil)
    (.cons (.ret (.bi .all (.cons (.lc (.v 1) (.any (.v 0)) .nil (.op .mem (.v 1) (.c (.str ['a', 'b', 'c', 'd', 'e', 'f', 'g', 'h', 'i', 'j', 'k', 'l', 'm', 'n', 'o', 'p', 'q', 'r', 's', 't', 'u', 'v', 'w', 'x', 'y', 'z', '0', '1', '2', '3', '4', '5', '6', '7', '8', '9']))) [1]) .nil)))
    .nil))⟩
def fdIsName (c_is_word : Nat) : FD := ⟨1, 4,
    (.cons (.ife (.not (.isi (.v 0) .str))
    (.cons (.ret (.c (.bl false)))
    .nil)
    .nil)
    (.cons (.set (.tup (.cons (.v 1) (.cons (.v 2) (.cons (.v 3) .nil)))) (.bm .partition (.v 0) (.cons (.c (.str ['.'])) .nil)))
    (.cons (.ret (.and (.op .eq (.v 2) (.c (.str ['.']))) (.and (.call c_is_word (.cons (.v 1) .nil) []) (.call c_is_word (.cons (.v 3) .nil) []))))
    .nil)))⟩
def fdRoomOf : FD := ⟨1, 1,
    (.cons (.ret (.ix (.bm .partition (.v 0) (.cons (.c (.str ['.'])) .nil)) (.c (.int 0))))
    .nil)⟩
def fdNeedName (c_is_name : Nat) : FD := ⟨1, 1,
    (.cons (.ife (.not (.call c_is_name (.cons (.v 0) .nil) []))
    (.cons .nev
    .nil)
    .nil)
    .nil)⟩
def fdLLikes (c_law_take : Nat) : FD := ⟨2, 10,
    (.cons (.set (.v 2) (.c (.str ['a', 'b', 'c', 'd', 'e', 'f', 'g', 'h', 'i', 'j', 'k', 'l', 'm', 'n', 'o', 'p', 'q', 'r', 's', 't', 'u', 'v', 'w', 'x', 'y', 'z', '0', '1', '2', '3', '4', '5', '6', '7', '8', '9'])))
    (.cons (.set (.v 3) (.op .add (.c (.int 1)) (.call c_law_take (.cons (.v 0) (.cons (.c (.int 11)) .nil)) [])))
    (.cons (.set (.v 4) (.call c_law_take (.cons (.v 0) (.cons (.v 3) .nil)) []))
    (.cons (.set (.v 5) (.lc (.v 9) (.range1 (.v 3)) .nil (.ix (.v 2) (.call c_law_take (.cons (.v 0) (.cons (.c (.int 36)) .nil)) [])) [9]))
    (.cons (.set (.v 6) (.call c_law_take (.cons (.v 0) (.cons (.c (.int 36)) .nil)) []))
    (.cons (.set (.v 7) (.call c_law_take (.cons (.v 0) (.cons (.c (.int 2)) .nil)) []))
    (.cons (.set (.v 8) (.lst .nil))
    (.cons (.forr (.v 9) (.range1 (.v 1))
    (.cons (.setix (.v 5) (.v 4) (.ix (.v 2) (.op .mod (.op .add (.v 6) (.op .mul (.c (.int 7)) (.v 9))) (.c (.int 36)))))
    (.cons (.ex (.bm .append (.v 8) (.cons (.op .add (.bm .join (.c (.str [])) (.cons (.v 5) .nil)) (.op .mul (.c (.str ['0'])) (.op .mul (.v 7) (.op .mod (.v 9) (.c (.int 2)))))) .nil)))
    .nil)))
    (.cons (.ret (.v 8))
    .nil)))))))))⟩
def fdLNames (c_law_likes c_law_take : Nat) : FD := ⟨2, 6,
    (.cons (.set (.v 2) (.call c_law_likes (.cons (.v 0) (.cons (.op .add (.c (.int 1)) (.call c_law_take (.cons (.v 0) (.cons (.c (.int 3)) .nil)) [])) .nil)) []))
    (.cons (.set (.v 3) (.lst .nil))
    (.cons (.forr (.v 4) (.any (.call c_law_likes (.cons (.v 0) (.cons (.op .add (.c (.int 2)) (.call c_law_take (.cons (.v 0) (.cons (.c (.int 4)) .nil)) [])) .nil)) []))
    (.cons (.set (.v 3) (.op .add (.v 3) (.lc (.v 5) (.any (.v 2)) .nil (.op .add (.op .add (.v 5) (.c (.str ['.']))) (.v 4)) [5])))
    .nil))
    (.cons (.ret (.sl (.v 3) .no (.so (.op .add (.c (.int 2)) (.call c_law_take (.cons (.v 0) (.cons (.op .sub (.v 1) (.c (.int 1))) .nil)) [])))))
    .nil))))⟩
abbrev sgN : List Char := ['a', 'b', 'c', 'd', 'e', 'f', 'g', 'h', 'i', 'j', 'k', 'l', 'm', 'n', 'o', 'p', 'q', 'r', 's', 't', 'u', 'v', 'w', 'x', 'y', 'z', '0', '1', '2', '3', '4', '5', '6', '7', '8', '9']
def wordN (x : List Char) : Bool := decide (1 ≤ x.length) && decide (x.length ≤ 12) && x.all fun c => decide (c ∈ sgN)
def nameN (x : List Char) : Bool := match partF '.' x with
  | some p => wordN p.1 && wordN p.2
  | none => false
theorem wordN_iff {x : List Char} : wordN x = true ↔ 1 ≤ x.length ∧ x.length ≤ 12 ∧ ∀ c ∈ x, c ∈ sgN := by
  rw [wordN, Bool.and_eq_true, Bool.and_eq_true, decide_eq_true_eq, decide_eq_true_eq, List.all_eq_true]
  simp only [decide_eq_true_eq, and_assoc]
theorem partN_len {c : Char} : ∀ {x : List Char} {p : List Char × List Char}, partF c x = some p → p.1.length + p.2.length + 1 = x.length ∧ x = p.1 ++ c :: p.2 ∧ c ∉ p.1
  | [], p, h => by cases h
  | y :: r, p, h => by
    rw [partF] at h
    split at h
    · rename_i e
      cases h
      subst e
      exact ⟨by simp, rfl, by simp⟩
    · rename_i e
      cases hp : partF c r with
      | none => rw [hp] at h; cases h
      | some q =>
        rw [hp] at h
        cases h
        obtain ⟨h1, h2, h3⟩ := partN_len hp
        refine ⟨by simp only [List.length_cons]; omega, by rw [List.cons_append, ← h2], ?_⟩
        intro hm
        rcases List.mem_cons.mp hm with hm | hm
        · exact e hm.symm
        · exact h3 hm
theorem partN_app {c : Char} {a : List Char} (b : List Char) (h : c ∉ a) : partF c (a ++ c :: b) = some (a, b) := by
  induction a with
  | nil => simp [partF]
  | cons x a ih =>
    rw [List.cons_append, partF, if_neg (fun e => h (by rw [e]; exact List.mem_cons_self)), ih (fun hm => h (List.mem_cons_of_mem _ hm))]
    rfl
theorem findN {c : Char} {a : List Char} (b : List Char) (h : c ∉ a) : ∀ k, findF c k (a ++ c :: b) = (k + a.length : Nat) := by
  induction a with
  | nil => intro k; simp [findF]
  | cons x a ih =>
    intro k
    rw [List.cons_append, findF, if_neg (fun e => h (by rw [e]; exact List.mem_cons_self)), ih (fun hm => h (List.mem_cons_of_mem _ hm)), List.length_cons]
    congr 1
    omega
/-- a name of two words -/
structure NameOk (x : List Char) (r w : List Char) : Prop where
  eq : x = r ++ '.' :: w
  hr : wordN r = true
  hw : wordN w = true
theorem NameOk.dot {x r w : List Char} (h : NameOk x r w) : '.' ∉ r := fun hm => absurd ((wordN_iff.mp h.hr).2.2 _ hm) (by decide)
theorem NameOk.len {x r w : List Char} (h : NameOk x r w) : x.length ≤ 25 := by
  rw [h.eq, List.length_append, List.length_cons]
  have := (wordN_iff.mp h.hr).2.1
  have := (wordN_iff.mp h.hw).2.1
  omega
theorem NameOk.part {x r w : List Char} (h : NameOk x r w) : partF '.' x = some (r, w) := by rw [h.eq]; exact partN_app _ h.dot
theorem NameOk.name {x r w : List Char} (h : NameOk x r w) : nameN x = true := by rw [nameN, h.part]; dsimp only; rw [h.hr, h.hw]; rfl
theorem NameOk.find {x r w : List Char} (h : NameOk x r w) : findF '.' 0 x = r.length := by rw [h.eq, findN _ h.dot]; simp
theorem NameOk.cut {x r w : List Char} (h : NameOk x r w) : cutF x none (some (r.length : Int)) = r := by
  rw [h.eq, cutF]
  have e1 : slIx (r ++ '.' :: w).length 0 none = 0 := rfl
  have e2 : slIx (r ++ '.' :: w).length (r ++ '.' :: w).length (some (r.length : Int)) = r.length := by
    simp only [slIx, List.length_append, List.length_cons]
    rw [if_neg (by omega)]
    omega
  rw [e1, e2, List.drop_zero, Nat.sub_zero, List.take_append_of_le_length (Nat.le_refl _), List.take_length]
section
variable {P : Prog} {st : Sto} {Q : D × Sto → Prop} {n i : Nat}
theorem wordN_spec (h : P.fns[i]? = some fdIsWord) {x : List Char} (hx : x.length ≤ 1000) (q : ∀ st', Grow st st' → Q (.bl (wordN x), st')) : (callF P (n + 1) i [.str x] st).wp Q := by
  refine call_wp h rfl ?_
  simp only [fdIsWord, seval, MP.sv0, MP.sv1, MP.sv2, MP.sv3, MP.sv4, MP.sv5]
  refine ⟨by omega, ?_⟩
  have h0 : (¬ ((1 : Int) ≤ x.length ∧ (x.length : Int) ≤ 12) → wordN x = false) := by
    intro h
    unfold wordN
    by_cases h1 : 1 ≤ x.length
    · rw [decide_eq_false (show ¬ x.length ≤ 12 by omega)]; simp
    · rw [decide_eq_false h1]; simp
  split
  · split
    · have e := h0 (by omega)
      rw [e] at q
      exact q st Grow.refl
    · refine lc_map (fun d => match d with | .str [c] => .bl (decide (c ∈ sgN)) | _ => .non) _ _ ?_ (by simp [signsF]; have : SZ = 1000000 := rfl; omega) ?_
      · intro d hd
        simp only [signsF, List.mem_map] at hd
        obtain ⟨c, hc, rfl⟩ := hd
        simp only [seval, MP.sv0, MP.sv1, MP.sv2, MP.sv3, MP.sv4, MP.sv5, wipeF]
      · simp only [seval, MP.sv0, MP.sv1, MP.sv2, MP.sv3, MP.sv4, MP.sv5, signsF, List.map_map]
        have e : (st ++ [O.lst (List.map ((fun d => match d with | .str [c] => D.bl (decide (c ∈ sgN)) | _ => .non) ∘ fun c => D.str [c]) x)])[st.length]? = some (.lst ((x.map fun c => decide (c ∈ sgN)).map D.bl)) := by
          rw [sto_top, List.map_map]
          rfl
        simp only [id]
        rw [all_ref e, wp_ok]
        have e2 : wordN x = (x.map fun c => decide (c ∈ sgN)).all id := by
          unfold wordN
          rw [decide_eq_true (show 1 ≤ x.length by omega), decide_eq_true (show x.length ≤ 12 by omega), List.all_map]
          rfl
        rw [← e2]
        exact q _ Grow.push
  · have e := h0 (by omega)
    rw [e] at q
    exact q st Grow.refl
structure NameAt (P : Prog) (i : Nat) : Prop where
  ex : ∃ w, P.fns[i]? = some (fdIsName w) ∧ P.fns[w]? = some fdIsWord
def nameDN : D → Bool | .str x => nameN x | _ => false
theorem nameN_spec (h : NameAt P i) {d : D} (hs : Saf st d) (hx : ∀ x, d = .str x → x.length ≤ 1000) (q : ∀ st', Grow st st' → Q (.bl (nameDN d), st')) : (callF P (n + 2) i [d] st).wp Q := by
  obtain ⟨w, h, hw⟩ := h
  refine call_wp h rfl ?_
  simp only [fdIsName, seval, MP.sv0, MP.sv1, MP.sv2, MP.sv3, MP.sv4, MP.sv5, isi_str hs]
  cases d <;> simp only [isStr, seval, MP.sv0, MP.sv1, MP.sv2, MP.sv3, MP.sv4, MP.sv5] <;> try exact q st Grow.refl
  rename_i x
  have hx := hx x rfl
  refine ⟨by omega, ?_⟩
  simp only [nameDN, nameN] at q
  cases h : partF '.' x with
  | none =>
    rw [h] at q
    simp only [seval, MP.sv0, MP.sv1, MP.sv2, MP.sv3, MP.sv4, MP.sv5]
    exact q st Grow.refl
  | some p =>
    rw [h] at q
    obtain ⟨h1, _⟩ := partN_len h
    dsimp only at q
    simp only [seval, MP.sv0, MP.sv1, MP.sv2, MP.sv3, MP.sv4, MP.sv5]
    refine wordN_spec hw (by omega) fun st2 g2 => ?_
    simp only [seval, MP.sv0, MP.sv1, MP.sv2, MP.sv3, MP.sv4, MP.sv5]
    split
    · rename_i hw'
      refine wordN_spec hw (by omega) fun st3 g3 => ?_
      rw [hw', Bool.true_and] at q
      exact q st3 (g2.trans g3)
    · rename_i hw'
      have hw' : wordN p.1 = false := by simpa using hw'
      rw [hw', Bool.false_and] at q
      rw [hw']
      exact q st2 g2
theorem need_spec {nm : Nat} (h : P.fns[i]? = some (fdNeedName nm)) (hn : NameAt P nm) {x r w : List Char} (hx : NameOk x r w) (q : ∀ st', Grow st st' → Q (.non, st')) : (callF P (n + 3) i [.str x] st).wp Q := by
  refine call_wp h rfl ?_
  have hl := hx.len
  simp only [fdNeedName, seval, MP.sv0, MP.sv1, MP.sv2, MP.sv3, MP.sv4, MP.sv5]
  refine nameN_spec hn (show x.length ≤ 1000000 by omega) (fun y e => by cases e; omega) fun st' g => ?_
  simp only [nameDN, hx.name, seval, MP.sv0, MP.sv1, MP.sv2, MP.sv3, MP.sv4, MP.sv5]
  exact q _ g
theorem roomN_spec (h : P.fns[i]? = some fdRoomOf) {x r w : List Char} (hx : NameOk x r w) (q : Q (.str r, st)) : (callF P (n + 1) i [.str x] st).wp Q := by
  refine call_wp h rfl ?_
  have hl := hx.len
  simp only [fdRoomOf, seval, MP.sv0, MP.sv1, MP.sv2, MP.sv3, MP.sv4, MP.sv5, hx.part]
  exact ⟨by omega, q⟩
end
end MP

set_option Elab.async false
set_option linter.all false
set_option maxRecDepth 100000
set_option maxHeartbeats 4000000
/-! MPLaw13: drawn names. -/
namespace MP
theorem flat1N : ∀ (ys : List (List Char)), (∀ y ∈ ys, ∃ c ∈ sgN, y = [c]) → ys.flatten.length = ys.length ∧ (∀ c ∈ ys.flatten, c ∈ sgN) ∧ (ys.map (·.length)).sum = ys.length
  | [], _ => ⟨rfl, by simp, rfl⟩
  | y :: ys, h => by
    obtain ⟨c, hc, rfl⟩ := h y List.mem_cons_self
    obtain ⟨h1, h2, h3⟩ := flat1N ys fun z hz => h z (List.mem_cons_of_mem _ hz)
    refine ⟨by simp only [List.flatten_cons, List.length_append, List.length_cons, List.length_nil, h1]; omega, ?_, by simp only [List.map_cons, List.sum_cons, List.length_cons, List.length_nil, h3]; omega⟩
    intro d hd
    rw [List.flatten_cons] at hd
    rcases List.mem_append.mp hd with hd | hd
    · rw [List.mem_singleton.mp hd]; exact hc
    · exact h2 d hd
section
variable {P : Prog} {st : Sto} {Q : D × Sto → Prop} {n i : Nat}
theorem ix_sg {v : Int} (h0 : 0 ≤ v) (h1 : v < 36) : ∃ c ∈ sgN, ixF st (.str sgN) (.int v) = some (.str [c]) := by
  have hvl : v.toNat < sgN.length := by show v.toNat < 36; omega
  exact ⟨_, List.getElem_mem hvl, ix_str (a := sgN) (by decide) h0 (List.getElem?_eq_getElem hvl)⟩
theorem likes_spec {tk : Nat} (h : P.fns[i]? = some (fdLLikes tk)) (ht : P.fns[tk]? = some fdTake) {b : Nat} (hb : Box st b) {tot : Int} (h0 : 0 ≤ tot) (h1 : tot ≤ 100)
    (q : ∀ (ws : List (List Char)) (f : Nat) st', (ws.length : Int) = tot → (∀ w ∈ ws, wordN w = true) → st'[f]? = some (.lst (ws.map .str)) → st.length ≤ f → Box st' b → Keep b st st' → Q (.ref f, st')) : (callF P (n + 2) i [.ref b, .int tot] st).wp Q := by
  have hsz : SZ = 1000000 := rfl
  refine call_wp h rfl ?_
  simp only [fdLLikes, start_cons, start0, repS, rep0]
  refine stm_k fun K hK => ?_
  simp only [seval, MP.sv0, MP.sv1, MP.sv2, MP.sv3, MP.sv4, MP.sv5]
  refine hK _ _ ?_
  clear hK K
  refine stm_k fun K hK => ?_
  simp only [seval, MP.sv0, MP.sv1, MP.sv2, MP.sv3, MP.sv4, MP.sv5]
  refine take_spec ht hb (by decide) (by decide) fun wd st1 hw0 hw1 hb1 kp1 hl1 => ?_
  simp only [seval, MP.sv0, MP.sv1, MP.sv2, MP.sv3, MP.sv4, MP.sv5]
  refine hK _ _ ?_
  clear hK K
  refine stm_k fun K hK => ?_
  simp only [seval, MP.sv0, MP.sv1, MP.sv2, MP.sv3, MP.sv4, MP.sv5]
  refine take_spec ht hb1 (by omega) (by omega) fun sp st2 hs0 hs1 hb2 kp2 hl2 => ?_
  simp only [seval, MP.sv0, MP.sv1, MP.sv2, MP.sv3, MP.sv4, MP.sv5]
  refine hK _ _ ?_
  clear hK K
  refine stm_k fun K hK => ?_
  simp only [seval, MP.sv0, MP.sv1, MP.sv2, MP.sv3, MP.sv4, MP.sv5]
  refine ⟨by omega, by omega, ?_⟩
  refine lc_range (I := fun j acc st3 => ∃ ys : List (List Char), acc = ys.map .str ∧ ys.length = j ∧ (∀ y ∈ ys, ∃ c ∈ sgN, y = [c]) ∧ Box st3 b ∧ Keep b st st3) (by omega) ?_ ?_ ⟨[], rfl, rfl, by simp, hb2, kp1.trans kp2⟩
  · rintro j acc st3 hj ha ⟨ys, rfl, hl, hy, hb3, kp3⟩
    simp only [seval, MP.sv0, MP.sv1, MP.sv2, MP.sv3, MP.sv4, MP.sv5, wipeF]
    refine take_spec ht hb3 (by decide) (by decide) fun v st4 hv0 hv1 hb4 kp4 hl4 => ?_
    obtain ⟨c, hc, e⟩ := ix_sg (st := st4) hv0 hv1
    simp only [e, seval, MP.sv0, MP.sv1, MP.sv2, MP.sv3, MP.sv4, MP.sv5]
    refine ⟨ys ++ [[c]], by rw [List.map_append]; rfl, by simp [hl], ?_, hb4, kp3.trans kp4⟩
    intro y hy2
    rcases List.mem_append.mp hy2 with h | h
    · exact hy y h
    · exact ⟨c, hc, List.mem_singleton.mp h⟩
  rintro acc st3 ⟨ys, rfl, hl, hy, hb3, kp3⟩
  simp only [seval, MP.sv0, MP.sv1, MP.sv2, MP.sv3, MP.sv4, MP.sv5, id]
  refine hK _ _ ?_
  clear hK K
  have hbl3 := hb3.lt
  have hL4 : (st3 ++ [O.lst (ys.map .str)])[st3.length]? = some (.lst (ys.map .str)) := sto_top
  have hb4 : Box (st3 ++ [O.lst (ys.map .str)]) b := Grow.push.box hb3
  have kp4 : Keep b st (st3 ++ [O.lst (ys.map .str)]) := kp3.trans Keep.push
  have hLs : st.length ≤ st3.length := kp3.1
  generalize hLe : st3.length = L at hL4 hbl3 hLs
  generalize st3 ++ [O.lst (ys.map .str)] = st4 at hL4 hb4 kp4
  clear hLe hb3 kp3
  refine stm_k fun K hK => ?_
  simp only [seval, MP.sv0, MP.sv1, MP.sv2, MP.sv3, MP.sv4, MP.sv5]
  refine take_spec ht hb4 (by decide) (by decide) fun fi st5 hf0 hf1 hb5 kp5 hl5 => ?_
  simp only [seval, MP.sv0, MP.sv1, MP.sv2, MP.sv3, MP.sv4, MP.sv5]
  refine hK _ _ ?_
  clear hK K
  refine stm_k fun K hK => ?_
  simp only [seval, MP.sv0, MP.sv1, MP.sv2, MP.sv3, MP.sv4, MP.sv5]
  refine take_spec ht hb5 (by decide) (by decide) fun mo st6 hm0 hm1 hb6 kp6 hl6 => ?_
  simp only [seval, MP.sv0, MP.sv1, MP.sv2, MP.sv3, MP.sv4, MP.sv5]
  refine hK _ _ ?_
  clear hK K
  refine stm_k fun K hK => ?_
  simp only [seval, MP.sv0, MP.sv1, MP.sv2, MP.sv3, MP.sv4, MP.sv5]
  refine hK _ _ ?_
  clear hK K
  have hL6 := kp6.at (kp5.at hL4 (by omega)) (by omega)
  have hLl := (List.getElem?_eq_some_iff.mp hL6).1
  have kp7 := ((kp4.trans kp5).trans kp6).trans (Keep.push (o := O.lst []))
  refine stm_k fun K hK => ?_
  simp only [seval, MP.sv0, MP.sv1, MP.sv2, MP.sv3, MP.sv4, MP.sv5]
  refine ⟨by omega, by omega, ?_⟩
  refine for_range (I := fun j fr st7 => ∃ (zs ws : List (List Char)) (e9 : Option D), fr = [some (.ref b), some (.int tot), some (.str sgN), some (.int (1 + wd)), some (.int sp), some (.ref L), some (.int fi), some (.int mo), some (.ref st6.length), e9] ∧
    st7[L]? = some (.lst (zs.map .str)) ∧ (zs.length : Int) = 1 + wd ∧ (∀ y ∈ zs, ∃ c ∈ sgN, y = [c]) ∧ st7[st6.length]? = some (.lst (ws.map .str)) ∧ ws.length = j ∧ (∀ w ∈ ws, wordN w = true) ∧ Box st7 b ∧ Keep b st st7) ?_ ?_ ⟨ys, [], none, rfl, sto_old hL6, by omega, hy, sto_top, rfl, by simp, Grow.push.box hb6, kp7⟩
  · rintro j fr st7 hj ⟨zs, ws, e9, rfl, hL, hzl, hzs, hF, hwl, hws, hb7, kp7⟩
    have hFl := (List.getElem?_eq_some_iff.mp hF).1
    have hLl7 := (List.getElem?_eq_some_iff.mp hL).1
    refine stm_k fun K hK => ?_
    simp only [seval, MP.sv0, MP.sv1, MP.sv2, MP.sv3, MP.sv4, MP.sv5]
    refine ⟨mul_ok (by decide) (by omega), ?_⟩
    obtain ⟨c, hc, e⟩ := ix_sg (st := st7) (v := (fi + 7 * (0 + (j : Int))) % 36) (by omega) (by omega)
    simp only [e, seval, MP.sv0, MP.sv1, MP.sv2, MP.sv3, MP.sv4, MP.sv5]
    rw [setix_ref hL hs0 (by rw [List.length_map]; omega)]
    refine ⟨_, rfl, hK _ _ ?_⟩
    clear hK K
    have hne : L ≠ st6.length := by omega
    have hLz : (st7.set L (O.lst ((zs.map D.str).set sp.toNat (.str [c]))))[L]? = some (.lst ((zs.set sp.toNat [c]).map .str)) := by rw [sto_set hL, List.map_set]
    have hFz : (st7.set L (O.lst ((zs.map D.str).set sp.toNat (.str [c]))))[st6.length]? = some (.lst (ws.map .str)) := by rw [List.getElem?_set_ne hne]; exact hF
    have hb8 : Box (st7.set L (O.lst ((zs.map D.str).set sp.toNat (.str [c])))) b := hb7.keep (c := L) Keep.set (by omega)
    have kp8 : Keep b st (st7.set L (O.lst ((zs.map D.str).set sp.toNat (.str [c])))) := kp7.new hLs
    generalize st7.set L (O.lst ((zs.map D.str).set sp.toNat (.str [c]))) = st8 at hLz hFz hb8 kp8
    have hzs2 : ∀ y ∈ zs.set sp.toNat [c], ∃ c ∈ sgN, y = [c] := by
      intro y hy
      rcases List.mem_or_eq_of_mem_set hy with hy | hy
      · exact hzs y hy
      · exact ⟨c, hc, hy⟩
    have hzl2 : (((zs.set sp.toNat [c]).length : Nat) : Int) = 1 + wd := by rw [List.length_set]; exact hzl
    generalize zs.set sp.toNat [c] = zs2 at hLz hzs2 hzl2
    obtain ⟨f1, f2, f3⟩ := flat1N zs2 hzs2
    simp only [seval, MP.sv0, MP.sv1, MP.sv2, MP.sv3, MP.sv4, MP.sv5, kd_ref hFz, join_ref hLz, join0]
    have hm01 : mo = 0 ∨ mo = 1 := by omega
    have hj01 : (0 + (j : Int)) % 2 = 0 ∨ (0 + (j : Int)) % 2 = 1 := by omega
    have hmu : mo * ((0 + (j : Int)) % 2) = 0 ∨ mo * ((0 + (j : Int)) % 2) = 1 := by
      rcases hm01 with rfl | rfl
      · exact .inl (Int.zero_mul _)
      · rcases hj01 with e | e
        · rw [e]; exact .inl rfl
        · rw [e]; exact .inr rfl
    refine ⟨by rw [f3]; simp; omega, mul_ok (by omega) (by omega), ?_⟩
    generalize mo * ((0 + (j : Int)) % 2) = mu at hmu
    have hr0 : repF mu.toNat ['0'] = List.replicate mu.toNat '0' := repF_one '0' _
    rw [hr0]
    refine ⟨by omega, by omega, by simp; omega, ?_⟩
    rw [List.length_replicate]
    refine ⟨by rw [f1]; omega, ?_⟩
    rw [ap_ref hFz]
    refine ⟨by rw [List.length_map]; omega, zs2, ws ++ [zs2.flatten ++ List.replicate mu.toNat '0'], _, rfl, ?_, hzl2, hzs2, by rw [sto_set hFz, List.map_append]; rfl, by simp [hwl], ?_, hb8.keep (c := st6.length) Keep.set (by omega), kp8.new (by omega)⟩
    · rw [List.getElem?_set_ne hne.symm]; exact hLz
    · intro w hw
      rcases List.mem_append.mp hw with hw | hw
      · exact hws w hw
      · rw [List.mem_singleton.mp hw, wordN_iff]
        refine ⟨by rw [List.length_append, f1]; omega, by rw [List.length_append, f1, List.length_replicate]; omega, ?_⟩
        intro c hc
        rcases List.mem_append.mp hc with hc | hc
        · exact f2 c hc
        · rw [List.eq_of_mem_replicate hc]; decide
  · rintro fr st7 ⟨zs, ws, e9, rfl, hL, hzl, hzs, hF, hwl, hws, hb7, kp7⟩
    simp only [seval, MP.sv0, MP.sv1, MP.sv2, MP.sv3, MP.sv4, MP.sv5, id]
    refine hK _ _ ?_
    refine ret_one ?_
    simp only [seval, MP.sv0, MP.sv1, MP.sv2, MP.sv3, MP.sv4, MP.sv5]
    exact q ws _ _ (by omega) hws hF (by omega) hb7 kp7
theorem sl_refN {r : Nat} {xs : List D} {lo hi : Option Int} (h : st[r]? = some (.lst xs)) : slF st (.ref r) lo hi = .ok (.ref st.length, st ++ [.lst (cutF xs lo hi)]) := by simp only [slF, h, newF]
theorem cut_map {α β : Type} {f : α → β} {xs : List α} {lo hi : Option Int} : cutF (xs.map f) lo hi = (cutF xs lo hi).map f := by
  simp only [cutF, List.length_map, List.map_take, List.map_drop]
theorem cut_head {α : Type} {xs : List α} {m : Nat} : cutF xs none (some (m : Int)) = xs.take m := by
  have e1 : slIx xs.length 0 none = 0 := rfl
  have e2 : slIx xs.length xs.length (some (m : Int)) = min m xs.length := by
    simp only [slIx]
    rw [if_neg (by omega)]
    simp
  rw [cutF, e1, e2, List.drop_zero, Nat.sub_zero]
  by_cases h : m ≤ xs.length
  · rw [Nat.min_eq_left h]
  · rw [Nat.min_eq_right (by omega), List.take_length, List.take_of_length_le (by omega)]
def IsName (x : List Char) : Prop := ∃ r w, NameOk x r w
theorem names_spec {lk tk : Nat} (h : P.fns[i]? = some (fdLNames lk tk)) (hl : P.fns[lk]? = some (fdLLikes tk)) (ht : P.fns[tk]? = some fdTake) {b : Nat} (hb : Box st b) {mst : Int} (h0 : 2 ≤ mst) (h1 : mst ≤ 100)
    (q : ∀ (xs : List (List Char)) (f : Nat) st', 2 ≤ xs.length → (xs.length : Int) ≤ mst → (∀ x ∈ xs, IsName x) → st'[f]? = some (.lst (xs.map .str)) → st.length ≤ f → Box st' b → Keep b st st' → Q (.ref f, st')) : (callF P (n + 3) i [.ref b, .int mst] st).wp Q := by
  have hsz : SZ = 1000000 := rfl
  refine call_wp h rfl ?_
  simp only [fdLNames, start_cons, start0, repS, rep0]
  refine stm_k fun K hK => ?_
  simp only [seval, MP.sv0, MP.sv1, MP.sv2, MP.sv3, MP.sv4, MP.sv5]
  refine take_spec ht hb (by decide) (by decide) fun a st1 ha0 ha1 hb1 kp1 hl1 => ?_
  simp only [seval, MP.sv0, MP.sv1, MP.sv2, MP.sv3, MP.sv4, MP.sv5]
  refine likes_spec hl ht hb1 (by omega) (by omega) fun rs f1 st2 hrl hrs hf1 hfl1 hb2 kp2 => ?_
  simp only [seval, MP.sv0, MP.sv1, MP.sv2, MP.sv3, MP.sv4, MP.sv5]
  refine hK _ _ ?_
  clear hK K
  refine stm_k fun K hK => ?_
  simp only [seval, MP.sv0, MP.sv1, MP.sv2, MP.sv3, MP.sv4, MP.sv5]
  refine hK _ _ ?_
  clear hK K
  have hb3 : Box (st2 ++ [O.lst []]) b := Grow.push.box hb2
  have hf13 : (st2 ++ [O.lst []])[f1]? = some (.lst (rs.map .str)) := sto_old hf1
  have hn3 : (st2 ++ [O.lst []])[st2.length]? = some (.lst (([] : List (List Char)).map .str)) := sto_top
  have kp3 := (kp1.trans kp2).trans (Keep.push (b := b) (o := O.lst []))
  have hbl := hb.lt
  have hbf1 : b ≠ f1 := by have := hb1.lt; omega
  have hfn : st.length ≤ st2.length := (kp1.trans kp2).1
  generalize hne : st2.length = N at hn3 hfn
  generalize st2 ++ [O.lst []] = st3 at hb3 hf13 hn3 kp3
  refine stm_k fun K hK => ?_
  simp only [seval, MP.sv0, MP.sv1, MP.sv2, MP.sv3, MP.sv4, MP.sv5]
  refine take_spec ht hb3 (by decide) (by decide) fun c st4 hc0 hc1 hb4 kp4 hl4 => ?_
  simp only [seval, MP.sv0, MP.sv1, MP.sv2, MP.sv3, MP.sv4, MP.sv5]
  refine likes_spec hl ht hb4 (by omega) (by omega) fun ws f2 st5 hwl hws hf2 hfl2 hb5 kp5 => ?_
  simp only [seval, MP.sv0, MP.sv1, MP.sv2, MP.sv3, MP.sv4, MP.sv5]
  rw [wk_ref hf2]
  simp only [seval, MP.sv0, MP.sv1, MP.sv2, MP.sv3, MP.sv4, MP.sv5]
  have kp35 := kp4.trans kp5
  have hN : b ≠ N := by omega
  have hn5 := kp35.at hn3 (Ne.symm hN)
  have hf15 := kp35.at hf13 (Ne.symm hbf1)
  have hf2b : b ≠ f2 := by have := hb4.lt; omega
  refine for_wp (I := fun ds fr st' => ∃ (vs : List (List Char)) (xs : List (List Char)) (g : Nat) (e4 e5 : Option D), fr = [some (.ref b), some (.int mst), some (.ref f1), some (.ref g), e4, e5] ∧ ds = vs.map .str ∧ (∀ w ∈ vs, wordN w = true) ∧ vs.length ≤ 5 ∧ xs.length + 3 * vs.length ≤ 15 ∧ (xs.length : Int) + (1 + a) * vs.length = (1 + a) * (2 + c) ∧ (∀ x ∈ xs, IsName x) ∧ st'[g]? = some (.lst (xs.map .str)) ∧ st'[f1]? = some (.lst (rs.map .str)) ∧ st'[f2]? = some (.lst (ws.map .str)) ∧ st.length ≤ g ∧ Box st' b ∧ Keep b st st') ?_ ?_ ?_ _ _ _ ⟨ws, [], N, none, none, rfl, rfl, hws, by omega, by simp only [List.length_nil]; omega, by rw [hwl]; simp, by simp, hn5, hf15, hf2, hfn, hb5, kp3.trans kp35⟩
  · rintro ds fr st' ⟨vs, xs, g, e4, e5, -, -, -, -, -, -, -, -, -, hh, -⟩
    exact stands_at hh
  · rintro d ds fr st' ⟨vs, xs, g, e4, e5, rfl, hds, hvs, hv5, hv15, hcnt, hxs, hg, hf1', hf2', hgl, hb', kp'⟩
    cases vs with
    | nil => cases hds
    | cons v vs =>
      rw [List.map_cons] at hds
      injection hds with hd1 hd2
      subst hd1 hd2
      rw [List.length_cons] at hv5
      have hvl := (wordN_iff.mp (hvs v List.mem_cons_self)).2.1
      simp only [seval, MP.sv0, MP.sv1, MP.sv2, MP.sv3, MP.sv4, MP.sv5]
      rw [wk_ref hf1']
      simp only [seval, MP.sv0, MP.sv1, MP.sv2, MP.sv3, MP.sv4, MP.sv5]
      refine lc_growk (st0 := st') (fun d => match d with | .str r => .str (r ++ '.' :: v) | _ => .non) (fun s g => stands_at (g.at hf1')) _ _ _ Grow.refl ?_ (by simp only [List.length_nil, List.length_map]; omega) ?_
      · intro d hd s g
        obtain ⟨r, hr, rfl⟩ := List.mem_map.mp hd
        have hrl := (wordN_iff.mp (hrs r hr)).2.1
        simp only [seval, MP.sv0, MP.sv1, MP.sv2, MP.sv3, MP.sv4, MP.sv5, wipeF]
        refine ⟨by omega, by simp; omega, ?_, Grow.refl⟩
        simp
      · intro st6 g6
        have hb6 := g6.box hb'
        have hg6 := g6.at hg
        have hf16 := g6.at hf1'
        have hf26 := g6.at hf2'
        have kp6 := kp'.trans (g6.keep b)
        simp only [seval, MP.sv0, MP.sv1, MP.sv2, MP.sv3, MP.sv4, MP.sv5, id, List.map_map]
        have e : ((fun d => match d with | .str r => D.str (r ++ '.' :: v) | _ => .non) ∘ D.str) = D.str ∘ fun r => r ++ '.' :: v := by funext r; rfl
        rw [e, ← List.map_map]
        rw [add_ref (sto_old hg6) sto_top]
        refine ⟨by simp only [List.length_map]; rw [List.length_cons] at hv15; omega, vs, xs ++ rs.map fun r => r ++ '.' :: v, _, _, _, rfl, rfl, fun w hw => hvs w (List.mem_cons_of_mem _ hw), by omega, by rw [List.length_append, List.length_map]; rw [List.length_cons] at hv15; omega, ?_, ?_, ?_, sto_old (sto_old hf16), sto_old (sto_old hf26), ?_, (Grow.push.trans Grow.push).box hb6, (kp6.trans Keep.push).trans Keep.push⟩
        · rw [List.length_append, List.length_map]
          rw [List.length_cons] at hcnt
          push_cast at hcnt ⊢
          rw [hrl, ← hcnt, Int.mul_add]
          omega
        · intro x hx
          rcases List.mem_append.mp hx with hx | hx
          · exact hxs x hx
          · obtain ⟨r, hr, rfl⟩ := List.mem_map.mp hx
            exact ⟨r, v, rfl, hrs r hr, hvs v List.mem_cons_self⟩
        · rw [sto_top, List.map_append]
        · have := kp6.1
          simp only [List.length_append, List.length_cons, List.length_nil]
          omega
  · rintro fr st' ⟨vs, xs, g, e4, e5, rfl, hds, hvs, hv5, hv15, hcnt, hxs, hg, hf1', hf2', hgl, hb', kp'⟩
    have : vs = [] := by cases vs with | nil => rfl | cons v vs => cases hds
    subst this
    simp only [id]
    refine hK _ _ ?_
    clear hK K
    refine ret_one ?_
    simp only [seval, MP.sv0, MP.sv1, MP.sv2, MP.sv3, MP.sv4, MP.sv5]
    refine take_spec ht hb' (by omega) (by omega) fun m st6 hm0 hm1 hb6 kp6 hl6 => ?_
    have hg6 := kp6.at hg (by omega)
    simp only [seval, MP.sv0, MP.sv1, MP.sv2, MP.sv3, MP.sv4, MP.sv5]
    rw [sl_refN hg6]
    simp only [seval, MP.sv0, MP.sv1, MP.sv2, MP.sv3, MP.sv4, MP.sv5]
    obtain ⟨k, rfl⟩ : ∃ k : Nat, m = k := ⟨m.toNat, by omega⟩
    rw [cut_map, show (2 : Int) + k = ((2 + k : Nat) : Int) by omega, cut_head]
    have hx2 : 2 ≤ xs.length := by
      have : (xs.length : Int) = (1 + a) * (2 + c) := by simpa using hcnt
      have h3 : (2 : Int) ≤ (1 + a) * (2 + c) := by
        have ha3 : a = 0 ∨ a = 1 ∨ a = 2 := by omega
        rcases ha3 with rfl | rfl | rfl <;> omega
      omega
    refine q (xs.take (2 + k)) _ _ (by rw [List.length_take]; omega) (by rw [List.length_take]; omega) (fun x hx => hxs x (List.mem_of_mem_take hx)) sto_top (by have := (kp'.trans kp6).1; omega) (Grow.push.box hb6) ((kp'.trans kp6).trans Keep.push)
end
end MP

set_option Elab.async false
set_option linter.all false
set_option maxRecDepth 100000
set_option maxHeartbeats 4000000
/-! MPLaw14: houses: drawn rules, deeds. -/
namespace MP
def fdLRule (c_law_take c_law_worth c_law_number : Nat) : FD := ⟨2, 4,
    (.cons (.set (.v 2) (.call c_law_take (.cons (.v 0) (.cons (.c (.int 4)) .nil)) []))
    (.cons (.ife (.op .eq (.v 2) (.c (.int 0)))
    (.cons (.ret (.tup (.cons (.c (.str ['l', 'i', 't'])) (.cons (.call c_law_worth (.cons (.v 0) (.cons (.c (.int 8)) (.cons (.c (.int 2)) .nil))) []) .nil))))
    .nil)
    .nil)
    (.cons (.set (.v 3) (.tup (.cons (.c (.str ['l', 'o', 'o', 'k'])) (.cons (.tup (.cons (.c (.str ['l', 'i', 't'])) (.cons (.ix (.v 1) (.call c_law_take (.cons (.v 0) (.cons (.bi .len (.cons (.v 1) .nil)) .nil)) [])) .nil))) .nil))))
    (.cons (.ife (.op .eq (.v 2) (.c (.int 1)))
    (.cons (.ret (.v 3))
    .nil)
    .nil)
    (.cons (.ife (.op .eq (.v 2) (.c (.int 2)))
    (.cons (.ret (.tup (.cons (.c (.str ['e', 'l', 's', 'e'])) (.cons (.v 3) (.cons (.tup (.cons (.c (.str ['l', 'i', 't'])) (.cons (.call c_law_number (.cons (.v 0) .nil) []) .nil))) .nil)))))
    .nil)
    .nil)
    (.cons (.ret (.tup (.cons (.c (.str ['l', 'i', 's', 't'])) (.cons (.v 3) (.cons (.tup (.cons (.c (.str ['l', 'o', 'o', 'k'])) (.cons (.tup (.cons (.c (.str ['l', 'i', 't'])) (.cons (.ix (.v 1) (.call c_law_take (.cons (.v 0) (.cons (.bi .len (.cons (.v 1) .nil)) .nil)) [])) .nil))) .nil))) .nil)))))
    .nil))))))⟩
def fdLFirst (c_law_take c_law_worth c_law_rule : Nat) : FD := ⟨2, 6,
    (.cons (.set (.v 2) (.lst .nil))
    (.cons (.forr (.v 3) (.any (.v 1))
    (.cons (.set (.v 4) (.call c_law_take (.cons (.v 0) (.cons (.c (.int 6)) .nil)) []))
    (.cons (.ife (.or (.op .eq (.v 4) (.c (.int 1))) (.op .eq (.v 4) (.c (.int 2))))
    (.cons (.ex (.bm .append (.v 2) (.cons (.tup (.cons (.c (.str ['p', 'u', 't'])) (.cons (.v 3) (.cons (.call c_law_worth (.cons (.v 0) (.cons (.c (.int 10)) (.cons (.c (.int 2)) .nil))) []) .nil)))) .nil)))
    .nil)
    .nil)
    (.cons (.ife (.op .gt (.v 4) (.c (.int 2)))
    (.cons (.ex (.bm .append (.v 2) (.cons (.tup (.cons (.c (.str ['r', 'u', 'l', 'e'])) (.cons (.v 3) (.cons (.call c_law_rule (.cons (.v 0) (.cons (.v 1) .nil)) []) .nil)))) .nil)))
    .nil)
    .nil)
    (.cons (.ife (.op .eq (.call c_law_take (.cons (.v 0) (.cons (.c (.int 3)) .nil)) []) (.c (.int 0)))
    (.cons (.ex (.bm .append (.v 2) (.cons (.tup (.cons (.c (.str ['o', 'p', 'e', 'n'])) (.cons (.v 3) .nil))) .nil)))
    .nil)
    .nil)
    .nil)))))
    (.cons (.ret (.op .add (.v 2) (.lc (.v 5) (.range1 (.op .add (.c (.int 1)) (.call c_law_take (.cons (.v 0) (.cons (.c (.int 3)) .nil)) []))) .nil (.tup (.cons (.c (.str ['w', 'i', 's', 'h'])) (.cons (.ix (.v 1) (.call c_law_take (.cons (.v 0) (.cons (.bi .len (.cons (.v 1) .nil)) .nil)) [])) .nil))) [5])))
    .nil)))⟩
def fdLDeed (c_law_take c_law_worth c_law_rule : Nat) : FD := ⟨2, 4,
    (.cons (.set (.v 2) (.ix (.v 1) (.call c_law_take (.cons (.v 0) (.cons (.bi .len (.cons (.v 1) .nil)) .nil)) [])))
    (.cons (.set (.v 3) (.call c_law_take (.cons (.v 0) (.cons (.c (.int 12)) .nil)) []))
    (.cons (.ife (.op .lt (.v 3) (.c (.int 2)))
    (.cons (.ret (.tup (.cons (.c (.str ['p', 'u', 't'])) (.cons (.v 2) (.cons (.call c_law_worth (.cons (.v 0) (.cons (.c (.int 10)) (.cons (.c (.int 2)) .nil))) []) .nil)))))
    .nil)
    .nil)
    (.cons (.ife (.op .lt (.v 3) (.c (.int 6)))
    (.cons (.ret (.tup (.cons (.c (.str ['r', 'u', 'l', 'e'])) (.cons (.v 2) (.cons (.call c_law_rule (.cons (.v 0) (.cons (.v 1) .nil)) []) .nil)))))
    .nil)
    .nil)
    (.cons (.ret (.tup (.cons (.ix (.lst (.cons (.c (.str ['d', 'r', 'o', 'p'])) (.cons (.c (.str ['o', 'p', 'e', 'n'])) (.cons (.c (.str ['s', 'h', 'u', 't'])) (.cons (.c (.str ['w', 'i', 's', 'h'])) (.cons (.c (.str ['w', 'i', 's', 'h'])) (.cons (.c (.str ['l', 'e', 't'])) .nil))))))) (.op .sub (.v 3) (.c (.int 6)))) (.cons (.v 2) .nil))))
    .nil)))))⟩
def fdLDo : FD := ⟨2, 6,
    (.cons (.set (.v 2) (.ix (.v 1) (.c (.int 1))))
    (.cons (.ife (.op .mem (.ix (.v 1) (.c (.int 0))) (.tup (.cons (.c (.str ['p', 'u', 't'])) (.cons (.c (.str ['r', 'u', 'l', 'e'])) (.cons (.c (.str ['d', 'r', 'o', 'p'])) .nil)))))
    (.cons (.ex (.bm .pop (.ix (.v 0) (.c (.int 0))) (.cons (.v 2) (.cons (.c .non) .nil))))
    (.cons (.ex (.bm .pop (.ix (.v 0) (.c (.int 1))) (.cons (.v 2) (.cons (.c .non) .nil))))
    .nil))
    .nil)
    (.cons (.ife (.op .eq (.bi .len (.cons (.v 1) .nil)) (.c (.int 3)))
    (.cons (.setix (.ix (.v 0) (.bi .int (.cons (.op .eq (.ix (.v 1) (.c (.int 0))) (.c (.str ['r', 'u', 'l', 'e']))) .nil))) (.v 2) (.ix (.v 1) (.c (.int 2))))
    .nil)
    .nil)
    (.cons (.forr (.tup (.cons (.v 3) (.cons (.v 4) (.cons (.v 5) .nil)))) (.any (.lst (.cons (.tup (.cons (.c (.str ['o', 'p', 'e', 'n'])) (.cons (.c (.str ['s', 'h', 'u', 't'])) (.cons (.ix (.v 0) (.c (.int 2))) .nil)))) (.cons (.tup (.cons (.c (.str ['w', 'i', 's', 'h'])) (.cons (.c (.str ['l', 'e', 't'])) (.cons (.ix (.v 0) (.c (.int 3))) .nil)))) .nil))))
    (.cons (.ife (.and (.op .eq (.ix (.v 1) (.c (.int 0))) (.v 3)) (.op .nmem (.v 2) (.v 5)))
    (.cons (.ex (.bm .append (.v 5) (.cons (.v 2) .nil)))
    .nil)
    .nil)
    (.cons (.ife (.and (.op .eq (.ix (.v 1) (.c (.int 0))) (.v 4)) (.op .mem (.v 2) (.v 5)))
    (.cons (.ex (.bm .remove (.v 5) (.cons (.v 2) .nil)))
    .nil)
    .nil)
    .nil)))
    .nil))))⟩
def fdHouseInit : FD := ⟨1, 1,
    (.cons (.setfld (.v 0) 0 (.dic .nil))
    (.cons (.setfld (.v 0) 1 (.dic .nil))
    (.cons (.setfld (.v 0) 2 (.lst .nil))
    (.cons (.setfld (.v 0) 3 (.lst .nil))
    .nil))))⟩
def fdHouseLeave : FD := ⟨2, 2,
    (.cons (.ex (.bm .pop (.fld (.v 0) 0) (.cons (.v 1) (.cons (.c .non) .nil))))
    (.cons (.ex (.bm .pop (.fld (.v 0) 1) (.cons (.v 1) (.cons (.c .non) .nil))))
    .nil))⟩
def fdHousePut (c_need_name c_is_worth : Nat) : FD := ⟨3, 3,
    (.cons (.ex (.call c_need_name (.cons (.v 1) .nil) []))
    (.cons (.ife (.not (.call c_is_worth (.cons (.v 2) .nil) []))
    (.cons .nev
    .nil)
    .nil)
    (.cons (.ex (.meth 0 (.v 0) (.cons (.v 1) .nil)))
    (.cons (.setix (.fld (.v 0) 0) (.v 1) (.v 2))
    .nil))))⟩
def fdHousePutRule (c_need_name c_is_rule : Nat) : FD := ⟨3, 3,
    (.cons (.ex (.call c_need_name (.cons (.v 1) .nil) []))
    (.cons (.ife (.not (.call c_is_rule (.cons (.v 2) .nil) []))
    (.cons .nev
    .nil)
    .nil)
    (.cons (.ex (.meth 0 (.v 0) (.cons (.v 1) .nil)))
    (.cons (.setix (.fld (.v 0) 1) (.v 1) (.v 2))
    .nil))))⟩
def fdHouseDrop (c_need_name : Nat) : FD := ⟨2, 2,
    (.cons (.ex (.call c_need_name (.cons (.v 1) .nil) []))
    (.cons (.ife (.and (.op .nmem (.v 1) (.fld (.v 0) 0)) (.op .nmem (.v 1) (.fld (.v 0) 1)))
    (.cons .nev
    .nil)
    .nil)
    (.cons (.ex (.meth 0 (.v 0) (.cons (.v 1) .nil)))
    .nil)))⟩
def fdHouseOpenUp (c_need_name : Nat) : FD := ⟨2, 2,
    (.cons (.ex (.call c_need_name (.cons (.v 1) .nil) []))
    (.cons (.ife (.op .nmem (.v 1) (.fld (.v 0) 2))
    (.cons (.ex (.bm .append (.fld (.v 0) 2) (.cons (.v 1) .nil)))
    .nil)
    .nil)
    .nil))⟩
def fdHouseShut (c_need_name : Nat) : FD := ⟨2, 2,
    (.cons (.ex (.call c_need_name (.cons (.v 1) .nil) []))
    (.cons (.ife (.op .mem (.v 1) (.fld (.v 0) 2))
    (.cons (.ex (.bm .remove (.fld (.v 0) 2) (.cons (.v 1) .nil)))
    .nil)
    .nil)
    .nil))⟩
def fdHouseWish (c_need_name : Nat) : FD := ⟨2, 2,
    (.cons (.ex (.call c_need_name (.cons (.v 1) .nil) []))
    (.cons (.ife (.op .nmem (.v 1) (.fld (.v 0) 3))
    (.cons (.ex (.bm .append (.fld (.v 0) 3) (.cons (.v 1) .nil)))
    .nil)
    .nil)
    .nil))⟩
def fdHouseLetGo (c_need_name : Nat) : FD := ⟨2, 2,
    (.cons (.ex (.call c_need_name (.cons (.v 1) .nil) []))
    (.cons (.ife (.op .mem (.v 1) (.fld (.v 0) 3))
    (.cons (.ex (.bm .remove (.fld (.v 0) 3) (.cons (.v 1) .nil)))
    .nil)
    .nil)
    .nil))⟩
def fdHouseMay (c_room_of : Nat) : FD := ⟨3, 3,
    (.cons (.ife (.or (.isN (.v 1)) (.op .mem (.v 2) (.fld (.v 0) 2)))
    (.cons (.ret (.c (.bl true)))
    .nil)
    .nil)
    (.cons (.ret (.op .eq (.call c_room_of (.cons (.v 1) .nil) []) (.call c_room_of (.cons (.v 2) .nil) [])))
    .nil))⟩
def fdLHand : FD := ⟨2, 2,
    (.cons (.ife (.op .eq (.ix (.v 1) (.c (.int 0))) (.c (.str ['p', 'u', 't'])))
    (.cons (.ex (.meth 2 (.v 0) (.cons (.ix (.v 1) (.c (.int 1))) (.cons (.ix (.v 1) (.c (.int 2))) .nil))))
    .nil)
    (.cons (.ife (.op .eq (.ix (.v 1) (.c (.int 0))) (.c (.str ['r', 'u', 'l', 'e'])))
    (.cons (.ex (.meth 3 (.v 0) (.cons (.ix (.v 1) (.c (.int 1))) (.cons (.ix (.v 1) (.c (.int 2))) .nil))))
    .nil)
    (.cons (.ife (.and (.op .eq (.ix (.v 1) (.c (.int 0))) (.c (.str ['d', 'r', 'o', 'p']))) (.or (.op .mem (.ix (.v 1) (.c (.int 1))) (.fld (.v 0) 0)) (.op .mem (.ix (.v 1) (.c (.int 1))) (.fld (.v 0) 1))))
    (.cons (.ex (.meth 4 (.v 0) (.cons (.ix (.v 1) (.c (.int 1))) .nil)))
    .nil)
    (.cons (.ife (.op .eq (.ix (.v 1) (.c (.int 0))) (.c (.str ['o', 'p', 'e', 'n'])))
    (.cons (.ex (.meth 5 (.v 0) (.cons (.ix (.v 1) (.c (.int 1))) .nil)))
    .nil)
    (.cons (.ife (.op .eq (.ix (.v 1) (.c (.int 0))) (.c (.str ['s', 'h', 'u', 't'])))
    (.cons (.ex (.meth 6 (.v 0) (.cons (.ix (.v 1) (.c (.int 1))) .nil)))
    .nil)
    (.cons (.ife (.op .eq (.ix (.v 1) (.c (.int 0))) (.c (.str ['w', 'i', 's', 'h'])))
    (.cons (.ex (.meth 7 (.v 0) (.cons (.ix (.v 1) (.c (.int 1))) .nil)))
    .nil)
    (.cons (.ife (.op .eq (.ix (.v 1) (.c (.int 0))) (.c (.str ['l', 'e', 't'])))
    (.cons (.ex (.meth 8 (.v 0) (.cons (.ix (.v 1) (.c (.int 1))) .nil)))
    .nil)
    .nil)
    .nil))
    .nil))
    .nil))
    .nil))
    .nil))
    .nil))
    .nil)⟩
abbrev sLook : List Char := ['l', 'o', 'o', 'k']
abbrev sElse : List Char := ['e', 'l', 's', 'e']
def litD (d : D) : D := .tup [.str sLit, d]
def lookD (n : List Char) : D := .tup [.str sLook, litD (.str n)]
theorem Wd.w {room deep : Int} {d : D} (h : Wd room deep d) (hr : room ≤ 50) (hd : deep ≤ 12) : isW d = true := by
  obtain ⟨s, p, e, h1, h2⟩ := h.ms
  rw [isW, e]
  dsimp only
  rw [decide_eq_true (by omega : s ≤ 1000), decide_eq_true (by omega : p ≤ 12)]
  rfl
/-- a rule, and plain -/
structure RuleGood (d : D) : Prop where
  ok : ruleB d = true
  pur : purD d = true
  dep : depD d ≤ 20
theorem rg_lit {d : D} (h : isW d = true) : RuleGood (litD d) := by
  refine ⟨?_, ?_, ?_⟩
  · have : ruleB (litD d) = (true && (true && ((true && isW d) && (true && true)))) := rfl
    rw [this, h]; rfl
  · have := raw_pur d (isW_raw h)
    rw [litD, purD, purDs, purDs, this, purD]; rfl
  · have := isW_dep h
    simp only [litD, depD, depDs]
    omega
theorem name_isW {x : List Char} (h : IsName x) : isW (.str x) = true := by
  obtain ⟨r, w, h⟩ := h
  have hl := h.len
  rw [isW, mS]
  have : txtOk x = true := by
    rw [txtOk, decide_eq_true (by omega : x.length ≤ 400), Bool.true_and, h.eq, List.all_eq_true]
    intro c hc
    have hsg : ∀ c ∈ sgN, signC c = true := by decide
    rcases List.mem_append.mp hc with hc | hc
    · exact hsg c ((wordN_iff.mp h.hr).2.2 c hc)
    · rcases List.mem_cons.mp hc with rfl | hc
      · decide
      · exact hsg c ((wordN_iff.mp h.hw).2.2 c hc)
  rw [if_pos this]
  dsimp only
  rw [decide_eq_true (by omega : (1 + (x.length : Int)) ≤ 1000)]
  rfl
theorem name_pur {x : List Char} (h : IsName x) : purD (.str x) = true := raw_pur _ (isW_raw (name_isW h))
theorem pur_look {x : List Char} (h : IsName x) : purD (lookD x) = true := by
  have := name_pur h
  simp only [lookD, litD, purD, purDs] at this ⊢
  rw [this]; rfl
theorem rg_look {x : List Char} (h : IsName x) : RuleGood (lookD x) := by
  refine ⟨?_, pur_look h, ?_⟩
  · have : ruleB (lookD x) = (true && (true && (true && (true && (true && (true && ((true && isW (.str x)) && (true && true)))))))) := rfl
    rw [this, name_isW h]; rfl
  · simp only [lookD, litD, depD, depDs]
    omega
theorem rg_else {x : List Char} {i : Int} (h : IsName x) (hi : isW (.int i) = true) : RuleGood (.tup [.str sElse, lookD x, litD (.int i)]) := by
  refine ⟨?_, ?_, ?_⟩
  · have : ruleB (.tup [.str sElse, lookD x, litD (.int i)]) = (true && (true && (true && (true && (true && (true && ((true && isW (.int i)) && (true && (true && (true && (true && (true && (true && (true && ((true && isW (.str x)) && (true && true))))))))))))))) ) := rfl
    rw [this, name_isW h, hi]; rfl
  · have := pur_look h
    simp only [purD, purDs, this, litD]; rfl
  · simp only [lookD, litD, depD, depDs]
    omega
theorem rg_list {x y : List Char} (h : IsName x) (h' : IsName y) : RuleGood (.tup [.str sList, lookD x, lookD y]) := by
  refine ⟨?_, ?_, ?_⟩
  · have : ruleB (.tup [.str sList, lookD x, lookD y]) = (true && (true && (true && (true && (true && (true && (true && (true && (true && (true && ((true && isW (.str y)) && (true && (true && (true && (true && (true && (true && (true && ((true && isW (.str x)) && (true && true)))))))))))))))))))) := rfl
    rw [this, name_isW h, name_isW h']; rfl
  · have := pur_look h
    have := pur_look h'
    simp only [purD, purDs, *]; rfl
  · simp only [lookD, litD, depD, depDs]
    omega
section
variable {P : Prog} {st : Sto} {Q : D × Sto → Prop} {n i : Nat}
/-- one of the names is drawn -/
theorem pick_name {t b f : Nat} (ht : P.fns[t]? = some fdTake) (hb : Box st b) {xs : List (List Char)} (hf : st[f]? = some (.lst (xs.map .str))) (hbf : b ≠ f) (h1 : 1 ≤ xs.length) (h2 : xs.length ≤ 1000) {Q : D × Sto → Prop} (q : ∀ (v : Int) (x : List Char) st', x ∈ xs → ixF st' (.ref f) (.int v) = some (.str x) → Box st' b → Keep b st st' → st'.length = st.length → Q (.int v, st')) :
    (callF P (n + 1) t [.ref b, .int xs.length] st).wp Q := by
  refine take_spec ht hb (by omega) (by omega) fun v st1 hv hv' hb1 kp1 hl1 => ?_
  have hr := kp1.at hf (Ne.symm hbf)
  obtain ⟨d, hd, he⟩ := at_some (xs := xs.map D.str) hv (by rw [List.length_map]; omega)
  obtain ⟨x, hx, rfl⟩ := List.mem_map.mp hd
  exact q v x st1 hx (by rw [ix_ref hr]; exact he) hb1 kp1 hl1
structure WorthAt (P : Prog) (i tk num txt : Nat) : Prop where
  h : P.fns[i]? = some (fdWorth tk num txt i)
  ht : P.fns[tk]? = some fdTake
  hn : P.fns[num]? = some (fdNumber tk)
  hx : P.fns[txt]? = some (fdText tk)
theorem ruleN_spec {tk wo num txt f : Nat} (h : P.fns[i]? = some (fdLRule tk wo num)) (hw : WorthAt P wo tk num txt) {b : Nat} (hb : Box st b) {xs : List (List Char)} (hf : st[f]? = some (.lst (xs.map .str))) (hbf : b ≠ f) (h1 : 1 ≤ xs.length) (h2 : xs.length ≤ 1000) (hxs : ∀ x ∈ xs, IsName x)
    (q : ∀ d st', RuleGood d → Box st' b → Keep b st st' → Q (d, st')) : (callF P (n + 10) i [.ref b, .ref f] st).wp Q := by
  refine call_wp h rfl ?_
  simp only [fdLRule, start_cons, start0, repS, rep0]
  refine stm_k fun K hK => ?_
  simp only [seval, MP.sv0, MP.sv1, MP.sv2, MP.sv3, MP.sv4, MP.sv5]
  refine take_spec hw.ht hb (by decide) (by decide) fun k st1 hk0 hk1 hb1 kp1 hl1 => ?_
  simp only [seval, MP.sv0, MP.sv1, MP.sv2, MP.sv3, MP.sv4, MP.sv5]
  refine hK _ _ ?_
  clear hK K
  have hf1 := kp1.at hf (Ne.symm hbf)
  have hk : k = 0 ∨ k = 1 ∨ k = 2 ∨ k = 3 := by omega
  by_cases hk0 : k = 0
  · subst hk0
    refine take_if ?_ ?_
    · simp only [seval, MP.sv0, MP.sv1, MP.sv2, MP.sv3, MP.sv4, MP.sv5]
    refine ret_one ?_
    simp only [seval, MP.sv0, MP.sv1, MP.sv2, MP.sv3, MP.sv4, MP.sv5]
    refine worth_spec hw.h hw.ht hw.hn hw.hx (n + 9) _ _ b 8 2 hb1 (by decide) (by decide) (by decide) (by omega) fun d st2 hd hb2 kp2 => ?_
    simp only [seval, MP.sv0, MP.sv1, MP.sv2, MP.sv3, MP.sv4, MP.sv5]
    exact q _ _ (rg_lit (hd.w (by decide) (by decide))) hb2 (kp1.trans kp2)
  refine skip_if ?_ ?_
  · simp only [seval, MP.sv0, MP.sv1, MP.sv2, MP.sv3, MP.sv4, MP.sv5]
    exact beq_eq_false_iff_ne.mpr hk0
  refine stm_k fun K hK => ?_
  simp only [seval, MP.sv0, MP.sv1, MP.sv2, MP.sv3, MP.sv4, MP.sv5, len_ref hf1, List.length_map]
  refine pick_name hw.ht hb1 hf1 hbf h1 h2 fun v x st2 hx hv hb2 kp2 hl2 => ?_
  simp only [seval, MP.sv0, MP.sv1, MP.sv2, MP.sv3, MP.sv4, MP.sv5, hv]
  refine hK _ _ ?_
  clear hK K
  have hf2 := kp2.at hf1 (Ne.symm hbf)
  have hx := hxs x hx
  by_cases hk1 : k = 1
  · subst hk1
    refine take_if ?_ ?_
    · simp only [seval, MP.sv0, MP.sv1, MP.sv2, MP.sv3, MP.sv4, MP.sv5]
    refine ret_one ?_
    simp only [seval, MP.sv0, MP.sv1, MP.sv2, MP.sv3, MP.sv4, MP.sv5]
    exact q _ _ (rg_look hx) hb2 (kp1.trans kp2)
  refine skip_if ?_ ?_
  · simp only [seval, MP.sv0, MP.sv1, MP.sv2, MP.sv3, MP.sv4, MP.sv5]
    exact beq_eq_false_iff_ne.mpr hk1
  by_cases hk2 : k = 2
  · subst hk2
    refine take_if ?_ ?_
    · simp only [seval, MP.sv0, MP.sv1, MP.sv2, MP.sv3, MP.sv4, MP.sv5]
    refine ret_one ?_
    simp only [seval, MP.sv0, MP.sv1, MP.sv2, MP.sv3, MP.sv4, MP.sv5]
    refine number_spec hw.hn hw.ht hb2 fun y st3 hy0 hy1 hb3 kp3 => ?_
    simp only [seval, MP.sv0, MP.sv1, MP.sv2, MP.sv3, MP.sv4, MP.sv5]
    refine q _ _ (rg_else hx ?_) hb3 ((kp1.trans kp2).trans kp3)
    rw [isW, mS, if_pos (by simp only [numI, Bool.and_eq_true, decide_eq_true_eq]; exact ⟨hy0, hy1⟩)]
    rfl
  refine skip_if ?_ ?_
  · simp only [seval, MP.sv0, MP.sv1, MP.sv2, MP.sv3, MP.sv4, MP.sv5]
    exact beq_eq_false_iff_ne.mpr hk2
  refine ret_one ?_
  simp only [seval, MP.sv0, MP.sv1, MP.sv2, MP.sv3, MP.sv4, MP.sv5, len_ref hf2, List.length_map]
  refine pick_name hw.ht hb2 hf2 hbf h1 h2 fun v3 y st3 hy hv3 hb3 kp3 hl3 => ?_
  simp only [seval, MP.sv0, MP.sv1, MP.sv2, MP.sv3, MP.sv4, MP.sv5, hv3]
  exact q _ _ (rg_list hx (hxs y hy)) hb3 ((kp1.trans kp2).trans kp3)
end
end MP

set_option Elab.async false
set_option linter.all false
set_option maxRecDepth 100000
set_option maxHeartbeats 4000000
/-! MPLaw15: hands' deeds. -/
namespace MP
inductive DK where
  | put | rule | drop | opn | sht | wish | lets
deriving DecidableEq
def DK.nm : DK → List Char
  | .put => ['p', 'u', 't']
  | .rule => ['r', 'u', 'l', 'e']
  | .drop => ['d', 'r', 'o', 'p']
  | .opn => ['o', 'p', 'e', 'n']
  | .sht => ['s', 'h', 'u', 't']
  | .wish => ['w', 'i', 's', 'h']
  | .lets => ['l', 'e', 't']
structure Deed where
  k : DK
  n : List Char
  v : D
def Deed.toD (d : Deed) : D := match d.k with
  | .put => .tup [.str (DK.nm .put), .str d.n, d.v]
  | .rule => .tup [.str (DK.nm .rule), .str d.n, d.v]
  | k => .tup [.str k.nm, .str d.n]
structure SrcGood (d : D) : Prop where
  ok : isW d = true
structure Deed.Ok (d : Deed) : Prop where
  n : IsName d.n
  src : d.k = .put → isW d.v = true
  rul : d.k = .rule → RuleGood d.v
section
variable {P : Prog} {st : Sto} {Q : D × Sto → Prop} {n i : Nat}
theorem deed_spec {tk wo num txt ru f : Nat} (h : P.fns[i]? = some (fdLDeed tk wo ru)) (hr : P.fns[ru]? = some (fdLRule tk wo num)) (hw : WorthAt P wo tk num txt) {b : Nat} (hb : Box st b) {xs : List (List Char)} (hf : st[f]? = some (.lst (xs.map .str))) (hbf : b ≠ f) (h1 : 1 ≤ xs.length) (h2 : xs.length ≤ 1000) (hxs : ∀ x ∈ xs, IsName x)
    (q : ∀ (d : Deed) st', d.Ok → d.n ∈ xs → Box st' b → Keep b st st' → Q (d.toD, st')) : (callF P (n + 12) i [.ref b, .ref f] st).wp Q := by
  refine call_wp h rfl ?_
  simp only [fdLDeed, start_cons, start0, repS, rep0]
  refine stm_k fun K hK => ?_
  simp only [seval, MP.sv0, MP.sv1, MP.sv2, MP.sv3, MP.sv4, MP.sv5, len_ref hf, List.length_map]
  refine pick_name hw.ht hb hf hbf h1 h2 fun v x st1 hx hv hb1 kp1 hl1 => ?_
  simp only [seval, MP.sv0, MP.sv1, MP.sv2, MP.sv3, MP.sv4, MP.sv5, hv]
  refine hK _ _ ?_
  clear hK K
  have hf1 := kp1.at hf (Ne.symm hbf)
  have hxn := hxs x hx
  refine stm_k fun K hK => ?_
  simp only [seval, MP.sv0, MP.sv1, MP.sv2, MP.sv3, MP.sv4, MP.sv5]
  refine take_spec hw.ht hb1 (by decide) (by decide) fun k st2 hk0 hk1 hb2 kp2 hl2 => ?_
  simp only [seval, MP.sv0, MP.sv1, MP.sv2, MP.sv3, MP.sv4, MP.sv5]
  refine hK _ _ ?_
  clear hK K
  have kp02 := kp1.trans kp2
  have hf2 := kp2.at hf1 (Ne.symm hbf)
  by_cases hk2 : k < 2
  · refine take_if ?_ ?_
    · simp only [seval, MP.sv0, MP.sv1, MP.sv2, MP.sv3, MP.sv4, MP.sv5]
      exact hk2
    refine ret_one ?_
    simp only [seval, MP.sv0, MP.sv1, MP.sv2, MP.sv3, MP.sv4, MP.sv5]
    refine worth_spec hw.h hw.ht hw.hn hw.hx (n + 11) _ _ b 10 2 hb2 (by decide) (by decide) (by decide) (by omega) fun d st3 hd hb3 kp3 => ?_
    simp only [seval, MP.sv0, MP.sv1, MP.sv2, MP.sv3, MP.sv4, MP.sv5]
    exact q ⟨.put, x, d⟩ _ ⟨hxn, fun _ => hd.w (by decide) (by decide), (fun e => by cases e)⟩ hx hb3 (kp02.trans kp3)
  refine skip_if ?_ ?_
  · simp only [seval, MP.sv0, MP.sv1, MP.sv2, MP.sv3, MP.sv4, MP.sv5]
    exact hk2
  by_cases hk6 : k < 6
  · refine take_if ?_ ?_
    · simp only [seval, MP.sv0, MP.sv1, MP.sv2, MP.sv3, MP.sv4, MP.sv5]
      exact hk6
    refine ret_one ?_
    simp only [seval, MP.sv0, MP.sv1, MP.sv2, MP.sv3, MP.sv4, MP.sv5]
    refine ruleN_spec hr hw hb2 hf2 hbf h1 h2 hxs fun d st3 hd hb3 kp3 => ?_
    simp only [seval, MP.sv0, MP.sv1, MP.sv2, MP.sv3, MP.sv4, MP.sv5]
    exact q ⟨.rule, x, d⟩ _ ⟨hxn, (fun e => by cases e), fun _ => hd⟩ hx hb3 (kp02.trans kp3)
  refine skip_if ?_ ?_
  · simp only [seval, MP.sv0, MP.sv1, MP.sv2, MP.sv3, MP.sv4, MP.sv5]
    exact hk6
  refine ret_one ?_
  simp only [seval, MP.sv0, MP.sv1, MP.sv2, MP.sv3, MP.sv4, MP.sv5]
  have hb3 : ∀ o, Box (st2 ++ [o]) b := fun o => Grow.push.box hb2
  have kp3 : ∀ o, Keep b st (st2 ++ [o]) := fun o => kp02.trans Keep.push
  have hkk : k = 6 ∨ k = 7 ∨ k = 8 ∨ k = 9 ∨ k = 10 ∨ k = 11 := by omega
  have go : ∀ (c : DK), c ≠ .put → c ≠ .rule → ∀ o, Q (.tup [.str c.nm, .str x], st2 ++ [o]) := by
    intro c c1 c2 o
    have := q ⟨c, x, .non⟩ (st2 ++ [o]) ⟨hxn, fun e => absurd e c1, fun e => absurd e c2⟩ hx (hb3 o) (kp3 o)
    cases c <;> first | exact this | exact absurd rfl c1 | exact absurd rfl c2
  rcases hkk with rfl | rfl | rfl | rfl | rfl | rfl
  · exact ⟨_, by rw [ix_ref sto_top]; exact at_nat (by decide) rfl, go .drop (by decide) (by decide) _⟩
  · exact ⟨_, by rw [ix_ref sto_top]; exact at_nat (by decide) rfl, go .opn (by decide) (by decide) _⟩
  · exact ⟨_, by rw [ix_ref sto_top]; exact at_nat (by decide) rfl, go .sht (by decide) (by decide) _⟩
  · exact ⟨_, by rw [ix_ref sto_top]; exact at_nat (by decide) rfl, go .wish (by decide) (by decide) _⟩
  · exact ⟨_, by rw [ix_ref sto_top]; exact at_nat (by decide) rfl, go .wish (by decide) (by decide) _⟩
  · exact ⟨_, by rw [ix_ref sto_top]; exact at_nat (by decide) rfl, go .lets (by decide) (by decide) _⟩
theorem first_spec {tk wo num txt ru f : Nat} (h : P.fns[i]? = some (fdLFirst tk wo ru)) (hr : P.fns[ru]? = some (fdLRule tk wo num)) (hw : WorthAt P wo tk num txt) {b : Nat} (hb : Box st b) {xs : List (List Char)} (hf : st[f]? = some (.lst (xs.map .str))) (hbf : b ≠ f) (h1 : 1 ≤ xs.length) (h2 : xs.length ≤ 1000) (hxs : ∀ x ∈ xs, IsName x)
    (q : ∀ (ds : List Deed) (g : Nat) st', (∀ d ∈ ds, d.Ok ∧ d.n ∈ xs) → ds.length ≤ 3 * xs.length + 3 → st'[g]? = some (.lst (ds.map Deed.toD)) → st.length ≤ g → Box st' b → Keep b st st' → Q (.ref g, st')) : (callF P (n + 12) i [.ref b, .ref f] st).wp Q := by
  have hsz : SZ = 1000000 := rfl
  refine call_wp h rfl ?_
  simp only [fdLFirst, start_cons, start0, repS, rep0]
  have hbl := hb.lt
  refine stm_k fun K hK => ?_
  simp only [seval, MP.sv0, MP.sv1, MP.sv2, MP.sv3, MP.sv4, MP.sv5]
  refine hK _ _ ?_
  clear hK K
  refine stm_k fun K hK => ?_
  simp only [seval, MP.sv0, MP.sv1, MP.sv2, MP.sv3, MP.sv4, MP.sv5]
  have hf0 : (st ++ [O.lst []])[f]? = some (.lst (xs.map .str)) := sto_old hf
  rw [wk_ref hf0]
  simp only [seval, MP.sv0, MP.sv1, MP.sv2, MP.sv3, MP.sv4, MP.sv5]
  refine for_wp (I := fun ds fr st' => ∃ (vs : List (List Char)) (acc : List Deed) (e3 e4 e5 : Option D), fr = [some (.ref b), some (.ref f), some (.ref st.length), e3, e4, e5] ∧ ds = vs.map .str ∧ (∀ v ∈ vs, v ∈ xs) ∧ (∀ d ∈ acc, d.Ok ∧ d.n ∈ xs) ∧ acc.length + 3 * vs.length ≤ 3 * xs.length ∧ st'[f]? = some (.lst (xs.map .str)) ∧ st'[st.length]? = some (.lst (acc.map Deed.toD)) ∧ Box st' b ∧ Keep b st st') ?_ ?_ ?_ _ _ _ ⟨xs, [], none, none, none, rfl, rfl, fun _ h => h, by simp, by simp, hf0, sto_top, Grow.push.box hb, Keep.push⟩
  · rintro ds fr st' ⟨vs, acc, e3, e4, e5, -, -, -, -, -, hh, -⟩
    exact stands_at hh
  · rintro d ds fr st1 ⟨vs, acc, e3, e4, e5, rfl, hds, hvs, hacc, hal, hf1, hg1, hb1, kp1⟩
    cases vs with
    | nil => cases hds
    | cons x vs =>
      rw [List.map_cons] at hds
      injection hds with hd1 hd2
      subst hd1 hd2
      have hx := hvs x List.mem_cons_self
      have hxn := hxs x hx
      rw [List.length_cons] at hal
      have hgb : st.length ≠ b := by omega
      have hfg : f ≠ st.length := by have := (List.getElem?_eq_some_iff.mp hf).1; omega
      simp only [tg_v, List.set_cons_succ, List.set_cons_zero]
      refine stm_k fun K hK => ?_
      simp only [seval, MP.sv0, MP.sv1, MP.sv2, MP.sv3, MP.sv4, MP.sv5]
      refine take_spec hw.ht hb1 (by decide) (by decide) fun k st2 hk0 hk1 hb2 kp2 hl2 => ?_
      simp only [seval, MP.sv0, MP.sv1, MP.sv2, MP.sv3, MP.sv4, MP.sv5]
      refine hK _ _ ?_
      clear hK K
      have hf2 := kp2.at hf1 (Ne.symm hbf)
      have hg2 := kp2.at hg1 hgb
      have kp02 := kp1.trans kp2
      have step : ∀ (st2 : Sto) (acc : List Deed) (d : Deed) (m : Nat) (e : Option D), (∀ d ∈ acc, d.Ok ∧ d.n ∈ xs) → d.Ok → d.n ∈ xs → acc.length + 3 * vs.length + (m + 1) ≤ 3 * xs.length → st2[f]? = some (.lst (xs.map .str)) → st2[st.length]? = some (.lst (acc.map Deed.toD)) → Box st2 b → Keep b st st2 →
          ∃ k, kindF st2 (.ref st.length) = some k ∧ (bmF k .append (.ref st.length) [d.toD] st2).wp fun p => ∃ (acc : List Deed), (∀ d ∈ acc, d.Ok ∧ d.n ∈ xs) ∧ acc.length + 3 * vs.length + m ≤ 3 * xs.length ∧ p.2[f]? = some (.lst (xs.map .str)) ∧ p.2[st.length]? = some (.lst (acc.map Deed.toD)) ∧ Box p.2 b ∧ Keep b st p.2 := by
        intro st2 acc d m e hacc hd hdx hl hf2 hg2 hb2 kp2
        refine ⟨_, kd_ref hg2, ?_⟩
        rw [ap_ref hg2]
        refine ⟨by rw [List.length_map]; omega, acc ++ [d], ?_, by rw [List.length_append]; simp only [List.length_cons, List.length_nil]; omega, ?_, ?_, hb2.keep (c := st.length) Keep.set (Ne.symm hgb), kp2.new (Nat.le_refl _)⟩
        · intro y hy
          rcases List.mem_append.mp hy with hy | hy
          · exact hacc y hy
          · rw [List.mem_singleton.mp hy]; exact ⟨hd, hdx⟩
        · rw [List.getElem?_set_ne (Ne.symm hfg)]; exact hf2
        · rw [sto_set hg2, List.map_append]; rfl
      refine seq_wp (M := fun fr st3 => fr = [some (.ref b), some (.ref f), some (.ref st.length), some (.str x), some (.int k), e5] ∧ ∃ (acc : List Deed), (∀ d ∈ acc, d.Ok ∧ d.n ∈ xs) ∧ acc.length + 3 * vs.length + 2 ≤ 3 * xs.length ∧ st3[f]? = some (.lst (xs.map .str)) ∧ st3[st.length]? = some (.lst (acc.map Deed.toD)) ∧ Box st3 b ∧ Keep b st st3) ?_ ?_
      · refine s_ife_w.mpr ?_
        simp only [seval, MP.sv0, MP.sv1, MP.sv2, MP.sv3, MP.sv4, MP.sv5]
        have go : (callF P (n + 11) wo [.ref b, .int 10, .int 2] st2).wp fun p => Wd 10 2 p.1 ∧ Box p.2 b ∧ Keep b st2 p.2 := worth_spec hw.h hw.ht hw.hn hw.hx (n + 11) _ _ b 10 2 hb2 (by decide) (by decide) (by decide) (by omega) fun d st3 hd hb3 kp3 => ⟨hd, hb3, kp3⟩
        have go2 : ∃ k, kindF st2 (.ref st.length) = some k ∧ (callF P (n + 11) wo [.ref b, .int 10, .int 2] st2).wp fun p => (bmF k .append (.ref st.length) [.tup [.str ['p', 'u', 't'], .str x, p.1]] p.2).wp fun p => ∃ (acc : List Deed), (∀ d ∈ acc, d.Ok ∧ d.n ∈ xs) ∧ acc.length + 3 * vs.length + 2 ≤ 3 * xs.length ∧ p.2[f]? = some (.lst (xs.map .str)) ∧ p.2[st.length]? = some (.lst (acc.map Deed.toD)) ∧ Box p.2 b ∧ Keep b st p.2 := by
          refine ⟨_, kd_ref hg2, wp_mono go ?_⟩
          rintro ⟨d, st3⟩ ⟨hd, hb3, kp3⟩
          obtain ⟨k', hk', h⟩ := step st3 acc ⟨.put, x, d⟩ 2 e5 hacc ⟨hxn, fun _ => hd.w (by decide) (by decide), (fun e => by cases e)⟩ hx (by omega) (kp3.at hf2 (Ne.symm hbf)) (kp3.at hg2 hgb) hb3 (kp02.trans kp3)
          rw [kd_ref (kp3.at hg2 hgb)] at hk'
          cases hk'
          exact h
        have no2 : ∃ (acc : List Deed), (∀ d ∈ acc, d.Ok ∧ d.n ∈ xs) ∧ acc.length + 3 * vs.length + 2 ≤ 3 * xs.length ∧ st2[f]? = some (.lst (xs.map .str)) ∧ st2[st.length]? = some (.lst (acc.map Deed.toD)) ∧ Box st2 b ∧ Keep b st st2 := ⟨acc, hacc, by omega, hf2, hg2, hb2, kp02⟩
        have h12 : ∀ {p q : Prop}, p → q → (if k = 1 then (if k = 1 then p else q) else if k = 2 then p else q) := by
          intro p q hp hq
          split
          · exact hp
          · split
            · exact hp
            · exact hq
        first
          | exact h12 go2 no2
          | (split
             · split
               · exact go2
               · exact no2
             · split
               · exact go2
               · exact no2)
      rintro fr st3 ⟨rfl, acc3, hacc3, hal3, hf3, hg3, hb3, kp3⟩
      refine seq_wp (M := fun fr st3 => fr = [some (.ref b), some (.ref f), some (.ref st.length), some (.str x), some (.int k), e5] ∧ ∃ (acc : List Deed), (∀ d ∈ acc, d.Ok ∧ d.n ∈ xs) ∧ acc.length + 3 * vs.length + 1 ≤ 3 * xs.length ∧ st3[f]? = some (.lst (xs.map .str)) ∧ st3[st.length]? = some (.lst (acc.map Deed.toD)) ∧ Box st3 b ∧ Keep b st st3) ?_ ?_
      · refine s_ife_w.mpr ?_
        simp only [seval, MP.sv0, MP.sv1, MP.sv2, MP.sv3, MP.sv4, MP.sv5]
        split
        · refine ⟨_, kd_ref hg3, ?_⟩
          refine ruleN_spec hr hw hb3 hf3 hbf h1 h2 hxs fun d st4 hd hb4 kp4 => ?_
          obtain ⟨k', hk', h⟩ := step st4 acc3 ⟨.rule, x, d⟩ 1 e5 hacc3 ⟨hxn, (fun e => by cases e), fun _ => hd⟩ hx (by omega) (kp4.at hf3 (Ne.symm hbf)) (kp4.at hg3 hgb) hb4 (kp3.trans kp4)
          rw [kd_ref (kp4.at hg3 hgb)] at hk'
          cases hk'
          simp only [seval, MP.sv0, MP.sv1, MP.sv2, MP.sv3, MP.sv4, MP.sv5]
          exact h
        · exact ⟨acc3, hacc3, by omega, hf3, hg3, hb3, kp3⟩
      rintro fr st4 ⟨rfl, acc4, hacc4, hal4, hf4, hg4, hb4, kp4⟩
      refine seq_wp (M := fun fr st3 => fr = [some (.ref b), some (.ref f), some (.ref st.length), some (.str x), some (.int k), e5] ∧ ∃ (acc : List Deed), (∀ d ∈ acc, d.Ok ∧ d.n ∈ xs) ∧ acc.length + 3 * vs.length + 0 ≤ 3 * xs.length ∧ st3[f]? = some (.lst (xs.map .str)) ∧ st3[st.length]? = some (.lst (acc.map Deed.toD)) ∧ Box st3 b ∧ Keep b st st3) ?_ ?_
      · refine s_ife_w.mpr ?_
        simp only [seval, MP.sv0, MP.sv1, MP.sv2, MP.sv3, MP.sv4, MP.sv5]
        refine take_spec hw.ht hb4 (by decide) (by decide) fun u st5 hu0 hu1 hb5 kp5 hl5 => ?_
        have hf5 := kp5.at hf4 (Ne.symm hbf)
        have hg5 := kp5.at hg4 hgb
        simp only [seval, MP.sv0, MP.sv1, MP.sv2, MP.sv3, MP.sv4, MP.sv5]
        split
        · obtain ⟨k', hk', h⟩ := step st5 acc4 ⟨.opn, x, .non⟩ 0 e5 hacc4 ⟨hxn, (fun e => by cases e), (fun e => by cases e)⟩ hx (by omega) hf5 hg5 hb5 (kp4.trans kp5)
          exact ⟨k', hk', h⟩
        · exact ⟨acc4, hacc4, by omega, hf5, hg5, hb5, kp4.trans kp5⟩
      rintro fr st5 ⟨rfl, acc5, hacc5, hal5, hf5, hg5, hb5, kp5⟩
      rw [s_nil_w]
      exact ⟨vs, acc5, _, _, _, rfl, rfl, fun v hv => hvs v (List.mem_cons_of_mem _ hv), hacc5, by omega, hf5, hg5, hb5, kp5⟩
  · rintro fr st1 ⟨vs, acc, e3, e4, e5, rfl, hds, hvs, hacc, hal, hf1, hg1, hb1, kp1⟩
    simp only [id]
    refine hK _ _ ?_
    clear hK K
    have hgb : st.length ≠ b := by omega
    refine ret_one ?_
    simp only [seval, MP.sv0, MP.sv1, MP.sv2, MP.sv3, MP.sv4, MP.sv5]
    refine take_spec hw.ht hb1 (by decide) (by decide) fun u st2 hu0 hu1 hb2 kp2 hl2 => ?_
    have hf2 := kp2.at hf1 (Ne.symm hbf)
    have hg2 := kp2.at hg1 hgb
    simp only [seval, MP.sv0, MP.sv1, MP.sv2, MP.sv3, MP.sv4, MP.sv5]
    refine ⟨by omega, by omega, ?_⟩
    refine lc_range (I := fun j ac st3 => ∃ (ys : List Deed), ac = ys.map Deed.toD ∧ ys.length = j ∧ (∀ d ∈ ys, d.Ok ∧ d.n ∈ xs) ∧ st3[f]? = some (.lst (xs.map .str)) ∧ st3[st.length]? = some (.lst (acc.map Deed.toD)) ∧ Box st3 b ∧ Keep b st st3) (by omega) ?_ ?_ ⟨[], rfl, rfl, by simp, hf2, hg2, hb2, kp1.trans kp2⟩
    · rintro j ac st3 hj ha ⟨ys, rfl, hl, hys, hf3, hg3, hb3, kp3⟩
      simp only [seval, MP.sv0, MP.sv1, MP.sv2, MP.sv3, MP.sv4, MP.sv5, wipeF, len_ref hf3, List.length_map]
      refine pick_name hw.ht hb3 hf3 hbf h1 h2 fun v x st4 hx hv hb4 kp4 hl4 => ?_
      simp only [seval, MP.sv0, MP.sv1, MP.sv2, MP.sv3, MP.sv4, MP.sv5, hv]
      refine ⟨ys ++ [⟨.wish, x, .non⟩], by rw [List.map_append]; rfl, by simp [hl], ?_, kp4.at hf3 (Ne.symm hbf), kp4.at hg3 hgb, hb4, kp3.trans kp4⟩
      intro y hy
      rcases List.mem_append.mp hy with hy | hy
      · exact hys y hy
      · rw [List.mem_singleton.mp hy]; exact ⟨⟨hxs x hx, (fun e => by cases e), (fun e => by cases e)⟩, hx⟩
    · rintro ac st3 ⟨ys, rfl, hl, hys, hf3, hg3, hb3, kp3⟩
      simp only [seval, MP.sv0, MP.sv1, MP.sv2, MP.sv3, MP.sv4, MP.sv5, id]
      rw [add_ref (sto_old hg3) sto_top]
      have hyl : ys.length ≤ 3 := by omega
      refine ⟨by simp only [List.length_map]; omega, q (acc ++ ys) _ _ ?_ ?_ ?_ ?_ ((Grow.push.trans Grow.push).box hb3) ((kp3.trans Keep.push).trans Keep.push)⟩
      · intro d hd
        rcases List.mem_append.mp hd with hd | hd
        · exact hacc d hd
        · exact hys d hd
      · rw [List.length_append]; omega
      · rw [sto_top, List.map_append]
      · have := kp3.1
        simp only [List.length_append, List.length_cons, List.length_nil]; omega
end
end MP

set_option Elab.async false
set_option linter.all false
set_option maxRecDepth 100000
set_option maxHeartbeats 4000000
/-! MPLaw16: what stands in a house; what deeds do. -/
namespace MP
structure HS where
  src : List (Kk × D)
  rul : List (Kk × D)
  opn : List (List Char)
  wis : List (List Char)
def updL (a b : Bool) (n : List Char) (ss : List (List Char)) : List (List Char) := if a = true then (if n ∈ ss then ss else ss ++ [n]) else if b = true then ss.erase n else ss
def HS.step (h : HS) (d : Deed) : HS where
  src := match d.k with
    | .put => putK (dropK h.src (.s d.n)) (.s d.n) d.v
    | .rule => dropK h.src (.s d.n)
    | .drop => dropK h.src (.s d.n)
    | _ => h.src
  rul := match d.k with
    | .put => dropK h.rul (.s d.n)
    | .rule => putK (dropK h.rul (.s d.n)) (.s d.n) d.v
    | .drop => dropK h.rul (.s d.n)
    | _ => h.rul
  opn := match d.k with
    | .opn => if d.n ∈ h.opn then h.opn else h.opn ++ [d.n]
    | .sht => h.opn.erase d.n
    | _ => h.opn
  wis := match d.k with
    | .wish => if d.n ∈ h.wis then h.wis else h.wis ++ [d.n]
    | .lets => h.wis.erase d.n
    | _ => h.wis
/-- no part longer than so much -/
structure HS.Sm (h : HS) (k : Nat) : Prop where
  src : h.src.length ≤ k
  rul : h.rul.length ≤ k
  opn : h.opn.length ≤ k
  wis : h.wis.length ≤ k
theorem putK_len (l : List (Kk × D)) (k : Kk) (v : D) : (putK l k v).length ≤ l.length + 1 := by
  unfold putK
  split
  · rw [List.length_map]; omega
  · rw [List.length_append]; simp
theorem dropK_len (l : List (Kk × D)) (k : Kk) : (dropK l k).length ≤ l.length := List.length_filter_le _ _
theorem HS.Sm.step {h : HS} {k : Nat} (s : h.Sm k) (d : Deed) : (h.step d).Sm (k + 1) := by
  obtain ⟨s1, s2, s3, s4⟩ := s
  have a1 := dropK_len h.src (.s d.n)
  have a2 := dropK_len h.rul (.s d.n)
  have b1 := putK_len (dropK h.src (.s d.n)) (.s d.n) d.v
  have b2 := putK_len (dropK h.rul (.s d.n)) (.s d.n) d.v
  have c1 := List.length_erase_le (a := d.n) (l := h.opn)
  have c2 := List.length_erase_le (a := d.n) (l := h.wis)
  obtain ⟨k', n, v⟩ := d
  cases k' <;> refine ⟨?_, ?_, ?_, ?_⟩ <;> simp only [HS.step] at * <;> (try split) <;> (try simp only [List.length_append, List.length_cons, List.length_nil]) <;> omega
/-- the four things of a house -/
structure At (st : Sto) (a b c d : Nat) (h : HS) : Prop where
  ha : st[a]? = some (.dct h.src)
  hb : st[b]? = some (.dct h.rul)
  hc : st[c]? = some (.lst (h.opn.map .str))
  hd : st[d]? = some (.lst (h.wis.map .str))
  ab : a ≠ b
  cd : c ≠ d
/-- all but these stands as it was -/
def K4 (a b c d : Nat) (st st' : Sto) : Prop := st.length ≤ st'.length ∧ ∀ n, n < st.length → n ≠ a → n ≠ b → n ≠ c → n ≠ d → st'[n]? = st[n]?
section
variable {st st' st2 : Sto} {a b c d : Nat} {h : HS}
theorem K4.refl : K4 a b c d st st := ⟨Nat.le_refl _, fun _ _ _ _ _ _ => rfl⟩
theorem K4.trans (k : K4 a b c d st st') (k' : K4 a b c d st' st2) : K4 a b c d st st2 := ⟨Nat.le_trans k.1 k'.1, fun n hn h1 h2 h3 h4 => (k'.2 n (Nat.lt_of_lt_of_le hn k.1) h1 h2 h3 h4).trans (k.2 n hn h1 h2 h3 h4)⟩
theorem Grow.k4 (g : Grow st st') : K4 a b c d st st' := ⟨g.len, fun n hn _ _ _ _ => by obtain ⟨r, rfl⟩ := g; exact List.getElem?_append_left hn⟩
theorem K4.seta {o : O} : K4 a b c d st (st.set a o) := ⟨by rw [List.length_set]; exact Nat.le_refl _, fun n _ h1 _ _ _ => List.getElem?_set_ne (Ne.symm h1)⟩
theorem K4.setb {o : O} : K4 a b c d st (st.set b o) := ⟨by rw [List.length_set]; exact Nat.le_refl _, fun n _ _ h1 _ _ => List.getElem?_set_ne (Ne.symm h1)⟩
theorem K4.setc {o : O} : K4 a b c d st (st.set c o) := ⟨by rw [List.length_set]; exact Nat.le_refl _, fun n _ _ _ h1 _ => List.getElem?_set_ne (Ne.symm h1)⟩
theorem K4.setd {o : O} : K4 a b c d st (st.set d o) := ⟨by rw [List.length_set]; exact Nat.le_refl _, fun n _ _ _ _ h1 => List.getElem?_set_ne (Ne.symm h1)⟩
theorem K4.at (k : K4 a b c d st st') {n : Nat} {o : O} (e : st[n]? = some o) (h1 : n ≠ a) (h2 : n ≠ b) (h3 : n ≠ c) (h4 : n ≠ d) : st'[n]? = some o := by rw [k.2 n (List.getElem?_eq_some_iff.mp e).1 h1 h2 h3 h4]; exact e
theorem ne_of {m n : Nat} {x y : O} (h1 : st[m]? = some x) (h2 : st[n]? = some y) (h : x ≠ y) : m ≠ n := fun e => h (by subst e; rw [h1] at h2; exact Option.some.inj h2)
theorem At.ac (h : At st a b c d h') : a ≠ c := ne_of h.ha h.hc (by simp)
theorem At.ad (h : At st a b c d h') : a ≠ d := ne_of h.ha h.hd (by simp)
theorem At.bc (h : At st a b c d h') : b ≠ c := ne_of h.hb h.hc (by simp)
theorem At.bd (h : At st a b c d h') : b ≠ d := ne_of h.hb h.hd (by simp)
theorem At.grow (h' : At st a b c d h) (g : Grow st st') : At st' a b c d h := ⟨g.at h'.ha, g.at h'.hb, g.at h'.hc, g.at h'.hd, h'.ab, h'.cd⟩
theorem At.seta (h' : At st a b c d h) (x : List (Kk × D)) : At (st.set a (.dct x)) a b c d ⟨x, h.rul, h.opn, h.wis⟩ :=
  ⟨sto_set h'.ha, by rw [List.getElem?_set_ne h'.ab]; exact h'.hb, by rw [List.getElem?_set_ne h'.ac]; exact h'.hc, by rw [List.getElem?_set_ne h'.ad]; exact h'.hd, h'.ab, h'.cd⟩
theorem At.setb (h' : At st a b c d h) (x : List (Kk × D)) : At (st.set b (.dct x)) a b c d ⟨h.src, x, h.opn, h.wis⟩ :=
  ⟨by rw [List.getElem?_set_ne h'.ab.symm]; exact h'.ha, sto_set h'.hb, by rw [List.getElem?_set_ne h'.bc]; exact h'.hc, by rw [List.getElem?_set_ne h'.bd]; exact h'.hd, h'.ab, h'.cd⟩
theorem At.setc (h' : At st a b c d h) (x : List (List Char)) : At (st.set c (.lst (x.map .str))) a b c d ⟨h.src, h.rul, x, h.wis⟩ :=
  ⟨by rw [List.getElem?_set_ne h'.ac.symm]; exact h'.ha, by rw [List.getElem?_set_ne h'.bc.symm]; exact h'.hb, sto_set h'.hc, by rw [List.getElem?_set_ne h'.cd]; exact h'.hd, h'.ab, h'.cd⟩
theorem At.setd (h' : At st a b c d h) (x : List (List Char)) : At (st.set d (.lst (x.map .str))) a b c d ⟨h.src, h.rul, h.opn, x⟩ :=
  ⟨by rw [List.getElem?_set_ne h'.ad.symm]; exact h'.ha, by rw [List.getElem?_set_ne h'.bd.symm]; exact h'.hb, by rw [List.getElem?_set_ne h'.cd.symm]; exact h'.hc, sto_set h'.hd, h'.ab, h'.cd⟩
/-- another house stands as it stood -/
theorem At.off {a' b' c' d' : Nat} {h' : HS} (h1 : At st a' b' c' d' h') (k : K4 a b c d st st') (h : ∀ n, n = a' ∨ n = b' ∨ n = c' ∨ n = d' → n ≠ a ∧ n ≠ b ∧ n ≠ c ∧ n ≠ d) : At st' a' b' c' d' h' :=
  have f := fun n o (e : st[n]? = some o) hn => k.at e (h n hn).1 (h n hn).2.1 (h n hn).2.2.1 (h n hn).2.2.2
  ⟨f _ _ h1.ha (.inl rfl), f _ _ h1.hb (.inr (.inl rfl)), f _ _ h1.hc (.inr (.inr (.inl rfl))), f _ _ h1.hd (.inr (.inr (.inr rfl))), h1.ab, h1.cd⟩
theorem set_same {n : Nat} {o : O} (h : st[n]? = some o) : st.set n o = st := by
  apply List.ext_getElem?
  intro i
  by_cases e : n = i
  · subst e; rw [sto_set h, h]
  · rw [List.getElem?_set_ne e]
theorem drop_none {l : List (Kk × D)} {k : Kk} (h : getK l k = none) : dropK l k = l := by
  unfold getK at h
  rw [Option.map_eq_none_iff, List.find?_eq_none] at h
  unfold dropK
  rw [List.filter_eq_self]
  intro x hx
  have := h x hx
  simpa using this
theorem kd_dct {n : Nat} {kvs : List (Kk × D)} (h : st[n]? = some (.dct kvs)) : kindF st (.ref n) = some .d := by simp only [kindF, h]
theorem dpop {n : Nat} {kvs : List (Kk × D)} {x : List Char} {Q : D × Sto → Prop} (h : st[n]? = some (.dct kvs)) (q : ∀ v, Q (v, st.set n (.dct (dropK kvs (.s x))))) : (bmF .d .pop (.ref n) [.str x, .non] st).wp Q := by
  simp only [bmF, dmF, dctF, h, keyF]
  cases e : getK kvs (.s x) with
  | some v => exact wp_ok.mpr (q v)
  | none =>
    have := q .non
    rw [drop_none e, set_same h] at this
    exact wp_ok.mpr this
theorem setix_dct {n : Nat} {kvs : List (Kk × D)} {x : List Char} {v : D} (h : st[n]? = some (.dct kvs)) (hl : kvs.length < SZ) : setIxF st (.ref n) (.str x) v = some (st.set n (.dct (putK kvs (.s x) v))) := by simp only [setIxF, h, keyF, if_pos hl]
theorem mem_dct {n : Nat} {kvs : List (Kk × D)} {x : List Char} (h : st[n]? = some (.dct kvs)) : memF st (.str x) (.ref n) = some (getK kvs (.s x)).isSome := by simp only [memF, dictF, h, keyF, Option.map_some]
theorem all_flat_s (ss : List (List Char)) : (ss.map D.str).all flatF = true := by rw [List.all_eq_true]; intro d hd; obtain ⟨s, _, rfl⟩ := List.mem_map.mp hd; rfl
theorem mem_lst {n : Nat} {ss : List (List Char)} {x : List Char} (h : st[n]? = some (.lst (ss.map .str))) : memF st (.str x) (.ref n) = some (decide (x ∈ ss)) := by
  simp only [memF, dictF, h, memF.memL, listF, flatF, all_flat_s, Bool.and_self, if_true]
  congr 1
  rw [List.any_map]
  clear h
  induction ss with
  | nil => rfl
  | cons y ss ih =>
    rw [List.any_cons, ih]
    simp only [Function.comp, eqS, List.mem_cons]
    by_cases e : x = y
    · subst e; simp
    · have : (y == x) = false := beq_eq_false_iff_ne.mpr (fun h => e h.symm)
      rw [this, decide_eq_decide.mpr (show (x = y ∨ x ∈ ss) ↔ x ∈ ss from ⟨fun h => h.resolve_left e, .inr⟩)]
      rfl
theorem for_cons {ok : Sto → Bool} {turn : D → Fr → Sto → C} {x : D} {ds : List D} {fr : Fr} {N : Fr → Sto → Prop} {T : D → Sto → Prop} (hok : ok st = true) (h : (turn x fr st).wp (fun fr st => (forF ok turn ds fr st).wp N T) T) : (forF ok turn (x :: ds) fr st).wp N T := by
  rw [forF, if_pos hok, cw_seq]; exact h
theorem for_nil {ok : Sto → Bool} {turn : D → Fr → Sto → C} {fr : Fr} {N : Fr → Sto → Prop} {T : D → Sto → Prop} (hok : ok st = true) (h : N fr st) : (forF ok turn [] fr st).wp N T := by
  rw [forF, if_pos hok]; exact cw_nx.mpr h
theorem mem3_s {w x y z : List Char} : memF st (.str w) (.tup [.str x, .str y, .str z]) = some ((x == w) || ((y == w) || (z == w))) := by simp [memF, memF.memL, flatF, eqS]
end
def DK.two : DK → Bool
  | .put => true
  | .rule => true
  | _ => false
def DK.three : DK → Bool
  | .put => true
  | .rule => true
  | .drop => true
  | _ => false
theorem Deed.eq (d : Deed) : d.toD = .tup (.str d.k.nm :: .str d.n :: if d.k.two = true then [d.v] else []) := by
  obtain ⟨k, n, v⟩ := d
  cases k <;> rfl
section
variable {P : Prog} {st : Sto} {Q : D × Sto → Prop} {n i : Nat}
def bodyDo : Ss := (.cons (.ife (.and (.op .eq (.ix (.v 1) (.c (.int 0))) (.v 3)) (.op .nmem (.v 2) (.v 5)))
    (.cons (.ex (.bm .append (.v 5) (.cons (.v 2) .nil)))
    .nil)
    .nil)
    (.cons (.ife (.and (.op .eq (.ix (.v 1) (.c (.int 0))) (.v 4)) (.op .mem (.v 2) (.v 5)))
    (.cons (.ex (.bm .remove (.v 5) (.cons (.v 2) .nil)))
    .nil)
    .nil)
    .nil))
theorem bodyDo_wp {cf mf : Cf} {N : Fr → Sto → Prop} {T : D → Sto → Prop} {x0 : Option D} {k x w o : List Char} {r : List D} {s : Nat} {ss : List (List Char)} (hwo : w ≠ o) (hl : ss.length ≤ 1000) (hs : st[s]? = some (.lst (ss.map .str)))
    (q : N [x0, some (.tup (.str k :: r)), some (.str x), some (.str w), some (.str o), some (.ref s)] (st.set s (.lst ((updL (k == w) (k == o) x ss).map .str)))) : (evSs P cf mf bodyDo [x0, some (.tup (.str k :: r)), some (.str x), some (.str w), some (.str o), some (.ref s)] st).wp N T := by
  have hsz : SZ = 1000000 := rfl
  unfold bodyDo
  by_cases h1 : k = w
  · have e1 : (k == w) = true := by rw [h1]; exact beq_self_eq_true _
    have e2 : (k == o) = false := beq_eq_false_iff_ne.mpr (by rw [h1]; exact hwo)
    have e2' : (k = o) = False := eq_false (by rw [h1]; exact hwo)
    have h1' : (k = w) = True := eq_true h1
    rw [e1, e2] at q
    refine seq_wp (M := fun fr st' => fr = [x0, some (.tup (.str k :: r)), some (.str x), some (.str w), some (.str o), some (.ref s)] ∧ st' = st.set s (.lst ((updL true false x ss).map .str))) ?_ ?_
    · refine s_ife_w.mpr ?_
      simp only [seval, MP.sv0, MP.sv1, MP.sv2, MP.sv3, MP.sv4, MP.sv5, mem_lst hs, e1, h1', if_true]
      by_cases h2 : x ∈ ss
      · have h2' : (x ∈ ss) = True := eq_true h2
        simp only [seval, MP.sv0, MP.sv1, MP.sv2, MP.sv3, MP.sv4, MP.sv5, h2', decide_true, if_true, updL, Bool.not_true, Bool.false_eq_true, if_false, set_same hs]
      · have h2' : (x ∈ ss) = False := eq_false h2
        simp only [seval, MP.sv0, MP.sv1, MP.sv2, MP.sv3, MP.sv4, MP.sv5, h2', decide_false, if_true, updL, Bool.not_false, if_false, kd_ref hs, ap_ref hs, List.length_map]
        refine ⟨by omega, ?_⟩
        rw [List.map_append]; rfl
    rintro fr st' ⟨rfl, rfl⟩
    refine skip_if ?_ ?_
    · simp only [seval, MP.sv0, MP.sv1, MP.sv2, MP.sv3, MP.sv4, MP.sv5, e2, e2', if_false]
    rw [s_nil_w]
    exact q
  · have e1 : (k == w) = false := beq_eq_false_iff_ne.mpr h1
    have e1' : (k = w) = False := eq_false h1
    rw [e1] at q
    refine skip_if ?_ ?_
    · simp only [seval, MP.sv0, MP.sv1, MP.sv2, MP.sv3, MP.sv4, MP.sv5, e1, e1', if_false]
    refine seq_wp (M := fun fr st' => fr = [x0, some (.tup (.str k :: r)), some (.str x), some (.str w), some (.str o), some (.ref s)] ∧ st' = st.set s (.lst ((updL false (k == o) x ss).map .str))) ?_ ?_
    · refine s_ife_w.mpr ?_
      by_cases h3 : k = o
      · have e3 : (k == o) = true := by rw [h3]; exact beq_self_eq_true _
        have e3' : (k = o) = True := eq_true h3
        simp only [seval, MP.sv0, MP.sv1, MP.sv2, MP.sv3, MP.sv4, MP.sv5, mem_lst hs, e3, e3', if_true]
        by_cases h2 : x ∈ ss
        · have h2' : (x ∈ ss) = True := eq_true h2
          simp only [seval, MP.sv0, MP.sv1, MP.sv2, MP.sv3, MP.sv4, MP.sv5, h2', decide_true, if_true, updL, Bool.false_eq_true, if_false, kd_ref hs, remove_ref hs h2]
        · have h2' : (x ∈ ss) = False := eq_false h2
          simp only [seval, MP.sv0, MP.sv1, MP.sv2, MP.sv3, MP.sv4, MP.sv5, h2', decide_false, if_true, updL, Bool.false_eq_true, if_false, List.erase_of_not_mem h2, set_same hs]
      · have e3 : (k == o) = false := beq_eq_false_iff_ne.mpr h3
        have e3' : (k = o) = False := eq_false h3
        simp only [seval, MP.sv0, MP.sv1, MP.sv2, MP.sv3, MP.sv4, MP.sv5, e3, e3', if_false, updL, Bool.false_eq_true, set_same hs]
    rintro fr st' ⟨rfl, rfl⟩
    rw [s_nil_w]
    exact q
theorem do_spec (h : P.fns[i]? = some fdLDo) {p a b c d : Nat} {hs : HS} (A : At st a b c d hs) (hp : st[p]? = some (.lst [.ref a, .ref b, .ref c, .ref d])) (sm : hs.Sm 1000) (de : Deed) (q : ∀ st', At st' a b c d (hs.step de) → K4 a b c d st st' → Q (.non, st')) : (callF P (n + 1) i [.ref p, de.toD] st).wp Q := by
  have hsz : SZ = 1000000 := rfl
  obtain ⟨s1, s2, s3, s4⟩ := sm
  have pa : p ≠ a := ne_of hp A.ha (by simp)
  have pb : p ≠ b := ne_of hp A.hb (by simp)
  have pc : p ≠ c := ne_of hp A.hc (by cases hs.opn <;> simp)
  have pd : p ≠ d := ne_of hp A.hd (by cases hs.wis <;> simp)
  have hpk : ∀ {st'}, K4 a b c d st st' → st'[p]? = some (.lst [.ref a, .ref b, .ref c, .ref d]) := fun k => k.at hp pa pb pc pd
  refine call_wp h rfl ?_
  simp only [fdLDo, start_cons, start0, repS, rep0, Deed.eq]
  refine stm_k fun K hK => ?_
  simp only [seval, MP.sv0, MP.sv1, MP.sv2, MP.sv3, MP.sv4, MP.sv5]
  refine hK _ _ ?_
  clear hK K
  refine seq_wp (M := fun fr st' => fr = [some (.ref p), some (.tup (.str de.k.nm :: .str de.n :: if de.k.two = true then [de.v] else [])), some (.str de.n), none, none, none] ∧ At st' a b c d ⟨if de.k.three = true then dropK hs.src (.s de.n) else hs.src, if de.k.three = true then dropK hs.rul (.s de.n) else hs.rul, hs.opn, hs.wis⟩ ∧ K4 a b c d st st') ?_ ?_
  · refine s_ife_w.mpr ?_
    simp only [seval, MP.sv0, MP.sv1, MP.sv2, MP.sv3, MP.sv4, MP.sv5, mem3_s]
    have e : ((['p', 'u', 't'] == de.k.nm) || ((['r', 'u', 'l', 'e'] == de.k.nm) || (['d', 'r', 'o', 'p'] == de.k.nm))) = de.k.three := by cases de.k <;> rfl
    rw [e]
    cases de.k.three with
    | true =>
      simp only [seval, MP.sv0, MP.sv1, MP.sv2, MP.sv3, MP.sv4, MP.sv5, if_true]
      simp only [ix_ref hp, at_0, Option.some.injEq, exists_eq_left', kd_dct A.ha]
      refine dpop A.ha fun v1 => ?_
      have A2 := A.seta (dropK hs.src (.s de.n))
      have k2 : K4 a b c d st (st.set a (.dct (dropK hs.src (.s de.n)))) := K4.seta
      generalize st.set a (.dct (dropK hs.src (.s de.n))) = st2 at A2 k2
      simp only [ix_ref (hpk k2), at_1, Option.some.injEq, exists_eq_left', kd_dct A2.hb]
      refine dpop A2.hb fun v2 => ?_
      exact ⟨A2.setb _, k2.trans K4.setb⟩
    | false =>
      simp only [seval, MP.sv0, MP.sv1, MP.sv2, MP.sv3, MP.sv4, MP.sv5, Bool.false_eq_true, if_false]
      exact ⟨A, K4.refl⟩
  rintro fr st1 ⟨rfl, A1, k1⟩
  refine seq_wp (M := fun fr st' => fr = [some (.ref p), some (.tup (.str de.k.nm :: .str de.n :: if de.k.two = true then [de.v] else [])), some (.str de.n), none, none, none] ∧ At st' a b c d ⟨(hs.step de).src, (hs.step de).rul, hs.opn, hs.wis⟩ ∧ K4 a b c d st st') ?_ ?_
  · refine s_ife_w.mpr ?_
    obtain ⟨dk, dn, dv⟩ := de
    have l1 := dropK_len hs.src (.s dn)
    have l2 := dropK_len hs.rul (.s dn)
    cases dk
    case put =>
      simp only [DK.two, DK.three, DK.nm, if_true] at A1 ⊢
      simp only [seval, MP.sv0, MP.sv1, MP.sv2, MP.sv3, MP.sv4, MP.sv5]
      simp (decide := true) only [↓reduceIte]
      simp only [seval, MP.sv0, MP.sv1, MP.sv2, MP.sv3, MP.sv4, MP.sv5, ix_ref (hpk k1)]
      simp only [seval, MP.sv0, MP.sv1, MP.sv2, MP.sv3, MP.sv4, MP.sv5, setix_dct A1.ha (by omega : (dropK hs.src (.s dn)).length < SZ)]
      exact ⟨A1.seta _, k1.trans K4.seta⟩
    case rule =>
      simp only [DK.two, DK.three, DK.nm, if_true] at A1 ⊢
      simp only [seval, MP.sv0, MP.sv1, MP.sv2, MP.sv3, MP.sv4, MP.sv5]
      try simp (decide := true) only [↓reduceIte]
      simp only [seval, MP.sv0, MP.sv1, MP.sv2, MP.sv3, MP.sv4, MP.sv5, ix_ref (hpk k1)]
      simp only [seval, MP.sv0, MP.sv1, MP.sv2, MP.sv3, MP.sv4, MP.sv5, setix_dct A1.hb (by omega : (dropK hs.rul (.s dn)).length < SZ)]
      exact ⟨A1.setb _, k1.trans K4.setb⟩
    all_goals
      simp only [DK.two, DK.three, DK.nm, if_true, Bool.false_eq_true, if_false] at A1 ⊢
      simp only [seval, MP.sv0, MP.sv1, MP.sv2, MP.sv3, MP.sv4, MP.sv5]
      try simp (decide := true) only [↓reduceIte]
      exact ⟨A1, k1⟩
  rintro fr st2 ⟨rfl, A2, k2⟩
  refine stm_k fun K hK => ?_
  simp only [seval, MP.sv0, MP.sv1, MP.sv2, MP.sv3, MP.sv4, MP.sv5]
  simp only [ix_ref (hpk k2), at_2, at_nat (xs := [D.ref a, .ref b, .ref c, .ref d]) (i := 3) (by decide) rfl, Option.some.injEq, exists_eq_left']
  rw [wk_ref sto_top]
  simp only [seval, MP.sv0, MP.sv1, MP.sv2, MP.sv3, MP.sv4, MP.sv5]
  have A3 := A2.grow (Grow.push (o := O.lst [.tup [.str ['o', 'p', 'e', 'n'], .str ['s', 'h', 'u', 't'], .ref c], .tup [.str ['w', 'i', 's', 'h'], .str ['l', 'e', 't'], .ref d]]))
  have k3 := k2.trans (Grow.push (o := O.lst [.tup [.str ['o', 'p', 'e', 'n'], .str ['s', 'h', 'u', 't'], .ref c], .tup [.str ['w', 'i', 's', 'h'], .str ['l', 'e', 't'], .ref d]])).k4
  have hF : (st2 ++ [O.lst [.tup [.str ['o', 'p', 'e', 'n'], .str ['s', 'h', 'u', 't'], .ref c], .tup [.str ['w', 'i', 's', 'h'], .str ['l', 'e', 't'], .ref d]]])[st2.length]? = some (O.lst [.tup [.str ['o', 'p', 'e', 'n'], .str ['s', 'h', 'u', 't'], .ref c], .tup [.str ['w', 'i', 's', 'h'], .str ['l', 'e', 't'], .ref d]]) := sto_top
  have hcF : c ≠ st2.length := by have := (List.getElem?_eq_some_iff.mp A2.hc).1; omega
  have hdF : d ≠ st2.length := by have := (List.getElem?_eq_some_iff.mp A2.hd).1; omega
  generalize st2 ++ [O.lst [.tup [.str ['o', 'p', 'e', 'n'], .str ['s', 'h', 'u', 't'], .ref c], .tup [.str ['w', 'i', 's', 'h'], .str ['l', 'e', 't'], .ref d]]] = st3 at A3 k3 hF
  refine for_cons (stands_at hF) ?_
  simp only [tg_tup, tgs_cons, tgs_nil, z_s0, z_ss]
  refine bodyDo_wp (w := ['o', 'p', 'e', 'n']) (o := ['s', 'h', 'u', 't']) (by decide) s3 A3.hc ?_
  have A4 := A3.setc (updL (de.k.nm == ['o', 'p', 'e', 'n']) (de.k.nm == ['s', 'h', 'u', 't']) de.n hs.opn)
  have k4 := k3.trans (K4.setc (a := a) (b := b) (c := c) (d := d) (o := O.lst ((updL (de.k.nm == ['o', 'p', 'e', 'n']) (de.k.nm == ['s', 'h', 'u', 't']) de.n hs.opn).map .str)))
  have hF4 : (st3.set c (O.lst ((updL (de.k.nm == ['o', 'p', 'e', 'n']) (de.k.nm == ['s', 'h', 'u', 't']) de.n hs.opn).map .str)))[st2.length]? = _ := (List.getElem?_set_ne hcF).trans hF
  generalize st3.set c (O.lst ((updL (de.k.nm == ['o', 'p', 'e', 'n']) (de.k.nm == ['s', 'h', 'u', 't']) de.n hs.opn).map .str)) = st4 at A4 k4 hF4
  refine for_cons (stands_at hF4) ?_
  simp only [tg_tup, tgs_cons, tgs_nil, z_s0, z_ss]
  refine bodyDo_wp (w := ['w', 'i', 's', 'h']) (o := ['l', 'e', 't']) (by decide) s4 A4.hd ?_
  have A5 := A4.setd (updL (de.k.nm == ['w', 'i', 's', 'h']) (de.k.nm == ['l', 'e', 't']) de.n hs.wis)
  have k5 := k4.trans (K4.setd (a := a) (b := b) (c := c) (d := d) (o := O.lst ((updL (de.k.nm == ['w', 'i', 's', 'h']) (de.k.nm == ['l', 'e', 't']) de.n hs.wis).map .str)))
  have hF5 : (st4.set d (O.lst ((updL (de.k.nm == ['w', 'i', 's', 'h']) (de.k.nm == ['l', 'e', 't']) de.n hs.wis).map .str)))[st2.length]? = _ := (List.getElem?_set_ne hdF).trans hF4
  generalize st4.set d (O.lst ((updL (de.k.nm == ['w', 'i', 's', 'h']) (de.k.nm == ['l', 'e', 't']) de.n hs.wis).map .str)) = st5 at A5 k5 hF5
  refine for_nil (stands_at hF5) ?_
  simp only [id]
  refine hK _ _ ?_
  rw [s_nil_w]
  refine q _ ?_ k5
  have e : hs.step de = ⟨(hs.step de).src, (hs.step de).rul, updL (de.k.nm == ['o', 'p', 'e', 'n']) (de.k.nm == ['s', 'h', 'u', 't']) de.n hs.opn, updL (de.k.nm == ['w', 'i', 's', 'h']) (de.k.nm == ['l', 'e', 't']) de.n hs.wis⟩ := by
    obtain ⟨dk, dn, dv⟩ := de
    cases dk <;> rfl
  rw [e]
  exact A5
end
end MP

set_option Elab.async false
set_option linter.all false
set_option maxRecDepth 100000
set_option maxHeartbeats 4000000
/-! MPLaw17: houses: their methods. -/
namespace MP
theorem dfl_nil {P : Prog} {f k : Nat} : dflF P f [] k = [] := by unfold dflF; split <;> simp
structure HouseP (P : Prog) where
  nn : Nat
  nm : Nat
  iw : Nat
  ms : Nat
  num : Nat
  txt : Nat
  sg : Nat
  rl : Nat
  lv : Nat
  pt : Nat
  pr : Nat
  dp : Nat
  op : Nat
  sh : Nat
  wi : Nat
  lg : Nat
  my : Nat
  rm : Nat
  ini : Nat
  hnn : P.fns[nn]? = some (fdNeedName nm)
  hnm : NameAt P nm
  hiw : P.fns[iw]? = some (fdIsWorth ms)
  hms : P.fns[ms]? = some (fdMeasured num txt ms)
  hnum : P.fns[num]? = some fdIsNumber
  htxt : P.fns[txt]? = some (fdIsText sg)
  hsg : P.fns[sg]? = some fdIsSign
  hrl : RuleAt P rl
  hlv : P.fns[lv]? = some fdHouseLeave
  hpt : P.fns[pt]? = some (fdHousePut nn iw)
  hpr : P.fns[pr]? = some (fdHousePutRule nn rl)
  hdp : P.fns[dp]? = some (fdHouseDrop nn)
  hop : P.fns[op]? = some (fdHouseOpenUp nn)
  hsh : P.fns[sh]? = some (fdHouseShut nn)
  hwi : P.fns[wi]? = some (fdHouseWish nn)
  hlg : P.fns[lg]? = some (fdHouseLetGo nn)
  hmy : P.fns[my]? = some (fdHouseMay rm)
  hrm : P.fns[rm]? = some fdRoomOf
  hini : P.fns[ini]? = some fdHouseInit
  mlv : findM P 0 0 = some (lv, [])
  mmy : findM P 0 1 = some (my, [])
  mpt : findM P 0 2 = some (pt, [])
  mpr : findM P 0 3 = some (pr, [])
  mdp : findM P 0 4 = some (dp, [])
  mop : findM P 0 5 = some (op, [])
  msh : findM P 0 6 = some (sh, [])
  mwi : findM P 0 7 = some (wi, [])
  mlg : findM P 0 8 = some (lg, [])
/-- a house at r -/
structure Hs (st : Sto) (r a b c d : Nat) (h : HS) : Prop where
  hi : st[r]? = some (.ins 0 [(0, .ref a), (1, .ref b), (2, .ref c), (3, .ref d)])
  A : At st a b c d h
section
variable {P : Prog} {st st' : Sto} {Q : D × Sto → Prop} {n i r a b c d : Nat} {h : HS}
theorem Hs.grow (H : Hs st r a b c d h) (g : Grow st st') : Hs st' r a b c d h := ⟨g.at H.hi, H.A.grow g⟩
theorem Hs.k4 {h' : HS} (H : Hs st r a b c d h) (k : K4 a b c d st st') (A : At st' a b c d h') : Hs st' r a b c d h' :=
  ⟨k.at H.hi (ne_of H.hi H.A.ha (by simp)) (ne_of H.hi H.A.hb (by simp)) (ne_of H.hi H.A.hc (by simp)) (ne_of H.hi H.A.hd (by simp)), A⟩
theorem Hs.f0 (H : Hs st r a b c d h) : fldF st (.ref r) 0 = some (.ref a) := fld_ins H.hi rfl
theorem Hs.f1 (H : Hs st r a b c d h) : fldF st (.ref r) 1 = some (.ref b) := fld_ins H.hi rfl
theorem Hs.f2 (H : Hs st r a b c d h) : fldF st (.ref r) 2 = some (.ref c) := fld_ins H.hi rfl
theorem Hs.f3 (H : Hs st r a b c d h) : fldF st (.ref r) 3 = some (.ref d) := fld_ins H.hi rfl
theorem Hs.cl (H : Hs st r a b c d h) : clsF st (.ref r) = some 0 := cls_ins H.hi
theorem leave_spec (X : HouseP P) (H : Hs st r a b c d h) {x : List Char} (q : ∀ st', At st' a b c d ⟨dropK h.src (.s x), dropK h.rul (.s x), h.opn, h.wis⟩ → K4 a b c d st st' → Q (.non, st')) : (callF P (n + 1) X.lv [.ref r, .str x] st).wp Q := by
  refine call_wp X.hlv rfl ?_
  simp only [fdHouseLeave, start_cons, start0, repS, rep0]
  refine stm_k fun K hK => ?_
  simp only [seval, MP.sv0, MP.sv1, MP.sv2, MP.sv3, MP.sv4, MP.sv5, H.f0, kd_dct H.A.ha]
  refine dpop H.A.ha fun v1 => ?_
  refine hK _ _ ?_
  clear hK K
  have A2 := H.A.seta (dropK h.src (.s x))
  have k2 : K4 a b c d st (st.set a (.dct (dropK h.src (.s x)))) := K4.seta
  have H2 := H.k4 k2 A2
  generalize st.set a (.dct (dropK h.src (.s x))) = st2 at A2 k2 H2
  refine stm_k fun K hK => ?_
  simp only [seval, MP.sv0, MP.sv1, MP.sv2, MP.sv3, MP.sv4, MP.sv5, H2.f1, kd_dct A2.hb]
  refine dpop A2.hb fun v2 => ?_
  refine hK _ _ ?_
  rw [s_nil_w]
  exact q _ (A2.setb _) (k2.trans K4.setb)
theorem put_spec (X : HouseP P) (H : Hs st r a b c d h) (sm : h.Sm 1000) {x : List Char} (hx : IsName x) {v : D} (hv : isW v = true) (q : ∀ st', At st' a b c d (h.step ⟨.put, x, v⟩) → K4 a b c d st st' → Q (.non, st')) : (callF P (n + 30) X.pt [.ref r, .str x, v] st).wp Q := by
  have hsz : SZ = 1000000 := rfl
  obtain ⟨rm, w, hx⟩ := hx
  refine call_wp X.hpt rfl ?_
  simp only [fdHousePut, start_cons, start0, repS, rep0]
  refine stm_k fun K hK => ?_
  simp only [seval, MP.sv0, MP.sv1, MP.sv2, MP.sv3, MP.sv4, MP.sv5]
  refine need_spec X.hnn X.hnm hx fun st1 g1 => ?_
  refine hK _ _ ?_
  clear hK K
  refine skip_if ?_ ?_
  · simp only [seval, MP.sv0, MP.sv1, MP.sv2, MP.sv3, MP.sv4, MP.sv5]
    have := isW_dep hv
    refine isWorth_spec X.hiw X.hms X.hnum X.htxt X.hsg (raw_saf _ _ (isW_raw hv)) (by omega) ?_
    simp only [seval, MP.sv0, MP.sv1, MP.sv2, MP.sv3, MP.sv4, MP.sv5, hv]
  have H1 := H.grow g1
  refine stm_k fun K hK => ?_
  simp only [seval, MP.sv0, MP.sv1, MP.sv2, MP.sv3, MP.sv4, MP.sv5, H1.cl, X.mlv, Option.some.injEq, exists_eq_left', dfl_nil]
  refine leave_spec X H1 fun st2 A2 k2 => ?_
  refine hK _ _ ?_
  clear hK K
  have H2 := H1.k4 k2 A2
  have := dropK_len h.src (.s x)
  have := sm.src
  refine stm_k fun K hK => ?_
  simp only [seval, MP.sv0, MP.sv1, MP.sv2, MP.sv3, MP.sv4, MP.sv5, H2.f0, setix_dct A2.ha (by show (dropK h.src (.s x)).length < SZ; omega)]
  refine hK _ _ ?_
  rw [s_nil_w]
  exact q _ (A2.seta _) ((g1.k4.trans k2).trans K4.seta)
theorem putRule_spec (X : HouseP P) (H : Hs st r a b c d h) (sm : h.Sm 1000) {x : List Char} (hx : IsName x) {v : D} (hv : RuleGood v) (q : ∀ st', At st' a b c d (h.step ⟨.rule, x, v⟩) → K4 a b c d st st' → Q (.non, st')) : (callF P (n + 40) X.pr [.ref r, .str x, v] st).wp Q := by
  have hsz : SZ = 1000000 := rfl
  obtain ⟨rm, w, hx⟩ := hx
  refine call_wp X.hpr rfl ?_
  simp only [fdHousePutRule, start_cons, start0, repS, rep0]
  refine stm_k fun K hK => ?_
  simp only [seval, MP.sv0, MP.sv1, MP.sv2, MP.sv3, MP.sv4, MP.sv5]
  refine need_spec X.hnn X.hnm hx fun st1 g1 => ?_
  refine hK _ _ ?_
  clear hK K
  have hd := hv.dep
  refine seq_wp (M := fun fr st' => fr = [some (.ref r), some (.str x), some v] ∧ Grow st1 st') ?_ ?_
  · refine s_ife_w.mpr ?_
    simp only [seval, MP.sv0, MP.sv1, MP.sv2, MP.sv3, MP.sv4, MP.sv5]
    refine isRule_spec X.hrl hv.pur (by omega) (by omega) fun st2 g2 => ?_
    simp only [seval, MP.sv0, MP.sv1, MP.sv2, MP.sv3, MP.sv4, MP.sv5, hv.ok]
    exact g2
  rintro fr st2 ⟨rfl, g2⟩
  have g12 := g1.trans g2
  have H1 := H.grow g12
  refine stm_k fun K hK => ?_
  simp only [seval, MP.sv0, MP.sv1, MP.sv2, MP.sv3, MP.sv4, MP.sv5, H1.cl, X.mlv, Option.some.injEq, exists_eq_left', dfl_nil]
  refine leave_spec X H1 fun st2 A2 k2 => ?_
  refine hK _ _ ?_
  clear hK K
  have H2 := H1.k4 k2 A2
  have := dropK_len h.rul (.s x)
  have := sm.rul
  refine stm_k fun K hK => ?_
  simp only [seval, MP.sv0, MP.sv1, MP.sv2, MP.sv3, MP.sv4, MP.sv5, H2.f1, setix_dct A2.hb (by show (dropK h.rul (.s x)).length < SZ; omega)]
  refine hK _ _ ?_
  rw [s_nil_w]
  exact q _ (A2.setb _) ((g12.k4.trans k2).trans K4.setb)
theorem drop_spec (X : HouseP P) (H : Hs st r a b c d h) {x : List Char} (hx : IsName x) {v : D} (hv : (getK h.src (.s x)).isSome = true ∨ (getK h.rul (.s x)).isSome = true) (q : ∀ st', At st' a b c d (h.step ⟨.drop, x, v⟩) → K4 a b c d st st' → Q (.non, st')) : (callF P (n + 30) X.dp [.ref r, .str x] st).wp Q := by
  obtain ⟨rm, w, hx⟩ := hx
  refine call_wp X.hdp rfl ?_
  simp only [fdHouseDrop, start_cons, start0, repS, rep0]
  refine stm_k fun K hK => ?_
  simp only [seval, MP.sv0, MP.sv1, MP.sv2, MP.sv3, MP.sv4, MP.sv5]
  refine need_spec X.hnn X.hnm hx fun st1 g1 => ?_
  refine hK _ _ ?_
  clear hK K
  have H1 := H.grow g1
  refine skip_if ?_ ?_
  · simp only [seval, MP.sv0, MP.sv1, MP.sv2, MP.sv3, MP.sv4, MP.sv5, H1.f0, H1.f1, mem_dct H1.A.ha, mem_dct H1.A.hb]
    cases h1 : (getK h.src (.s x)).isSome with
    | true => simp only [seval, MP.sv0, MP.sv1, MP.sv2, MP.sv3, MP.sv4, MP.sv5]
    | false =>
      rw [h1] at hv
      have h2 := hv.resolve_left Bool.false_ne_true
      simp only [seval, MP.sv0, MP.sv1, MP.sv2, MP.sv3, MP.sv4, MP.sv5, h2]
  refine stm_k fun K hK => ?_
  simp only [seval, MP.sv0, MP.sv1, MP.sv2, MP.sv3, MP.sv4, MP.sv5, H1.cl, X.mlv, Option.some.injEq, exists_eq_left', dfl_nil]
  refine leave_spec X H1 fun st2 A2 k2 => ?_
  refine hK _ _ ?_
  rw [s_nil_w]
  exact q _ A2 (g1.k4.trans k2)
theorem open_spec (X : HouseP P) (H : Hs st r a b c d h) (sm : h.Sm 1000) {x : List Char} (hx : IsName x) {v : D} (q : ∀ st', At st' a b c d (h.step ⟨.opn, x, v⟩) → K4 a b c d st st' → Q (.non, st')) : (callF P (n + 30) X.op [.ref r, .str x] st).wp Q := by
  have hsz : SZ = 1000000 := rfl
  obtain ⟨rm, w, hx⟩ := hx
  refine call_wp X.hop rfl ?_
  simp only [fdHouseOpenUp, start_cons, start0, repS, rep0]
  refine stm_k fun K hK => ?_
  simp only [seval, MP.sv0, MP.sv1, MP.sv2, MP.sv3, MP.sv4, MP.sv5]
  refine need_spec X.hnn X.hnm hx fun st1 g1 => ?_
  refine hK _ _ ?_
  clear hK K
  have H1 := H.grow g1
  have := sm.opn
  refine stm_k fun K hK => ?_
  simp only [seval, MP.sv0, MP.sv1, MP.sv2, MP.sv3, MP.sv4, MP.sv5, H1.f2, mem_lst H1.A.hc]
  by_cases h2 : x ∈ h.opn
  · have h2' : (x ∈ h.opn) = True := eq_true h2
    simp only [seval, MP.sv0, MP.sv1, MP.sv2, MP.sv3, MP.sv4, MP.sv5, h2', decide_true, if_true]
    refine hK _ _ ?_
    rw [s_nil_w]
    refine q _ ?_ g1.k4
    have e : h.step ⟨.opn, x, v⟩ = h := by simp only [HS.step, if_pos h2]
    rw [e]; exact H1.A
  · have h2' : (x ∈ h.opn) = False := eq_false h2
    simp only [seval, MP.sv0, MP.sv1, MP.sv2, MP.sv3, MP.sv4, MP.sv5, h2', decide_false, if_false, kd_ref H1.A.hc, ap_ref H1.A.hc, List.length_map, H1.f2]
    refine ⟨by omega, hK _ _ ?_⟩
    rw [s_nil_w]
    have A2 := H1.A.setc (h.opn ++ [x])
    rw [List.map_append] at A2
    refine q _ ?_ (g1.k4.trans K4.setc)
    have e : h.step ⟨.opn, x, v⟩ = ⟨h.src, h.rul, h.opn ++ [x], h.wis⟩ := by simp only [HS.step, if_neg h2]
    rw [e]; exact A2
theorem wish_spec (X : HouseP P) (H : Hs st r a b c d h) (sm : h.Sm 1000) {x : List Char} (hx : IsName x) {v : D} (q : ∀ st', At st' a b c d (h.step ⟨.wish, x, v⟩) → K4 a b c d st st' → Q (.non, st')) : (callF P (n + 30) X.wi [.ref r, .str x] st).wp Q := by
  have hsz : SZ = 1000000 := rfl
  obtain ⟨rm, w, hx⟩ := hx
  refine call_wp X.hwi rfl ?_
  simp only [fdHouseWish, start_cons, start0, repS, rep0]
  refine stm_k fun K hK => ?_
  simp only [seval, MP.sv0, MP.sv1, MP.sv2, MP.sv3, MP.sv4, MP.sv5]
  refine need_spec X.hnn X.hnm hx fun st1 g1 => ?_
  refine hK _ _ ?_
  clear hK K
  have H1 := H.grow g1
  have := sm.wis
  refine stm_k fun K hK => ?_
  simp only [seval, MP.sv0, MP.sv1, MP.sv2, MP.sv3, MP.sv4, MP.sv5, H1.f3, mem_lst H1.A.hd]
  by_cases h2 : x ∈ h.wis
  · have h2' : (x ∈ h.wis) = True := eq_true h2
    simp only [seval, MP.sv0, MP.sv1, MP.sv2, MP.sv3, MP.sv4, MP.sv5, h2', decide_true, if_true]
    refine hK _ _ ?_
    rw [s_nil_w]
    refine q _ ?_ g1.k4
    have e : h.step ⟨.wish, x, v⟩ = h := by simp only [HS.step, if_pos h2]
    rw [e]; exact H1.A
  · have h2' : (x ∈ h.wis) = False := eq_false h2
    simp only [seval, MP.sv0, MP.sv1, MP.sv2, MP.sv3, MP.sv4, MP.sv5, h2', decide_false, if_false, kd_ref H1.A.hd, ap_ref H1.A.hd, List.length_map, H1.f3]
    refine ⟨by omega, hK _ _ ?_⟩
    rw [s_nil_w]
    have A2 := H1.A.setd (h.wis ++ [x])
    rw [List.map_append] at A2
    refine q _ ?_ (g1.k4.trans K4.setd)
    have e : h.step ⟨.wish, x, v⟩ = ⟨h.src, h.rul, h.opn, h.wis ++ [x]⟩ := by simp only [HS.step, if_neg h2]
    rw [e]; exact A2
theorem shut_spec (X : HouseP P) (H : Hs st r a b c d h) {x : List Char} (hx : IsName x) {v : D} (q : ∀ st', At st' a b c d (h.step ⟨.sht, x, v⟩) → K4 a b c d st st' → Q (.non, st')) : (callF P (n + 30) X.sh [.ref r, .str x] st).wp Q := by
  obtain ⟨rm, w, hx⟩ := hx
  refine call_wp X.hsh rfl ?_
  simp only [fdHouseShut, start_cons, start0, repS, rep0]
  refine stm_k fun K hK => ?_
  simp only [seval, MP.sv0, MP.sv1, MP.sv2, MP.sv3, MP.sv4, MP.sv5]
  refine need_spec X.hnn X.hnm hx fun st1 g1 => ?_
  refine hK _ _ ?_
  clear hK K
  have H1 := H.grow g1
  refine stm_k fun K hK => ?_
  simp only [seval, MP.sv0, MP.sv1, MP.sv2, MP.sv3, MP.sv4, MP.sv5, H1.f2, mem_lst H1.A.hc]
  by_cases h2 : x ∈ h.opn
  · have h2' : (x ∈ h.opn) = True := eq_true h2
    simp only [seval, MP.sv0, MP.sv1, MP.sv2, MP.sv3, MP.sv4, MP.sv5, h2', decide_true, if_true, H1.f2, kd_ref H1.A.hc, remove_ref H1.A.hc h2]
    refine hK _ _ ?_
    rw [s_nil_w]
    exact q _ (H1.A.setc _) (g1.k4.trans K4.setc)
  · have h2' : (x ∈ h.opn) = False := eq_false h2
    simp only [seval, MP.sv0, MP.sv1, MP.sv2, MP.sv3, MP.sv4, MP.sv5, h2', decide_false, if_false, Bool.false_eq_true]
    refine hK _ _ ?_
    rw [s_nil_w]
    refine q _ ?_ g1.k4
    have e : h.step ⟨.sht, x, v⟩ = h := by simp only [HS.step, List.erase_of_not_mem h2]
    rw [e]; exact H1.A
theorem letGo_spec (X : HouseP P) (H : Hs st r a b c d h) {x : List Char} (hx : IsName x) {v : D} (q : ∀ st', At st' a b c d (h.step ⟨.lets, x, v⟩) → K4 a b c d st st' → Q (.non, st')) : (callF P (n + 30) X.lg [.ref r, .str x] st).wp Q := by
  obtain ⟨rm, w, hx⟩ := hx
  refine call_wp X.hlg rfl ?_
  simp only [fdHouseLetGo, start_cons, start0, repS, rep0]
  refine stm_k fun K hK => ?_
  simp only [seval, MP.sv0, MP.sv1, MP.sv2, MP.sv3, MP.sv4, MP.sv5]
  refine need_spec X.hnn X.hnm hx fun st1 g1 => ?_
  refine hK _ _ ?_
  clear hK K
  have H1 := H.grow g1
  refine stm_k fun K hK => ?_
  simp only [seval, MP.sv0, MP.sv1, MP.sv2, MP.sv3, MP.sv4, MP.sv5, H1.f3, mem_lst H1.A.hd]
  by_cases h2 : x ∈ h.wis
  · have h2' : (x ∈ h.wis) = True := eq_true h2
    simp only [seval, MP.sv0, MP.sv1, MP.sv2, MP.sv3, MP.sv4, MP.sv5, h2', decide_true, if_true, H1.f3, kd_ref H1.A.hd, remove_ref H1.A.hd h2]
    refine hK _ _ ?_
    rw [s_nil_w]
    exact q _ (H1.A.setd _) (g1.k4.trans K4.setd)
  · have h2' : (x ∈ h.wis) = False := eq_false h2
    simp only [seval, MP.sv0, MP.sv1, MP.sv2, MP.sv3, MP.sv4, MP.sv5, h2', decide_false, if_false, Bool.false_eq_true]
    refine hK _ _ ?_
    rw [s_nil_w]
    refine q _ ?_ g1.k4
    have e : h.step ⟨.lets, x, v⟩ = h := by simp only [HS.step, List.erase_of_not_mem h2]
    rw [e]; exact H1.A
end
end MP

set_option Elab.async false
set_option linter.all false
set_option maxRecDepth 100000
set_option maxHeartbeats 4000000
/-! MPLaw18: a hand's deed done in a house; a new house; who may look. -/
namespace MP
section
variable {P : Prog} {st st' : Sto} {Q : D × Sto → Prop} {n i r a b c d : Nat} {h : HS}
theorem drop_same {x : List Char} {v : D} (h1 : (getK h.src (.s x)).isSome = false) (h2 : (getK h.rul (.s x)).isSome = false) : h.step ⟨.drop, x, v⟩ = h := by
  simp only [HS.step]
  rw [drop_none (by simpa using h1), drop_none (by simpa using h2)]
theorem hand_spec (X : HouseP P) (h0 : P.fns[i]? = some fdLHand) (H : Hs st r a b c d h) (sm : h.Sm 1000) {de : Deed} (hd : de.Ok) (q : ∀ st', At st' a b c d (h.step de) → K4 a b c d st st' → Q (.non, st')) : (callF P (n + 42) i [.ref r, de.toD] st).wp Q := by
  refine call_wp h0 rfl ?_
  obtain ⟨k, x, v⟩ := de
  cases k
  case put =>
    simp only [fdLHand, Deed.toD, DK.nm, start_cons, start0, repS, rep0]
    refine take_if ?_ ?_
    · simp only [seval, MP.sv0, MP.sv1, MP.sv2, MP.sv3, MP.sv4, MP.sv5]
    refine stm_k fun K hK => ?_
    simp only [seval, MP.sv0, MP.sv1, MP.sv2, MP.sv3, MP.sv4, MP.sv5, H.cl, X.mpt, Option.some.injEq, exists_eq_left', dfl_nil]
    refine put_spec X H sm hd.n (hd.src rfl) fun st2 A2 k2 => ?_
    refine hK _ _ ?_
    simp only [s_nil_w]
    exact q _ A2 k2
  case rule =>
    simp only [fdLHand, Deed.toD, DK.nm, start_cons, start0, repS, rep0]
    refine skip_ife ?_ ?_
    · simp only [seval, MP.sv0, MP.sv1, MP.sv2, MP.sv3, MP.sv4, MP.sv5]; simp (decide := true)
    refine take_if ?_ ?_
    · simp only [seval, MP.sv0, MP.sv1, MP.sv2, MP.sv3, MP.sv4, MP.sv5]
    refine stm_k fun K hK => ?_
    simp only [seval, MP.sv0, MP.sv1, MP.sv2, MP.sv3, MP.sv4, MP.sv5, H.cl, X.mpr, Option.some.injEq, exists_eq_left', dfl_nil]
    refine putRule_spec X H sm hd.n (hd.rul rfl) fun st2 A2 k2 => ?_
    refine hK _ _ ?_
    simp only [s_nil_w]
    exact q _ A2 k2
  case drop =>
    simp only [fdLHand, Deed.toD, DK.nm, start_cons, start0, repS, rep0]
    refine skip_ife ?_ ?_
    · simp only [seval, MP.sv0, MP.sv1, MP.sv2, MP.sv3, MP.sv4, MP.sv5]; simp (decide := true)
    refine skip_ife ?_ ?_
    · simp only [seval, MP.sv0, MP.sv1, MP.sv2, MP.sv3, MP.sv4, MP.sv5]; simp (decide := true)
    by_cases hm : (getK h.src (.s x)).isSome = true ∨ (getK h.rul (.s x)).isSome = true
    · refine take_if ?_ ?_
      · simp only [seval, MP.sv0, MP.sv1, MP.sv2, MP.sv3, MP.sv4, MP.sv5, H.f0, H.f1, mem_dct H.A.ha, mem_dct H.A.hb]
        cases h1 : (getK h.src (.s x)).isSome with
        | true => simp only [seval, MP.sv0, MP.sv1, MP.sv2, MP.sv3, MP.sv4, MP.sv5]
        | false =>
          rw [h1] at hm
          have h2 := hm.resolve_left Bool.false_ne_true
          simp only [seval, MP.sv0, MP.sv1, MP.sv2, MP.sv3, MP.sv4, MP.sv5, h2]
      refine stm_k fun K hK => ?_
      simp only [seval, MP.sv0, MP.sv1, MP.sv2, MP.sv3, MP.sv4, MP.sv5, H.cl, X.mdp, Option.some.injEq, exists_eq_left', dfl_nil]
      refine drop_spec (v := v) X H hd.n hm fun st2 A2 k2 => ?_
      refine hK _ _ ?_
      simp only [s_nil_w]
      exact q _ A2 k2
    · have h1 : (getK h.src (.s x)).isSome = false := by simpa using fun e => hm (.inl e)
      have h2 : (getK h.rul (.s x)).isSome = false := by simpa using fun e => hm (.inr e)
      refine skip_ife ?_ ?_
      · simp only [seval, MP.sv0, MP.sv1, MP.sv2, MP.sv3, MP.sv4, MP.sv5, H.f0, H.f1, mem_dct H.A.ha, mem_dct H.A.hb, h1, h2]
      refine skip_ife ?_ ?_
      · simp only [seval, MP.sv0, MP.sv1, MP.sv2, MP.sv3, MP.sv4, MP.sv5]; simp (decide := true)
      refine skip_ife ?_ ?_
      · simp only [seval, MP.sv0, MP.sv1, MP.sv2, MP.sv3, MP.sv4, MP.sv5]; simp (decide := true)
      refine skip_ife ?_ ?_
      · simp only [seval, MP.sv0, MP.sv1, MP.sv2, MP.sv3, MP.sv4, MP.sv5]; simp (decide := true)
      refine skip_ife ?_ ?_
      · simp only [seval, MP.sv0, MP.sv1, MP.sv2, MP.sv3, MP.sv4, MP.sv5]; simp (decide := true)
      simp only [s_nil_w]
      refine q _ ?_ K4.refl
      rw [drop_same h1 h2]
      exact H.A
  case opn =>
    simp only [fdLHand, Deed.toD, DK.nm, start_cons, start0, repS, rep0]
    iterate 3
      refine skip_ife ?_ ?_
      · simp only [seval, MP.sv0, MP.sv1, MP.sv2, MP.sv3, MP.sv4, MP.sv5]; simp (decide := true)
    refine take_if ?_ ?_
    · simp only [seval, MP.sv0, MP.sv1, MP.sv2, MP.sv3, MP.sv4, MP.sv5]
    refine stm_k fun K hK => ?_
    simp only [seval, MP.sv0, MP.sv1, MP.sv2, MP.sv3, MP.sv4, MP.sv5, H.cl, X.mop, Option.some.injEq, exists_eq_left', dfl_nil]
    refine open_spec (v := v) X H sm hd.n fun st2 A2 k2 => ?_
    refine hK _ _ ?_
    simp only [s_nil_w]
    exact q _ A2 k2
  case sht =>
    simp only [fdLHand, Deed.toD, DK.nm, start_cons, start0, repS, rep0]
    iterate 4
      refine skip_ife ?_ ?_
      · simp only [seval, MP.sv0, MP.sv1, MP.sv2, MP.sv3, MP.sv4, MP.sv5]; simp (decide := true)
    refine take_if ?_ ?_
    · simp only [seval, MP.sv0, MP.sv1, MP.sv2, MP.sv3, MP.sv4, MP.sv5]
    refine stm_k fun K hK => ?_
    simp only [seval, MP.sv0, MP.sv1, MP.sv2, MP.sv3, MP.sv4, MP.sv5, H.cl, X.msh, Option.some.injEq, exists_eq_left', dfl_nil]
    refine shut_spec (v := v) X H hd.n fun st2 A2 k2 => ?_
    refine hK _ _ ?_
    simp only [s_nil_w]
    exact q _ A2 k2
  case wish =>
    simp only [fdLHand, Deed.toD, DK.nm, start_cons, start0, repS, rep0]
    iterate 5
      refine skip_ife ?_ ?_
      · simp only [seval, MP.sv0, MP.sv1, MP.sv2, MP.sv3, MP.sv4, MP.sv5]; simp (decide := true)
    refine take_if ?_ ?_
    · simp only [seval, MP.sv0, MP.sv1, MP.sv2, MP.sv3, MP.sv4, MP.sv5]
    refine stm_k fun K hK => ?_
    simp only [seval, MP.sv0, MP.sv1, MP.sv2, MP.sv3, MP.sv4, MP.sv5, H.cl, X.mwi, Option.some.injEq, exists_eq_left', dfl_nil]
    refine wish_spec (v := v) X H sm hd.n fun st2 A2 k2 => ?_
    refine hK _ _ ?_
    simp only [s_nil_w]
    exact q _ A2 k2
  case lets =>
    simp only [fdLHand, Deed.toD, DK.nm, start_cons, start0, repS, rep0]
    iterate 6
      refine skip_ife ?_ ?_
      · simp only [seval, MP.sv0, MP.sv1, MP.sv2, MP.sv3, MP.sv4, MP.sv5]; simp (decide := true)
    refine take_if ?_ ?_
    · simp only [seval, MP.sv0, MP.sv1, MP.sv2, MP.sv3, MP.sv4, MP.sv5]
    refine stm_k fun K hK => ?_
    simp only [seval, MP.sv0, MP.sv1, MP.sv2, MP.sv3, MP.sv4, MP.sv5, H.cl, X.mlg, Option.some.injEq, exists_eq_left', dfl_nil]
    refine letGo_spec (v := v) X H hd.n fun st2 A2 k2 => ?_
    refine hK _ _ ?_
    simp only [s_nil_w]
    exact q _ A2 k2
/-! ### a new house -/
theorem pair_nil : pairF [] = some [] := rfl
theorem ins_at {o : O} {tl : Sto} : (st ++ o :: tl)[st.length]? = some o := by simp
theorem ins_app {x o : O} {tl : Sto} : st ++ x :: tl ++ [o] = st ++ x :: (tl ++ [o]) := by simp
theorem ins_set {x y : O} {tl : Sto} : (st ++ x :: tl).set st.length y = st ++ y :: tl := by rw [List.set_append_right _ _ (Nat.le_refl _)]; simp
theorem ins_len {x : O} {tl : Sto} : (st ++ x :: tl).length = st.length + (tl.length + 1) := by simp
def newH (st : Sto) : Sto := st ++ [.ins 0 [(0, .ref (st.length + 1)), (1, .ref (st.length + 2)), (2, .ref (st.length + 3)), (3, .ref (st.length + 4))], .dct [], .dct [], .lst [], .lst []]
theorem setfld_tl {f : Nat} {fs : List (Nat × D)} {tl : Sto} {v : D} (hl : fs.length < 500) : setFldF (st ++ O.ins 0 fs :: tl) (.ref st.length) f v = some (st ++ O.ins 0 (putN f v fs) :: tl) := by
  rw [setfld_ins ins_at hl, ins_set]
theorem houseInit_spec (X : HouseP P) (q : Q (.non, newH st)) : (callF P (n + 1) X.ini [.ref st.length] (st ++ [.ins 0 []])).wp Q := by
  refine call_wp X.hini rfl ?_
  simp only [fdHouseInit, start_cons, start0, repS, rep0]
  iterate 4
    refine stm_k fun K hK => ?_
    simp only [seval, MP.sv0, MP.sv1, MP.sv2, MP.sv3, MP.sv4, MP.sv5, pair_nil, Option.some.injEq, exists_eq_left', List.foldl_nil, ins_app, setfld_tl, List.length_nil, List.length_cons]
    simp only [putN, Nat.reduceLT, Nat.reduceEqDiff, if_false, ins_app, setfld_tl, seval, MP.sv0, MP.sv1, MP.sv2, MP.sv3, MP.sv4, MP.sv5, List.length_append, List.length_cons, List.length_nil]
    refine hK _ _ ?_
    clear hK K
  rw [s_nil_w]
  exact q
theorem houseMake_spec (X : HouseP P) {Q : Sto → Prop} (q : Q (newH st)) : (makeF P (n + 2) X.ini [.ref st.length] (st ++ [.ins 0 []])).wp fun p => p.1 = .non ∧ Q p.2 := by
  show (callF P (n + 1) X.ini [.ref st.length] (st ++ [.ins 0 []])).wp _
  exact houseInit_spec X ⟨rfl, q⟩
def HS.nil : HS := ⟨[], [], [], []⟩
theorem newH_at : Hs (newH st) st.length (st.length + 1) (st.length + 2) (st.length + 3) (st.length + 4) HS.nil := by
  have e : ∀ (k : Nat) (tl : Sto), (st ++ tl)[st.length + k]? = tl[k]? := fun k tl => by rw [List.getElem?_append_right (by omega)]; congr 1; omega
  refine ⟨?_, ?_, ?_, ?_, ?_, by omega, by omega⟩
  · exact (e 0 _).trans rfl
  · exact (e 1 _).trans rfl
  · exact (e 2 _).trans rfl
  · exact (e 3 _).trans rfl
  · exact (e 4 _).trans rfl
theorem newH_grow : Grow st (newH st) := ⟨_, rfl⟩
/-! ### who may look -/
theorem may_spec (X : HouseP P) (H : Hs st r a b c d h) {lk : D} {x rx wx : List Char} {l : Option (List Char)} (hx : NameOk x rx wx) (hl : (lk = .non ∧ l = none) ∨ ∃ y ry wy, NameOk y ry wy ∧ lk = .str y ∧ l = some ry) (q : Q (.bl (decide (l = none ∨ x ∈ h.opn ∨ l = some rx)), st)) : (callF P (n + 5) X.my [.ref r, lk, .str x] st).wp Q := by
  refine call_wp X.hmy rfl ?_
  simp only [fdHouseMay, start_cons, start0, repS, rep0]
  rcases hl with ⟨rfl, rfl⟩ | ⟨y, ry, wy, hy, rfl, rfl⟩
  · rw [decide_eq_true (.inl rfl)] at q
    refine take_if ?_ ?_
    · simp only [seval, MP.sv0, MP.sv1, MP.sv2, MP.sv3, MP.sv4, MP.sv5]
    refine ret_one ?_
    simp only [seval, MP.sv0, MP.sv1, MP.sv2, MP.sv3, MP.sv4, MP.sv5]
    exact q
  · by_cases hm : x ∈ h.opn
    · rw [decide_eq_true (.inr (.inl hm))] at q
      refine take_if ?_ ?_
      · simp only [seval, MP.sv0, MP.sv1, MP.sv2, MP.sv3, MP.sv4, MP.sv5, H.f2, mem_lst H.A.hc, decide_eq_true hm]
      refine ret_one ?_
      simp only [seval, MP.sv0, MP.sv1, MP.sv2, MP.sv3, MP.sv4, MP.sv5]
      exact q
    · refine skip_if ?_ ?_
      · simp only [seval, MP.sv0, MP.sv1, MP.sv2, MP.sv3, MP.sv4, MP.sv5, H.f2, mem_lst H.A.hc, decide_eq_false hm]
      refine ret_one ?_
      simp only [seval, MP.sv0, MP.sv1, MP.sv2, MP.sv3, MP.sv4, MP.sv5]
      refine roomN_spec X.hrm hy ?_
      simp only [seval, MP.sv0, MP.sv1, MP.sv2, MP.sv3, MP.sv4, MP.sv5]
      refine roomN_spec X.hrm hx ?_
      simp only [seval, MP.sv0, MP.sv1, MP.sv2, MP.sv3, MP.sv4, MP.sv5]
      have e : decide (some ry = none ∨ x ∈ h.opn ∨ some ry = some rx) = (ry == rx) := by
        by_cases e : ry = rx
        · rw [beq_iff_eq.mpr e, decide_eq_true (.inr (.inr (by rw [e])))]
        · rw [beq_eq_false_iff_ne.mpr e, decide_eq_false]
          rintro (h | h | h)
          · cases h
          · exact hm h
          · exact e (Option.some.inj h)
      rw [e] at q
      exact q
end
end MP

set_option Elab.async false
set_option linter.all false
set_option maxRecDepth 100000
set_option maxHeartbeats 400000
/-! MPLaw19: a house and a law's picture of it. -/
namespace MP
def partsO (L : Nat) : Sto := [.dct [], .dct [], .lst [], .lst [], .lst [.ref L, .ref (L + 1), .ref (L + 2), .ref (L + 3)]]
theorem parts_eq (st : Sto) : st ++ [O.dct []] ++ [O.dct []] ++ [O.lst []] ++ [O.lst []] ++ [O.lst [.ref st.length, .ref (st ++ [O.dct []]).length, .ref (st ++ [O.dct []] ++ [O.dct []]).length, .ref (st ++ [O.dct []] ++ [O.dct []] ++ [O.lst []]).length]] = st ++ partsO st.length := by simp [partsO]
theorem app_at {st tl : Sto} (k : Nat) : (st ++ tl)[st.length + k]? = tl[k]? := by rw [List.getElem?_append_right (by omega)]; congr 1; omega
theorem parts_at {st : Sto} : At (st ++ partsO st.length) st.length (st.length + 1) (st.length + 2) (st.length + 3) HS.nil :=
  ⟨(app_at 0).trans rfl, (app_at 1).trans rfl, (app_at 2).trans rfl, (app_at 3).trans rfl, by omega, by omega⟩
theorem parts_p {st : Sto} : (st ++ partsO st.length)[st.length + 4]? = some (.lst [.ref st.length, .ref (st.length + 1), .ref (st.length + 2), .ref (st.length + 3)]) := (app_at 4).trans rfl
theorem parts_len {st : Sto} {L : Nat} : (st ++ partsO L).length = st.length + 5 := by simp [partsO]
/-- all but these eight stands as it was -/
def K8 (a b c d a' b' c' d' : Nat) (st st' : Sto) : Prop := st.length ≤ st'.length ∧ ∀ n, n < st.length → (n ≠ a ∧ n ≠ b ∧ n ≠ c ∧ n ≠ d) → (n ≠ a' ∧ n ≠ b' ∧ n ≠ c' ∧ n ≠ d') → st'[n]? = st[n]?
section
variable {st st' st2 : Sto} {r a b c d a' b' c' d' p : Nat} {h h' : HS}
theorem K8.refl : K8 a b c d a' b' c' d' st st := ⟨Nat.le_refl _, fun _ _ _ _ => rfl⟩
theorem K8.trans (k : K8 a b c d a' b' c' d' st st') (k' : K8 a b c d a' b' c' d' st' st2) : K8 a b c d a' b' c' d' st st2 := ⟨Nat.le_trans k.1 k'.1, fun n hn h1 h2 => (k'.2 n (Nat.lt_of_lt_of_le hn k.1) h1 h2).trans (k.2 n hn h1 h2)⟩
theorem K4.l8 (k : K4 a b c d st st') : K8 a b c d a' b' c' d' st st' := ⟨k.1, fun n hn h1 _ => k.2 n hn h1.1 h1.2.1 h1.2.2.1 h1.2.2.2⟩
theorem K4.r8 (k : K4 a' b' c' d' st st') : K8 a b c d a' b' c' d' st st' := ⟨k.1, fun n hn _ h1 => k.2 n hn h1.1 h1.2.1 h1.2.2.1 h1.2.2.2⟩
theorem K8.at (k : K8 a b c d a' b' c' d' st st') {n : Nat} {o : O} (e : st[n]? = some o) (h1 : n ≠ a ∧ n ≠ b ∧ n ≠ c ∧ n ≠ d) (h2 : n ≠ a' ∧ n ≠ b' ∧ n ≠ c' ∧ n ≠ d') : st'[n]? = some o := by rw [k.2 n (List.getElem?_eq_some_iff.mp e).1 h1 h2]; exact e
/-- a house and its picture, each by what hands did -/
structure Both (st : Sto) (r a' b' c' d' p a b c d : Nat) (h' h : HS) : Prop where
  H : Hs st r a' b' c' d' h'
  A : At st a b c d h
  hp : st[p]? = some (.lst [.ref a, .ref b, .ref c, .ref d])
  ne : ∀ n, n = a' ∨ n = b' ∨ n = c' ∨ n = d' → n ≠ a ∧ n ≠ b ∧ n ≠ c ∧ n ≠ d
theorem Both.pA (B : Both st r a' b' c' d' p a b c d h' h) : p ≠ a ∧ p ≠ b ∧ p ≠ c ∧ p ≠ d :=
  ⟨ne_of B.hp B.A.ha (by simp), ne_of B.hp B.A.hb (by simp), ne_of B.hp B.A.hc (by cases h.opn <;> simp), ne_of B.hp B.A.hd (by cases h.wis <;> simp)⟩
theorem Both.pH (B : Both st r a' b' c' d' p a b c d h' h) : p ≠ a' ∧ p ≠ b' ∧ p ≠ c' ∧ p ≠ d' :=
  ⟨ne_of B.hp B.H.A.ha (by simp), ne_of B.hp B.H.A.hb (by simp), ne_of B.hp B.H.A.hc (by cases h'.opn <;> simp), ne_of B.hp B.H.A.hd (by cases h'.wis <;> simp)⟩
theorem Both.rA (B : Both st r a' b' c' d' p a b c d h' h) : r ≠ a ∧ r ≠ b ∧ r ≠ c ∧ r ≠ d :=
  ⟨ne_of B.H.hi B.A.ha (by simp), ne_of B.H.hi B.A.hb (by simp), ne_of B.H.hi B.A.hc (by simp), ne_of B.H.hi B.A.hd (by simp)⟩
theorem Both.stepA (B : Both st r a' b' c' d' p a b c d h' h) {h2 : HS} (k : K4 a b c d st st') (A : At st' a b c d h2) : Both st' r a' b' c' d' p a b c d h' h2 :=
  ⟨⟨k.at B.H.hi B.rA.1 B.rA.2.1 B.rA.2.2.1 B.rA.2.2.2, B.H.A.off k B.ne⟩, A, k.at B.hp B.pA.1 B.pA.2.1 B.pA.2.2.1 B.pA.2.2.2, B.ne⟩
theorem Both.stepH (B : Both st r a' b' c' d' p a b c d h' h) {h2 : HS} (k : K4 a' b' c' d' st st') (A : At st' a' b' c' d' h2) : Both st' r a' b' c' d' p a b c d h2 h :=
  ⟨B.H.k4 k A, B.A.off k (fun n hn => ⟨fun e => by have := B.ne n (.inl e); omega, fun e => by have := B.ne n (.inr (.inl e)); omega, fun e => by have := B.ne n (.inr (.inr (.inl e))); omega, fun e => by have := B.ne n (.inr (.inr (.inr e))); omega⟩), k.at B.hp B.pH.1 B.pH.2.1 B.pH.2.2.1 B.pH.2.2.2, B.ne⟩
theorem Both.grow (B : Both st r a' b' c' d' p a b c d h' h) (g : Grow st st') : Both st' r a' b' c' d' p a b c d h' h := ⟨B.H.grow g, B.A.grow g, g.at B.hp, B.ne⟩
end
end MP

set_option Elab.async false
set_option linter.all false
set_option maxRecDepth 100000
set_option maxHeartbeats 400000
/-! MPLaw20: things alike: dicts, lists of texts. -/
namespace MP
mutual
theorem T.eqv_refl : ∀ t : T, T.eqv t t = true
  | .non => rfl
  | .bl b => by simp [T.eqv]
  | .int i => by simp [T.eqv]
  | .str x => by simp [T.eqv]
  | .lst xs => by rw [T.eqv]; exact T.eqvs_refl xs
  | .tup xs => by rw [T.eqv]; exact T.eqvs_refl xs
theorem T.eqvs_refl : ∀ ts : List T, T.eqvs ts ts = true
  | [] => rfl
  | t :: ts => by rw [T.eqvs, T.eqv_refl t, T.eqvs_refl ts]; rfl
end
section
variable {st : Sto}
theorem eqT_refl {d : D} (h : purD d = true) (hd : depD d ≤ 60) : eqT st d d = some true := by
  rw [eqT, tree_pur st d 60 h hd]
  simp only [T.eqv_refl]
theorem eqF_refl {d : D} (h : purD d = true) (hd : depD d ≤ 60) : eqF st d d = some true := by rw [eqF, eqT_refl h hd]
/-- values that == may walk -/
structure VOk (v : D) : Prop where
  pur : purD v = true
  dep : depD v ≤ 60
theorem getK_mem {l : List (Kk × D)} (hn : (l.map (·.1)).Nodup) {p : Kk × D} (hp : p ∈ l) : getK l p.1 = some p.2 := by
  unfold getK
  induction l with
  | nil => cases hp
  | cons q l ih =>
    rw [List.map_cons, List.nodup_cons] at hn
    rcases List.mem_cons.mp hp with rfl | hp
    · rw [List.find?_cons_of_pos (by simp)]; rfl
    · rw [List.find?_cons_of_neg (by
        simp only [decide_eq_true_eq]
        intro e
        exact hn.1 (by rw [e]; exact List.mem_map_of_mem hp))]
      exact ih hn.2 hp
theorem eqKs_self {l : List (Kk × D)} (hn : (l.map (·.1)).Nodup) (hv : ∀ p ∈ l, VOk p.2) : ∀ r : List (Kk × D), (∀ p ∈ r, p ∈ l) → eqKs st l r = some true
  | [], _ => rfl
  | (k, v) :: r, hr => by
    have hp := hr (k, v) List.mem_cons_self
    rw [eqKs, getK_mem hn hp]
    dsimp only
    rw [eqT_refl (hv _ hp).pur (hv _ hp).dep, eqKs_self hn hv r fun p hp => hr p (List.mem_cons_of_mem _ hp)]
    rfl
theorem eq_dct {a b : Nat} {l : List (Kk × D)} (ha : st[a]? = some (.dct l)) (hb : st[b]? = some (.dct l)) (hn : (l.map (·.1)).Nodup) (hv : ∀ p ∈ l, VOk p.2) : eqF st (.ref a) (.ref b) = some true := by
  have e : eqT st (.ref a) (.ref b) = none := by rw [eqT, treeF, ha]
  rw [eqF, e]
  dsimp only
  rw [eqD]
  simp only [ha, hb, if_true]
  exact eqKs_self hn hv l fun _ h => h
theorem trees_strs : ∀ (ss : List (List Char)) (n : Nat), treesF st n (ss.map D.str) = some (ss.map T.str)
  | [], n => by rw [List.map_nil, treesF]; rfl
  | s :: ss, n => by rw [List.map_cons, treesF, treeF, trees_strs ss n]; rfl
theorem eq_strs {a b : Nat} {ss : List (List Char)} (ha : st[a]? = some (.lst (ss.map .str))) (hb : st[b]? = some (.lst (ss.map .str))) : eqF st (.ref a) (.ref b) = some true := by
  have e : ∀ {n : Nat}, st[n]? = some (.lst (ss.map .str)) → treeF st 60 (.ref n) = some (.lst (ss.map T.str)) := by
    intro n h
    rw [treeF, h]
    simp only [trees_strs, Option.map_some]
  rw [eqF, eqT, e ha, e hb]
  simp only [T.eqv_refl]
theorem sorted_ref {n : Nat} {ss : List (List Char)} (h : st[n]? = some (.lst (ss.map .str))) (hl : ss.length < 64) : biF .sorted [.ref n] st = .ok (.ref st.length, st ++ [.lst ((sortS ss).map .str)]) := by
  simp only [biF, dictF, h, listF, Option.bind_some, strs_map, if_pos hl, newF]
theorem isi_dct {n : Nat} {P : Prog} {l : List (Kk × D)} (h : st[n]? = some (.dct l)) : isiF P st (.ref n) .dict = some true := by simp only [isiF, h]
theorem isi_lstr {n : Nat} {P : Prog} {l : List D} (h : st[n]? = some (.lst l)) : isiF P st (.ref n) .list = some true := by simp only [isiF, h]
end
theorem nodup_len {α : Type} [DecidableEq α] : ∀ {l m : List α}, l.Nodup → (∀ x ∈ l, x ∈ m) → l.length ≤ m.length
  | [], m, _, _ => Nat.zero_le _
  | x :: l, m, hn, h => by
    rw [List.nodup_cons] at hn
    have hx := h x List.mem_cons_self
    have := nodup_len (l := l) (m := m.erase x) hn.2 (fun y hy => by
      have hne : y ≠ x := fun e => hn.1 (e ▸ hy)
      exact (List.mem_erase_of_ne hne).mpr (h y (List.mem_cons_of_mem _ hy)))
    rw [List.length_erase_of_mem hx] at this
    have : 0 < m.length := List.length_pos_of_mem hx
    rw [List.length_cons]
    omega
theorem putK_new {l : List (Kk × D)} {k : Kk} {v : D} (h : ∀ p ∈ l, p.1 ≠ k) : putK l k v = l ++ [(k, v)] := by
  unfold putK
  rw [if_neg]
  intro e
  obtain ⟨p, hp, e⟩ := List.any_eq_true.mp e
  exact h p hp (of_decide_eq_true e)
theorem dropK_ne {l : List (Kk × D)} {k : Kk} : ∀ p ∈ dropK l k, p.1 ≠ k := by
  intro p hp
  unfold dropK at hp
  have := (List.mem_filter.mp hp).2
  simpa using this
theorem dropK_mem {l : List (Kk × D)} {k : Kk} {p : Kk × D} (h : p ∈ dropK l k) : p ∈ l := (List.mem_filter.mp h).1
/-- a dict of names' things -/
structure DOk (l : List (Kk × D)) (F : D → Prop) : Prop where
  nd : (l.map (·.1)).Nodup
  vs : ∀ p ∈ l, F p.2
theorem DOk.drop {l : List (Kk × D)} {F : D → Prop} (h : DOk l F) (k : Kk) : DOk (dropK l k) F :=
  ⟨(List.filter_sublist.map _).nodup h.nd, fun p hp => h.vs p (dropK_mem hp)⟩
theorem DOk.put {l : List (Kk × D)} {F : D → Prop} (h : DOk l F) (k : Kk) {v : D} (hv : F v) : DOk (putK (dropK l k) k v) F := by
  rw [putK_new dropK_ne]
  refine ⟨?_, ?_⟩
  · rw [List.map_append, List.nodup_append]
    refine ⟨(h.drop k).nd, by simp, ?_⟩
    intro a ha b hb e
    rw [List.map_cons, List.map_nil, List.mem_singleton] at hb
    subst hb
    obtain ⟨p, hp, rfl⟩ := List.mem_map.mp ha
    exact dropK_ne p hp e
  · intro p hp
    rcases List.mem_append.mp hp with hp | hp
    · exact (h.drop k).vs p hp
    · rw [List.mem_singleton.mp hp]; exact hv
structure HS.Good (xs : List (List Char)) (h : HS) : Prop where
  src : DOk h.src fun v => isW v = true
  rul : DOk h.rul RuleGood
  opn : h.opn.Nodup
  opx : ∀ x ∈ h.opn, x ∈ xs
  wis : h.wis.Nodup
  wix : ∀ x ∈ h.wis, x ∈ xs
theorem HS.Good.nil {xs : List (List Char)} : HS.nil.Good xs := ⟨⟨List.nodup_nil, by simp [HS.nil]⟩, ⟨List.nodup_nil, by simp [HS.nil]⟩, List.nodup_nil, by simp [HS.nil], List.nodup_nil, by simp [HS.nil]⟩
theorem HS.Good.step {xs : List (List Char)} {h : HS} (g : h.Good xs) {d : Deed} (hd : d.Ok) (hx : d.n ∈ xs) : (h.step d).Good xs := by
  obtain ⟨k, n, v⟩ := d
  have add : ∀ {l : List (List Char)}, l.Nodup → (∀ x ∈ l, x ∈ xs) → (if n ∈ l then l else l ++ [n]).Nodup ∧ ∀ x ∈ (if n ∈ l then l else l ++ [n]), x ∈ xs := by
    intro l h1 h2
    split
    · exact ⟨h1, h2⟩
    · rename_i hn
      refine ⟨?_, ?_⟩
      · rw [List.nodup_append]
        refine ⟨h1, by simp, ?_⟩
        intro a ha b hb e
        rw [List.mem_singleton] at hb
        exact hn (by rw [← hb, ← e]; exact ha)
      · intro y hy
        rcases List.mem_append.mp hy with hy | hy
        · exact h2 y hy
        · rw [List.mem_singleton.mp hy]; exact hx
  have sub : ∀ {l : List (List Char)}, l.Nodup → (∀ x ∈ l, x ∈ xs) → (l.erase n).Nodup ∧ ∀ x ∈ l.erase n, x ∈ xs := fun h1 h2 => ⟨h1.erase _, fun y hy => h2 y (List.mem_of_mem_erase hy)⟩
  cases k
  case put => exact ⟨g.src.put _ (hd.src rfl), g.rul.drop _, g.opn, g.opx, g.wis, g.wix⟩
  case rule => exact ⟨g.src.drop _, g.rul.put _ (hd.rul rfl), g.opn, g.opx, g.wis, g.wix⟩
  case drop => exact ⟨g.src.drop _, g.rul.drop _, g.opn, g.opx, g.wis, g.wix⟩
  case opn => exact ⟨g.src, g.rul, (add g.opn g.opx).1, (add g.opn g.opx).2, g.wis, g.wix⟩
  case sht => exact ⟨g.src, g.rul, (sub g.opn g.opx).1, (sub g.opn g.opx).2, g.wis, g.wix⟩
  case wish => exact ⟨g.src, g.rul, g.opn, g.opx, (add g.wis g.wix).1, (add g.wis g.wix).2⟩
  case lets => exact ⟨g.src, g.rul, g.opn, g.opx, (sub g.wis g.wix).1, (sub g.wis g.wix).2⟩
theorem VOk.src {v : D} (h : isW v = true) : VOk v := ⟨raw_pur v (isW_raw h), Nat.le_trans (isW_dep h) (by decide)⟩
theorem VOk.rul {v : D} (h : RuleGood v) : VOk v := ⟨h.pur, Nat.le_trans h.dep (by decide)⟩
theorem HS.Good.len {xs : List (List Char)} {h : HS} (g : h.Good xs) : h.opn.length ≤ xs.length := nodup_len g.opn g.opx
end MP

set_option Elab.async false
set_option linter.all false
set_option maxRecDepth 100000
set_option maxHeartbeats 400000
/-! MPLaw21: worths' texts: figures, numbers read. -/
namespace MP
def fdWordEnd : FD := ⟨2, 2,
    (.cons (.whl (.and (.op .lt (.v 1) (.bi .len (.cons (.v 0) .nil))) (.and (.op .nmem (.ix (.v 0) (.v 1)) (.c (.str [' ', '\n']))) (.and (.op .nmem (.ix (.v 0) (.v 1)) (.c (.str ['(', ')']))) (.op .ne (.ix (.v 0) (.v 1)) (.c (.str ['"']))))))
    (.cons (.set (.v 1) (.op .add (.v 1) (.c (.int 1))))
    .nil))
    (.cons (.ret (.v 1))
    .nil))⟩
def fdTokens (c_word_end : Nat) : FD := ⟨1, 5,
    (.cons (.set (.v 1) (.lst .nil))
    (.cons (.set (.v 2) (.c (.int 0)))
    (.cons (.whl (.op .lt (.v 2) (.bi .len (.cons (.v 0) .nil)))
    (.cons (.set (.v 3) (.ix (.v 0) (.v 2)))
    (.cons (.set (.v 4) (.op .add (.v 2) (.c (.int 1))))
    (.cons (.ife (.op .mem (.v 3) (.c (.str ['(', ')'])))
    (.cons (.ex (.bm .append (.v 1) (.cons (.tup (.cons (.c (.str ['b', 'r', 'a', 'c', 'k', 'e', 't'])) (.cons (.v 3) .nil))) .nil)))
    .nil)
    (.cons (.ife (.op .eq (.v 3) (.c (.str ['"'])))
    (.cons (.set (.v 4) (.op .add (.bm .find (.v 0) (.cons (.c (.str ['"'])) (.cons (.op .add (.v 2) (.c (.int 1))) .nil))) (.c (.int 1))))
    (.cons (.ife (.op .eq (.v 4) (.c (.int 0)))
    (.cons .nev
    .nil)
    .nil)
    (.cons (.ex (.bm .append (.v 1) (.cons (.tup (.cons (.c (.str ['t', 'e', 'x', 't'])) (.cons (.sl (.v 0) (.so (.op .add (.v 2) (.c (.int 1)))) (.so (.op .sub (.v 4) (.c (.int 1))))) .nil))) .nil)))
    .nil)))
    (.cons (.ife (.op .nmem (.v 3) (.c (.str [' ', '\n'])))
    (.cons (.set (.v 4) (.call c_word_end (.cons (.v 0) (.cons (.v 2) .nil)) []))
    (.cons (.ex (.bm .append (.v 1) (.cons (.tup (.cons (.c (.str ['w', 'o', 'r', 'd'])) (.cons (.sl (.v 0) (.so (.v 2)) (.so (.v 4))) .nil))) .nil)))
    .nil))
    .nil)
    .nil))
    .nil))
    (.cons (.set (.v 2) (.v 4))
    .nil)))))
    (.cons (.ret (.v 1))
    .nil))))⟩
def fdTrees (c_tokens : Nat) : FD := ⟨1, 5,
    (.cons (.set (.v 1) (.lst (.cons (.lst .nil) .nil)))
    (.cons (.forr (.tup (.cons (.v 2) (.cons (.v 3) .nil))) (.any (.call c_tokens (.cons (.v 0) .nil) []))
    (.cons (.ife (.op .ne (.v 2) (.c (.str ['b', 'r', 'a', 'c', 'k', 'e', 't'])))
    (.cons (.ex (.bm .append (.ix (.v 1) (.neg (.c (.int 1)))) (.cons (.tup (.cons (.v 2) (.cons (.v 3) .nil))) .nil)))
    .nil)
    (.cons (.ife (.op .eq (.v 3) (.c (.str ['('])))
    (.cons (.ex (.bm .append (.v 1) (.cons (.lst .nil) .nil)))
    .nil)
    (.cons (.ife (.op .lt (.bi .len (.cons (.v 1) .nil)) (.c (.int 2)))
    (.cons .nev
    .nil)
    .nil)
    (.cons (.set (.v 4) (.bm .pop (.v 1) .nil))
    (.cons (.ex (.bm .append (.ix (.v 1) (.neg (.c (.int 1)))) (.cons (.tup (.cons (.c (.str ['l', 'i', 's', 't'])) (.cons (.v 4) .nil))) .nil)))
    .nil))))
    .nil))
    .nil))
    (.cons (.ife (.op .gt (.bi .len (.cons (.v 1) .nil)) (.c (.int 1)))
    (.cons .nev
    .nil)
    .nil)
    (.cons (.ret (.ix (.v 1) (.c (.int 0))))
    .nil))))⟩
def fdTree (c_trees : Nat) : FD := ⟨1, 2,
    (.cons (.set (.v 1) (.call c_trees (.cons (.v 0) .nil) []))
    (.cons (.ife (.op .ne (.bi .len (.cons (.v 1) .nil)) (.c (.int 1)))
    (.cons .nev
    .nil)
    .nil)
    (.cons (.ret (.ix (.v 1) (.c (.int 0))))
    .nil)))⟩
def fdShowWorth (c_show_worth : Nat) : FD := ⟨1, 2,
    (.cons (.ife (.isi (.v 0) .int)
    (.cons (.ret (.bi .str (.cons (.v 0) .nil)))
    .nil)
    .nil)
    (.cons (.ife (.isi (.v 0) .str)
    (.cons (.ret (.op .add (.op .add (.c (.str ['"'])) (.v 0)) (.c (.str ['"']))))
    .nil)
    .nil)
    (.cons (.ret (.op .add (.op .add (.c (.str ['('])) (.bm .join (.c (.str [' '])) (.cons (.lc (.v 1) (.any (.v 0)) .nil (.call c_show_worth (.cons (.v 1) .nil) []) [1]) .nil))) (.c (.str [')']))))
    .nil)))⟩
def fdNumberOf : FD := ⟨1, 3,
    (.cons (.set (.v 1) (.v 0))
    (.cons (.ife (.bm .startswith (.v 0) (.cons (.c (.str ['-'])) .nil))
    (.cons (.set (.v 1) (.sl (.v 0) (.so (.c (.int 1))) .no))
    .nil)
    .nil)
    (.cons (.ife (.not (.chain .le .le (.c (.int 1)) (.bi .len (.cons (.v 1) .nil)) (.c (.int 60))))
    (.cons (.ret (.c .non))
    .nil)
    .nil)
    (.cons (.forr (.v 2) (.any (.v 1))
    (.cons (.ife (.op .nmem (.v 2) (.c (.str ['0', '1', '2', '3', '4', '5', '6', '7', '8', '9'])))
    (.cons (.ret (.c .non))
    .nil)
    .nil)
    .nil))
    (.cons (.ife (.and (.op .eq (.ix (.v 1) (.c (.int 0))) (.c (.str ['0']))) (.op .ne (.v 0) (.c (.str ['0']))))
    (.cons (.ret (.c .non))
    .nil)
    .nil)
    (.cons (.ret (.bi .int (.cons (.v 0) .nil)))
    .nil))))))⟩
def fdThingOf (c_thing_of c_number_of : Nat) : FD := ⟨1, 5,
    (.cons (.set (.tup (.cons (.v 1) (.cons (.v 2) .nil))) (.v 0))
    (.cons (.ife (.op .eq (.v 1) (.c (.str ['t', 'e', 'x', 't'])))
    (.cons (.ret (.v 2))
    .nil)
    .nil)
    (.cons (.ife (.op .eq (.v 1) (.c (.str ['l', 'i', 's', 't'])))
    (.cons (.ret (.bi .tuple (.cons (.lc (.v 4) (.any (.v 2)) .nil (.call c_thing_of (.cons (.v 4) .nil) []) [4]) .nil)))
    .nil)
    .nil)
    (.cons (.set (.v 3) (.call c_number_of (.cons (.v 2) .nil) []))
    (.cons (.ife (.isN (.v 3))
    (.cons .nev
    .nil)
    .nil)
    (.cons (.ret (.v 3))
    .nil))))))⟩
def fdWorthOf (c_thing_of c_is_worth : Nat) : FD := ⟨1, 2,
    (.cons (.set (.v 1) (.call c_thing_of (.cons (.v 0) .nil) []))
    (.cons (.ife (.not (.call c_is_worth (.cons (.v 1) .nil) []))
    (.cons .nev
    .nil)
    .nil)
    (.cons (.ret (.v 1))
    .nil)))⟩
def fdReadWorth (c_worth_of c_tree : Nat) : FD := ⟨1, 1,
    (.cons (.ret (.call c_worth_of (.cons (.call c_tree (.cons (.v 0) .nil) []) .nil) []))
    .nil)⟩
theorem dig_iff {c : Char} : isDig c = true ↔ 48 ≤ c.toNat ∧ c.toNat ≤ 57 := by rw [isDig, Bool.and_eq_true, decide_eq_true_eq, decide_eq_true_eq]
theorem digF_dig {n : Nat} {c : Char} (h : c ∈ digF n) : isDig c = true := by
  have := Nat.isDigit_of_mem_toDigits (by decide) (by decide) h
  rw [dig_iff]
  simp only [Char.isDigit, Bool.and_eq_true, decide_eq_true_eq] at this
  exact ⟨this.1, this.2⟩
theorem digF_ne (n : Nat) : digF n ≠ [] := Nat.toDigits_ne_nil
theorem valF_digF (n : Nat) : valF (digF n) = n := by
  have h : Nat.ofDigitChars 10 (digF n) 0 = n := Nat.ofDigitChars_ten_toDigits
  unfold Nat.ofDigitChars at h
  have e : ∀ (l : List Char) (a : Nat), l.foldl (fun n c => n * 10 + (c.toNat - 48)) a = l.foldl (fun acc c => 10 * acc + (c.toNat - '0'.toNat)) a := by
    intro l
    induction l with
    | nil => intro a; rfl
    | cons c l ih =>
      intro a
      rw [List.foldl_cons, List.foldl_cons, ih]
      congr 1
      have : '0'.toNat = 48 := rfl
      rw [this]; omega
  unfold valF
  rw [e]
  exact h
theorem digF_len {n k : Nat} (hk : 0 < k) (h : n < 10 ^ k) : (digF n).length ≤ k := (Nat.length_toDigits_le_iff (by decide) hk).mpr h
theorem digF_head : ∀ (n : Nat), 0 < n → ∃ c r, digF n = c :: r ∧ c ≠ '0' := by
  intro n
  induction n using Nat.strongRecOn with
  | _ n ih =>
    intro h0
    unfold digF
    by_cases h : n < 10
    · rw [Nat.toDigits_of_lt_base h]
      refine ⟨_, [], rfl, ?_⟩
      have : n = 1 ∨ n = 2 ∨ n = 3 ∨ n = 4 ∨ n = 5 ∨ n = 6 ∨ n = 7 ∨ n = 8 ∨ n = 9 := by omega
      rcases this with rfl | rfl | rfl | rfl | rfl | rfl | rfl | rfl | rfl <;> decide
    · rw [Nat.toDigits_of_base_le (by decide) (by omega)]
      obtain ⟨c, r, e, hc⟩ := ih (n / 10) (by omega) (by omega)
      unfold digF at e
      rw [e]
      exact ⟨c, r ++ [(n % 10).digitChar], rfl, hc⟩
/-- a number's figures, and whether a sign stands ahead -/
theorem showI_cases (z : Int) : (0 ≤ z ∧ showI z = digF z.toNat) ∨ (z < 0 ∧ showI z = '-' :: digF (-z).toNat) := by
  cases z with
  | ofNat n => exact .inl ⟨Int.natCast_nonneg n, rfl⟩
  | negSucc n => exact .inr ⟨Int.negSucc_lt_zero n, rfl⟩
theorem digF_all (n : Nat) : (digF n).all isDig = true := List.all_eq_true.mpr fun c h => digF_dig h
theorem dig_ne_minus {c : Char} (h : isDig c = true) : c ≠ '-' := by rintro rfl; exact absurd h (by decide)
theorem intF_show (z : Int) : intF (showI z) = some z := by
  rcases showI_cases z with ⟨h, e⟩ | ⟨h, e⟩
  · rw [e]
    have hd := digF_all z.toNat
    have hv := valF_digF z.toNat
    cases hq : digF z.toNat with
    | nil => exact absurd hq (digF_ne _)
    | cons c r =>
      rw [hq] at hd hv
      rw [intF, if_neg (dig_ne_minus (List.all_eq_true.mp hd c List.mem_cons_self)), if_pos hd, hv]
      congr 1
      omega
  · rw [e, intF, if_pos rfl, digF_all, valF_digF]
    have : (digF (-z).toNat).isEmpty = false := by cases hq : digF (-z).toNat with | nil => exact absurd hq (digF_ne _) | cons c r => rfl
    rw [this]
    simp only [Bool.not_false, Bool.and_self, if_true]
    congr 1
    omega
abbrev figs : List Char := ['0', '1', '2', '3', '4', '5', '6', '7', '8', '9']
theorem dig_figs {c : Char} (h : isDig c = true) : c ∈ figs := by
  rw [dig_iff] at h
  have : c = Char.ofNat c.toNat := (Char.ofNat_toNat c).symm
  have : c.toNat = 48 ∨ c.toNat = 49 ∨ c.toNat = 50 ∨ c.toNat = 51 ∨ c.toNat = 52 ∨ c.toNat = 53 ∨ c.toNat = 54 ∨ c.toNat = 55 ∨ c.toNat = 56 ∨ c.toNat = 57 := by omega
  have e := Char.ofNat_toNat c
  rcases this with h | h | h | h | h | h | h | h | h | h <;> (rw [h] at e; rw [← e]; decide)
section
variable {P : Prog} {st : Sto} {Q : D × Sto → Prop} {n i : Nat}
theorem sl_tail {c : Char} {r : List Char} : cutF (c :: r) (some 1) none = r := by
  have := cut_prt c r 0
  simpa using this
theorem numberOf_spec (h : P.fns[i]? = some fdNumberOf) {z : Int} (hz : numI z = true) (q : Q (.int z, st)) : (callF P (n + 1) i [.str (showI z)] st).wp Q := by
  rw [numI, Bool.and_eq_true, decide_eq_true_eq, decide_eq_true_eq] at hz
  have hsz : SZ = 1000000 := rfl
  refine call_wp h rfl ?_
  simp only [fdNumberOf, start_cons, start0, repS, rep0]
  refine stm_k fun K hK => ?_
  simp only [seval, MP.sv0, MP.sv1, MP.sv2, MP.sv3, MP.sv4, MP.sv5]
  refine hK _ _ ?_
  clear hK K
  obtain ⟨m, hm, hmz⟩ : ∃ m : Nat, m < 10 ^ 60 ∧ ((0 ≤ z ∧ z = m) ∨ (z < 0 ∧ z = -m)) := ⟨z.natAbs, by omega, by omega⟩
  have hml := digF_len (k := 60) (by decide) hm
  have hmn := List.length_pos_iff.mpr (digF_ne m)
  have hshow : showI z = digF m ∨ showI z = '-' :: digF m := by
    rcases showI_cases z with ⟨h, e⟩ | ⟨h, e⟩
    · exact .inl (by rw [e]; congr 1; omega)
    · exact .inr (by rw [e]; congr 1; congr 1; omega)
  have hmin : z < 0 → 0 < m := by omega
  have hsl : (showI z).length ≤ 61 := by rcases hshow with e | e <;> rw [e] <;> (try simp only [List.length_cons]) <;> omega
  have hint := intF_show z
  have hneg : showI z = '-' :: digF m → z < 0 := by
    intro e
    rcases showI_cases z with ⟨h, e'⟩ | ⟨h, e'⟩
    · rw [e'] at e
      have := digF_dig (n := z.toNat) (c := '-') (by rw [e]; exact List.mem_cons_self)
      exact absurd this (by decide)
    · exact h
  generalize hw : showI z = w at hsl hint hshow hneg
  refine seq_wp (M := fun fr st' => fr = [some (.str w), some (.str (digF m)), none] ∧ st' = st) ?_ ?_
  · refine s_ife_w.mpr ?_
    rcases hshow with e | e
    · have hh : headIs '-' w = false := by
        rw [e]
        cases hq : digF m with
        | nil => rfl
        | cons c r =>
          have := digF_dig (n := m) (c := c) (by rw [hq]; exact List.mem_cons_self)
          exact decide_eq_false (dig_ne_minus this)
      simp only [seval, MP.sv0, MP.sv1, MP.sv2, MP.sv3, MP.sv4, MP.sv5, kd_str, starts_s, hh]
      rw [e]
    · have hh : headIs '-' w = true := by rw [e]; rfl
      simp only [seval, MP.sv0, MP.sv1, MP.sv2, MP.sv3, MP.sv4, MP.sv5, kd_str, starts_s, hh]
      refine ⟨by omega, ?_⟩
      rw [e, sl_tail]
  rintro fr st' ⟨rfl, rfl⟩
  refine skip_if ?_ ?_
  · simp only [seval, MP.sv0, MP.sv1, MP.sv2, MP.sv3, MP.sv4, MP.sv5]
    refine ⟨by omega, ?_⟩
    rw [if_pos (by omega), decide_eq_true (by omega : ((digF m).length : Int) ≤ 60)]
    rfl
  refine stm_k fun K hK => ?_
  simp only [seval, MP.sv0, MP.sv1, MP.sv2, MP.sv3, MP.sv4, MP.sv5]
  refine for_wp (I := fun ds fr st2 => st2 = st' ∧ (∀ d ∈ ds, ∃ c, d = D.str [c] ∧ c ∈ figs) ∧ ∃ e, fr = [some (.str w), some (.str (digF m)), e]) (fun _ _ _ _ => rfl) ?_ ?_ _ _ _ ⟨rfl, ?_, none, rfl⟩
  · rintro d ds fr st2 ⟨rfl, hds, e, rfl⟩
    obtain ⟨c, rfl, hc⟩ := hds d List.mem_cons_self
    simp only [seval, MP.sv0, MP.sv1, MP.sv2, MP.sv3, MP.sv4, MP.sv5]
    rw [if_neg (fun h => h hc)]
    exact ⟨fun y hy => hds y (List.mem_cons_of_mem _ hy), _, rfl⟩
  · rintro fr st2 ⟨rfl, -, e, rfl⟩
    simp only [id]
    refine hK _ _ ?_
    clear hK K
    refine skip_if ?_ ?_
    · obtain ⟨c, r, hq⟩ : ∃ c r, digF m = c :: r := by
        cases hq : digF m with
        | nil => exact absurd hq (digF_ne _)
        | cons c r => exact ⟨c, r, rfl⟩
      have hcl : (c :: r).length ≤ SZ := by rw [← hq]; omega
      simp only [seval, MP.sv0, MP.sv1, MP.sv2, MP.sv3, MP.sv4, MP.sv5, hq]
      rw [ix_str (c := c) hcl (by decide) rfl]
      simp only [seval, MP.sv0, MP.sv1, MP.sv2, MP.sv3, MP.sv4, MP.sv5]
      by_cases h0 : m = 0
      · subst h0
        have hq2 : digF 0 = ['0'] := rfl
        rw [hq2] at hq
        cases hq
        have hwz : w = ['0'] := by
          rcases hshow with e | e
          · exact e
          · have := hmin (hneg e); omega
        rw [hwz]
        simp (decide := true)
      · obtain ⟨c', r', hq', hc'⟩ := digF_head m (by omega)
        rw [hq] at hq'
        cases hq'
        have : ([c] == ['0']) = false := beq_eq_false_iff_ne.mpr (by intro e; cases e; exact hc' rfl)
        have h2 : ([c] = ['0']) = False := eq_false (by intro e; cases e; exact hc' rfl)
        simp only [this, h2, if_false, seval, MP.sv0, MP.sv1, MP.sv2, MP.sv3, MP.sv4, MP.sv5]
    refine ret_one ?_
    have : biF .int [.str w] st2 = .ok (.int z, st2) := by simp only [biF, if_pos (by omega : w.length ≤ 640), hint]
    simp only [seval, MP.sv0, MP.sv1, MP.sv2, MP.sv3, MP.sv4, MP.sv5, this]
    exact q
  · intro d hd
    obtain ⟨c, hc, rfl⟩ := List.mem_map.mp hd
    exact ⟨c, rfl, dig_figs (digF_dig hc)⟩
end
end MP

set_option Elab.async false
set_option linter.all false
set_option maxRecDepth 100000
set_option maxHeartbeats 400000
/-! MPLaw22: texts as words, brackets and quoted texts. -/
namespace MP
inductive Tk where
  | wrd (w : List Char) | txt (x : List Char) | lp | rp
abbrev sWord : List Char := ['w', 'o', 'r', 'd']
abbrev sText : List Char := ['t', 'e', 'x', 't']
abbrev sBracket : List Char := ['b', 'r', 'a', 'c', 'k', 'e', 't']
def Tk.toD : Tk → D
  | .wrd w => .tup [.str sWord, .str w]
  | .txt x => .tup [.str sText, .str x]
  | .lp => .tup [.str sBracket, .str ['(']]
  | .rp => .tup [.str sBracket, .str [')']]
def Dl (c : Char) : Prop := c ∈ [' ', '\n'] ∨ c ∈ ['(', ')'] ∨ c = '"'
/-- a text goes into these -/
inductive Toks : List Char → List Tk → Prop where
  | nil : Toks [] []
  | blank {c : Char} {r : List Char} {ts : List Tk} : c ∈ [' ', '\n'] → Toks r ts → Toks (c :: r) ts
  | lp {r : List Char} {ts : List Tk} : Toks r ts → Toks ('(' :: r) (.lp :: ts)
  | rp {r : List Char} {ts : List Tk} : Toks r ts → Toks (')' :: r) (.rp :: ts)
  | txt {x r : List Char} {ts : List Tk} : '"' ∉ x → Toks r ts → Toks ('"' :: (x ++ '"' :: r)) (.txt x :: ts)
  | wrd {c : Char} {w r : List Char} {ts : List Tk} : (∀ d ∈ c :: w, ¬ Dl d) → (∀ d r', r = d :: r' → Dl d) → Toks r ts → Toks (c :: (w ++ r)) (.wrd (c :: w) :: ts)
theorem Toks.len {s : List Char} {ts : List Tk} (h : Toks s ts) : ts.length ≤ s.length := by
  induction h with
  | nil => exact Nat.le_refl _
  | blank _ _ ih => rw [List.length_cons]; omega
  | lp _ ih => simp only [List.length_cons]; omega
  | rp _ ih => simp only [List.length_cons]; omega
  | txt _ _ ih => simp only [List.length_cons, List.length_append]; omega
  | wrd _ _ _ ih => simp only [List.length_cons, List.length_append]; omega
theorem at_mid {α : Type} {p r : List α} {c : α} : (p ++ c :: r)[p.length]? = some c := by simp
theorem ix_mid {st : Sto} {s p r : List Char} {c : Char} {k : Int} (hs : s = p ++ c :: r) (hk : k = p.length) (hl : s.length ≤ SZ) : ixF st (.str s) (.int k) = some (.str [c]) := by
  refine ix_str hl (by omega) ?_
  rw [hs, hk]
  simp
theorem cut_mid {α : Type} {p w r : List α} {a b : Int} (ha : a = p.length) (hb : b = p.length + w.length) : cutF (p ++ (w ++ r)) (some a) (some b) = w := by
  have e1 : slIx (p ++ (w ++ r)).length 0 (some a) = p.length := by
    simp only [slIx, List.length_append]; rw [if_neg (by omega)]; omega
  have e2 : slIx (p ++ (w ++ r)).length (p ++ (w ++ r)).length (some b) = p.length + w.length := by
    simp only [slIx, List.length_append]; rw [if_neg (by omega)]; omega
  rw [cutF, e1, e2, List.drop_left', Nat.add_sub_cancel_left, List.take_left']
  · rfl
  · rfl
section
variable {P : Prog} {st : Sto} {Q : D × Sto → Prop} {n i : Nat}
theorem wordEnd_spec (h : P.fns[i]? = some fdWordEnd) {s p w r : List Char} {a : Int} (hs : s = p ++ (w ++ r)) (ha : a = p.length) (hl : s.length ≤ 100000) (hw : ∀ d ∈ w, ¬ Dl d) (hr : ∀ d r', r = d :: r' → Dl d) (q : Q (.int (p.length + w.length), st)) : (callF P (n + 1) i [.str s, .int a] st).wp Q := by
  have hsz : SZ = 1000000 := rfl
  have hsl : s.length = p.length + (w.length + r.length) := by rw [hs]; simp
  refine call_wp h rfl ?_
  simp only [fdWordEnd, start_cons, start0, repS, rep0]
  refine stm_k fun K hK => ?_
  rw [s_whl_w]
  refine whl_wp (I := fun k fr st' => st' = st ∧ ∃ (w1 w2 : List Char) (b : Int), w = w1 ++ w2 ∧ k = w2.length ∧ b = p.length + w1.length ∧ fr = [some (.str s), some (.int b)]) ?_ WF w.length _ _ (by have : WF = 1000000 := rfl; omega) ⟨rfl, [], w, a, rfl, rfl, by simpa using ha, rfl⟩
  rintro k fr st' ⟨rfl, w1, w2, b, hw12, rfl, hb, rfl⟩
  have hwl : w.length = w1.length + w2.length := by rw [hw12]; simp
  cases w2 with
  | nil =>
    rw [List.length_nil] at hwl
    refine wp_mono (?_ : R.wp _ fun p' => p' = (false, st')) ?_
    · cases r with
      | nil =>
        rw [List.length_nil] at hsl
        have : (b < (s.length : Int)) = False := eq_false (by omega)
        simp only [seval, MP.sv0, MP.sv1, MP.sv2, MP.sv3, MP.sv4, MP.sv5, this, decide_false, if_false]
        first | exact ⟨by omega, rfl⟩ | omega
      | cons d r' =>
        rw [List.length_cons] at hsl
        have h1 : (b < (s.length : Int)) = True := eq_true (by omega)
        have e := ix_mid (st := st') (s := s) (p := p ++ w) (c := d) (r := r') (k := b) (by rw [hs, List.append_assoc]) (by rw [List.length_append]; omega) (by omega)
        have hd := hr d r' rfl
        simp only [seval, MP.sv0, MP.sv1, MP.sv2, MP.sv3, MP.sv4, MP.sv5, h1, decide_true, if_true, e]
        refine ⟨by omega, ?_⟩
        by_cases d1 : d ∈ [' ', '\n']
        · simp only [decide_eq_true d1, seval, MP.sv0, MP.sv1, MP.sv2, MP.sv3, MP.sv4, MP.sv5, d1, if_true]
          first | rfl | skip
        · have d1' : (d ∈ [' ', '\n']) = False := eq_false d1
          simp only [d1', seval, MP.sv0, MP.sv1, MP.sv2, MP.sv3, MP.sv4, MP.sv5, decide_false, if_false]
          by_cases d2 : d ∈ ['(', ')']
          · simp only [decide_eq_true d2, seval, MP.sv0, MP.sv1, MP.sv2, MP.sv3, MP.sv4, MP.sv5, d2, if_true]
            first | rfl | skip
          · have d2' : (d ∈ ['(', ')']) = False := eq_false d2
            simp only [d2', seval, MP.sv0, MP.sv1, MP.sv2, MP.sv3, MP.sv4, MP.sv5, decide_false, if_false]
            have d3 : d = '"' := by rcases hd with h | h | h; exact absurd h d1; exact absurd h d2; exact h
            subst d3
            rfl
    · rintro p' rfl
      simp only [Bool.false_eq_true, if_false]
      refine hK _ _ ?_
      refine ret_one ?_
      simp only [seval, MP.sv0, MP.sv1, MP.sv2, MP.sv3, MP.sv4, MP.sv5]
      have : b = (p.length : Int) + w.length := by omega
      rw [this]
      exact q
  | cons c w2 =>
    rw [List.length_cons] at hwl
    have hc : ¬ Dl c := hw c (by rw [hw12]; simp)
    refine wp_mono (?_ : R.wp _ fun p' => p' = (true, st')) ?_
    · have h1 : (b < (s.length : Int)) = True := eq_true (by omega)
      have e := ix_mid (st := st') (s := s) (p := p ++ w1) (c := c) (r := w2 ++ r) (k := b) (by rw [hs, hw12]; simp) (by rw [List.length_append]; omega) (by omega)
      have d1 : (c ∈ [' ', '\n']) = False := eq_false fun h => hc (.inl h)
      have d2 : (c ∈ ['(', ')']) = False := eq_false fun h => hc (.inr (.inl h))
      have d3 : ([c] == ['"']) = false := beq_eq_false_iff_ne.mpr (by intro h; cases h; exact hc (.inr (.inr rfl)))
      simp only [seval, MP.sv0, MP.sv1, MP.sv2, MP.sv3, MP.sv4, MP.sv5, h1, decide_true, if_true, e, d1, d2, d3, decide_false, if_false]
      first | exact ⟨by omega, rfl⟩ | omega
    · rintro p' rfl
      simp only [if_true]
      refine ⟨w2.length, by rw [List.length_cons], ?_⟩
      simp only [seval, MP.sv0, MP.sv1, MP.sv2, MP.sv3, MP.sv4, MP.sv5]
      exact ⟨w1 ++ [c], w2, _, by rw [hw12]; simp, rfl, by rw [List.length_append]; simp only [List.length_cons, List.length_nil]; omega, rfl⟩
theorem findN1 {c : Char} {x : List Char} (b : List Char) (h : c ∉ x) (k : Nat) : findF c k (x ++ c :: b) = (k + x.length : Nat) := findN b h k
theorem tokens_spec {we : Nat} (h : P.fns[i]? = some (fdTokens we)) (hwe : P.fns[we]? = some fdWordEnd) {s : List Char} {ts : List Tk} (ht : Toks s ts) (hl : s.length ≤ 100000) (q : ∀ st', Grow st st' → st'[st.length]? = some (.lst (ts.map Tk.toD)) → Q (.ref st.length, st')) : (callF P (n + 2) i [.str s] st).wp Q := by
  have hsz : SZ = 1000000 := rfl
  have htl := ht.len
  refine call_wp h rfl ?_
  simp only [fdTokens, start_cons, start0, repS, rep0]
  refine stm_k fun K hK => ?_
  simp only [seval, MP.sv0, MP.sv1, MP.sv2, MP.sv3, MP.sv4, MP.sv5]
  refine hK _ _ ?_
  clear hK K
  refine stm_k fun K hK => ?_
  simp only [seval, MP.sv0, MP.sv1, MP.sv2, MP.sv3, MP.sv4, MP.sv5]
  refine hK _ _ ?_
  clear hK K
  refine stm_k fun K hK => ?_
  rw [s_whl_w]
  refine whl_wp (I := fun k fr st' => ∃ (p r : List Char) (t0 t1 : List Tk) (a : Int) (e3 e4 : Option D), s = p ++ r ∧ r.length ≤ k ∧ a = p.length ∧ Toks r t1 ∧ ts = t0 ++ t1 ∧ fr = [some (.str s), some (.ref st.length), some (.int a), e3, e4] ∧ st'[st.length]? = some (.lst (t0.map Tk.toD)) ∧ Grow st st') ?_ WF s.length _ _ (by have : WF = 1000000 := rfl; omega) ⟨[], s, [], ts, 0, none, none, rfl, Nat.le_refl _, rfl, ht, rfl, rfl, sto_top, Grow.push⟩
  rintro k fr st1 ⟨p, r, t0, t1, a, e3, e4, hs, hk, ha, ht1, hts, rfl, hf, g⟩
  have hsl : s.length = p.length + r.length := by rw [hs]; simp
  cases hr : r with
  | nil =>
    subst hr
    cases ht1
    rw [List.length_nil] at hsl
    refine wp_mono (?_ : R.wp _ fun p' => p' = (false, st1)) ?_
    · have : (a < (s.length : Int)) = False := eq_false (by omega)
      simp only [seval, MP.sv0, MP.sv1, MP.sv2, MP.sv3, MP.sv4, MP.sv5, this, decide_false, if_false]
      first | exact ⟨by omega, rfl⟩ | omega
    · rintro p' rfl
      simp only [Bool.false_eq_true, if_false]
      refine hK _ _ ?_
      refine ret_one ?_
      simp only [seval, MP.sv0, MP.sv1, MP.sv2, MP.sv3, MP.sv4, MP.sv5]
      refine q _ g ?_
      rw [hf, hts, List.append_nil]
  | cons c r0 =>
    rw [hr, List.length_cons] at hsl
    have hsc : s = p ++ c :: r0 := by rw [hs, hr]
    refine wp_mono (?_ : R.wp _ fun p' => p' = (true, st1)) ?_
    · have : (a < (s.length : Int)) = True := eq_true (by omega)
      simp only [seval, MP.sv0, MP.sv1, MP.sv2, MP.sv3, MP.sv4, MP.sv5, this, decide_true, if_true]
      first | exact ⟨by omega, rfl⟩ | omega
    rintro p' rfl
    simp only [if_true]
    rw [hr, List.length_cons] at hk
    refine ⟨k - 1, by omega, ?_⟩
    have hix := ix_mid (st := st1) (s := s) (p := p) (c := c) (r := r0) (k := a) hsc ha (by omega)
    clear hK K
    refine stm_k fun K hK => ?_
    simp only [seval, MP.sv0, MP.sv1, MP.sv2, MP.sv3, MP.sv4, MP.sv5, hix]
    refine hK _ _ ?_
    clear hK K
    refine stm_k fun K hK => ?_
    simp only [seval, MP.sv0, MP.sv1, MP.sv2, MP.sv3, MP.sv4, MP.sv5]
    refine hK _ _ ?_
    clear hK K
    -- what the if leaves behind
    refine seq_wp (M := fun fr st' => ∃ (x r1 : List Char) (t2 t3 : List Tk) (b : Int), s = p ++ (x ++ r1) ∧ 1 ≤ x.length ∧ b = p.length + x.length ∧ Toks r1 t3 ∧ ts = t2 ++ t3 ∧ fr = [some (.str s), some (.ref st.length), some (.int a), some (.str [c]), some (.int b)] ∧ st'[st.length]? = some (.lst (t2.map Tk.toD)) ∧ Grow st st') ?_ ?_
    · refine s_ife_w.mpr ?_
      have hap : ∀ (t : Tk), t0.length < 100001 → ∃ k, kindF st1 (.ref st.length) = some k ∧ (bmF k .append (.ref st.length) [t.toD] st1).wp fun p => p.2[st.length]? = some (.lst ((t0 ++ [t]).map Tk.toD)) ∧ Grow st p.2 := by
        intro t hl0
        refine ⟨_, kd_ref hf, ?_⟩
        rw [ap_ref hf]
        exact ⟨by rw [List.length_map]; omega, by rw [sto_set hf, List.map_append]; rfl, g.new (Nat.le_refl _)⟩
      have htsl : t0.length + t1.length = ts.length := by rw [hts]; simp
      rw [hr] at ht1
      cases ht1 with
      | blank hb ht2 =>
        have d2 : (c ∈ ['(', ')']) = False := eq_false (by rcases List.mem_cons.mp hb with rfl | hb; decide; rw [List.mem_singleton.mp hb]; decide)
        have d3 : ([c] == ['"']) = false := by rcases List.mem_cons.mp hb with rfl | hb; rfl; rw [List.mem_singleton.mp hb]; rfl
        have d3' : ([c] = ['"']) = False := eq_false (by rcases List.mem_cons.mp hb with rfl | hb; decide; rw [List.mem_singleton.mp hb]; decide)
        have d1 : (c ∈ [' ', '\n']) = True := eq_true hb
        simp only [seval, MP.sv0, MP.sv1, MP.sv2, MP.sv3, MP.sv4, MP.sv5, d1, d2, d3, d3', decide_false, decide_true, if_true, if_false]
        exact ⟨[c], r0, t0, t1, a + 1, hsc, by simp, by simp; omega, ht2, hts, rfl, hf, g⟩
      | lp ht2 =>
        rename_i t2
        simp only [seval, MP.sv0, MP.sv1, MP.sv2, MP.sv3, MP.sv4, MP.sv5]
        simp (decide := true) only [↓reduceIte]
        obtain ⟨k, hk, h⟩ := hap .lp (by omega)
        refine ⟨k, hk, wp_mono h ?_⟩
        rintro ⟨d, st2⟩ ⟨hf2, g2⟩
        exact ⟨['('], r0, t0 ++ [.lp], t2, a + 1, hsc, by simp, by simp; omega, ht2, by rw [hts, List.append_assoc]; rfl, rfl, hf2, g2⟩
      | rp ht2 =>
        rename_i t2
        simp only [seval, MP.sv0, MP.sv1, MP.sv2, MP.sv3, MP.sv4, MP.sv5]
        simp (decide := true) only [↓reduceIte]
        obtain ⟨k, hk, h⟩ := hap .rp (by omega)
        refine ⟨k, hk, wp_mono h ?_⟩
        rintro ⟨d, st2⟩ ⟨hf2, g2⟩
        exact ⟨[')'], r0, t0 ++ [.rp], t2, a + 1, hsc, by simp, by simp; omega, ht2, by rw [hts, List.append_assoc]; rfl, rfl, hf2, g2⟩
      | txt hx ht2 =>
        rename_i x r2 t2
        have hdrop : s.drop (a + 1).toNat = x ++ '"' :: r2 := by
          rw [hsc, show (a + 1).toNat = p.length + 1 by omega, List.drop_append]
          simp
        have hfind : findF '"' (a + 1).toNat (s.drop (a + 1).toNat) = a + 1 + x.length := by
          rw [hdrop, findN1 _ hx]
          push_cast
          omega
        simp only [List.length_append, List.length_cons] at hsl
        have hcut : cutF s (some (a + 1)) (some (a + 1 + x.length + 1 - 1)) = x := by
          have : s = (p ++ ['"']) ++ (x ++ '"' :: r2) := by rw [hsc]; simp
          rw [this]
          exact cut_mid (by simp; omega) (by simp; omega)
        simp only [seval, MP.sv0, MP.sv1, MP.sv2, MP.sv3, MP.sv4, MP.sv5]
        simp (decide := true) only [↓reduceIte]
        simp only [seval, MP.sv0, MP.sv1, MP.sv2, MP.sv3, MP.sv4, MP.sv5, kd_str, find_s2, hfind]
        refine ⟨⟨by omega, by omega⟩, ?_⟩
        have hnz : (a + 1 + (x.length : Int) + 1 = 0) = False := eq_false (by omega)
        simp only [hnz, if_false, seval, MP.sv0, MP.sv1, MP.sv2, MP.sv3, MP.sv4, MP.sv5, hcut]
        obtain ⟨k, hk, h⟩ := hap (.txt x) (by omega)
        refine ⟨k, hk, by omega, wp_mono h ?_⟩
        rintro ⟨d, st2⟩ ⟨hf2, g2⟩
        exact ⟨'"' :: (x ++ ['"']), r2, t0 ++ [.txt x], t2, a + 1 + x.length + 1, by rw [hsc]; simp, by simp, by simp; omega, ht2, by rw [hts, List.append_assoc]; rfl, rfl, hf2, g2⟩
      | wrd hw hd ht2 =>
        rename_i w r2 t2
        have hc : ¬ Dl c := hw c List.mem_cons_self
        have d1 : (c ∈ [' ', '\n']) = False := eq_false fun h => hc (.inl h)
        have d2 : (c ∈ ['(', ')']) = False := eq_false fun h => hc (.inr (.inl h))
        have d3 : ([c] == ['"']) = false := beq_eq_false_iff_ne.mpr (by intro h; cases h; exact hc (.inr (.inr rfl)))
        have d3' : ([c] = ['"']) = False := eq_false (by intro h; cases h; exact hc (.inr (.inr rfl)))
        simp only [List.length_append, List.length_cons] at hsl
        simp only [seval, MP.sv0, MP.sv1, MP.sv2, MP.sv3, MP.sv4, MP.sv5, d1, d2, d3, d3', decide_false, if_false]
        have hs2 : s = p ++ ((c :: w) ++ r2) := by rw [hsc]; rfl
        refine wordEnd_spec hwe (p := p) (w := c :: w) (r := r2) hs2 ha hl hw hd ?_
        simp only [seval, MP.sv0, MP.sv1, MP.sv2, MP.sv3, MP.sv4, MP.sv5]
        have hcut : cutF s (some a) (some ((p.length : Int) + ((c :: w).length : Nat))) = c :: w := by
          rw [hs2]
          exact cut_mid ha rfl
        obtain ⟨k, hk, h⟩ := hap (.wrd (c :: w)) (by omega)
        simp only [List.length_cons] at hcut
        simp only [List.length_cons, hcut]
        refine ⟨k, hk, by omega, wp_mono h ?_⟩
        rintro ⟨d, st2⟩ ⟨hf2, g2⟩
        exact ⟨c :: w, r2, t0 ++ [.wrd (c :: w)], t2, _, hs2, by simp, rfl, ht2, by rw [hts, List.append_assoc]; rfl, rfl, hf2, g2⟩
    · rintro fr st2 ⟨x, r1, t2, t3, b, hs2, hx1, hb, ht3, hts2, rfl, hf2, g2⟩
      simp only [seval, MP.sv0, MP.sv1, MP.sv2, MP.sv3, MP.sv4, MP.sv5]
      have hsl2 : s.length = p.length + (x.length + r1.length) := by rw [hs2]; simp
      exact ⟨p ++ x, r1, t2, t3, _, _, _, by rw [hs2, List.append_assoc], by omega, by rw [List.length_append]; omega, ht3, hts2, rfl, hf2, g2⟩
end
end MP

set_option Elab.async false
set_option linter.all false
set_option maxRecDepth 100000
set_option maxHeartbeats 400000
/-! MPLaw23: texts as trees. -/
namespace MP
inductive Tr where
  | wrd (w : List Char) | txt (x : List Char) | lst (ts : List Tr)
mutual
/-- a thing of the store that is a tree; its lists are none of the open ones -/
inductive TrAt (st : Sto) (op : List Nat) : D → Tr → Prop where
  | wrd {w : List Char} : TrAt st op (.tup [.str sWord, .str w]) (.wrd w)
  | txt {x : List Char} : TrAt st op (.tup [.str sText, .str x]) (.txt x)
  | lst {n : Nat} {ds : List D} {ts : List Tr} : st[n]? = some (.lst ds) → n ∉ op → TrsAt st op ds ts → TrAt st op (.tup [.str sList, .ref n]) (.lst ts)
inductive TrsAt (st : Sto) (op : List Nat) : List D → List Tr → Prop where
  | nil : TrsAt st op [] []
  | cons {d : D} {t : Tr} {ds : List D} {ts : List Tr} : TrAt st op d t → TrsAt st op ds ts → TrsAt st op (d :: ds) (t :: ts)
end
section
variable {st st' : Sto} {op op' : List Nat}
mutual
theorem TrAt.mono (h : ∀ n o, st[n]? = some o → n ∉ op → st'[n]? = some o ∧ n ∉ op') : ∀ {d : D} {t : Tr}, TrAt st op d t → TrAt st' op' d t
  | _, _, .wrd => .wrd
  | _, _, .txt => .txt
  | _, _, .lst e hn z => .lst (h _ _ e hn).1 (h _ _ e hn).2 (TrsAt.mono h z)
theorem TrsAt.mono (h : ∀ n o, st[n]? = some o → n ∉ op → st'[n]? = some o ∧ n ∉ op') : ∀ {ds : List D} {ts : List Tr}, TrsAt st op ds ts → TrsAt st' op' ds ts
  | _, _, .nil => .nil
  | _, _, .cons a z => .cons (TrAt.mono h a) (TrsAt.mono h z)
end
theorem TrsAt.app : ∀ {ds es : List D} {ts us : List Tr}, TrsAt st op ds ts → TrsAt st op es us → TrsAt st op (ds ++ es) (ts ++ us)
  | _, _, _, _, .nil, h => h
  | _, _, _, _, .cons a z, h => .cons a (TrsAt.app z h)
theorem TrsAt.len : ∀ {ds : List D} {ts : List Tr}, TrsAt st op ds ts → ds.length = ts.length
  | _, _, .nil => rfl
  | _, _, .cons _ z => by rw [List.length_cons, List.length_cons, TrsAt.len z]
end
/-- the open lists, the innermost ahead -/
def trF : List Tk → List (List Tr) → Option (List (List Tr))
  | [], S => some S
  | .wrd w :: ts, a :: S => trF ts ((a ++ [.wrd w]) :: S)
  | .txt x :: ts, a :: S => trF ts ((a ++ [.txt x]) :: S)
  | .lp :: ts, S => trF ts ([] :: S)
  | .rp :: ts, a :: b :: S => trF ts ((b ++ [.lst a]) :: S)
  | _, _ => none
/-- the open lists in the store -/
inductive Stk (st : Sto) (op : List Nat) (m : Nat) : List Nat → List (List Tr) → Prop where
  | nil : Stk st op m [] []
  | cons {r : Nat} {ds : List D} {ts : List Tr} {R : List Nat} {S : List (List Tr)} : st[r]? = some (.lst ds) → TrsAt st op ds ts → ts.length ≤ m → Stk st op m R S → Stk st op m (r :: R) (ts :: S)
theorem Stk.mono {st st' : Sto} {op op' : List Nat} {m m' : Nat} (hm : m ≤ m') (h : ∀ n o, st[n]? = some o → n ∉ op → st'[n]? = some o ∧ n ∉ op') : ∀ {R : List Nat} {S : List (List Tr)}, (∀ r ∈ R, ∀ o, st[r]? = some o → st'[r]? = some o) → Stk st op m R S → Stk st' op' m' R S
  | _, _, _, .nil => .nil
  | _, _, hR, .cons e z hl k => .cons (hR _ List.mem_cons_self _ e) (z.mono h) (Nat.le_trans hl hm) (Stk.mono hm h (fun r hr => hR r (List.mem_cons_of_mem _ hr)) k)
theorem Stk.len {st : Sto} {op : List Nat} {m : Nat} : ∀ {R : List Nat} {S : List (List Tr)}, Stk st op m R S → R.length = S.length
  | _, _, .nil => rfl
  | _, _, .cons _ _ _ k => by rw [List.length_cons, List.length_cons, k.len]
theorem at_neg {α : Type} {l : List α} {x : α} : atF (l ++ [x]) (-1) = some x := by
  unfold atF idxF
  rw [if_neg (by decide), if_pos (by simp; omega)]
  have : ((-1 : Int) + ((l ++ [x]).length : Nat)).toNat = l.length := by simp; omega
  rw [this]
  simp
/-- the state of the walk -/
structure TW (st0 st : Sto) (o : Nat) (m : Nat) (R : List Nat) (S : List (List Tr)) : Prop where
  ho : st[o]? = some (.lst (R.map D.ref).reverse)
  nd : (o :: R).Nodup
  stk : Stk st (o :: R) m R S
  g : Grow st0 st
  ge : ∀ r ∈ o :: R, st0.length ≤ r
section
variable {st0 st : Sto} {o m : Nat} {R : List Nat} {S : List (List Tr)}
theorem Stk.has {op : List Nat} : ∀ {R : List Nat} {S : List (List Tr)}, Stk st op m R S → ∀ r ∈ R, ∃ ds, st[r]? = some (.lst ds)
  | _, _, .cons e _ _ k, r, hr => by
    rcases List.mem_cons.mp hr with rfl | hr
    · exact ⟨_, e⟩
    · exact Stk.has k r hr
theorem lt_of {n : Nat} {x : O} (h : st[n]? = some x) : n < st.length := (List.getElem?_eq_some_iff.mp h).1
theorem TW.push {r : Nat} {a : List Tr} {d : D} {t : Tr} {ds : List D} (W : TW st0 st o m (r :: R) (a :: S)) (hd : TrAt st (o :: r :: R) d t) (hr : st[r]? = some (.lst ds)) : TW st0 (st.set r (.lst (ds ++ [d]))) o (m + 1) (r :: R) ((a ++ [t]) :: S) := by
  obtain ⟨ho, nd, stk, g, ge⟩ := W
  have nd' := nd
  rw [List.nodup_cons, List.nodup_cons] at nd
  obtain ⟨n1, n2, n3⟩ := nd
  have hor : r ≠ o := fun e => n1 (by rw [e]; exact List.mem_cons_self)
  have hm : ∀ n x, st[n]? = some x → n ∉ o :: r :: R → (st.set r (.lst (ds ++ [d])))[n]? = some x ∧ n ∉ o :: r :: R := by
    intro n x hx hn
    refine ⟨?_, hn⟩
    rw [List.getElem?_set_ne (fun e => hn (by rw [← e]; exact List.mem_cons_of_mem _ List.mem_cons_self))]
    exact hx
  cases stk with
  | cons e z hl k =>
    rw [hr] at e
    cases e
    refine ⟨by rw [List.getElem?_set_ne hor]; exact ho, nd', .cons (sto_set hr) ((z.app (.cons hd .nil)).mono hm) (by simp; omega) (k.mono (by omega) hm fun r' hr' x hx => ?_), g.new (ge r (List.mem_cons_of_mem _ List.mem_cons_self)), ge⟩
    rw [List.getElem?_set_ne (fun e => n2 (by rw [e]; exact hr'))]
    exact hx
theorem TW.open (W : TW st0 st o m R S) : TW st0 ((st ++ [O.lst []]).set o (.lst ((st.length :: R).map D.ref).reverse)) o m (st.length :: R) ([] :: S) := by
  obtain ⟨ho, nd, stk, g, ge⟩ := W
  have hol := lt_of ho
  have hRl : ∀ r ∈ R, r < st.length := fun r hr => by obtain ⟨ds, e⟩ := stk.has r hr; exact lt_of e
  have nd' := nd
  rw [List.nodup_cons] at nd
  have hg : ∀ n x, st[n]? = some x → n ≠ o → ((st ++ [O.lst []]).set o (.lst ((st.length :: R).map D.ref).reverse))[n]? = some x := by
    intro n x hx hn
    rw [List.getElem?_set_ne (Ne.symm hn)]
    exact sto_old hx
  have hm : ∀ n x, st[n]? = some x → n ∉ o :: R → ((st ++ [O.lst []]).set o (.lst ((st.length :: R).map D.ref).reverse))[n]? = some x ∧ n ∉ o :: st.length :: R := by
    intro n x hx hn
    have hnl := lt_of hx
    refine ⟨hg n x hx (fun e => hn (by rw [e]; exact List.mem_cons_self)), ?_⟩
    intro h
    rcases List.mem_cons.mp h with h | h
    · exact hn (by rw [h]; exact List.mem_cons_self)
    · rcases List.mem_cons.mp h with h | h
      · omega
      · exact hn (List.mem_cons_of_mem _ h)
  refine ⟨sto_set (sto_old ho), ?_, .cons (ds := []) ?_ .nil (Nat.zero_le _) (stk.mono (Nat.le_refl _) hm fun r hr x hx => hg r x hx (fun e => nd.1 (by rw [← e]; exact hr))), (g.trans Grow.push).new (ge o List.mem_cons_self), ?_⟩
  · rw [List.nodup_cons, List.nodup_cons]
    refine ⟨?_, fun h => by have := hRl _ h; omega, nd.2⟩
    intro h
    rcases List.mem_cons.mp h with h | h
    · omega
    · exact nd.1 h
  · rw [List.getElem?_set_ne (by omega)]
    exact sto_top
  · intro r hr
    rcases List.mem_cons.mp hr with h | hr
    · exact ge r (by rw [h]; exact List.mem_cons_self)
    · rcases List.mem_cons.mp hr with h | hr
      · have := g.len; omega
      · exact ge r (List.mem_cons_of_mem _ hr)
theorem TW.close {r r2 : Nat} {a b : List Tr} {ds : List D} (W : TW st0 st o m (r :: r2 :: R) (a :: b :: S)) (hr2 : st[r2]? = some (.lst ds)) : TW st0 ((st.set o (.lst ((r2 :: R).map D.ref).reverse)).set r2 (.lst (ds ++ [.tup [.str sList, .ref r]]))) o (m + 1) (r2 :: R) ((b ++ [.lst a]) :: S) := by
  obtain ⟨ho, nd, stk, g, ge⟩ := W
  rw [List.nodup_cons, List.nodup_cons] at nd
  obtain ⟨n1, n2, n3⟩ := nd
  cases stk with
  | cons e1 z1 l1 k1 =>
    rename_i ds1
    have hor : ∀ x ∈ r :: r2 :: R, x ≠ o := fun x hx e => n1 (by rw [← e]; exact hx)
    -- after the pop
    have W1 : TW st0 (st.set o (.lst ((r2 :: R).map D.ref).reverse)) o m (r2 :: R) (b :: S) := by
      have hm : ∀ n x, st[n]? = some x → n ∉ o :: r :: r2 :: R → (st.set o (.lst ((r2 :: R).map D.ref).reverse))[n]? = some x ∧ n ∉ o :: r2 :: R := by
        intro n x hx hn
        refine ⟨?_, fun h => hn ?_⟩
        · rw [List.getElem?_set_ne (fun e => hn (by rw [← e]; exact List.mem_cons_self))]; exact hx
        · rcases List.mem_cons.mp h with h | h
          · rw [h]; exact List.mem_cons_self
          · exact List.mem_cons_of_mem _ (List.mem_cons_of_mem _ h)
      refine ⟨sto_set ho, ?_, k1.mono (Nat.le_refl _) hm fun x hx y hy => ?_, g.new (ge o List.mem_cons_self), fun x hx => ?_⟩
      · rw [List.nodup_cons]
        exact ⟨fun h => n1 (List.mem_cons_of_mem _ h), n3⟩
      · rw [List.getElem?_set_ne (Ne.symm (hor x (List.mem_cons_of_mem _ hx)))]; exact hy
      · rcases List.mem_cons.mp hx with h | h
        · exact ge x (by rw [h]; exact List.mem_cons_self)
        · exact ge x (List.mem_cons_of_mem _ (List.mem_cons_of_mem _ h))
    refine W1.push (.lst (ds := ds1) ?_ ?_ ?_) ?_
    · rw [List.getElem?_set_ne (Ne.symm (hor r List.mem_cons_self))]; exact e1
    · intro h
      rcases List.mem_cons.mp h with h | h
      · exact hor r List.mem_cons_self h
      · exact n2 h
    · refine z1.mono fun n x hx hn => ⟨?_, fun h => hn ?_⟩
      · rw [List.getElem?_set_ne (fun e => hn (by rw [← e]; exact List.mem_cons_self))]; exact hx
      · rcases List.mem_cons.mp h with h | h
        · rw [h]; exact List.mem_cons_self
        · exact List.mem_cons_of_mem _ (List.mem_cons_of_mem _ h)
    · rw [List.getElem?_set_ne (Ne.symm (hor r2 (List.mem_cons_of_mem _ List.mem_cons_self)))]; exact hr2
end
section
variable {P : Prog} {st : Sto} {Q : D × Sto → Prop} {n i : Nat}
theorem trees_spec {tk we : Nat} (h : P.fns[i]? = some (fdTrees tk)) (htk : P.fns[tk]? = some (fdTokens we)) (hwe : P.fns[we]? = some fdWordEnd) {s : List Char} {ts : List Tk} {res : List Tr} (ht : Toks s ts) (hl : s.length ≤ 100000) (hm : trF ts [[]] = some [res]) (q : ∀ (r : Nat) (ds : List D) st', Grow st st' → st'[r]? = some (.lst ds) → TrsAt st' [] ds res → Q (.ref r, st')) : (callF P (n + 3) i [.str s] st).wp Q := by
  have hsz : SZ = 1000000 := rfl
  have htl := ht.len
  refine call_wp h rfl ?_
  simp only [fdTrees, start_cons, start0, repS, rep0]
  refine stm_k fun K hK => ?_
  simp only [seval, MP.sv0, MP.sv1, MP.sv2, MP.sv3, MP.sv4, MP.sv5]
  refine hK _ _ ?_
  clear hK K
  refine stm_k fun K hK => ?_
  simp only [seval, MP.sv0, MP.sv1, MP.sv2, MP.sv3, MP.sv4, MP.sv5]
  have g0 : Grow st (st ++ [O.lst []] ++ [O.lst [.ref st.length]]) := Grow.push.trans Grow.push
  have W0 : TW st (st ++ [O.lst []] ++ [O.lst [.ref st.length]]) (st ++ [O.lst []]).length 0 [st.length] [[]] := by
    refine ⟨sto_top, ?_, .cons (ds := []) (sto_old sto_top) .nil (Nat.le_refl _) .nil, g0, ?_⟩
    · simp
    · intro r hr
      simp only [List.mem_cons, List.not_mem_nil, or_false] at hr
      rcases hr with rfl | rfl <;> simp
  generalize (st ++ [O.lst []]).length = o at W0
  generalize hs0 : st.length = s0 at W0
  generalize st ++ [O.lst []] ++ [O.lst [.ref s0]] = st1 at W0 g0
  refine tokens_spec htk hwe ht hl fun st2 g2 hf2 => ?_
  simp only [seval, MP.sv0, MP.sv1, MP.sv2, MP.sv3, MP.sv4, MP.sv5]
  rw [wk_ref hf2]
  simp only [seval, MP.sv0, MP.sv1, MP.sv2, MP.sv3, MP.sv4, MP.sv5]
  have W2 : TW st st2 o 0 [s0] [[]] := by
    obtain ⟨ho, nd, stk, g, ge⟩ := W0
    exact ⟨g2.at ho, nd, stk.mono (Nat.le_refl _) (fun n x hx hn => ⟨g2.at hx, hn⟩) fun r _ x hx => g2.at hx, g.trans g2, ge⟩
  have hfo : o < st1.length := lt_of W0.ho
  have hfs : s0 < st1.length := by obtain ⟨ds, e⟩ := W0.stk.has s0 List.mem_cons_self; exact lt_of e
  generalize hF : st1.length = F at hf2 hfo hfs
  refine for_wp (I := fun dd fr st' => ∃ (ts1 : List Tk) (R : List Nat) (S : List (List Tr)) (m : Nat) (e2 e3 e4 : Option D), fr = [some (.str s), some (.ref o), e2, e3, e4] ∧ dd = ts1.map Tk.toD ∧ TW st st' o m R S ∧ trF ts1 S = some [res] ∧ m + ts1.length ≤ 100000 ∧ R.length + ts1.length ≤ 100001 ∧ F ∉ o :: R ∧ st'[F]? = some (.lst (ts.map Tk.toD))) ?_ ?_ ?_ _ _ _ ⟨ts, [s0], [[]], 0, none, none, none, rfl, rfl, W2, hm, by omega, by simp only [List.length_cons, List.length_nil]; omega, by simp; omega, hf2⟩
  · rintro dd fr st' ⟨ts1, R, S, m, e2, e3, e4, -, -, -, -, -, -, -, hh⟩
    exact stands_at hh
  · rintro d dd fr st3 ⟨ts1, R, S, m, e2, e3, e4, rfl, hdd, W, htr, hml, hRl, hFo, hFF⟩
    cases ts1 with
    | nil => cases hdd
    | cons t ts1 =>
      rw [List.map_cons] at hdd
      injection hdd with hd1 hd2
      subst hd1 hd2
      rw [List.length_cons] at hml hRl
      have hFset : ∀ {r : Nat} {x : O} {sx : Sto}, r ∈ o :: R → sx[F]? = some (.lst (ts.map Tk.toD)) → (sx.set r x)[F]? = some (.lst (ts.map Tk.toD)) := by
        intro r x sx hr hx
        rw [List.getElem?_set_ne (fun e => hFo (by rw [← e]; exact hr))]
        exact hx
      cases t with
      | wrd x =>
        have htr' : trF (.wrd x :: ts1) S = some [res] := htr
        cases S with
        | nil => cases htr'
        | cons a S =>
          replace htr' : trF ts1 ((a ++ [.wrd x]) :: S) = some [res] := htr'
          have W' := W
          obtain ⟨ho, nd, stk, g, ge⟩ := W
          cases stk with
          | cons e z hla k =>
            rename_i r ds R
            have hal := z.len
            have hix : ixF st3 (.ref o) (.int (-1)) = some (.ref r) := by
              rw [ix_ref ho, List.map_cons, List.reverse_cons]
              exact at_neg
            simp only [Tk.toD, tg_tup, tgs_cons, tgs_nil, z_s0, z_ss]
            refine take_if ?_ ?_
            · simp only [seval, MP.sv0, MP.sv1, MP.sv2, MP.sv3, MP.sv4, MP.sv5]
              try simp (decide := true)
            refine stm_k fun K' hK' => ?_
            simp only [seval, MP.sv0, MP.sv1, MP.sv2, MP.sv3, MP.sv4, MP.sv5, hix, kd_ref e, ap_ref e]
            refine ⟨by omega, hK' _ _ ?_⟩
            simp only [s_nil_w]
            exact ⟨ts1, r :: R, _, m + 1, _, _, _, rfl, rfl, W'.push TrAt.wrd e, htr', by omega, by omega, hFo, hFset (List.mem_cons_of_mem _ List.mem_cons_self) hFF⟩
      | txt x =>
        have htr' : trF (.txt x :: ts1) S = some [res] := htr
        cases S with
        | nil => cases htr'
        | cons a S =>
          replace htr' : trF ts1 ((a ++ [.txt x]) :: S) = some [res] := htr'
          have W' := W
          obtain ⟨ho, nd, stk, g, ge⟩ := W
          cases stk with
          | cons e z hla k =>
            rename_i r ds R
            have hal := z.len
            have hix : ixF st3 (.ref o) (.int (-1)) = some (.ref r) := by
              rw [ix_ref ho, List.map_cons, List.reverse_cons]
              exact at_neg
            simp only [Tk.toD, tg_tup, tgs_cons, tgs_nil, z_s0, z_ss]
            refine take_if ?_ ?_
            · simp only [seval, MP.sv0, MP.sv1, MP.sv2, MP.sv3, MP.sv4, MP.sv5]
              try simp (decide := true)
            refine stm_k fun K' hK' => ?_
            simp only [seval, MP.sv0, MP.sv1, MP.sv2, MP.sv3, MP.sv4, MP.sv5, hix, kd_ref e, ap_ref e]
            refine ⟨by omega, hK' _ _ ?_⟩
            simp only [s_nil_w]
            exact ⟨ts1, r :: R, _, m + 1, _, _, _, rfl, rfl, W'.push TrAt.txt e, htr', by omega, by omega, hFo, hFset (List.mem_cons_of_mem _ List.mem_cons_self) hFF⟩
      | lp =>
        have htr' : trF ts1 ([] :: S) = some [res] := htr
        simp only [Tk.toD, tg_tup, tgs_cons, tgs_nil, z_s0, z_ss]
        refine skip_ife ?_ ?_
        · simp only [seval, MP.sv0, MP.sv1, MP.sv2, MP.sv3, MP.sv4, MP.sv5]
        refine take_if ?_ ?_
        · simp only [seval, MP.sv0, MP.sv1, MP.sv2, MP.sv3, MP.sv4, MP.sv5]
        refine stm_k fun K' hK' => ?_
        have ho := W.ho
        have hol := lt_of ho
        simp only [seval, MP.sv0, MP.sv1, MP.sv2, MP.sv3, MP.sv4, MP.sv5, kd_ref ho]
        rw [ap_ref (sto_old ho)]
        have hRlen := W.stk.len
        refine ⟨by rw [List.length_reverse, List.length_map]; omega, hK' _ _ ?_⟩
        simp only [s_nil_w]
        have W1 := W.open
        have er : (R.map D.ref).reverse ++ [.ref st3.length] = ((st3.length :: R).map D.ref).reverse := by rw [List.map_cons, List.reverse_cons]
        rw [er]
        exact ⟨ts1, _, _, m, _, _, _, rfl, rfl, W1, htr', by omega, by rw [List.length_cons]; omega, by
          intro h
          rcases List.mem_cons.mp h with h | h
          · exact hFo (by rw [h]; exact List.mem_cons_self)
          · rcases List.mem_cons.mp h with h | h
            · have := lt_of hFF; omega
            · exact hFo (List.mem_cons_of_mem _ h), hFset List.mem_cons_self (sto_old hFF)⟩
      | rp =>
        cases S with
        | nil => cases htr
        | cons a S =>
        cases S with
        | nil => cases htr
        | cons b S =>
        have htr' : trF ts1 ((b ++ [.lst a]) :: S) = some [res] := htr
        have W' := W
        obtain ⟨ho, nd, stk, g, ge⟩ := W
        have hno := nd
        rw [List.nodup_cons] at hno
        cases stk with
        | cons e z hla k =>
        rename_i r ds R
        cases k with
        | cons e2' z2 hlb k2 =>
        rename_i r2 ds2 R
        have hal := z2.len
        simp only [Tk.toD, tg_tup, tgs_cons, tgs_nil, z_s0, z_ss]
        refine skip_ife ?_ ?_
        · simp only [seval, MP.sv0, MP.sv1, MP.sv2, MP.sv3, MP.sv4, MP.sv5]
        refine skip_ife ?_ ?_
        · simp only [seval, MP.sv0, MP.sv1, MP.sv2, MP.sv3, MP.sv4, MP.sv5]
          simp (decide := true)
        simp only [List.map_cons, List.reverse_cons] at ho
        refine skip_if ?_ ?_
        · simp only [seval, MP.sv0, MP.sv1, MP.sv2, MP.sv3, MP.sv4, MP.sv5, len_ref ho, List.length_append, List.length_cons, List.length_nil, List.length_reverse, List.length_map]
          omega
        refine stm_k fun K' hK' => ?_
        simp only [seval, MP.sv0, MP.sv1, MP.sv2, MP.sv3, MP.sv4, MP.sv5, kd_ref ho, pop_ref ho]
        refine hK' _ _ ?_
        clear hK' K'
        refine stm_k fun K' hK' => ?_
        have hrne : r2 ≠ o := fun h => hno.1 (by rw [← h]; exact List.mem_cons_of_mem _ List.mem_cons_self)
        have ho2 := sto_set (o' := O.lst ((R.map D.ref).reverse ++ [.ref r2])) ho
        have he2 : (st3.set o (O.lst ((R.map D.ref).reverse ++ [.ref r2])))[r2]? = some (.lst ds2) := by rw [List.getElem?_set_ne (Ne.symm hrne)]; exact e2'
        have hix : ixF (st3.set o (O.lst ((R.map D.ref).reverse ++ [.ref r2]))) (.ref o) (.int (-1)) = some (.ref r2) := by rw [ix_ref ho2]; exact at_neg
        simp only [seval, MP.sv0, MP.sv1, MP.sv2, MP.sv3, MP.sv4, MP.sv5, hix, kd_ref he2, ap_ref he2]
        refine ⟨by omega, hK' _ _ ?_⟩
        simp only [s_nil_w]
        have W1 := W'.close e2'
        simp only [List.map_cons, List.reverse_cons] at W1
        rw [List.length_cons, List.length_cons] at hRl
        exact ⟨ts1, r2 :: R, _, m + 1, _, _, _, rfl, rfl, W1, htr', by omega, by rw [List.length_cons]; omega, by
          intro h
          rcases List.mem_cons.mp h with h | h
          · exact hFo (by rw [h]; exact List.mem_cons_self)
          · exact hFo (List.mem_cons_of_mem _ (List.mem_cons_of_mem _ h)), hFset (List.mem_cons_of_mem _ (List.mem_cons_of_mem _ List.mem_cons_self)) (hFset List.mem_cons_self hFF)⟩
  · rintro fr st3 ⟨ts1, R, S, m, e2, e3, e4, rfl, hdd, W, htr, -, -, -, -⟩
    have : ts1 = [] := by cases ts1 with | nil => rfl | cons t ts1 => cases hdd
    subst this
    have hS : S = [res] := Option.some.inj htr
    subst hS
    simp only [id]
    refine hK _ _ ?_
    clear hK K
    obtain ⟨ho, nd, stk, g, ge⟩ := W
    cases stk with
    | cons e z hla k =>
    cases k
    rename_i r ds
    refine skip_if ?_ ?_
    · simp only [seval, MP.sv0, MP.sv1, MP.sv2, MP.sv3, MP.sv4, MP.sv5, len_ref ho, List.length_reverse, List.length_map, List.length_cons, List.length_nil]
    refine ret_one ?_
    have hix : ixF st3 (.ref o) (.int 0) = some (.ref r) := by
      rw [ix_ref ho]
      exact at_0
    simp only [seval, MP.sv0, MP.sv1, MP.sv2, MP.sv3, MP.sv4, MP.sv5, hix]
    exact q r ds _ g e (z.mono fun n x hx hn => ⟨hx, by simp⟩)
end
end MP

set_option Elab.async false
set_option linter.all false
set_option maxRecDepth 100000
set_option maxHeartbeats 400000
/-! MPLaw24: worths written and read. -/
namespace MP
mutual
def tkW : D → List Tk
  | .int i => [.wrd (showI i)]
  | .str x => [.txt x]
  | .tup xs => .lp :: (tkWs xs ++ [.rp])
  | _ => []
def tkWs : List D → List Tk
  | [] => []
  | x :: xs => tkW x ++ tkWs xs
end
mutual
def trW : D → Tr
  | .int i => .wrd (showI i)
  | .str x => .txt x
  | .tup xs => .lst (trWs xs)
  | _ => .wrd []
def trWs : List D → List Tr
  | [] => []
  | x :: xs => trW x :: trWs xs
end
mutual
def shW : D → List Char
  | .int i => showI i
  | .str x => '"' :: (x ++ ['"'])
  | .tup xs => '(' :: (joinF [' '] (shWs xs) ++ [')'])
  | _ => []
def shWs : List D → List (List Char)
  | [] => []
  | x :: xs => shW x :: shWs xs
end
mutual
theorem trF_W : ∀ (d : D), rawD d = true → ∀ (rest : List Tk) (a : List Tr) (S : List (List Tr)), trF (tkW d ++ rest) (a :: S) = trF rest ((a ++ [trW d]) :: S)
  | .int i, _, rest, a, S => rfl
  | .str x, _, rest, a, S => rfl
  | .tup xs, h, rest, a, S => by
    rw [rawD, Bool.and_eq_true] at h
    have e : tkW (.tup xs) ++ rest = .lp :: (tkWs xs ++ (.rp :: rest)) := by rw [tkW]; simp
    rw [e]
    show trF (tkWs xs ++ (.rp :: rest)) ([] :: a :: S) = _
    rw [trF_Ws xs h.2]
    rfl
  | .non, h, _, _, _ => by cases h
  | .bl _, h, _, _, _ => by cases h
  | .kls _, h, _, _, _ => by cases h
  | .ref _, h, _, _, _ => by cases h
theorem trF_Ws : ∀ (ds : List D), rawDs ds = true → ∀ (rest : List Tk) (a : List Tr) (S : List (List Tr)), trF (tkWs ds ++ rest) (a :: S) = trF rest ((a ++ trWs ds) :: S)
  | [], _, rest, a, S => by rw [tkWs, trWs, List.append_nil]; rfl
  | x :: xs, h, rest, a, S => by
    rw [rawDs, Bool.and_eq_true] at h
    rw [tkWs, trWs, List.append_assoc, trF_W x h.1, trF_Ws xs h.2, List.append_assoc]
    rfl
end
theorem joinF_len (a : List Char) : ∀ ys : List (List Char), (joinF a ys).length ≤ (ys.map (·.length)).sum + ys.length * a.length
  | [] => by simp [joinF]
  | [x] => by simp [joinF]
  | x :: y :: r => by
    have := joinF_len a (y :: r)
    rw [joinF, List.length_append, List.length_append, List.map_cons, List.sum_cons, List.length_cons, Nat.succ_mul]
    omega
mutual
theorem shW_len : ∀ d : D, rawD d = true → fitD d = true → (shW d).length + 1 ≤ 63 * sizD d
  | .int i, _, h => by
    rw [fitD, decide_eq_true_eq] at h
    have := showI_len (i := i) (k := 59) (by split at h <;> omega)
    rw [shW, sizD]
    omega
    all_goals simp
  | .str x, _, h => by
    rw [shW, sizD]
    simp only [List.length_cons, List.length_append, List.length_nil]
    omega
  | .tup xs, h, hf => by
    rw [rawD, Bool.and_eq_true] at h
    rw [fitD, Bool.and_eq_true] at hf
    have := shWs_len xs h.2 hf.2
    have := joinF_len [' '] (shWs xs)
    rw [shW, sizD]
    simp only [List.length_cons, List.length_append, List.length_nil] at *
    omega
  | .non, h, _ => by cases h
  | .bl _, h, _ => by cases h
  | .kls _, h, _ => by cases h
  | .ref _, h, _ => by cases h
theorem shWs_len : ∀ ds : List D, rawDs ds = true → fitDs ds = true → ((shWs ds).map (·.length)).sum + (shWs ds).length * 1 ≤ 63 * sizDs ds
  | [], _, _ => by simp [shWs, sizDs]
  | x :: xs, h, hf => by
    rw [rawDs, Bool.and_eq_true] at h
    rw [fitDs, Bool.and_eq_true] at hf
    have := shW_len x h.1 hf.1
    have := shWs_len xs h.2 hf.2
    rw [shWs, sizDs, List.map_cons, List.sum_cons, List.length_cons]
    omega
end
theorem shWs_map : ∀ xs : List D, shWs xs = xs.map shW
  | [] => rfl
  | x :: xs => by rw [shWs, shWs_map xs, List.map_cons]
theorem trWs_map : ∀ xs : List D, trWs xs = xs.map trW
  | [] => rfl
  | x :: xs => by rw [trWs, trWs_map xs, List.map_cons]
theorem isW_fit {d : D} (h : isW d = true) : rawD d = true ∧ fitD d = true ∧ sizD d ≤ 1000 ∧ depD d ≤ 12 := by
  have hr := isW_raw h
  have e := raw_isW hr
  rw [h] at e
  have e := e.symm
  rw [Bool.and_eq_true, Bool.and_eq_true, decide_eq_true_eq, decide_eq_true_eq] at e
  exact ⟨hr, e.1, by omega, by omega⟩
theorem isW_sh {d : D} (h : isW d = true) : (shW d).length ≤ 63000 := by
  obtain ⟨h1, h2, h3, _⟩ := isW_fit h
  have := shW_len d h1 h2
  omega
theorem isW_kind {d : D} (h : isW d = true) : (∃ i, d = .int i) ∨ (∃ x, d = .str x) ∨ ∃ xs, d = .tup xs := by
  match d, isW_raw h with
  | .int i, _ => exact .inl ⟨i, rfl⟩
  | .str x, _ => exact .inr (.inl ⟨x, rfl⟩)
  | .tup xs, _ => exact .inr (.inr ⟨xs, rfl⟩)
section
variable {P : Prog} {st : Sto} {Q : D × Sto → Prop} {n i : Nat}
theorem isW_saf {d : D} (st : Sto) (h : isW d = true) : Saf st d := raw_saf st d (isW_raw h)
theorem str_num {z : Int} (h : isW (.int z) = true) : z.natAbs.log2 < 1900 := by
  have h := isW_num h
  exact Nat.lt_trans (log_lt (k := 250) (by omega) (by decide)) (by decide)
theorem join_sh {xs : List D} {r : Nat} (h : isW (.tup xs) = true) (hr : st[r]? = some (.lst (xs.map fun d => .str (shW d)))) : (bmF .s .join (.str [' ']) [.ref r] st).wp fun p => p = (.str (joinF [' '] (shWs xs)), st) := by
  have e : xs.map (fun d => D.str (shW d)) = (shWs xs).map .str := by rw [shWs_map, List.map_map]; rfl
  rw [e] at hr
  rw [join_ref hr]
  obtain ⟨h1, h2, h3, _⟩ := isW_fit h
  rw [rawD, Bool.and_eq_true] at h1
  rw [fitD, Bool.and_eq_true] at h2
  have := shWs_len xs h1.2 h2.2
  rw [sizD] at h3
  have hsz : SZ = 1000000 := rfl
  simp only [List.length_cons, List.length_nil]
  exact ⟨by omega, trivial⟩
theorem showWorth_spec (h : P.fns[i]? = some (fdShowWorth i)) : ∀ (n : Nat) (st : Sto) (Q : D × Sto → Prop) (d : D), isW d = true → depD d + 1 ≤ n → (∀ st', Grow st st' → Q (.str (shW d), st')) → (callF P n i [d] st).wp Q := by
  intro n
  induction n with
  | zero => intro st Q d hr hn q; omega
  | succ n ih =>
    intro st Q d hr hn q
    have hsz : SZ = 1000000 := rfl
    refine call_wp h rfl ?_
    simp only [fdShowWorth, start_cons, start0, repS, rep0]
    have hS := isW_saf st hr
    rcases isW_kind hr with ⟨z, rfl⟩ | ⟨x, rfl⟩ | ⟨xs, rfl⟩
    · refine take_if ?_ ?_
      · simp only [seval, MP.sv0, MP.sv1, MP.sv2, MP.sv3, MP.sv4, MP.sv5, isi_int hS, isInt]
      refine ret_one ?_
      simp only [seval, MP.sv0, MP.sv1, MP.sv2, MP.sv3, MP.sv4, MP.sv5]
      exact ⟨str_num hr, q st Grow.refl⟩
    · have := isW_text hr
      refine skip_if ?_ ?_
      · simp only [seval, MP.sv0, MP.sv1, MP.sv2, MP.sv3, MP.sv4, MP.sv5, isi_int hS, isInt]
      refine take_if ?_ ?_
      · simp only [seval, MP.sv0, MP.sv1, MP.sv2, MP.sv3, MP.sv4, MP.sv5, isi_str hS, isStr]
      refine ret_one ?_
      simp only [seval, MP.sv0, MP.sv1, MP.sv2, MP.sv3, MP.sv4, MP.sv5, List.length_append, List.length_cons, List.length_nil]
      refine ⟨by omega, by omega, ?_⟩
      exact q st Grow.refl
    · refine skip_if ?_ ?_
      · simp only [seval, MP.sv0, MP.sv1, MP.sv2, MP.sv3, MP.sv4, MP.sv5, isi_int hS, isInt]
      refine skip_if ?_ ?_
      · simp only [seval, MP.sv0, MP.sv1, MP.sv2, MP.sv3, MP.sv4, MP.sv5, isi_str hS, isStr]
      refine ret_one ?_
      have hxl := isW_len hr
      simp only [seval, MP.sv0, MP.sv1, MP.sv2, MP.sv3, MP.sv4, MP.sv5, kd_str]
      rw [depD] at hn
      refine lc_grow (fun d => .str (shW d)) _ _ _ Grow.refl ?_ (by simp only [List.length_nil]; omega) ?_
      · intro d hd st2 g
        simp only [seval, MP.sv0, MP.sv1, MP.sv2, MP.sv3, MP.sv4, MP.sv5, wipeF]
        have := depDs_mem hd
        refine ih st2 _ d (isW_mem hr hd) (by omega) fun st3 g3 => ?_
        simp only [seval, MP.sv0, MP.sv1, MP.sv2, MP.sv3, MP.sv4, MP.sv5]
        exact g3
      · intro st2 g
        simp only [List.nil_append, id]
        refine wp_mono (join_sh hr sto_top) ?_
        rintro p rfl
        have hl := isW_sh hr
        rw [shW] at hl
        simp only [List.length_cons, List.length_append, List.length_nil] at hl
        simp only [seval, MP.sv0, MP.sv1, MP.sv2, MP.sv3, MP.sv4, MP.sv5, List.length_append, List.length_cons, List.length_nil]
        refine ⟨by omega, by omega, ?_⟩
        have := q (st2 ++ [O.lst (xs.map fun d => D.str (shW d))]) (g.trans Grow.push)
        rw [shW] at this
        exact this
/-! ### read -/
end
inductive F2 (F : D → D → Prop) : List D → List D → Prop where
  | nil : F2 F [] []
  | cons {a b : D} {l m : List D} : F a b → F2 F l m → F2 F (a :: l) (b :: m)
theorem F2.imp {F G : D → D → Prop} (h : ∀ a b, F a b → G a b) : ∀ {l m : List D}, F2 F l m → F2 G l m
  | _, _, .nil => .nil
  | _, _, .cons a z => .cons (h _ _ a) (F2.imp h z)
section
variable {P : Prog} {st : Sto} {Q : D × Sto → Prop} {n i : Nat}
theorem lc_rel {ok : Sto → Bool} {turn : D → Sto → R (Option D × Sto)} {Q : List D × Sto → Prop} {F : D → D → Prop} {st0 : Sto} (hok : ∀ st, Grow st0 st → ok st = true) (hf : ∀ d e st, F d e → Grow st0 st → (turn d st).wp fun p => p.1 = some e ∧ Grow st p.2) : ∀ (ds es acc : List D) (st : Sto), F2 F ds es → Grow st0 st → acc.length + ds.length ≤ SZ → (∀ st', Grow st0 st' → Q (acc ++ es, st')) → (lcF ok turn ds acc st).wp Q
  | _, _, acc, st, .nil, g, _, q => by
    rw [lcF, if_pos (hok st g)]
    simpa using q st g
  | _, _, acc, st, .cons (a := d) (b := e) (l := ds) (m := es) h1 h2, g, hl, q => by
    rw [lcF, if_pos (hok st g), wp_bind]
    rw [List.length_cons] at hl
    refine wp_mono (hf d e st h1 g) fun p hp => ?_
    obtain ⟨p1, p2⟩ := p
    obtain ⟨rfl, hg⟩ := hp
    dsimp only
    rw [if_pos (by omega)]
    exact lc_rel hok hf ds es (acc ++ [e]) p2 h2 (g.trans hg) (by rw [List.length_append]; simp only [List.length_cons, List.length_nil]; omega) (by simpa using q)
theorem TrAt.grow {st st' : Sto} (g : Grow st st') {d : D} {t : Tr} (h : TrAt st [] d t) : TrAt st' [] d t := h.mono fun n o e _ => ⟨g.at e, by simp⟩
theorem trs_rel {st : Sto} : ∀ {ds : List D} (ts : List D), TrsAt st [] ds (trWs ts) → F2 (fun d w => TrAt st [] d (trW w)) ds ts
  | ds, [], h => by rw [trWs] at h; cases h; exact .nil
  | ds, t :: ts, h => by rw [trWs] at h; cases h with | cons a z => exact .cons a (trs_rel ts z)
theorem forall2_mem {F : D → D → Prop} : ∀ {ds es : List D}, F2 F ds es → F2 (fun d e => F d e ∧ e ∈ es) ds es
  | _, _, .nil => .nil
  | _, _, .cons h1 h2 => .cons ⟨h1, List.mem_cons_self⟩ ((forall2_mem h2).imp fun _ _ h => ⟨h.1, List.mem_cons_of_mem _ h.2⟩)
theorem thingOf_spec {nu : Nat} (h : P.fns[i]? = some (fdThingOf i nu)) (hnu : P.fns[nu]? = some fdNumberOf) : ∀ (n : Nat) (st : Sto) (Q : D × Sto → Prop) (w d : D), isW w = true → TrAt st [] d (trW w) → depD w + 2 ≤ n → (∀ st', Grow st st' → Q (w, st')) → (callF P n i [d] st).wp Q := by
  intro n
  induction n with
  | zero => intro st Q w d hr ht hn q; omega
  | succ n ih =>
    intro st Q w d hr ht hn q
    have hsz : SZ = 1000000 := rfl
    refine call_wp h rfl ?_
    simp only [fdThingOf, start_cons, start0, repS, rep0]
    rcases isW_kind hr with ⟨z, rfl⟩ | ⟨x, rfl⟩ | ⟨xs, rfl⟩
    · rw [trW] at ht
      cases ht
      refine stm_k fun K hK => ?_
      simp only [seval, MP.sv0, MP.sv1, MP.sv2, MP.sv3, MP.sv4, MP.sv5]
      refine hK _ _ ?_
      clear hK K
      refine skip_if ?_ ?_
      · simp only [seval, MP.sv0, MP.sv1, MP.sv2, MP.sv3, MP.sv4, MP.sv5]; try simp (decide := true)
      refine skip_if ?_ ?_
      · simp only [seval, MP.sv0, MP.sv1, MP.sv2, MP.sv3, MP.sv4, MP.sv5]; try simp (decide := true)
      refine stm_k fun K hK => ?_
      simp only [seval, MP.sv0, MP.sv1, MP.sv2, MP.sv3, MP.sv4, MP.sv5]
      obtain ⟨m, rfl⟩ : ∃ m, n = m + 1 := ⟨n - 1, by omega⟩
      have hz := isW_num hr
      refine numberOf_spec hnu (by rw [numI, decide_eq_true hz.1, decide_eq_true hz.2]; rfl) ?_
      refine hK _ _ ?_
      clear hK K
      refine skip_if ?_ ?_
      · simp only [seval, MP.sv0, MP.sv1, MP.sv2, MP.sv3, MP.sv4, MP.sv5]
      refine ret_one ?_
      simp only [seval, MP.sv0, MP.sv1, MP.sv2, MP.sv3, MP.sv4, MP.sv5]
      exact q st Grow.refl
    · rw [trW] at ht
      cases ht
      refine stm_k fun K hK => ?_
      simp only [seval, MP.sv0, MP.sv1, MP.sv2, MP.sv3, MP.sv4, MP.sv5]
      refine hK _ _ ?_
      clear hK K
      refine take_if ?_ ?_
      · simp only [seval, MP.sv0, MP.sv1, MP.sv2, MP.sv3, MP.sv4, MP.sv5]
      refine ret_one ?_
      simp only [seval, MP.sv0, MP.sv1, MP.sv2, MP.sv3, MP.sv4, MP.sv5]
      exact q st Grow.refl
    · rw [trW] at ht
      cases ht with
      | lst e hn0 z =>
        rename_i r ds
        have hz := trs_rel xs z
        have hxl := isW_len hr
        have hdl := z.len
        rw [trWs_map, List.length_map] at hdl
        refine stm_k fun K hK => ?_
        simp only [seval, MP.sv0, MP.sv1, MP.sv2, MP.sv3, MP.sv4, MP.sv5]
        refine hK _ _ ?_
        clear hK K
        refine skip_if ?_ ?_
        · simp only [seval, MP.sv0, MP.sv1, MP.sv2, MP.sv3, MP.sv4, MP.sv5]; try simp (decide := true)
        refine take_if ?_ ?_
        · simp only [seval, MP.sv0, MP.sv1, MP.sv2, MP.sv3, MP.sv4, MP.sv5]
        refine ret_one ?_
        simp only [seval, MP.sv0, MP.sv1, MP.sv2, MP.sv3, MP.sv4, MP.sv5]
        rw [wk_ref e]
        simp only [seval, MP.sv0, MP.sv1, MP.sv2, MP.sv3, MP.sv4, MP.sv5]
        rw [depD] at hn
        refine lc_rel (st0 := st) (F := fun d w => TrAt st [] d (trW w) ∧ w ∈ xs) (fun st' g => stands_at (g.at e)) ?_ ds xs [] st (forall2_mem hz) Grow.refl (by simp only [List.length_nil]; omega) ?_
        · rintro d w st2 ⟨hd, hw⟩ g
          simp only [seval, MP.sv0, MP.sv1, MP.sv2, MP.sv3, MP.sv4, MP.sv5, wipeF]
          have := depDs_mem hw
          refine ih st2 _ w d (isW_mem hr hw) (hd.grow g) (by omega) fun st3 g3 => ?_
          simp only [seval, MP.sv0, MP.sv1, MP.sv2, MP.sv3, MP.sv4, MP.sv5]
          exact g3
        · intro st2 g
          simp only [List.nil_append, id]
          rw [tuple_ref sto_top]
          simp only [seval, MP.sv0, MP.sv1, MP.sv2, MP.sv3, MP.sv4, MP.sv5]
          exact q _ (g.trans Grow.push)
theorem tree_spec {te tk we : Nat} (h : P.fns[i]? = some (fdTree te)) (hte : P.fns[te]? = some (fdTrees tk)) (htk : P.fns[tk]? = some (fdTokens we)) (hwe : P.fns[we]? = some fdWordEnd) {s : List Char} {ts : List Tk} {t : Tr} (ht : Toks s ts) (hl : s.length ≤ 100000) (hm : trF ts [[]] = some [[t]]) (q : ∀ (d : D) st', Grow st st' → TrAt st' [] d t → Q (d, st')) : (callF P (n + 4) i [.str s] st).wp Q := by
  refine call_wp h rfl ?_
  simp only [fdTree, start_cons, start0, repS, rep0]
  refine stm_k fun K hK => ?_
  simp only [seval, MP.sv0, MP.sv1, MP.sv2, MP.sv3, MP.sv4, MP.sv5]
  refine trees_spec hte htk hwe ht hl hm fun r ds st1 g1 e z => ?_
  refine hK _ _ ?_
  clear hK K
  cases z with
  | cons a z =>
    cases z
    refine skip_if ?_ ?_
    · simp only [seval, MP.sv0, MP.sv1, MP.sv2, MP.sv3, MP.sv4, MP.sv5, len_ref e]; try simp (decide := true)
    refine ret_one ?_
    simp only [seval, MP.sv0, MP.sv1, MP.sv2, MP.sv3, MP.sv4, MP.sv5, ix_ref e]
    exact q _ _ g1 a
structure ReadAt (P : Prog) (i : Nat) : Prop where
  ex : ∃ wo tr te tk we to nu iw ms num txt sg, P.fns[i]? = some (fdReadWorth wo tr) ∧ P.fns[wo]? = some (fdWorthOf to iw) ∧ P.fns[tr]? = some (fdTree te) ∧ P.fns[te]? = some (fdTrees tk) ∧ P.fns[tk]? = some (fdTokens we) ∧ P.fns[we]? = some fdWordEnd ∧ P.fns[to]? = some (fdThingOf to nu) ∧ P.fns[nu]? = some fdNumberOf ∧ P.fns[iw]? = some (fdIsWorth ms) ∧ P.fns[ms]? = some (fdMeasured num txt ms) ∧ P.fns[num]? = some fdIsNumber ∧ P.fns[txt]? = some (fdIsText sg) ∧ P.fns[sg]? = some fdIsSign
theorem readWorth_spec (h : ReadAt P i) {s : List Char} {w : D} (hw : isW w = true) (ht : Toks s (tkW w)) (hl : s.length ≤ 100000) (q : ∀ st', Grow st st' → Q (w, st')) : (callF P (n + 30) i [.str s] st).wp Q := by
  obtain ⟨wo, tr, te, tk, we, to, nu, iw, ms, num, txt, sg, h0, hwo, htr, hte, htk, hwe, hto, hnu, hiw, hms, hnum, htxt, hsg⟩ := h
  refine call_wp h0 rfl ?_
  simp only [fdReadWorth, start_cons, start0, repS, rep0]
  refine ret_one ?_
  simp only [seval, MP.sv0, MP.sv1, MP.sv2, MP.sv3, MP.sv4, MP.sv5]
  have hm : trF (tkW w) [[]] = some [[trW w]] := by
    have := trF_W w (isW_raw hw) [] [] []
    rw [List.append_nil] at this
    rw [this]
    rfl
  have hd := isW_dep hw
  refine tree_spec (n := n + 25) htr hte htk hwe ht hl hm fun d st1 g1 hd1 => ?_
  refine call_wp hwo rfl ?_
  simp only [fdWorthOf, start_cons, start0, repS, rep0]
  refine stm_k fun K hK => ?_
  simp only [seval, MP.sv0, MP.sv1, MP.sv2, MP.sv3, MP.sv4, MP.sv5]
  refine thingOf_spec hto hnu (n + 28) st1 _ w d hw hd1 (by omega) fun st2 g2 => ?_
  refine hK _ _ ?_
  clear hK K
  refine skip_if ?_ ?_
  · simp only [seval, MP.sv0, MP.sv1, MP.sv2, MP.sv3, MP.sv4, MP.sv5]
    refine isWorth_spec hiw hms hnum htxt hsg (isW_saf _ hw) (by omega) ?_
    simp only [seval, MP.sv0, MP.sv1, MP.sv2, MP.sv3, MP.sv4, MP.sv5, hw]
  refine ret_one ?_
  simp only [seval, MP.sv0, MP.sv1, MP.sv2, MP.sv3, MP.sv4, MP.sv5]
  exact q _ (g1.trans g2)
end
end MP

set_option Elab.async false
set_option linter.all false
set_option maxRecDepth 100000
set_option maxHeartbeats 0
namespace K04
open MP PySem PySem.Spec PyProof.Rows L2
def top (i : Nat) : Stmt := PySem.Challenge.pw_leastforge_k04_worths_written_and_read.main.body.getD i (.Pass ⟨0, 0, 0, 0⟩)
/-- word_end -/
def fd0 : FD := ⟨2, 2,
    (.cons (.whl (.and (.op .lt (.v 1) (.bi .len (.cons (.v 0) .nil))) (.and (.op .nmem (.ix (.v 0) (.v 1)) (.c (.str [' ', '\n']))) (.and (.op .nmem (.ix (.v 0) (.v 1)) (.c (.str ['(', ')']))) (.op .ne (.ix (.v 0) (.v 1)) (.c (.str ['"']))))))
    (.cons (.set (.v 1) (.op .add (.v 1) (.c (.int 1))))
    .nil))
    (.cons (.ret (.v 1))
    .nil))⟩
/-- tokens -/
def fd1 : FD := ⟨1, 5,
    (.cons (.set (.v 1) (.lst .nil))
    (.cons (.set (.v 2) (.c (.int 0)))
    (.cons (.whl (.op .lt (.v 2) (.bi .len (.cons (.v 0) .nil)))
    (.cons (.set (.v 3) (.ix (.v 0) (.v 2)))
    (.cons (.set (.v 4) (.op .add (.v 2) (.c (.int 1))))
    (.cons (.ife (.op .mem (.v 3) (.c (.str ['(', ')'])))
    (.cons (.ex (.bm .append (.v 1) (.cons (.tup (.cons (.c (.str ['b', 'r', 'a', 'c', 'k', 'e', 't'])) (.cons (.v 3) .nil))) .nil)))
    .nil)
    (.cons (.ife (.op .eq (.v 3) (.c (.str ['"'])))
    (.cons (.set (.v 4) (.op .add (.bm .find (.v 0) (.cons (.c (.str ['"'])) (.cons (.op .add (.v 2) (.c (.int 1))) .nil))) (.c (.int 1))))
    (.cons (.ife (.op .eq (.v 4) (.c (.int 0)))
    (.cons .nev
    .nil)
    .nil)
    (.cons (.ex (.bm .append (.v 1) (.cons (.tup (.cons (.c (.str ['t', 'e', 'x', 't'])) (.cons (.sl (.v 0) (.so (.op .add (.v 2) (.c (.int 1)))) (.so (.op .sub (.v 4) (.c (.int 1))))) .nil))) .nil)))
    .nil)))
    (.cons (.ife (.op .nmem (.v 3) (.c (.str [' ', '\n'])))
    (.cons (.set (.v 4) (.call 0 (.cons (.v 0) (.cons (.v 2) .nil)) []))
    (.cons (.ex (.bm .append (.v 1) (.cons (.tup (.cons (.c (.str ['w', 'o', 'r', 'd'])) (.cons (.sl (.v 0) (.so (.v 2)) (.so (.v 4))) .nil))) .nil)))
    .nil))
    .nil)
    .nil))
    .nil))
    (.cons (.set (.v 2) (.v 4))
    .nil)))))
    (.cons (.ret (.v 1))
    .nil))))⟩
/-- trees -/
def fd2 : FD := ⟨1, 5,
    (.cons (.set (.v 1) (.lst (.cons (.lst .nil) .nil)))
    (.cons (.forr (.tup (.cons (.v 2) (.cons (.v 3) .nil))) (.any (.call 1 (.cons (.v 0) .nil) []))
    (.cons (.ife (.op .ne (.v 2) (.c (.str ['b', 'r', 'a', 'c', 'k', 'e', 't'])))
    (.cons (.ex (.bm .append (.ix (.v 1) (.neg (.c (.int 1)))) (.cons (.tup (.cons (.v 2) (.cons (.v 3) .nil))) .nil)))
    .nil)
    (.cons (.ife (.op .eq (.v 3) (.c (.str ['('])))
    (.cons (.ex (.bm .append (.v 1) (.cons (.lst .nil) .nil)))
    .nil)
    (.cons (.ife (.op .lt (.bi .len (.cons (.v 1) .nil)) (.c (.int 2)))
    (.cons .nev
    .nil)
    .nil)
    (.cons (.set (.v 4) (.bm .pop (.v 1) .nil))
    (.cons (.ex (.bm .append (.ix (.v 1) (.neg (.c (.int 1)))) (.cons (.tup (.cons (.c (.str ['l', 'i', 's', 't'])) (.cons (.v 4) .nil))) .nil)))
    .nil))))
    .nil))
    .nil))
    (.cons (.ife (.op .gt (.bi .len (.cons (.v 1) .nil)) (.c (.int 1)))
    (.cons .nev
    .nil)
    .nil)
    (.cons (.ret (.ix (.v 1) (.c (.int 0))))
    .nil))))⟩
/-- tree -/
def fd3 : FD := ⟨1, 2,
    (.cons (.set (.v 1) (.call 2 (.cons (.v 0) .nil) []))
    (.cons (.ife (.op .ne (.bi .len (.cons (.v 1) .nil)) (.c (.int 1)))
    (.cons .nev
    .nil)
    .nil)
    (.cons (.ret (.ix (.v 1) (.c (.int 0))))
    .nil)))⟩
/-- is_number -/
def fd4 : FD := ⟨1, 1,
    (.cons (.ret (.and (.isi (.v 0) .int) (.and (.not (.isi (.v 0) .bool)) (.chain .lt .lt (.neg (.c (.int 1000000000000000000000000000000000000000000000000000000000000))) (.v 0) (.c (.int 1000000000000000000000000000000000000000000000000000000000000))))))
    .nil)⟩
/-- is_sign -/
def fd5 : FD := ⟨1, 1,
    (.cons (.ret (.and (.chain .le .le (.c (.str [' '])) (.v 0) (.c (.str ['~']))) (.and (.op .ne (.v 0) (.c (.str ['"']))) (.op .ne (.bi .ord (.cons (.v 0) .nil)) (.c (.int 37))))))
    .nil)⟩
/-- is_text -/
def fd6 : FD := ⟨1, 2,
    (.cons (.ife (.or (.not (.isi (.v 0) .str)) (.op .gt (.bi .len (.cons (.v 0) .nil)) (.c (.int 400))))
    (.cons (.ret (.c (.bl false)))
    .nil)
    .nil)
    (.cons (.forr (.v 1) (.any (.v 0))
    (.cons (.ife (.not (.call 5 (.cons (.v 1) .nil) []))
    (.cons (.ret (.c (.bl false)))
    .nil)
    .nil)
    .nil))
    (.cons (.ret (.c (.bl true)))
    .nil)))⟩
/-- measured -/
def fd7 : FD := ⟨1, 5,
    (.cons (.ife (.call 4 (.cons (.v 0) .nil) [])
    (.cons (.ret (.tup (.cons (.c (.int 1)) (.cons (.c (.int 0)) .nil))))
    .nil)
    .nil)
    (.cons (.ife (.call 6 (.cons (.v 0) .nil) [])
    (.cons (.ret (.tup (.cons (.op .add (.c (.int 1)) (.bi .len (.cons (.v 0) .nil))) (.cons (.c (.int 0)) .nil))))
    .nil)
    .nil)
    (.cons (.ife (.or (.not (.isi (.v 0) .tuple)) (.op .gt (.bi .len (.cons (.v 0) .nil)) (.c (.int 60))))
    (.cons (.ret (.c .non))
    .nil)
    .nil)
    (.cons (.set (.v 1) (.c (.int 1)))
    (.cons (.set (.v 2) (.c (.int 0)))
    (.cons (.forr (.v 3) (.any (.v 0))
    (.cons (.set (.v 4) (.call 7 (.cons (.v 3) .nil) []))
    (.cons (.ife (.isN (.v 4))
    (.cons (.ret (.c .non))
    .nil)
    .nil)
    (.cons (.set (.v 1) (.op .add (.v 1) (.ix (.v 4) (.c (.int 0)))))
    (.cons (.set (.v 2) (.bi .max2 (.cons (.v 2) (.cons (.ix (.v 4) (.c (.int 1))) .nil))))
    .nil)))))
    (.cons (.ret (.tup (.cons (.v 1) (.cons (.op .add (.v 2) (.c (.int 1))) .nil))))
    .nil)))))))⟩
/-- is_worth -/
def fd8 : FD := ⟨1, 2,
    (.cons (.set (.v 1) (.call 7 (.cons (.v 0) .nil) []))
    (.cons (.ret (.and (.notN (.v 1)) (.and (.op .le (.ix (.v 1) (.c (.int 0))) (.c (.int 1000))) (.op .le (.ix (.v 1) (.c (.int 1))) (.c (.int 12))))))
    .nil))⟩
/-- show_worth -/
def fd9 : FD := ⟨1, 2,
    (.cons (.ife (.isi (.v 0) .int)
    (.cons (.ret (.bi .str (.cons (.v 0) .nil)))
    .nil)
    .nil)
    (.cons (.ife (.isi (.v 0) .str)
    (.cons (.ret (.op .add (.op .add (.c (.str ['"'])) (.v 0)) (.c (.str ['"']))))
    .nil)
    .nil)
    (.cons (.ret (.op .add (.op .add (.c (.str ['('])) (.bm .join (.c (.str [' '])) (.cons (.lc (.v 1) (.any (.v 0)) .nil (.call 9 (.cons (.v 1) .nil) []) [1]) .nil))) (.c (.str [')']))))
    .nil)))⟩
/-- number_of -/
def fd10 : FD := ⟨1, 3,
    (.cons (.set (.v 1) (.v 0))
    (.cons (.ife (.bm .startswith (.v 0) (.cons (.c (.str ['-'])) .nil))
    (.cons (.set (.v 1) (.sl (.v 0) (.so (.c (.int 1))) .no))
    .nil)
    .nil)
    (.cons (.ife (.not (.chain .le .le (.c (.int 1)) (.bi .len (.cons (.v 1) .nil)) (.c (.int 60))))
    (.cons (.ret (.c .non))
    .nil)
    .nil)
    (.cons (.forr (.v 2) (.any (.v 1))
    (.cons (.ife (.op .nmem (.v 2) (.c (.str ['0', '1', '2', '3', '4', '5', '6', '7', '8', '9'])))
    (.cons (.ret (.c .non))
    .nil)
    .nil)
    .nil))
    (.cons (.ife (.and (.op .eq (.ix (.v 1) (.c (.int 0))) (.c (.str ['0']))) (.op .ne (.v 0) (.c (.str ['0']))))
    (.cons (.ret (.c .non))
    .nil)
    .nil)
    (.cons (.ret (.bi .int (.cons (.v 0) .nil)))
    .nil))))))⟩
/-- thing_of -/
def fd11 : FD := ⟨1, 5,
    (.cons (.set (.tup (.cons (.v 1) (.cons (.v 2) .nil))) (.v 0))
    (.cons (.ife (.op .eq (.v 1) (.c (.str ['t', 'e', 'x', 't'])))
    (.cons (.ret (.v 2))
    .nil)
    .nil)
    (.cons (.ife (.op .eq (.v 1) (.c (.str ['l', 'i', 's', 't'])))
    (.cons (.ret (.bi .tuple (.cons (.lc (.v 4) (.any (.v 2)) .nil (.call 11 (.cons (.v 4) .nil) []) [4]) .nil)))
    .nil)
    .nil)
    (.cons (.set (.v 3) (.call 10 (.cons (.v 2) .nil) []))
    (.cons (.ife (.isN (.v 3))
    (.cons .nev
    .nil)
    .nil)
    (.cons (.ret (.v 3))
    .nil))))))⟩
/-- worth_of -/
def fd12 : FD := ⟨1, 2,
    (.cons (.set (.v 1) (.call 11 (.cons (.v 0) .nil) []))
    (.cons (.ife (.not (.call 8 (.cons (.v 1) .nil) []))
    (.cons .nev
    .nil)
    .nil)
    (.cons (.ret (.v 1))
    .nil)))⟩
/-- read_worth -/
def fd13 : FD := ⟨1, 1,
    (.cons (.ret (.call 12 (.cons (.call 3 (.cons (.v 0) .nil) []) .nil) []))
    .nil)⟩
/-- _law_cell -/
def fd14 : FD := ⟨2, 2,
    (.cons (.ife (.op .lt (.v 1) (.bi .len (.cons (.v 0) .nil)))
    (.cons (.ret (.ix (.v 0) (.v 1)))
    .nil)
    .nil)
    (.cons (.ret (.op .add (.op .mul (.c (.int 7919)) (.v 1)) (.c (.int 11))))
    .nil))⟩
/-- _law_box -/
def fd15 : FD := ⟨2, 5,
    (.cons (.set (.v 2) (.call 14 (.cons (.v 0) (.cons (.v 1) .nil)) []))
    (.cons (.set (.v 3) (.op .mod (.op .mul (.op .add (.op .mod (.v 2) (.c (.int 2147483629))) (.c (.int 11))) (.c (.int 69621))) (.c (.int 2147483629))))
    (.cons (.set (.v 4) (.op .mod (.op .add (.op .mul (.v 3) (.op .add (.op .mod (.v 3) (.c (.int 104729))) (.c (.int 1)))) (.op .mul (.c (.int 7919)) (.v 1))) (.c (.int 2147483587))))
    (.cons (.ife (.op .eq (.op .mod (.call 14 (.cons (.v 0) (.cons (.c (.int 0)) .nil)) []) (.c (.int 2))) (.c (.int 0)))
    (.cons (.ret (.lst (.cons (.v 2) (.cons (.c (.int 0)) (.cons (.v 4) .nil)))))
    .nil)
    .nil)
    (.cons (.ret (.lst (.cons (.v 4) (.cons (.c (.int 1)) (.cons (.c (.int 0)) .nil)))))
    .nil)))))⟩
/-- _law_take -/
def fd16 : FD := ⟨2, 3,
    (.cons (.ife (.and (.op .eq (.ix (.v 0) (.c (.int 1))) (.c (.int 0))) (.op .mem (.ix (.v 0) (.c (.int 0))) (.tup (.cons (.c (.int 0)) (.cons (.neg (.c (.int 1))) .nil)))))
    (.cons (.setix (.v 0) (.c (.int 0)) (.ix (.v 0) (.c (.int 2))))
    (.cons (.setix (.v 0) (.c (.int 1)) (.c (.int 1)))
    .nil))
    .nil)
    (.cons (.ife (.op .eq (.ix (.v 0) (.c (.int 1))) (.c (.int 0)))
    (.cons (.set (.v 2) (.op .mod (.ix (.v 0) (.c (.int 0))) (.v 1)))
    (.cons (.setix (.v 0) (.c (.int 0)) (.op .fdiv (.ix (.v 0) (.c (.int 0))) (.v 1)))
    (.cons (.ret (.v 2))
    .nil)))
    .nil)
    (.cons (.setix (.v 0) (.c (.int 0)) (.op .mod (.op .add (.op .mul (.ix (.v 0) (.c (.int 0))) (.c (.int 69621))) (.c (.int 104729))) (.c (.int 2147483587))))
    (.cons (.set (.v 2) (.op .mod (.op .mul (.ix (.v 0) (.c (.int 0))) (.op .add (.op .mod (.ix (.v 0) (.c (.int 0))) (.c (.int 16807))) (.c (.int 1)))) (.c (.int 2147483579))))
    (.cons (.ife (.op .gt (.v 1) (.op .pow (.c (.int 10)) (.c (.int 9))))
    (.cons (.set (.v 2) (.op .add (.op .pow (.v 2) (.c (.int 7))) (.v 2)))
    .nil)
    .nil)
    (.cons (.ret (.op .mod (.v 2) (.v 1)))
    .nil))))))⟩
/-- _law_text -/
def fd17 : FD := ⟨2, 5,
    (.cons (.set (.v 2) (.c (.str [' ', '!', '#', '$', '&', '\'', '(', ')', '*', '+', ',', '-', '.', '/', '0', '1', '2', '3', '4', '5', '6', '7', '8', '9', ':', ';', '<', '=', '>', '?', '@', 'A', 'B', 'C', 'D', 'E', 'F', 'G', 'H', 'I', 'J', 'K', 'L', 'M', 'N', 'O', 'P', 'Q', 'R', 'S', 'T', 'U', 'V', 'W', 'X', 'Y', 'Z'])))
    (.cons (.set (.v 2) (.op .add (.v 2) (.c (.str ['[', '\\', ']', '^', '_', '`', 'a', 'b', 'c', 'd', 'e', 'f', 'g', 'h', 'i', 'j', 'k', 'l', 'm', 'n', 'o', 'p', 'q', 'r', 's', 't', 'u', 'v', 'w', 'x', 'y', 'z', '{', '|', '}', '~']))))
    (.cons (.set (.v 3) (.c (.str [])))
    (.cons (.forr (.v 4) (.range1 (.call 16 (.cons (.v 0) (.cons (.op .add (.v 1) (.c (.int 1))) .nil)) []))
    (.cons (.set (.v 3) (.op .add (.v 3) (.ix (.v 2) (.call 16 (.cons (.v 0) (.cons (.bi .len (.cons (.v 2) .nil)) .nil)) []))))
    .nil))
    (.cons (.ret (.v 3))
    .nil)))))⟩
/-- _law_number -/
def fd18 : FD := ⟨1, 2,
    (.cons (.set (.v 1) (.call 16 (.cons (.v 0) (.cons (.c (.int 4)) .nil)) []))
    (.cons (.ife (.op .eq (.v 1) (.c (.int 0)))
    (.cons (.ret (.op .add (.op .sub (.call 16 (.cons (.v 0) (.cons (.op .sub (.op .mul (.c (.int 2)) (.op .pow (.c (.int 10)) (.c (.int 60)))) (.c (.int 1))) .nil)) []) (.op .pow (.c (.int 10)) (.c (.int 60)))) (.c (.int 1))))
    .nil)
    .nil)
    (.cons (.ife (.op .eq (.v 1) (.c (.int 1)))
    (.cons (.ret (.ix (.lst (.cons (.op .sub (.op .pow (.c (.int 10)) (.c (.int 60))) (.c (.int 1))) (.cons (.op .sub (.c (.int 1)) (.op .pow (.c (.int 10)) (.c (.int 60)))) (.cons (.c (.int 0)) (.cons (.neg (.c (.int 1))) .nil))))) (.call 16 (.cons (.v 0) (.cons (.c (.int 4)) .nil)) [])))
    .nil)
    .nil)
    (.cons (.ret (.op .sub (.call 16 (.cons (.v 0) (.cons (.c (.int 12)) .nil)) []) (.c (.int 3))))
    .nil))))⟩
/-- _law_worth -/
def fd19 : FD := ⟨3, 9,
    (.cons (.set (.v 3) (.call 16 (.cons (.v 0) (.cons (.c (.int 3)) .nil)) []))
    (.cons (.ife (.or (.op .eq (.v 3) (.c (.int 0))) (.and (.op .eq (.v 3) (.c (.int 2))) (.op .lt (.v 2) (.c (.int 1)))))
    (.cons (.ret (.call 18 (.cons (.v 0) .nil) []))
    .nil)
    .nil)
    (.cons (.ife (.op .eq (.v 3) (.c (.int 1)))
    (.cons (.ret (.call 17 (.cons (.v 0) (.cons (.c (.int 15)) .nil)) []))
    .nil)
    .nil)
    (.cons (.set (.v 4) (.call 16 (.cons (.v 0) (.cons (.bi .min2 (.cons (.v 1) (.cons (.c (.int 61)) .nil))) .nil)) []))
    (.cons (.set (.v 5) (.op .sub (.v 1) (.c (.int 1))))
    (.cons (.set (.v 6) (.lst .nil))
    (.cons (.forr (.v 7) (.range1 (.v 4))
    (.cons (.set (.v 8) (.op .add (.c (.int 1)) (.call 16 (.cons (.v 0) (.cons (.op .sub (.v 5) (.op .sub (.op .sub (.v 4) (.c (.int 1))) (.v 7))) .nil)) [])))
    (.cons (.ex (.bm .append (.v 6) (.cons (.call 19 (.cons (.v 0) (.cons (.v 8) (.cons (.op .sub (.v 2) (.c (.int 1))) .nil))) []) .nil)))
    (.cons (.set (.v 5) (.op .sub (.v 5) (.v 8)))
    .nil))))
    (.cons (.ret (.bi .tuple (.cons (.v 6) .nil)))
    .nil))))))))⟩
/-- _law_alike -/
def fd20 : FD := ⟨2, 3,
    (.cons (.ife (.isi (.v 1) .tuple)
    (.cons (.ife (.or (.not (.isi (.v 0) .tuple)) (.op .ne (.bi .len (.cons (.v 0) .nil)) (.bi .len (.cons (.v 1) .nil))))
    (.cons (.ret (.c (.bl false)))
    .nil)
    .nil)
    (.cons (.ret (.bi .all (.cons (.lc (.v 2) (.range1 (.bi .len (.cons (.v 1) .nil))) .nil (.call 20 (.cons (.ix (.v 0) (.v 2)) (.cons (.ix (.v 1) (.v 2)) .nil)) []) [2]) .nil)))
    .nil))
    .nil)
    (.cons (.ife (.isi (.v 1) .str)
    (.cons (.ret (.and (.isi (.v 0) .str) (.op .eq (.v 0) (.v 1))))
    .nil)
    .nil)
    (.cons (.ret (.and (.isi (.v 0) .int) (.and (.not (.isi (.v 0) .bool)) (.op .eq (.v 0) (.v 1)))))
    .nil)))⟩
/-- _law_shown -/
def fd21 : FD := ⟨1, 2,
    (.cons (.ife (.isi (.v 0) .tuple)
    (.cons (.ret (.op .add (.op .add (.c (.str ['('])) (.bm .join (.c (.str [' '])) (.cons (.lc (.v 1) (.any (.v 0)) .nil (.call 21 (.cons (.v 1) .nil) []) [1]) .nil))) (.c (.str [')']))))
    .nil)
    .nil)
    (.cons (.ife (.isi (.v 0) .str)
    (.cons (.ret (.op .add (.op .add (.c (.str ['"'])) (.v 0)) (.c (.str ['"']))))
    .nil)
    .nil)
    (.cons (.ret (.bi .str (.cons (.v 0) .nil)))
    .nil)))⟩
/-- _law_tokens -/
def fd22 : FD := ⟨1, 3,
    (.cons (.ife (.not (.isi (.v 0) .tuple))
    (.cons (.ret (.lst (.cons (.call 21 (.cons (.v 0) .nil) []) .nil)))
    .nil)
    .nil)
    (.cons (.set (.v 1) (.lst (.cons (.c (.str ['('])) .nil)))
    (.cons (.forr (.v 2) (.any (.v 0))
    (.cons (.set (.v 1) (.op .add (.v 1) (.call 22 (.cons (.v 2) .nil) [])))
    .nil))
    (.cons (.ret (.op .add (.v 1) (.lst (.cons (.c (.str [')'])) .nil))))
    .nil))))⟩
/-- _law_loose -/
def fd23 : FD := ⟨2, 7,
    (.cons (.set (.v 2) (.c (.str [])))
    (.cons (.set (.v 3) (.c (.str ['('])))
    (.cons (.forr (.v 4) (.any (.call 22 (.cons (.v 0) .nil) []))
    (.cons (.set (.v 5) (.bm .join (.c (.str [])) (.cons (.lc (.v 6) (.range1 (.call 16 (.cons (.v 1) (.cons (.c (.int 4)) .nil)) [])) .nil (.ix (.c (.str [' ', '\n'])) (.call 16 (.cons (.v 1) (.cons (.c (.int 2)) .nil)) [])) [6]) .nil)))
    (.cons (.ife (.and (.op .eq (.v 5) (.c (.str []))) (.and (.op .mem (.ix (.v 3) (.neg (.c (.int 1)))) (.c (.str ['0', '1', '2', '3', '4', '5', '6', '7', '8', '9']))) (.op .mem (.ix (.v 4) (.c (.int 0))) (.c (.str ['-', '0', '1', '2', '3', '4', '5', '6', '7', '8', '9'])))))
    (.cons (.set (.v 5) (.c (.str [' '])))
    .nil)
    .nil)
    (.cons (.set (.v 2) (.op .add (.op .add (.v 2) (.v 5)) (.v 4)))
    (.cons (.set (.v 3) (.v 4))
    .nil)))))
    (.cons (.ret (.op .add (.v 2) (.ix (.lst (.cons (.c (.str [])) (.cons (.c (.str [' '])) (.cons (.c (.str ['\n'])) (.cons (.c (.str [' ', '\n', ' '])) .nil))))) (.call 16 (.cons (.v 1) (.cons (.c (.int 4)) .nil)) []))))
    .nil))))⟩
/-- law -/
def fd24 : FD := ⟨1, 6,
    (.cons (.set (.v 1) (.call 15 (.cons (.v 0) (.cons (.c (.int 1)) .nil)) []))
    (.cons (.set (.v 2) (.call 19 (.cons (.v 1) (.cons (.op .add (.c (.int 1)) (.call 16 (.cons (.v 1) (.cons (.c (.int 40)) .nil)) [])) (.cons (.c (.int 12)) .nil))) []))
    (.cons (.set (.v 3) (.call 9 (.cons (.v 2) .nil) []))
    (.cons (.ife (.or (.not (.isi (.v 3) .str)) (.or (.op .ne (.v 3) (.call 21 (.cons (.v 2) .nil) [])) (.not (.call 20 (.cons (.call 13 (.cons (.v 3) .nil) []) (.cons (.v 2) .nil)) []))))
    (.cons (.ret (.c (.bl false)))
    .nil)
    .nil)
    (.cons (.forr (.v 4) (.range2 (.c (.int 2)) (.op .add (.c (.int 2)) (.bi .len (.cons (.sl (.v 0) (.so (.c (.int 2))) (.so (.c (.int 8)))) .nil))))
    (.cons (.set (.v 5) (.call 13 (.cons (.call 23 (.cons (.v 2) (.cons (.call 15 (.cons (.v 0) (.cons (.v 4) .nil)) []) .nil)) []) .nil) []))
    (.cons (.ife (.or (.not (.call 20 (.cons (.v 5) (.cons (.v 2) .nil)) [])) (.op .ne (.call 9 (.cons (.v 5) .nil) []) (.v 3)))
    (.cons (.ret (.c (.bl false)))
    .nil)
    .nil)
    .nil)))
    (.cons (.ret (.c (.bl true)))
    .nil))))))⟩
def P : Prog := ⟨[fd0, fd1, fd2, fd3, fd4, fd5, fd6, fd7, fd8, fd9, fd10, fd11, fd12, fd13, fd14, fd15, fd16, fd17, fd18, fd19, fd20, fd21, fd22, fd23, fd24], [], []⟩
def T : Tab where
  fns := [(["word_end"], []),
    (["tokens"], []),
    (["trees"], []),
    (["tree"], []),
    (["is_number"], []),
    (["is_sign"], []),
    (["is_text"], []),
    (["measured"], []),
    (["is_worth"], []),
    (["show_worth"], []),
    (["number_of"], []),
    (["thing_of"], []),
    (["worth_of"], []),
    (["read_worth"], []),
    (["_law_cell"], []),
    (["_law_box"], []),
    (["_law_take"], []),
    (["_law_text"], []),
    (["_law_number"], []),
    (["_law_worth"], []),
    (["_law_alike"], []),
    (["_law_shown"], []),
    (["_law_tokens"], []),
    (["_law_loose"], []),
    (["law"], [])]
  cls := []
  con := [("BLANKS", (.str [' ', '\n'])), ("BRACKETS", (.str ['(', ')'])), ("QUOTE", (.str ['"'])), ("BEYOND", (.int 1000000000000000000000000000000000000000000000000000000000000)), ("LONGEST", (.int 400)), ("ITEMS", (.int 60)), ("LARGEST", (.int 1000)), ("DEEPEST", (.int 12)), ("MOST", (.int 60)), ("FIGURES", (.str ['0', '1', '2', '3', '4', '5', '6', '7', '8', '9']))]
  kds := []
  free := ["all", "bool", "int", "isinstance", "len", "max", "min", "ord", "range", "str", "tuple"]
  flds := []
  mths := []
def dr0 : Dr := ⟨("word_end", none), "word_end", "word_end", defArgs (top 7), defBody (top 7), defScope (top 7), ["text", "at"], ["text", "at"], []⟩
def dr1 : Dr := ⟨("tokens", none), "tokens", "tokens", defArgs (top 8), defBody (top 8), defScope (top 8), ["text", "found", "at", "sign", "behind"], ["text"], []⟩
def dr2 : Dr := ⟨("trees", none), "trees", "trees", defArgs (top 9), defBody (top 9), defScope (top 9), ["text", "open_lists", "sort", "thing", "inner"], ["text"], []⟩
def dr3 : Dr := ⟨("tree", none), "tree", "tree", defArgs (top 10), defBody (top 10), defScope (top 10), ["text", "found"], ["text"], []⟩
def dr4 : Dr := ⟨("is_number", none), "is_number", "is_number", defArgs (top 17), defBody (top 17), defScope (top 17), ["thing"], ["thing"], []⟩
def dr5 : Dr := ⟨("is_sign", none), "is_sign", "is_sign", defArgs (top 18), defBody (top 18), defScope (top 18), ["sign"], ["sign"], []⟩
def dr6 : Dr := ⟨("is_text", none), "is_text", "is_text", defArgs (top 19), defBody (top 19), defScope (top 19), ["thing", "sign"], ["thing"], []⟩
def dr7 : Dr := ⟨("measured", none), "measured", "measured", defArgs (top 20), defBody (top 20), defScope (top 20), ["thing", "most", "deep", "item", "found"], ["thing"], []⟩
def dr8 : Dr := ⟨("is_worth", none), "is_worth", "is_worth", defArgs (top 21), defBody (top 21), defScope (top 21), ["thing", "found"], ["thing"], []⟩
def dr9 : Dr := ⟨("show_worth", none), "show_worth", "show_worth", defArgs (top 25), defBody (top 25), defScope (top 25), ["worth", "item"], ["worth"], []⟩
def dr10 : Dr := ⟨("number_of", none), "number_of", "number_of", defArgs (top 26), defBody (top 26), defScope (top 26), ["word", "figures", "sign"], ["word"], []⟩
def dr11 : Dr := ⟨("thing_of", none), "thing_of", "thing_of", defArgs (top 27), defBody (top 27), defScope (top 27), ["one", "sort", "thing", "found", "inner"], ["one"], []⟩
def dr12 : Dr := ⟨("worth_of", none), "worth_of", "worth_of", defArgs (top 28), defBody (top 28), defScope (top 28), ["one", "found"], ["one"], []⟩
def dr13 : Dr := ⟨("read_worth", none), "read_worth", "read_worth", defArgs (top 29), defBody (top 29), defScope (top 29), ["text"], ["text"], []⟩
def dr14 : Dr := ⟨("_law_cell", none), "_law_cell", "_law_cell", defArgs (top 31), defBody (top 31), defScope (top 31), ["_law_script", "_law_k"], ["_law_script", "_law_k"], []⟩
def dr15 : Dr := ⟨("_law_box", none), "_law_box", "_law_box", defArgs (top 32), defBody (top 32), defScope (top 32), ["_law_script", "_law_k", "_law_cell_here", "_law_number_here", "_law_mixed"], ["_law_script", "_law_k"], []⟩
def dr16 : Dr := ⟨("_law_take", none), "_law_take", "_law_take", defArgs (top 33), defBody (top 33), defScope (top 33), ["_law_box_here", "_law_wide", "_law_found"], ["_law_box_here", "_law_wide"], []⟩
def dr17 : Dr := ⟨("_law_text", none), "_law_text", "_law_text", defArgs (top 34), defBody (top 34), defScope (top 34), ["_law_box_here", "_law_most", "_law_signs", "_law_found", "_law_k"], ["_law_box_here", "_law_most"], []⟩
def dr18 : Dr := ⟨("_law_number", none), "_law_number", "_law_number", defArgs (top 35), defBody (top 35), defScope (top 35), ["_law_box_here", "_law_kind"], ["_law_box_here"], []⟩
def dr19 : Dr := ⟨("_law_worth", none), "_law_worth", "_law_worth", defArgs (top 36), defBody (top 36), defScope (top 36), ["_law_box_here", "_law_room", "_law_deep", "_law_kind", "_law_wide", "_law_left", "_law_found", "_law_k", "_law_share"], ["_law_box_here", "_law_room", "_law_deep"], []⟩
def dr20 : Dr := ⟨("_law_alike", none), "_law_alike", "_law_alike", defArgs (top 37), defBody (top 37), defScope (top 37), ["_law_found", "_law_due", "_law_k"], ["_law_found", "_law_due"], []⟩
def dr21 : Dr := ⟨("_law_shown", none), "_law_shown", "_law_shown", defArgs (top 38), defBody (top 38), defScope (top 38), ["_law_worth_here", "_law_item"], ["_law_worth_here"], []⟩
def dr22 : Dr := ⟨("_law_tokens", none), "_law_tokens", "_law_tokens", defArgs (top 39), defBody (top 39), defScope (top 39), ["_law_worth_here", "_law_found", "_law_item"], ["_law_worth_here"], []⟩
def dr23 : Dr := ⟨("_law_loose", none), "_law_loose", "_law_loose", defArgs (top 40), defBody (top 40), defScope (top 40), ["_law_worth_here", "_law_box_here", "_law_text_here", "_law_last", "_law_token", "_law_gap", "_law_k"], ["_law_worth_here", "_law_box_here"], []⟩
def dr24 : Dr := ⟨("law", none), "law", "law", defArgs (top 41), defBody (top 41), defScope (top 41), ["_law_script", "_law_box_here", "_law_worth_here", "_law_text_here", "_law_k", "_law_found"], ["_law_script"], []⟩
theorem bd0 : BindOk dr0 := fun _ _ _ _ _ _ us hl => match us, hl with | [_, _], _ => rfl
theorem bd1 : BindOk dr1 := fun _ _ _ _ _ _ us hl => match us, hl with | [_], _ => rfl
theorem bd2 : BindOk dr2 := fun _ _ _ _ _ _ us hl => match us, hl with | [_], _ => rfl
theorem bd3 : BindOk dr3 := fun _ _ _ _ _ _ us hl => match us, hl with | [_], _ => rfl
theorem bd4 : BindOk dr4 := fun _ _ _ _ _ _ us hl => match us, hl with | [_], _ => rfl
theorem bd5 : BindOk dr5 := fun _ _ _ _ _ _ us hl => match us, hl with | [_], _ => rfl
theorem bd6 : BindOk dr6 := fun _ _ _ _ _ _ us hl => match us, hl with | [_], _ => rfl
theorem bd7 : BindOk dr7 := fun _ _ _ _ _ _ us hl => match us, hl with | [_], _ => rfl
theorem bd8 : BindOk dr8 := fun _ _ _ _ _ _ us hl => match us, hl with | [_], _ => rfl
theorem bd9 : BindOk dr9 := fun _ _ _ _ _ _ us hl => match us, hl with | [_], _ => rfl
theorem bd10 : BindOk dr10 := fun _ _ _ _ _ _ us hl => match us, hl with | [_], _ => rfl
theorem bd11 : BindOk dr11 := fun _ _ _ _ _ _ us hl => match us, hl with | [_], _ => rfl
theorem bd12 : BindOk dr12 := fun _ _ _ _ _ _ us hl => match us, hl with | [_], _ => rfl
theorem bd13 : BindOk dr13 := fun _ _ _ _ _ _ us hl => match us, hl with | [_], _ => rfl
theorem bd14 : BindOk dr14 := fun _ _ _ _ _ _ us hl => match us, hl with | [_, _], _ => rfl
theorem bd15 : BindOk dr15 := fun _ _ _ _ _ _ us hl => match us, hl with | [_, _], _ => rfl
theorem bd16 : BindOk dr16 := fun _ _ _ _ _ _ us hl => match us, hl with | [_, _], _ => rfl
theorem bd17 : BindOk dr17 := fun _ _ _ _ _ _ us hl => match us, hl with | [_, _], _ => rfl
theorem bd18 : BindOk dr18 := fun _ _ _ _ _ _ us hl => match us, hl with | [_], _ => rfl
theorem bd19 : BindOk dr19 := fun _ _ _ _ _ _ us hl => match us, hl with | [_, _, _], _ => rfl
theorem bd20 : BindOk dr20 := fun _ _ _ _ _ _ us hl => match us, hl with | [_, _], _ => rfl
theorem bd21 : BindOk dr21 := fun _ _ _ _ _ _ us hl => match us, hl with | [_], _ => rfl
theorem bd22 : BindOk dr22 := fun _ _ _ _ _ _ us hl => match us, hl with | [_], _ => rfl
theorem bd23 : BindOk dr23 := fun _ _ _ _ _ _ us hl => match us, hl with | [_, _], _ => rfl
theorem bd24 : BindOk dr24 := fun _ _ _ _ _ _ us hl => match us, hl with | [_], _ => rfl
def drs : List Dr := [dr0, dr1, dr2, dr3, dr4, dr5, dr6, dr7, dr8, dr9, dr10, dr11, dr12, dr13, dr14, dr15, dr16, dr17, dr18, dr19, dr20, dr21, dr22, dr23, dr24]
def L : LawTab := ⟨drs, T, P⟩
theorem stat : L.stat = true := by kernel_rfl
theorem bds : AllB drs := ⟨bd0, bd1, bd2, bd3, bd4, bd5, bd6, bd7, bd8, bd9, bd10, bd11, bd12, bd13, bd14, bd15, bd16, bd17, bd18, bd19, bd20, bd21, bd22, bd23, bd24, trivial⟩
abbrev R : PySem.W.OpenRow := PySem.W.OpenLaw.row PySem.Challenge.rw_leastforge_k04_worths_written_and_read
abbrev hk : PySem.W.Hook := hookM 4 L
def ob (s : PySem.W.SharedT) : He.AlT := obsMG 4 L (HandSHeadRun.getT s)
theorem ob_eq (s : PySem.W.SharedT) : ob s = hk.obs s.abs := obsMG_eq (HandSHeadRun.getT_eq s)
def names : List PySem.Str := (["ForgeError", "NoText", "QUOTE", "BLANKS", "BRACKETS", "word_end", "tokens", "trees", "tree", "BEYOND", "LONGEST", "ITEMS", "LARGEST", "DEEPEST", "is_number", "is_sign", "is_text", "measured", "is_worth", "FIGURES", "MOST", "show_worth", "number_of", "thing_of", "worth_of", "read_worth", "_law_cell", "_law_box", "_law_take", "_law_text"] : List PySem.Str) ++ (["_law_number", "_law_worth", "_law_alike", "_law_shown", "_law_tokens", "_law_loose"] : List PySem.Str)
theorem run (w : World) : HandSHeadRun.RunEq R (PySem.W.view R.prog [41]) hk ob 20000 names w := by
  intro os
  kernel_rfl
def lawId : Nat := 24
end K04

set_option Elab.async false
set_option linter.all false
set_option maxRecDepth 100000
set_option maxHeartbeats 4000000
namespace K04
open MP
theorem nd_of {c : Char} (h : isDig c = true ∨ c = '-') : ¬ Dl c := by
  intro hd
  rcases h with h | rfl
  · rw [dig_iff] at h
    rcases hd with hd | hd | hd
    · simp only [List.mem_cons, List.not_mem_nil, or_false] at hd
      rcases hd with rfl | rfl <;> exact absurd h (by decide)
    · simp only [List.mem_cons, List.not_mem_nil, or_false] at hd
      rcases hd with rfl | rfl <;> exact absurd h (by decide)
    · subst hd; exact absurd h (by decide)
  · rcases hd with hd | hd | hd
    · exact absurd hd (by decide)
    · exact absurd hd (by decide)
    · exact absurd hd (by decide)
theorem show_mem {z : Int} {c : Char} (h : c ∈ showI z) : isDig c = true ∨ c = '-' := by
  rcases showI_cases z with ⟨_, e⟩ | ⟨_, e⟩
  · rw [e] at h; exact .inl (digF_dig h)
  · rw [e] at h
    rcases List.mem_cons.mp h with h | h
    · exact .inr h
    · exact .inl (digF_dig h)
theorem show_ne (z : Int) : showI z ≠ [] := by
  rcases showI_cases z with ⟨_, e⟩ | ⟨_, e⟩
  · rw [e]; exact digF_ne _
  · rw [e]; simp
theorem show_last (z : Int) : ∃ l c, showI z = l ++ [c] ∧ isDig c = true := by
  have key : ∀ n, ∃ l c, digF n = l ++ [c] ∧ isDig c = true := by
    intro n
    refine ⟨(digF n).dropLast, (digF n).getLast (digF_ne n), (List.dropLast_concat_getLast (digF_ne n)).symm, digF_dig (List.getLast_mem _)⟩
  rcases showI_cases z with ⟨_, e⟩ | ⟨_, e⟩
  · rw [e]; exact key _
  · obtain ⟨l, c, e2, h⟩ := key (-z).toNat
    exact ⟨'-' :: l, c, by rw [e, e2]; rfl, h⟩
theorem toks_wrd {z : Int} {r : List Char} {ts : List Tk} (h : Toks r ts) (hr : ∀ c r', r = c :: r' → Dl c) : Toks (showI z ++ r) (.wrd (showI z) :: ts) := by
  have hm := fun c (hc : c ∈ showI z) => nd_of (show_mem hc)
  have hne := show_ne z
  cases e : showI z with
  | nil => exact absurd e hne
  | cons c w =>
    rw [e] at hm
    exact .wrd hm hr h
theorem raw_quote {x : List Char} (h : rawD (.str x) = true) : '"' ∉ x := by
  rw [rawD, Bool.and_eq_true] at h
  intro hm
  exact absurd (List.all_eq_true.mp h.1 _ hm) (by decide)
mutual
theorem toks_W : ∀ (d : D), rawD d = true → ∀ (r : List Char) (ts : List Tk), Toks r ts → (∀ c r', r = c :: r' → Dl c) → Toks (shW d ++ r) (tkW d ++ ts)
  | .int z, _, r, ts, h, hr => by rw [shW, tkW]; exact toks_wrd h hr
  | .str x, hx, r, ts, h, hr => by
    rw [shW, tkW]
    have := Toks.txt (raw_quote hx) h
    simpa using this
  | .tup xs, hx, r, ts, h, hr => by
    rw [rawD, Bool.and_eq_true] at hx
    rw [shW, tkW]
    have := Toks.lp (toks_Ws xs hx.2 (')' :: r) (.rp :: ts) (.rp h) (fun c r' e => by cases e; exact .inr (.inl (by decide))))
    simpa using this
  | .non, h, _, _, _, _ => by cases h
  | .bl _, h, _, _, _, _ => by cases h
  | .kls _, h, _, _, _, _ => by cases h
  | .ref _, h, _, _, _, _ => by cases h
theorem toks_Ws : ∀ (ds : List D), rawDs ds = true → ∀ (r : List Char) (ts : List Tk), Toks r ts → (∀ c r', r = c :: r' → Dl c) → Toks (joinF [' '] (shWs ds) ++ r) (tkWs ds ++ ts)
  | [], _, r, ts, h, hr => by rw [shWs, tkWs]; exact h
  | [x], hx, r, ts, h, hr => by
    rw [rawDs, Bool.and_eq_true] at hx
    rw [shWs, shWs, tkWs, tkWs, joinF, List.append_nil]
    exact toks_W x hx.1 r ts h hr
  | x :: y :: ds, hx, r, ts, h, hr => by
    rw [rawDs, Bool.and_eq_true] at hx
    have ih := toks_Ws (y :: ds) hx.2 r ts h hr
    have := toks_W x hx.1 (' ' :: (joinF [' '] (shWs (y :: ds)) ++ r)) (tkWs (y :: ds) ++ ts) (.blank (by decide) ih) (fun c r' e => by cases e; exact .inl (by decide))
    rw [shWs, shWs, joinF, tkWs]
    rw [shWs] at this
    simpa using this
end
theorem toks_show {w : D} (h : isW w = true) : Toks (shW w) (tkW w) := by
  have := toks_W w (isW_raw h) [] [] .nil (fun c r' e => by cases e)
  simpa using this
/-! ### loose texts -/
def txT : Tk → List Char
  | .wrd w => w
  | .txt x => '"' :: (x ++ ['"'])
  | .lp => ['(']
  | .rp => [')']
def isWd : Tk → Bool
  | .wrd _ => true
  | _ => false
def TkOk : Tk → Prop
  | .wrd w => ∃ z, w = showI z
  | .txt x => '"' ∉ x
  | _ => True
def lastW (b : Bool) : List (List Char × Tk) → Bool
  | [] => b
  | (_, t) :: r => lastW (isWd t) r
def goodP (b : Bool) : List (List Char × Tk) → Prop
  | [] => True
  | (g, t) :: r => (∀ c ∈ g, c ∈ [' ', '\n']) ∧ TkOk t ∧ (b = true → isWd t = true → g ≠ []) ∧ goodP (isWd t) r
def txP : List (List Char × Tk) → List Char
  | [] => []
  | (g, t) :: r => g ++ (txT t ++ txP r)
theorem goodP_app : ∀ (ps : List (List Char × Tk)) (b : Bool) (g : List Char) (t : Tk), goodP b ps → (∀ c ∈ g, c ∈ [' ', '\n']) → TkOk t → (lastW b ps = true → isWd t = true → g ≠ []) → goodP b (ps ++ [(g, t)])
  | [], b, g, t, _, h1, h2, h3 => ⟨h1, h2, h3, trivial⟩
  | (g', t') :: r, b, g, t, h, h1, h2, h3 => ⟨h.1, h.2.1, h.2.2.1, goodP_app r (isWd t') g t h.2.2.2 h1 h2 h3⟩
theorem lastW_app : ∀ (ps : List (List Char × Tk)) (b : Bool) (g : List Char) (t : Tk), lastW b (ps ++ [(g, t)]) = isWd t
  | [], _, _, _ => rfl
  | (_, t') :: r, b, g, t => lastW_app r (isWd t') g t
theorem txP_app : ∀ (ps : List (List Char × Tk)) (g : List Char) (t : Tk), txP (ps ++ [(g, t)]) = txP ps ++ g ++ txT t
  | [], g, t => by simp [txP]
  | (g', t') :: r, g, t => by rw [List.cons_append, txP, txP, txP_app r g t]; simp
theorem toks_blank : ∀ (g : List Char) {r : List Char} {ts : List Tk}, (∀ c ∈ g, c ∈ [' ', '\n']) → Toks r ts → Toks (g ++ r) ts
  | [], _, _, _, h => h
  | c :: g, _, _, hg, h => .blank (hg c List.mem_cons_self) (toks_blank g (fun d hd => hg d (List.mem_cons_of_mem _ hd)) h)
theorem toks_ps : ∀ (ps : List (List Char × Tk)) (b : Bool) (tail : List Char), goodP b ps → (∀ c ∈ tail, c ∈ [' ', '\n']) → Toks (txP ps ++ tail) (ps.map (·.2)) ∧ (b = true → ∀ c r', txP ps ++ tail = c :: r' → Dl c)
  | [], b, tail, _, ht => by
    refine ⟨?_, ?_⟩
    · have := toks_blank tail ht Toks.nil
      simpa [txP] using this
    · intro _ c r' e
      simp only [txP, List.nil_append] at e
      exact .inl (ht c (by rw [e]; exact List.mem_cons_self))
  | (g, t) :: ps, b, tail, ⟨hg, hok, hne, hgood⟩, ht => by
    obtain ⟨ih1, ih2⟩ := toks_ps ps (isWd t) tail hgood ht
    have e0 : txP ((g, t) :: ps) ++ tail = g ++ (txT t ++ (txP ps ++ tail)) := by rw [txP]; simp
    rw [e0, List.map_cons]
    refine ⟨toks_blank g hg ?_, ?_⟩
    · cases t with
      | wrd w =>
        obtain ⟨z, rfl⟩ := hok
        exact toks_wrd ih1 (ih2 rfl)
      | txt x =>
        have := Toks.txt hok ih1
        simpa [txT] using this
      | lp => exact .lp ih1
      | rp => exact .rp ih1
    · intro hb c r' e
      cases g with
      | cons d g =>
        cases e
        exact .inl (hg _ List.mem_cons_self)
      | nil =>
        cases t with
        | wrd w => exact absurd rfl (hne hb rfl)
        | txt x => cases e; exact .inr (.inr rfl)
        | lp => cases e; exact .inr (.inl (by decide))
        | rp => cases e; exact .inr (.inl (by decide))
mutual
theorem tkW_ok : ∀ d : D, rawD d = true → ∀ t ∈ tkW d, TkOk t
  | .int z, _, t, h => by rw [tkW, List.mem_singleton] at h; subst h; exact ⟨z, rfl⟩
  | .str x, hx, t, h => by rw [tkW, List.mem_singleton] at h; subst h; exact raw_quote hx
  | .tup xs, hx, t, h => by
    rw [rawD, Bool.and_eq_true] at hx
    rw [tkW] at h
    rcases List.mem_cons.mp h with rfl | h
    · trivial
    · rcases List.mem_append.mp h with h | h
      · exact tkWs_ok xs hx.2 t h
      · rw [List.mem_singleton] at h; subst h; trivial
  | .non, h, _, _ => by cases h
  | .bl _, h, _, _ => by cases h
  | .kls _, h, _, _ => by cases h
  | .ref _, h, _, _ => by cases h
theorem tkWs_ok : ∀ ds : List D, rawDs ds = true → ∀ t ∈ tkWs ds, TkOk t
  | [], _, t, h => by rw [tkWs] at h; cases h
  | x :: xs, hx, t, h => by
    rw [rawDs, Bool.and_eq_true] at hx
    rw [tkWs] at h
    rcases List.mem_append.mp h with h | h
    · exact tkW_ok x hx.1 t h
    · exact tkWs_ok xs hx.2 t h
end
mutual
theorem tkW_sum : ∀ d : D, rawD d = true → fitD d = true → ((tkW d).map fun t => (txT t).length + 4).sum ≤ 66 * sizD d ∧ (tkW d).length ≤ 2 * sizD d
  | .int z, _, h => by
    rw [fitD, decide_eq_true_eq] at h
    have := showI_len (i := z) (k := 59) (by split at h <;> omega)
    have e : sizD (.int z) = 1 := by simp [sizD]
    rw [tkW, e]
    simp only [List.map_cons, List.map_nil, List.sum_cons, List.sum_nil, txT, List.length_cons, List.length_nil]
    omega
  | .str x, _, h => by
    rw [tkW, sizD]
    simp only [List.map_cons, List.map_nil, List.sum_cons, List.sum_nil, txT, List.length_cons, List.length_nil, List.length_append]
    omega
  | .tup xs, hx, h => by
    rw [rawD, Bool.and_eq_true] at hx
    rw [fitD, Bool.and_eq_true] at h
    obtain ⟨h1, h2⟩ := tkWs_sum xs hx.2 h.2
    rw [tkW, sizD]
    have e1 : (txT .lp).length = 1 := rfl
    have e2 : (txT .rp).length = 1 := rfl
    simp only [List.map_cons, List.map_append, List.map_nil, List.sum_cons, List.sum_append, List.sum_nil, e1, e2, List.length_cons, List.length_append, List.length_nil]
    omega
  | .non, h, _ => by cases h
  | .bl _, h, _ => by cases h
  | .kls _, h, _ => by cases h
  | .ref _, h, _ => by cases h
theorem tkWs_sum : ∀ ds : List D, rawDs ds = true → fitDs ds = true → ((tkWs ds).map fun t => (txT t).length + 4).sum ≤ 66 * sizDs ds ∧ (tkWs ds).length ≤ 2 * sizDs ds
  | [], _, _ => by simp [tkWs, sizDs]
  | x :: xs, hx, h => by
    rw [rawDs, Bool.and_eq_true] at hx
    rw [fitDs, Bool.and_eq_true] at h
    obtain ⟨h1, h2⟩ := tkW_sum x hx.1 h.1
    obtain ⟨h3, h4⟩ := tkWs_sum xs hx.2 h.2
    rw [tkWs, sizDs]
    simp only [List.map_append, List.sum_append, List.length_append]
    omega
end
end K04

set_option Elab.async false
set_option linter.all false
set_option maxRecDepth 100000
set_option maxHeartbeats 4000000
namespace K04
open MP
theorem h14 : P.fns[14]? = some fdCell := rfl
theorem h15 : P.fns[15]? = some (fdBox 14) := rfl
theorem h16 : P.fns[16]? = some fdTake := rfl
theorem hw : WorthAt P 19 16 18 17 := ⟨rfl, rfl, rfl, rfl⟩
theorem hrd : ReadAt P 13 := ⟨12, 3, 2, 1, 0, 11, 10, 8, 7, 4, 6, 5, rfl, rfl, rfl, rfl, rfl, rfl, rfl, rfl, rfl, rfl, rfl, rfl, rfl⟩
theorem hsh : P.fns[9]? = some (fdShowWorth 9) := rfl
section
variable {n : Nat} {st : Sto} {Q : D × Sto → Prop}
theorem eqF_W {w : D} (h : isW w = true) : eqF st w w = some true := eqF_refl (VOk.src h).pur (VOk.src h).dep
theorem alike_spec : ∀ (n : Nat) (st : Sto) (Q : D × Sto → Prop) (w : D), isW w = true → depD w + 1 ≤ n → (∀ st', Grow st st' → Q (.bl true, st')) → (callF P n 20 [w, w] st).wp Q := by
  intro n
  induction n with
  | zero => intro st Q d hr hn q; omega
  | succ n ih =>
    intro st Q w hr hn q
    have hsz : SZ = 1000000 := rfl
    refine call_wp (fd := fd20) rfl rfl ?_
    simp only [fd20, start_cons, start0, repS, rep0]
    have hS := isW_saf st hr
    have hE := eqF_W (st := st) hr
    rcases isW_kind hr with ⟨z, rfl⟩ | ⟨x, rfl⟩ | ⟨xs, rfl⟩
    · refine skip_if ?_ ?_
      · simp only [seval, MP.sv0, MP.sv1, MP.sv2, MP.sv3, MP.sv4, MP.sv5, isi_tup hS, isTup]
      refine skip_if ?_ ?_
      · simp only [seval, MP.sv0, MP.sv1, MP.sv2, MP.sv3, MP.sv4, MP.sv5, isi_str hS, isStr]
      refine ret_one ?_
      simp only [seval, MP.sv0, MP.sv1, MP.sv2, MP.sv3, MP.sv4, MP.sv5, isi_int hS, isi_bool hS, isInt, isBool, beq_self_eq_true]
      exact q st Grow.refl
    · refine skip_if ?_ ?_
      · simp only [seval, MP.sv0, MP.sv1, MP.sv2, MP.sv3, MP.sv4, MP.sv5, isi_tup hS, isTup]
      refine take_if ?_ ?_
      · simp only [seval, MP.sv0, MP.sv1, MP.sv2, MP.sv3, MP.sv4, MP.sv5, isi_str hS, isStr]
      refine ret_one ?_
      simp only [seval, MP.sv0, MP.sv1, MP.sv2, MP.sv3, MP.sv4, MP.sv5, isi_str hS, isStr]
      exact q st Grow.refl
    · refine take_if ?_ ?_
      · simp only [seval, MP.sv0, MP.sv1, MP.sv2, MP.sv3, MP.sv4, MP.sv5, isi_tup hS, isTup]
      refine skip_if ?_ ?_
      · simp only [seval, MP.sv0, MP.sv1, MP.sv2, MP.sv3, MP.sv4, MP.sv5, isi_tup hS, isTup, beq_self_eq_true]
      refine ret_one ?_
      have hxl := isW_len hr
      simp only [seval, MP.sv0, MP.sv1, MP.sv2, MP.sv3, MP.sv4, MP.sv5]
      rw [depD] at hn
      refine ⟨by omega, by omega, ?_⟩
      refine lc_range (I := fun k acc st' => acc = (List.replicate k true).map D.bl ∧ Grow st st') (by omega) ?_ ?_ ⟨rfl, Grow.refl⟩
      · rintro k acc st2 hk ha ⟨rfl, g⟩
        obtain ⟨d, hd, e⟩ := at_some (xs := xs) (j := (0 + (k : Int))) (by omega) (by omega)
        simp only [seval, MP.sv0, MP.sv1, MP.sv2, MP.sv3, MP.sv4, MP.sv5, wipeF, e]
        have := depDs_mem hd
        refine ih st2 _ d (isW_mem hr hd) (by omega) fun st3 g3 => ?_
        simp only [seval, MP.sv0, MP.sv1, MP.sv2, MP.sv3, MP.sv4, MP.sv5]
        exact ⟨by rw [List.replicate_succ']; simp, g.trans g3⟩
      · rintro acc st2 ⟨rfl, g⟩
        simp only [seval, MP.sv0, MP.sv1, MP.sv2, MP.sv3, MP.sv4, MP.sv5, id]
        rw [all_ref sto_top]
        simp only [seval, MP.sv0, MP.sv1, MP.sv2, MP.sv3, MP.sv4, MP.sv5, all_true]
        exact q _ (g.trans Grow.push)
theorem shown_spec : ∀ (n : Nat) (st : Sto) (Q : D × Sto → Prop) (d : D), isW d = true → depD d + 1 ≤ n → (∀ st', Grow st st' → Q (.str (shW d), st')) → (callF P n 21 [d] st).wp Q := by
  intro n
  induction n with
  | zero => intro st Q d hr hn q; omega
  | succ n ih =>
    intro st Q d hr hn q
    have hsz : SZ = 1000000 := rfl
    refine call_wp (fd := fd21) rfl rfl ?_
    simp only [fd21, start_cons, start0, repS, rep0]
    have hS := isW_saf st hr
    rcases isW_kind hr with ⟨z, rfl⟩ | ⟨x, rfl⟩ | ⟨xs, rfl⟩
    · refine skip_if ?_ ?_
      · simp only [seval, MP.sv0, MP.sv1, MP.sv2, MP.sv3, MP.sv4, MP.sv5, isi_tup hS, isTup]
      refine skip_if ?_ ?_
      · simp only [seval, MP.sv0, MP.sv1, MP.sv2, MP.sv3, MP.sv4, MP.sv5, isi_str hS, isStr]
      refine ret_one ?_
      simp only [seval, MP.sv0, MP.sv1, MP.sv2, MP.sv3, MP.sv4, MP.sv5]
      exact ⟨str_num hr, q st Grow.refl⟩
    · have := isW_text hr
      refine skip_if ?_ ?_
      · simp only [seval, MP.sv0, MP.sv1, MP.sv2, MP.sv3, MP.sv4, MP.sv5, isi_tup hS, isTup]
      refine take_if ?_ ?_
      · simp only [seval, MP.sv0, MP.sv1, MP.sv2, MP.sv3, MP.sv4, MP.sv5, isi_str hS, isStr]
      refine ret_one ?_
      simp only [seval, MP.sv0, MP.sv1, MP.sv2, MP.sv3, MP.sv4, MP.sv5, List.length_append, List.length_cons, List.length_nil]
      refine ⟨by omega, by omega, ?_⟩
      exact q st Grow.refl
    · refine take_if ?_ ?_
      · simp only [seval, MP.sv0, MP.sv1, MP.sv2, MP.sv3, MP.sv4, MP.sv5, isi_tup hS, isTup]
      refine ret_one ?_
      have hxl := isW_len hr
      simp only [seval, MP.sv0, MP.sv1, MP.sv2, MP.sv3, MP.sv4, MP.sv5, kd_str]
      rw [depD] at hn
      refine lc_grow (fun d => .str (shW d)) _ _ _ Grow.refl ?_ (by simp only [List.length_nil]; omega) ?_
      · intro d hd st2 g
        simp only [seval, MP.sv0, MP.sv1, MP.sv2, MP.sv3, MP.sv4, MP.sv5, wipeF]
        have := depDs_mem hd
        refine ih st2 _ d (isW_mem hr hd) (by omega) fun st3 g3 => ?_
        simp only [seval, MP.sv0, MP.sv1, MP.sv2, MP.sv3, MP.sv4, MP.sv5]
        exact g3
      · intro st2 g
        simp only [List.nil_append, id]
        refine wp_mono (join_sh hr sto_top) ?_
        rintro p rfl
        have hl := isW_sh hr
        rw [shW] at hl
        simp only [List.length_cons, List.length_append, List.length_nil] at hl
        simp only [seval, MP.sv0, MP.sv1, MP.sv2, MP.sv3, MP.sv4, MP.sv5, List.length_append, List.length_cons, List.length_nil]
        refine ⟨by omega, by omega, ?_⟩
        have := q (st2 ++ [O.lst (xs.map fun d => D.str (shW d))]) (g.trans Grow.push)
        rw [shW] at this
        exact this
theorem tkW_len {w : D} (h : isW w = true) : (tkW w).length ≤ 2000 := by
  obtain ⟨h1, h2, h3, _⟩ := isW_fit h
  have := (tkW_sum w h1 h2).2
  omega
theorem tkWs_len {xs : List D} (h : isW (.tup xs) = true) : (tkWs xs).length ≤ 2000 := by
  have := tkW_len h
  rw [tkW, List.length_cons, List.length_append] at this
  omega
theorem lawTokens_spec : ∀ (n : Nat) (st : Sto) (Q : D × Sto → Prop) (w : D), isW w = true → depD w + 2 ≤ n → (∀ r st', Grow st st' → st'[r]? = some (.lst ((tkW w).map fun t => .str (txT t))) → Q (.ref r, st')) → (callF P n 22 [w] st).wp Q := by
  intro n
  induction n with
  | zero => intro st Q d hr hn q; omega
  | succ n ih =>
    intro st Q w hr hn q
    have hsz : SZ = 1000000 := rfl
    refine call_wp (fd := fd22) rfl rfl ?_
    simp only [fd22, start_cons, start0, repS, rep0]
    have hS := isW_saf st hr
    have leaf : isTup w = false → (tkW w).map (fun t => D.str (txT t)) = [.str (shW w)] → (evSs P (callF P n) (makeF P n) (.cons (.ret (.lst (.cons (.call 21 (.cons (.v 0) .nil) []) .nil))) .nil) [some w, none, none] st).wp (fun fr st => False) (fun d st => Q (d, st)) := by
      intro h1 h2
      refine ret_one ?_
      simp only [seval, MP.sv0, MP.sv1, MP.sv2, MP.sv3, MP.sv4, MP.sv5]
      refine shown_spec n st _ w hr (by omega) fun st1 g1 => ?_
      refine q _ _ (g1.trans Grow.push) ?_
      rw [h2]
      exact sto_top
    rcases isW_kind hr with ⟨z, rfl⟩ | ⟨x, rfl⟩ | ⟨xs, rfl⟩
    · refine take_if ?_ ?_
      · simp only [seval, MP.sv0, MP.sv1, MP.sv2, MP.sv3, MP.sv4, MP.sv5, isi_tup hS, isTup]
      exact cw_mono (leaf rfl rfl) (fun _ _ h => h.elim) fun _ _ h => h
    · refine take_if ?_ ?_
      · simp only [seval, MP.sv0, MP.sv1, MP.sv2, MP.sv3, MP.sv4, MP.sv5, isi_tup hS, isTup]
      exact cw_mono (leaf rfl rfl) (fun _ _ h => h.elim) fun _ _ h => h
    · refine skip_if ?_ ?_
      · simp only [seval, MP.sv0, MP.sv1, MP.sv2, MP.sv3, MP.sv4, MP.sv5, isi_tup hS, isTup]
      have htl := tkWs_len hr
      rw [depD] at hn
      refine stm_k fun K hK => ?_
      simp only [seval, MP.sv0, MP.sv1, MP.sv2, MP.sv3, MP.sv4, MP.sv5]
      refine hK _ _ ?_
      clear hK K
      refine stm_k fun K hK => ?_
      simp only [seval, MP.sv0, MP.sv1, MP.sv2, MP.sv3, MP.sv4, MP.sv5]
      refine for_wp (I := fun ds fr st' => ∃ (acc : List Tk) (r : Nat) (e : Option D), fr = [some (.tup xs), some (.ref r), e] ∧ (∀ d ∈ ds, d ∈ xs) ∧ acc ++ tkWs ds = .lp :: tkWs xs ∧ st'[r]? = some (.lst (acc.map fun t => .str (txT t))) ∧ Grow st st') (fun _ _ _ _ => rfl) ?_ ?_ _ _ _ ⟨[.lp], st.length, none, rfl, fun _ h => h, rfl, sto_top, Grow.push⟩
      · rintro d ds fr st1 ⟨acc, r, e, rfl, hds, hacc, hr1, g1⟩
        have hd := hds d List.mem_cons_self
        have := depDs_mem hd
        simp only [seval, MP.sv0, MP.sv1, MP.sv2, MP.sv3, MP.sv4, MP.sv5]
        refine ih st1 _ d (isW_mem hr hd) (by omega) fun r2 st2 g2 hr2 => ?_
        simp only [seval, MP.sv0, MP.sv1, MP.sv2, MP.sv3, MP.sv4, MP.sv5]
        rw [add_ref (g2.at hr1) hr2]
        rw [tkWs] at hacc
        have hlen : acc.length + ((tkW d).length + (tkWs ds).length) = 1 + (tkWs xs).length := by
          have := congrArg List.length hacc
          simp only [List.length_append, List.length_cons] at this
          omega
        refine ⟨by simp only [List.length_map]; omega, acc ++ tkW d, _, _, rfl, fun y hy => hds y (List.mem_cons_of_mem _ hy), by rw [List.append_assoc]; exact hacc, by rw [sto_top, List.map_append], (g1.trans g2).trans Grow.push⟩
      · rintro fr st1 ⟨acc, r, e, rfl, -, hacc, hr1, g1⟩
        rw [tkWs, List.append_nil] at hacc
        subst hacc
        simp only [id]
        refine hK _ _ ?_
        refine ret_one ?_
        simp only [seval, MP.sv0, MP.sv1, MP.sv2, MP.sv3, MP.sv4, MP.sv5]
        rw [add_ref (sto_old hr1) sto_top]
        refine ⟨by simp only [List.length_map, List.length_cons, List.length_nil]; omega, ?_⟩
        refine q _ _ ((g1.trans Grow.push).trans Grow.push) ?_
        rw [sto_top, tkW]
        simp [txT]
end
end K04

set_option Elab.async false
set_option linter.all false
set_option maxRecDepth 100000
set_option maxHeartbeats 4000000
namespace K04
open MP
def lastT (t : Tk) : List (List Char × Tk) → Tk
  | [] => t
  | (_, t) :: r => lastT t r
theorem lastW_T : ∀ (ps : List (List Char × Tk)) (t : Tk), lastW (isWd t) ps = isWd (lastT t ps)
  | [], _ => rfl
  | (_, t') :: r, t => lastW_T r t'
theorem lastT_app : ∀ (ps : List (List Char × Tk)) (t : Tk) (g : List Char) (t' : Tk), lastT t (ps ++ [(g, t')]) = t'
  | [], _, _, _ => rfl
  | (_, t2) :: r, t, g, t' => lastT_app r t2 g t'
theorem lastT_ok : ∀ (ps : List (List Char × Tk)) (t : Tk) (b : Bool), goodP b ps → TkOk t → TkOk (lastT t ps)
  | [], _, _, _, h => h
  | (_, t2) :: r, t, b, hg, _ => lastT_ok r t2 _ hg.2.2.2 hg.2.1
/-- the last and the first sign of a token -/
theorem tk_last {t : Tk} (h : TkOk t) : ∃ l c, txT t = l ++ [c] ∧ decide (c ∈ figs) = isWd t := by
  cases t with
  | wrd w =>
    obtain ⟨z, rfl⟩ := h
    obtain ⟨l, c, e, hc⟩ := show_last z
    exact ⟨l, c, e, decide_eq_true (dig_figs hc)⟩
  | txt x => exact ⟨'"' :: x, '"', rfl, rfl⟩
  | lp => exact ⟨[], '(', rfl, rfl⟩
  | rp => exact ⟨[], ')', rfl, rfl⟩
theorem tk_first {t : Tk} (h : TkOk t) : ∃ c l, txT t = c :: l ∧ decide (c ∈ ['-', '0', '1', '2', '3', '4', '5', '6', '7', '8', '9']) = isWd t := by
  cases t with
  | wrd w =>
    obtain ⟨z, rfl⟩ := h
    cases e : showI z with
    | nil => exact absurd e (show_ne z)
    | cons c l =>
      refine ⟨c, l, rfl, decide_eq_true ?_⟩
      rcases show_mem (z := z) (c := c) (by rw [e]; exact List.mem_cons_self) with h | h
      · exact List.mem_cons_of_mem _ (dig_figs h)
      · rw [h]; exact List.mem_cons_self
  | txt x => exact ⟨'"', x ++ ['"'], rfl, rfl⟩
  | lp => exact ⟨'(', [], rfl, rfl⟩
  | rp => exact ⟨')', [], rfl, rfl⟩
theorem ix_last {st : Sto} {l : List Char} {c : Char} (h : (l ++ [c]).length ≤ SZ) : ixF st (.str (l ++ [c])) (.int (-1)) = some (.str [c]) := by
  simp only [ixF, if_pos h, at_neg, Option.map_some]
abbrev blk : List Char := [' ', '\n']
theorem flat1b : ∀ (ys : List (List Char)), (∀ y ∈ ys, ∃ c ∈ blk, y = [c]) → ys.flatten.length = ys.length ∧ (∀ c ∈ ys.flatten, c ∈ blk) ∧ (ys.map (·.length)).sum = ys.length
  | [], _ => ⟨rfl, by simp, rfl⟩
  | y :: ys, h => by
    obtain ⟨c, hc, rfl⟩ := h y List.mem_cons_self
    obtain ⟨h1, h2, h3⟩ := flat1b ys fun z hz => h z (List.mem_cons_of_mem _ hz)
    refine ⟨by simp only [List.flatten_cons, List.length_append, List.length_cons, List.length_nil, h1]; omega, ?_, by simp only [List.map_cons, List.sum_cons, List.length_cons, List.length_nil, h3]; omega⟩
    intro d hd
    rw [List.flatten_cons] at hd
    rcases List.mem_append.mp hd with hd | hd
    · rw [List.mem_singleton.mp hd]; exact hc
    · exact h2 d hd
section
variable {n : Nat} {st : Sto} {Q : D × Sto → Prop}
theorem loose_spec {w : D} (hW : isW w = true) {b : Nat} (hb : Box st b) (q : ∀ (s : List Char) st', Toks s (tkW w) → s.length ≤ 100000 → Box st' b → Keep b st st' → Q (.str s, st')) : (callF P (n + 20) 23 [w, .ref b] st).wp Q := by
  have hsz : SZ = 1000000 := rfl
  obtain ⟨f1, f2, f3, f4⟩ := isW_fit hW
  have hsum := (tkW_sum w f1 f2).1
  have hok := tkW_ok w f1
  refine call_wp (fd := fd23) rfl rfl ?_
  simp only [fd23, start_cons, start0, repS, rep0]
  refine stm_k fun K hK => ?_
  simp only [seval, MP.sv0, MP.sv1, MP.sv2, MP.sv3, MP.sv4, MP.sv5]
  refine hK _ _ ?_
  clear hK K
  refine stm_k fun K hK => ?_
  simp only [seval, MP.sv0, MP.sv1, MP.sv2, MP.sv3, MP.sv4, MP.sv5]
  refine hK _ _ ?_
  clear hK K
  refine stm_k fun K hK => ?_
  simp only [seval, MP.sv0, MP.sv1, MP.sv2, MP.sv3, MP.sv4, MP.sv5]
  refine lawTokens_spec (n + 19) st _ w hW (by omega) fun f st1 g1 hf => ?_
  simp only [seval, MP.sv0, MP.sv1, MP.sv2, MP.sv3, MP.sv4, MP.sv5]
  rw [wk_ref hf]
  simp only [seval, MP.sv0, MP.sv1, MP.sv2, MP.sv3, MP.sv4, MP.sv5]
  have hb1 := g1.box hb
  have hbf : b ≠ f := by
    intro e
    obtain ⟨x, m, y, hbx, _⟩ := hb1
    rw [e] at hbx
    rw [hf] at hbx
    have := congrArg (fun o => match o with | some (O.lst l) => l | _ => []) hbx
    dsimp only at this
    cases hq : tkW w with
    | nil => rw [hq] at this; cases this
    | cons t ts => rw [hq, List.map_cons] at this; cases this
  refine for_wp (I := fun ds fr st' => ∃ (ps : List (List Char × Tk)) (rest : List Tk) (e4 e5 e6 : Option D), fr = [some w, some (.ref b), some (.str (txP ps)), some (.str (txT (lastT .lp ps))), e4, e5, e6] ∧ ds = (rest.map fun t => D.str (txT t)) ∧ ps.map (·.2) ++ rest = tkW w ∧ goodP false ps ∧ (txP ps).length + (rest.map fun t => (txT t).length + 4).sum ≤ 66000 ∧ st'[f]? = some (.lst ((tkW w).map fun t => .str (txT t))) ∧ Box st' b ∧ Keep b st st') ?_ ?_ ?_ _ _ _ ⟨[], tkW w, none, none, none, rfl, rfl, rfl, trivial, by simp only [txP, List.length_nil]; omega, hf, hb1, g1.keep b⟩
  · rintro ds fr st' ⟨ps, rest, e4, e5, e6, -, -, -, -, -, hh, -⟩
    exact stands_at hh
  · rintro d ds fr st2 ⟨ps, rest, e4, e5, e6, rfl, hds, hps, hgood, hlen, hf2, hb2, kp2⟩
    cases rest with
    | nil => cases hds
    | cons t rest =>
      rw [List.map_cons] at hds
      injection hds with hd1 hd2
      subst hd1 hd2
      have htok : TkOk t := hok t (by rw [← hps]; simp)
      rw [List.map_cons, List.sum_cons] at hlen
      simp only [tg_v, List.set_cons_succ, List.set_cons_zero]
      refine stm_k fun K' hK' => ?_
      simp only [seval, MP.sv0, MP.sv1, MP.sv2, MP.sv3, MP.sv4, MP.sv5, kd_str]
      refine take_spec h16 hb2 (by decide) (by decide) fun m st3 hm0 hm1 hb3 kp3 hl3 => ?_
      simp only [seval, MP.sv0, MP.sv1, MP.sv2, MP.sv3, MP.sv4, MP.sv5]
      refine ⟨by omega, by omega, ?_⟩
      have hf3 := kp3.at hf2 (Ne.symm hbf)
      refine lc_range (I := fun j acc st4 => ∃ ys : List (List Char), acc = ys.map .str ∧ ys.length = j ∧ (∀ y ∈ ys, ∃ c ∈ blk, y = [c]) ∧ Box st4 b ∧ Keep b st3 st4) (by omega) ?_ ?_ ⟨[], rfl, rfl, by simp, hb3, Keep.refl⟩
      · rintro j acc st4 hj ha ⟨ys, rfl, hl, hy, hb4, kp4⟩
        simp only [seval, MP.sv0, MP.sv1, MP.sv2, MP.sv3, MP.sv4, MP.sv5, wipeF]
        refine take_spec h16 hb4 (by decide) (by decide) fun v st5 hv0 hv1 hb5 kp5 hl5 => ?_
        have hvl : v.toNat < blk.length := by show v.toNat < 2; omega
        have e := ix_str (st := st5) (a := blk) (by decide) hv0 (List.getElem?_eq_getElem hvl)
        simp only [e, seval, MP.sv0, MP.sv1, MP.sv2, MP.sv3, MP.sv4, MP.sv5]
        refine ⟨ys ++ [[blk[v.toNat]]], by rw [List.map_append]; rfl, by simp [hl], ?_, hb5, kp4.trans kp5⟩
        intro y hy2
        rcases List.mem_append.mp hy2 with h | h
        · exact hy y h
        · exact ⟨_, List.getElem_mem hvl, List.mem_singleton.mp h⟩
      rintro acc st4 ⟨ys, rfl, hl, hy, hb4, kp4⟩
      obtain ⟨y1, y2, y3⟩ := flat1b ys hy
      have hf4 := kp4.at hf3 (Ne.symm hbf)
      simp only [id, join_ref sto_top, join0, y3, List.length_nil]
      refine ⟨by omega, hK' _ _ ?_⟩
      clear hK' K'
      have hb5 : Box (st4 ++ [O.lst (ys.map .str)]) b := Grow.push.box hb4
      have hf5 := sto_old (o' := O.lst (ys.map .str)) hf4
      have kp5 : Keep b st (st4 ++ [O.lst (ys.map .str)]) := ((kp2.trans kp3).trans kp4).trans Keep.push
      generalize st4 ++ [O.lst (ys.map .str)] = st5 at hb5 hf5 kp5
      have hgl : ys.flatten.length ≤ 3 := by omega
      generalize ys.flatten = g at y2 hgl
      -- the gap
      obtain ⟨l1, c1, el, hc1⟩ := tk_last (lastT_ok ps .lp false hgood trivial)
      obtain ⟨c2, l2, ef, hc2⟩ := tk_first htok
      have hll : (l1 ++ [c1]).length ≤ SZ := by
        rw [← el]
        have : ∀ (ps : List (List Char × Tk)) (t : Tk), (txT (lastT t ps)).length ≤ (txP ps).length + (txT t).length := by
          intro ps
          induction ps with
          | nil => intro t; simp [lastT]
          | cons p ps ih =>
            intro t
            obtain ⟨g, t'⟩ := p
            rw [lastT, txP, List.length_append, List.length_append]
            have := ih t'
            omega
        have := this ps .lp
        have e1 : (txT .lp).length = 1 := rfl
        omega
      have hfl : (c2 :: l2).length ≤ SZ := by rw [← ef]; omega
      refine seq_wp (M := fun fr st' => st' = st5 ∧ ∃ g' : List Char, fr = [some w, some (.ref b), some (.str (txP ps)), some (.str (txT (lastT .lp ps))), some (.str (txT t)), some (.str g'), e6] ∧ (∀ c ∈ g', c ∈ blk) ∧ g'.length ≤ 3 ∧ (lastW false ps = true → isWd t = true → g' ≠ [])) ?_ ?_
      · refine s_ife_w.mpr ?_
        have hlw : lastW false ps = isWd (lastT .lp ps) := lastW_T ps .lp
        have hb1 : decide (c1 ∈ ['0', '1', '2', '3', '4', '5', '6', '7', '8', '9']) = lastW false ps := by rw [hlw]; exact hc1
        simp only [seval, MP.sv0, MP.sv1, MP.sv2, MP.sv3, MP.sv4, MP.sv5, el, ef, ix_last hll, ix_str hfl (by decide : (0 : Int) ≤ 0) (show (c2 :: l2)[(0 : Int).toNat]? = some c2 from rfl), hb1, hc2]
        by_cases hg : g = []
        · have hg' : (g = []) = True := eq_true hg
          simp only [hg', seval, MP.sv0, MP.sv1, MP.sv2, MP.sv3, MP.sv4, MP.sv5, if_true]
          cases lastW false ps with
          | false =>
            simp only [seval, MP.sv0, MP.sv1, MP.sv2, MP.sv3, MP.sv4, MP.sv5, Bool.false_eq_true, if_false]
            exact ⟨g, rfl, y2, hgl, fun h => by cases h⟩
          | true =>
            simp only [seval, MP.sv0, MP.sv1, MP.sv2, MP.sv3, MP.sv4, MP.sv5, if_true]
            cases isWd t with
            | false =>
              simp only [seval, MP.sv0, MP.sv1, MP.sv2, MP.sv3, MP.sv4, MP.sv5, Bool.false_eq_true, if_false]
              exact ⟨g, rfl, y2, hgl, fun _ h => by cases h⟩
            | true =>
              simp only [seval, MP.sv0, MP.sv1, MP.sv2, MP.sv3, MP.sv4, MP.sv5, if_true]
              exact ⟨[' '], rfl, by simp, by simp, fun _ _ => by simp⟩
        · have hg' : (g = []) = False := eq_false hg
          have hg2 : (g == []) = false := beq_eq_false_iff_ne.mpr hg
          simp only [hg', hg2, seval, MP.sv0, MP.sv1, MP.sv2, MP.sv3, MP.sv4, MP.sv5, if_false, Bool.false_eq_true]
          exact ⟨g, rfl, y2, hgl, fun _ _ => hg⟩
      rintro fr st' ⟨rfl, g', rfl, hg1, hg2, hg3⟩
      refine stm_k fun K' hK' => ?_
      simp only [seval, MP.sv0, MP.sv1, MP.sv2, MP.sv3, MP.sv4, MP.sv5, List.length_append]
      refine ⟨by omega, by omega, hK' _ _ ?_⟩
      clear hK' K'
      refine stm_k fun K' hK' => ?_
      simp only [seval, MP.sv0, MP.sv1, MP.sv2, MP.sv3, MP.sv4, MP.sv5]
      refine hK' _ _ ?_
      rw [s_nil_w]
      refine ⟨ps ++ [(g', t)], rest, some (.str (txT t)), some (.str g'), e6, ?_, rfl, by rw [List.map_append, List.append_assoc]; exact hps, goodP_app ps false g' t hgood hg1 htok hg3, ?_, hf5, hb5, kp5⟩
      · rw [txP_app, lastT_app]
      · rw [txP_app]
        simp only [List.length_append]
        omega
  · rintro fr st2 ⟨ps, rest, e4, e5, e6, rfl, hds, hps, hgood, hlen, hf2, hb2, kp2⟩
    have : rest = [] := by cases rest with | nil => rfl | cons t r => cases hds
    subst this
    rw [List.append_nil] at hps
    simp only [List.map_nil, List.sum_nil] at hlen
    simp only [id]
    refine hK _ _ ?_
    refine ret_one ?_
    simp only [seval, MP.sv0, MP.sv1, MP.sv2, MP.sv3, MP.sv4, MP.sv5]
    have hbl := hb2.lt
    refine take_spec h16 (Grow.push.box hb2) (by decide) (by decide) fun m st3 hm0 hm1 hb3 kp3 hl3 => ?_
    have hr := kp3.at sto_top (by omega)
    have kp4 : Keep b st st3 := (kp2.trans Keep.push).trans kp3
    have fin : ∀ (tail : List Char), (∀ c ∈ tail, c ∈ blk) → tail.length ≤ 3 → Q (.str (txP ps ++ tail), st3) := by
      intro tail h1 h2
      have := (toks_ps ps false tail hgood h1).1
      rw [hps] at this
      exact q _ _ this (by rw [List.length_append]; omega) hb3 kp4
    have hmm : m = 0 ∨ m = 1 ∨ m = 2 ∨ m = 3 := by omega
    have go : ∀ (tail : List Char), (∀ c ∈ tail, c ∈ blk) → tail.length ≤ 3 → (opF .add (.str (txP ps)) (.str tail) st3).wp Q := by
      intro tail h1 h2
      rw [op_add_s]
      exact ⟨by omega, fin tail h1 h2⟩
    rcases hmm with rfl | rfl | rfl | rfl
    · exact ⟨_, by rw [ix_ref hr]; exact at_0, go [] (by simp) (by simp)⟩
    · exact ⟨_, by rw [ix_ref hr]; exact at_1, go [' '] (by simp) (by simp)⟩
    · exact ⟨_, by rw [ix_ref hr]; exact at_2, go ['\n'] (by simp) (by simp)⟩
    · exact ⟨_, by rw [ix_ref hr]; exact at_nat (by decide) rfl, go [' ', '\n', ' '] (by simp) (by simp)⟩
end
end K04

set_option Elab.async false
set_option linter.all false
set_option maxRecDepth 100000
set_option maxHeartbeats 4000000
namespace K04
open MP
theorem pure_law (ns : List Int) (hl : ns.length ≤ 63) : ∃ st', callF P (100 + 1) lawId [.kls (ns.map .int)] [] = .ok (.bl true, st') := by
  have key : (callF P (100 + 1) lawId [.kls (ns.map .int)] []).wp fun p => p.1 = .bl true := by
    have hsz : SZ = 1000000 := rfl
    refine call_wp (fd := fd24) rfl rfl ?_
    simp only [fd24, start_cons, start0, repS, rep0]
    refine stm_k fun K hK => ?_
    simp only [seval, MP.sv0, MP.sv1, MP.sv2, MP.sv3, MP.sv4, MP.sv5]
    refine box_spec h15 h14 (by decide) (by decide) fun st1 hb1 kp1 hl1 => ?_
    simp only [seval, MP.sv0, MP.sv1, MP.sv2, MP.sv3, MP.sv4, MP.sv5]
    refine hK _ _ ?_
    clear hK K
    replace hb1 : Box st1 0 := hb1
    replace kp1 : Keep 0 [] st1 := kp1
    refine stm_k fun K hK => ?_
    simp only [seval, MP.sv0, MP.sv1, MP.sv2, MP.sv3, MP.sv4, MP.sv5]
    refine take_spec h16 hb1 (by decide) (by decide) fun m st2 hm0 hm1 hb2 kp2 hl2 => ?_
    simp only [seval, MP.sv0, MP.sv1, MP.sv2, MP.sv3, MP.sv4, MP.sv5]
    refine worth_spec hw.h hw.ht hw.hn hw.hx 100 st2 _ 0 (1 + m) 12 hb2 (by omega) (by omega) (by decide) (by decide) fun w st3 hwd hb3 kp3 => ?_
    simp only [seval, MP.sv0, MP.sv1, MP.sv2, MP.sv3, MP.sv4, MP.sv5]
    refine hK _ _ ?_
    clear hK K
    have hW : isW w = true := hwd.w (by omega) (by decide)
    have hdp := isW_dep hW
    have hsl := isW_sh hW
    clear hwd hb3 kp3 hb2 kp2 hl2 hb1 kp1 hl1
    refine stm_k fun K hK => ?_
    simp only [seval, MP.sv0, MP.sv1, MP.sv2, MP.sv3, MP.sv4, MP.sv5]
    refine showWorth_spec hsh 100 st3 _ w hW (by omega) fun st4 g4 => ?_
    refine hK _ _ ?_
    clear hK K
    refine seq_wp (M := fun fr st' => fr = [some (.kls (ns.map .int)), some (.ref 0), some w, some (.str (shW w)), none, none]) ?_ ?_
    · refine s_ife_w.mpr ?_
      have hS : Saf st4 (.str (shW w)) := show (shW w).length ≤ 1000000 by omega
      simp only [seval, MP.sv0, MP.sv1, MP.sv2, MP.sv3, MP.sv4, MP.sv5, isi_str hS, isStr]
      refine shown_spec 100 st4 _ w hW (by omega) fun st5 g5 => ?_
      simp only [seval, MP.sv0, MP.sv1, MP.sv2, MP.sv3, MP.sv4, MP.sv5]
      refine readWorth_spec (n := 70) hrd hW (toks_show hW) (by omega) fun st6 g6 => ?_
      simp only [seval, MP.sv0, MP.sv1, MP.sv2, MP.sv3, MP.sv4, MP.sv5]
      refine alike_spec 100 st6 _ w hW (by omega) fun st7 g7 => ?_
      simp only [seval, MP.sv0, MP.sv1, MP.sv2, MP.sv3, MP.sv4, MP.sv5]
    rintro fr st5 rfl
    refine stm_k fun K hK => ?_
    simp only [seval, MP.sv0, MP.sv1, MP.sv2, MP.sv3, MP.sv4, MP.sv5, len_ref sto_top, List.length_map]
    have hcl := cut_len (xs := ns.map D.int) (lo := some 2) (hi := some 8)
    rw [List.length_map] at hcl
    refine ⟨by omega, by omega, ?_⟩
    refine for_range (I := fun j fr st' => ∃ e4 e5, fr = [some (.kls (ns.map .int)), some (.ref 0), some w, some (.str (shW w)), e4, e5]) ?_ ?_ ⟨none, none, rfl⟩
    · rintro j fr st6 hj ⟨e4, e5, rfl⟩
      have hj : j < 64 := by
        have : j < _ := hj
        omega
      simp only [tg_v, List.set_cons_succ, List.set_cons_zero]
      refine stm_k fun K' hK' => ?_
      simp only [seval, MP.sv0, MP.sv1, MP.sv2, MP.sv3, MP.sv4, MP.sv5]
      refine box_spec h15 h14 (by omega) (by omega) fun st7 hb7 kp7 hl7 => ?_
      simp only [seval, MP.sv0, MP.sv1, MP.sv2, MP.sv3, MP.sv4, MP.sv5]
      refine loose_spec (n := 80) hW hb7 fun s st8 hs hsl8 hb8 kp8 => ?_
      simp only [seval, MP.sv0, MP.sv1, MP.sv2, MP.sv3, MP.sv4, MP.sv5]
      refine readWorth_spec (n := 70) hrd hW hs hsl8 fun st9 g9 => ?_
      refine hK' _ _ ?_
      clear hK' K'
      refine seq_wp (M := fun fr st' => fr = [some (.kls (ns.map .int)), some (.ref 0), some w, some (.str (shW w)), some (.int (2 + (j : Int))), some w]) ?_ ?_
      · refine s_ife_w.mpr ?_
        simp only [seval, MP.sv0, MP.sv1, MP.sv2, MP.sv3, MP.sv4, MP.sv5]
        refine alike_spec 100 st9 _ w hW (by omega) fun st10 g10 => ?_
        simp only [seval, MP.sv0, MP.sv1, MP.sv2, MP.sv3, MP.sv4, MP.sv5]
        refine showWorth_spec hsh 100 st10 _ w hW (by omega) fun st11 g11 => ?_
        simp only [seval, MP.sv0, MP.sv1, MP.sv2, MP.sv3, MP.sv4, MP.sv5]
      rintro fr st10 rfl
      rw [s_nil_w]
      exact ⟨_, _, rfl⟩
    · rintro fr st6 ⟨e4, e5, rfl⟩
      simp only [id]
      refine hK _ _ ?_
      refine ret_one ?_
      simp only [seval, MP.sv0, MP.sv1, MP.sv2, MP.sv3, MP.sv4, MP.sv5]
  obtain ⟨⟨d, st'⟩, e, h⟩ := key
  exact ⟨st', by rw [e]; exact congrArg (fun d => R.ok (d, st')) h⟩
end K04

open PySem PySem.W PySem.Calls PyProof.Rows
theorem PySem.Challenge.cw_leastforge_k04_worths_written_and_read_holds : PySem.Challenge.rw_leastforge_k04_worths_written_and_read.Holds := by
  w_on; o_law
  refine HandSHeadRun.head_any (r := OpenLaw.row PySem.Challenge.rw_leastforge_k04_worths_written_and_read) (q := view (OpenLaw.row PySem.Challenge.rw_leastforge_k04_worths_written_and_read).prog [41]) (H := K04.hk) (ob := K04.ob) (M := 20000) (loose := K04.names) (d := HandSHeadRun.topDef (OpenLaw.row PySem.Challenge.rw_leastforge_k04_worths_written_and_read).prog 41) (kwd := []) K04.ob_eq
    (by kernel_rfl) (fun s => by kernel_rfl) K04.run (by kernel_rfl) (by kernel_rfl) (by kernel_rfl) (by rfl) (by first | assumption | decide +kernel) (by decide +kernel) ⟨rfl, rfl, rfl, rfl, rfl, by decide +kernel⟩ ?hw ?hc
  case hw => w_witness2
  case hc =>
    exact MP.law_end (l := PySem.Challenge.rw_leastforge_k04_worths_written_and_read) (n := 63) (lv := 100) (id := 24) (L := K04.L) (x := "_law_script") (dl := K04.dr24) rfl (by decide) (by kernel_rfl) ⟨rfl, by decide, by decide⟩ (by kernel_rfl) K04.stat (MP.AllB.at K04.bds) rfl rfl (List.mem_cons_self ..) rfl K04.pure_law
